import PyProof.Rows.All
import Wide.All
import OpenK.AllK
import Wide.FinOn
import HandS.ForMost
import HandS.Text
import PyProof.StrBlock2
import HandS.Flow
import HandS.Exc
import HandS.ExcOwn
import HandS.WordsExc
import HandS.CallSlots
import HandS.HeadEnd
import HandS.HeadHook2
import HandS.HeadHook3
import HandS.HeadHook4
import HandS.ExcInit
import HandS.ExcField
import HandS.IsInst
import HandS.HotCalls
import HandS.Defaults
import KE.KExcIs
import HandS.TryMany
import HandS.TupAny
import HandS.Wide
import HandS.Deep
import HandS.StrMore
import HandS.Dict
import HandS.Conv
import HandS.RaiseMore
import HandS.More
import KE.KExcInit
import HandS.Base
import HandS.Iter
import HandS.Walk
import HandS.Zip
import HandS.NoneIn
import KE.KUnpackStar
import HandS.Steps
import HandS.Head2
import PySem.Challenge.RW_wayneedle_k08_logs_nearly_right
set_option Elab.async false
set_option linter.all false
set_option maxRecDepth 100000
set_option maxHeartbeats 4000000
/-! BvCore: data by value, the small language, its evaluator. -/
namespace BV
open PySem L2

/-! ### data by value -/
inductive D where
  | non | bl (b : Bool) | int (i : Int) | str (s : List Nat)
  | tup (xs : List D) | lst (xs : List D) | dct (k : Nat) (ks vs : List D)
  /-- an instance of the class c (an exception too): its fields' names, values -/
  | ins (c : String) (fs : List String) (vs : List D)
  /-- the script: a list of ints that is only read -/
  | scr (ns : List Int)
deriving Inhabited

abbrev toS (s : List Nat) : Str := ⟨s.toArray⟩
def LIM : Nat := 1000000

mutual
/-- Python's == over data without dicts and instances -/
def eqd : D → D → Bool
  | .non, .non => true
  | .bl a, .bl b => a == b
  | .bl a, .int j => (if a then 1 else 0) == j
  | .int i, .bl b => i == (if b then 1 else 0)
  | .int i, .int j => i == j
  | .str x, .str y => x == y
  | .lst xs, .lst ys => eqds xs ys
  | .tup xs, .tup ys => eqds xs ys
  | _, _ => false
def eqds : List D → List D → Bool
  | [], [] => true
  | x :: xs, y :: ys => eqd x y && eqds xs ys
  | _, _ => false
end
mutual
/-- data that == takes: no dict, no instance, short texts, at most n deep -/
def okd : Nat → D → Bool
  | _, .non => true
  | _, .bl _ => true
  | _, .int _ => true
  | _, .str s => s.all fun c => decide (c < 1114112)
  | n + 1, .tup xs => okds n xs
  | n + 1, .lst xs => okds n xs
  | _, _ => false
def okds : Nat → List D → Bool
  | _, [] => true
  | n, x :: xs => okd n x && okds n xs
end
/-- things that are told apart by == at once: no tuples, lists -/
def flatd : D → Bool
  | .non => true
  | .bl _ => true
  | .int _ => true
  | .str _ => true
  | _ => false
def tru : D → Option Bool
  | .non => some false
  | .bl b => some b
  | .int i => some (i != 0)
  | .str s => if s.length ≤ LIM then some (!s.isEmpty) else none
  | .tup xs => some (!xs.isEmpty)
  | .lst xs => some (!xs.isEmpty)
  | _ => none

/-! ### cells -/
/-- un: no value; fz: a value that stays; ow: owned, may be changed; pr, pz: a parameter's object, owned or not (the name keeps it); lk: owned, walked over now (b: a parameter's) -/
inductive Cell where
  | un | fz (d : D) | ow (d : D) | pr (d : D) | pz (d : D) | lk (b : Bool) (d : D)
deriving Inhabited
abbrev Rho := List Cell
def Cell.fr : Cell → Option D
  | .fz d => some d
  | .pz d => some d
  | _ => none
def Cell.on : Cell → Option D
  | .ow d => some d
  | .pr d => some d
  | .lk _ d => some d
  | _ => none
/-- an owned thing that may be changed now -/
def Cell.mt : Cell → Option D
  | .ow d => some d
  | .pr d => some d
  | _ => none
def Cell.pin : Cell → Bool
  | .pr _ => true
  | .pz _ => true
  | .lk _ _ => true
  | _ => false
/-- the same cell with another content -/
def Cell.put : Cell → D → Cell
  | .ow _, d => .ow d
  | .pr _, d => .pr d
  | c, _ => c
/-- given out as a value: from here on it stays as it is -/
def Cell.frozen : Cell → Cell
  | .ow d => .fz d
  | .pr d => .pz d
  | c => c
def Cell.val : Cell → Option D
  | .fz d => some d
  | .pz d => some d
  | .ow d => some d
  | .pr d => some d
  | .lk _ d => some d
  | .un => none
def Cell.lock : Cell → Cell
  | .ow d => .lk false d
  | .pr d => .lk true d
  | c => c
def Cell.unlock : Cell → Cell
  | .lk false d => .ow d
  | .lk true d => .pr d
  | c => c

/-- an exception: its class, its fields -/
structure Exn where
  c : String
  fs : List String
  vs : List D
/-- a value, an exception, or no answer (not in the language) -/
inductive R (α : Type) where
  | ok (a : α) (ρ : Rho) | ex (x : Exn) (ρ : Rho) | no
def R.bind {α β : Type} (r : R α) (f : α → Rho → R β) : R β := match r with
  | .ok a ρ => f a ρ
  | .ex x ρ => .ex x ρ
  | .no => .no
/-- .. no exception is let by -/
def R.only {α β : Type} (r : R α) (f : α → Rho → R β) : R β := match r with
  | .ok a ρ => f a ρ
  | _ => .no
def ofO {α : Type} (o : Option α) (ρ : Rho) : R α := match o with
  | some a => .ok a ρ
  | none => .no

/-! ### the language -/
inductive P where
  | add | sub | mul | mod | fdiv | pow | neg
  | eq | ne | lt | le | gt | ge | isin | notin | isN | notN
  | ix | sl (lo hi : Bool) | tup | lst | len | abs | isi (t : List String)
  | tuple | list | all | any | index
  | join | split | part | upper | strP | intP | lrange | max2 | min2 | rep | count
  /-- isinstance of own classes: the classes of the text, those that count, the written ones -/
  | isx (known acc cs : List String)
  /-- a field of an instance of one of the classes -/
  | fld (cs : List String) (f : String)
deriving Inhabited
inductive M where
  | append | insert | extend | pop0 | pop1
deriving Inhabited
inductive IK where
  | seq | range | enum | zip
deriving Inhabited
/-- a target: a name's slot, or a tuple of targets -/
inductive T where
  | nm (i : Nat) | tp (ts : List T)
  /-- .. the last one a starred name -/
  | sp (ts : List T) (i : Nat)
deriving Inhabited
inductive E where
  | var (i : Nat) | mv (i : Nat) | non | bl (b : Bool) | int (i : Int) | str (s : List Nat) | glob (g : Nat)
  | prim (p : P) (es : List E)
  | meth (p : P) (a : E) (es : List E)
  | call (f : Nat) (es : List E)
  | mut (m : M) (i : Nat) (es : List E)
  | nt (a : E) | and (a b : E) | or (a b : E) | ite (c a b : E)
  | ch (p q : P) (a b c : E)
  | lc (own : List Nat) (t : T) (k : IK) (es : List E) (cs : List E) (elt : E)
  /-- a dict of the text's top at a key; a key in it -/
  | gdix (g : Nat) (a : E) | gdin (n : Bool) (g : Nat) (a : E)
  /-- a written dict: keys and values by turns -/
  | dsp (k : Nat) (es : List E)
  /-- c(..), its __init__ the def g -/
  | new (c : String) (g : Nat) (es : List E)
  /-- a.m(..), by a's class -/
  | mcl (m : String) (tbl : List (String × Nat)) (a : E) (es : List E)
deriving Inhabited
inductive S where
  | asg (t : T) (e : E) | par (i j : Nat) (a b : E) | setix (i : Nat) (k v : E) | aug (i : Nat) (p : P) (e : E) | augix (i : Nat) (k : E) (p : P) (e : E)
  | ex (e : E) | iff (c : E) (a b : List S) | for (t : T) (k : IK) (es : List E) (b : List S) | while (c : E) (b : List S)
  | ret (e : E) | retN | brk | cont | pass | never | tr (b : List S)
  /-- raise c(..): its fields' names -/
  | raise (c : String) (fs : List String) (es : List E)
  /-- a try whose clauses let nothing out; a clause: the classes that it takes, the class written, the name -/
  | tryH (b hs : List S) | hdl (acc : List String) (c : String) (o : Option Nat) (b : List S)
  /-- try: b except c as i: raise c2(i.f), its field f2 -/
  | tryR (b : List S) (acc : List String) (c : String) (i : Nat) (cs : List String) (f : String) (c2 f2 : String)
  | setf (i : Nat) (f : String) (e : E)
deriving Inhabited

/-! ### what the primitives tell -/
def ixd (n : Nat) (i : Int) : Option Nat := if 0 ≤ i then (if i < n then some i.toNat else none) else if -(n : Int) ≤ i then some (i + n).toNat else none
def atd {α : Type} (xs : List α) (i : Int) : Option α := (ixd xs.length i).bind fun j => xs[j]?
/-- the place of a slice's end -/
def slp (n d : Nat) : Option Int → Nat
  | none => d
  | some v => if v < 0 then (v + (n : Int)).toNat else min v.toNat n
def cut {α : Type} (xs : List α) (lo hi : Option Int) : List α := (xs.drop (slp xs.length 0 lo)).take (slp xs.length xs.length hi - slp xs.length 0 lo)
def bits64 (i : Int) : Bool := decide (-(2 ^ 64) < i) && decide (i < 2 ^ 64)
/-- s within t -/
def subs (s t : List Nat) : Bool := !(Builtin.Str.occurrences (toS t) (toS s) 0 (toS t).length 1).isEmpty
def inD (x : D) (xs : List D) : Bool := xs.any fun y => eqd y x
def tyn : D → String
  | .non => "NoneType"
  | .bl _ => "bool"
  | .int _ => "int"
  | .str _ => "str"
  | .tup _ => "tuple"
  | .lst _ => "list"
  | .dct _ _ _ => "dict"
  | .scr _ => "script"
  | .ins _ _ _ => ""
def tyNames : List String := ["int", "bool", "str", "tuple", "list", "dict"]
def isiOne (d : D) (t : String) : Bool := tyn d == t || (tyn d == "bool" && t == "int")
def allBl : List D → Option (List Bool)
  | [] => some []
  | .bl b :: r => (allBl r).map fun s => b :: s
  | _ => none
def findD (x : D) : List D → Option Nat
  | [] => none
  | y :: r => if eqd y x then some 0 else (findD x r).map (· + 1)
/-- a dict's key: an int or a text -/
def keyD : D → Option Key
  | .int i => some (.inl i)
  | .str s => some (.inr (toS s))
  | _ => none
def keysD : List D → Option (List Key)
  | [] => some []
  | d :: r => (keyD d).bind fun k => (keysD r).map fun s => k :: s
/-- .. a tuple of these -/
def keyT : D → Option (List Key)
  | .tup ds => keysD ds
  | _ => none
def putD (ks vs : List D) (k v : D) : List D × List D := match findD k ks with
  | some _ => (ks, List.zipWith (fun e w => if eqd e k = true then v else w) ks vs)
  | none => (ks ++ [k], vs ++ [v])
def dspG : List D → List D → List D → Option (List D × List D)
  | [], ks, vs => some (ks, vs)
  | k :: v :: r, ks, vs => if (keyD k).isSome = true then dspG r (putD ks vs k v).1 (putD ks vs k v).2 else none
  | _, _, _ => none
def addS : D → D → Option (D × Bool)
  | .int i, .int j => some (.int (i + j), false)
  | .str a, .str b => if a.length + b.length ≤ LIM then some (.str (a ++ b), false) else none
  | .tup a, .tup b => if a.length + b.length ≤ LIM then some (.tup (a ++ b), false) else none
  | .lst a, .lst b => if a.length + b.length ≤ LIM then some (.lst (a ++ b), true) else none
  | _, _ => none
def intS (f : Int → Int → Option Int) : D → D → Option (D × Bool)
  | .int i, .int j => (f i j).map fun k => (.int k, false)
  | _, _ => none
def mulI (i j : Int) : Option Int := if bits64 i = true ∨ bits64 j = true then some (i * j) else none
def modI (i j : Int) : Option Int := if 0 < j then some (i % j) else none
def fdivI (i j : Int) : Option Int := if 0 < j ∧ j.natAbs < 2 ^ 9000 then some (i / j) else none
def powI (i j : Int) : Option Int := if 0 ≤ j ∧ j ≤ 1000 ∧ i.natAbs < 2 ^ 64 then some (i ^ j.toNat) else none
def cmpS (p : Int → Int → Bool) : D → D → Option (D × Bool)
  | .int i, .int j => some (.bl (p i j), false)
  | _, _ => none
def cmpI : P → D → D → Option Bool
  | .lt, .int i, .int j => some (decide (i < j))
  | .le, .int i, .int j => some (decide (i ≤ j))
  | .gt, .int i, .int j => some (decide (j < i))
  | .ge, .int i, .int j => some (decide (j ≤ i))
  | _, _, _ => none
def eqS (n : Bool) (a b : D) : Option (D × Bool) := if okd 64 a = true ∧ okd 64 b = true then some (.bl (if n then !eqd a b else eqd a b), false) else none
def inS (n : Bool) : D → D → Option (D × Bool)
  | .str a, .str b => if a.length ≤ LIM ∧ b.length ≤ LIM then some (.bl (if n then !subs a b else subs a b), false) else none
  | x, .tup xs => if flatd x = true ∧ xs.all flatd = true then some (.bl (if n then !inD x xs else inD x xs), false) else none
  | x, .lst xs => if flatd x = true ∧ xs.all flatd = true then some (.bl (if n then !inD x xs else inD x xs), false) else none
  | x, .dct 0 ks vs => if (keyD x).isSome = true then some (.bl (if n then !(findD x ks).isSome else (findD x ks).isSome), false) else none
  | _, _ => none
def isN : D → Bool
  | .non => true
  | _ => false
def ixS : D → D → Option (D × Bool)
  | .lst xs, .int i => (atd xs i).map fun d => (d, false)
  | .scr ns, .int i => (atd ns i).map fun n => (.int n, false)
  | .tup xs, .int i => (atd xs i).map fun d => (d, false)
  | .str s, .int i => if s.length ≤ LIM then (atd s i).map fun c => (.str [c], false) else none
  | .dct 0 ks vs, x => if (keyD x).isSome = true then (findD x ks).bind fun j => vs[j]?.map fun d => (d, false) else none
  | _, _ => none
def slS (a b : Option Int) : D → Option (D × Bool)
  | .lst xs => some (.lst (cut xs a b), true)
  | .tup xs => some (.tup (cut xs a b), false)
  | .str s => if s.length ≤ LIM then some (.str (cut s a b), false) else none
  | _ => none
def lenS : D → Option (D × Bool)
  | .lst xs => some (.int xs.length, false)
  | .scr xs => some (.int xs.length, false)
  | .tup xs => some (.int xs.length, false)
  | .str s => if s.length ≤ LIM then some (.int s.length, false) else none
  | .dct 0 ks _ => some (.int ks.length, false)
  | _ => none
def isiS (ts : List String) : D → Option (D × Bool)
  | .ins _ _ _ => none
  | .dct _ _ _ => none
  | .scr _ => none
  | d => if ts.all (fun t => tyNames.contains t) = true then some (.bl (ts.any fun t => isiOne d t), false) else none
def tupleS : D → Option (D × Bool)
  | .lst xs => some (.tup xs, false)
  | .tup xs => some (.tup xs, false)
  | _ => none
def listS : D → Option (D × Bool)
  | .lst xs => some (.lst xs, true)
  | .tup xs => some (.lst xs, true)
  | _ => none
def allS (f : List Bool → Bool) : D → Option (D × Bool)
  | .lst xs => (allBl xs).map fun bs => (.bl (f bs), false)
  | _ => none
def indexS : D → D → Option (D × Bool)
  | .str s, .str t => ((Builtin.Str.occurrences (toS s) (toS t) 0 (toS s).length 1).head?).map fun j => (.int (Int.ofNat j), false)
  | .lst xs, x => if okd 60 x = true ∧ okds 60 xs = true then (findD x xs).map fun j => (.int (Int.ofNat j), false) else none
  | .tup xs, x => if okd 60 x = true ∧ okds 60 xs = true then (findD x xs).map fun j => (.int (Int.ofNat j), false) else none
  | _, _ => none
/-- how many items are == x -/
def cntD (x : D) (xs : List D) : Nat := (xs.filter fun y => eqd y x).length
def countS : D → D → Option (D × Bool)
  | .lst xs, x => if okd 60 x = true ∧ okds 60 xs = true then some (.int (Int.ofNat (cntD x xs)), false) else none
  | _, _ => none
/-- a field's value -/
def lookF (f : String) : List String → List D → Option D
  | g :: fs, v :: vs => if g = f then some v else lookF f fs vs
  | _, _ => none
def putFs (f : String) (x : D) : List String → List D → List String × List D
  | g :: fs, v :: vs => if g = f then (g :: fs, x :: vs) else (g :: (putFs f x fs vs).1, v :: (putFs f x fs vs).2)
  | _, _ => ([f], [x])
def setF (d : D) (f : String) (x : D) : Option D := match d with
  | .ins c fs vs => if fs.length < 100 ∧ fs.length = vs.length then some (.ins c (putFs f x fs vs).1 (putFs f x fs vs).2) else none
  | _ => none
def isxS (known acc : List String) : D → Option (D × Bool)
  | .ins c _ _ => if known.contains c = true then some (.bl (acc.contains c), false) else none
  | .dct _ _ _ => none
  | .scr _ => none
  | _ => some (.bl false, false)
def fldS (cs : List String) (f : String) : D → Option (D × Bool)
  | .ins c fs vs => if cs.contains c = true then (lookF f fs vs).map fun d => (d, false) else none
  | _ => none
def clsD : D → Option String
  | .ins c _ _ => some c
  | _ => none
def dgetS (ks vs : List D) (x : D) : Option (D × Bool) := match x with
  | .str _ => (findD x ks).bind fun j => vs[j]?.map fun d => (d, false)
  | _ => none
def dinS (n : Bool) (ks : List D) (x : D) : Option (D × Bool) := match x with
  | .str _ => some (.bl (if n then !(findD x ks).isSome else (findD x ks).isSome), false)
  | _ => none
def strsD : List D → Option (List (List Nat))
  | [] => some []
  | .str s :: r => (strsD r).map fun t => s :: t
  | _ => none
def joinG (a : List Nat) (xs : List D) : Option (D × Bool) := (strsD xs).bind fun ys => if (ys.map List.length).sum + ys.length * a.length ≤ LIM then some (.str (TL.joinL a ys), false) else none
def joinS : D → D → Option (D × Bool)
  | .str a, .lst xs => joinG a xs
  | .str a, .tup xs => joinG a xs
  | _, _ => none
def splitS : D → D → Option (D × Bool)
  | .str a, .str b => if b ≠ [] ∧ b.all (fun c => decide (c < 256)) = true ∧ a.length < LIM then some (.lst ((TL.spl b 0 [] a).map .str), true) else none
  | _, _ => none
def partS : D → D → Option (D × Bool)
  | .str a, .str b => if b ≠ [] ∧ a.length < LIM then some ((match TL.par b [] a with
    | some q => .tup [.str q.1, .str b, .str q.2]
    | none => .tup [.str a, .str [], .str []]), false) else none
  | _, _ => none
def upperS : D → Option (D × Bool)
  | .str a => if a.length ≤ LIM then some (.str (TL.tl (Txt.upper (toS a))), false) else none
  | _ => none
def strS : D → Option (D × Bool)
  | .int i => if i.natAbs.log2 < 1920 then some (.str (TL.tl (Str.ofString (toString i))), false) else none
  | .str s => some (.str s, false)
  | _ => none
def intO : D → Option (D × Bool)
  | .int i => some (.int i, false)
  | .bl b => some (.int (if b then 1 else 0), false)
  | .str s => if s.length ≤ 640 then (PySem.intText? (toS s)).map fun i => (.int i, false) else none
  | _ => none
def lrangeS : D → Option (D × Bool)
  | .int i => if i ≤ LIM ∧ -(LIM : Int) ≤ i then some (.lst ((List.range i.toNat).map fun k => .int (Int.ofNat k)), true) else none
  | _ => none
def dspS (k : Nat) (ds : List D) : Option (D × Bool) := match ds with
  | [] => if k = 0 then some (.dct 0 [] [], true) else if k = 1 then some (.dct 1 [] [], true) else none
  | ds => if k = 0 ∧ ds.length ≤ 30 then (dspG ds [] []).map fun q => (.dct 0 q.1 q.2, true) else none
def repS : D → D → Option (D × Bool)
  | .str a, .int i => if i ≤ LIM ∧ -(LIM : Int) ≤ i ∧ a.length * i.toNat ≤ LIM then some (.str (List.replicate i.toNat a).flatten, false) else none
  | .lst a, .int i => if i ≤ LIM ∧ -(LIM : Int) ≤ i ∧ a.length * i.toNat ≤ LIM then some (.lst (List.replicate i.toNat a).flatten, true) else none
  | _, _ => none
def negS : D → Option (D × Bool)
  | .int i => some (.int (-i), false)
  | _ => none
def absS : D → Option (D × Bool)
  | .int i => some (.int (if i < 0 then -i else i), false)
  | _ => none
def P.sem : P → List D → Option (D × Bool)
  | .add, [a, b] => addS a b
  | .sub, [a, b] => intS (fun i j => some (i - j)) a b
  | .mul, [a, b] => intS mulI a b
  | .mod, [a, b] => intS modI a b
  | .fdiv, [a, b] => intS fdivI a b
  | .pow, [a, b] => intS powI a b
  | .neg, [a] => negS a
  | .eq, [a, b] => eqS false a b
  | .ne, [a, b] => eqS true a b
  | .lt, [a, b] => cmpS (fun i j => decide (i < j)) a b
  | .le, [a, b] => cmpS (fun i j => decide (i ≤ j)) a b
  | .gt, [a, b] => cmpS (fun i j => decide (j < i)) a b
  | .ge, [a, b] => cmpS (fun i j => decide (j ≤ i)) a b
  | .isin, [a, b] => inS false a b
  | .notin, [a, b] => inS true a b
  | .isN, [x] => some (.bl (BV.isN x), false)
  | .notN, [x] => some (.bl (!BV.isN x), false)
  | .ix, [a, b] => ixS a b
  | .sl false false, [x] => slS none none x
  | .sl true false, [x, .int i] => slS (some i) none x
  | .sl false true, [x, .int j] => slS none (some j) x
  | .tup, ds => if ds.length ≤ LIM then some (.tup ds, false) else none
  | .lst, ds => if ds.length ≤ LIM then some (.lst ds, true) else none
  | .len, [x] => lenS x
  | .abs, [x] => absS x
  | .isi ts, [x] => isiS ts x
  | .tuple, [x] => tupleS x
  | .list, [x] => listS x
  | .all, [x] => allS (fun bs => bs.all id) x
  | .any, [x] => allS (fun bs => bs.any id) x
  | .index, [a, b] => indexS a b
  | .join, [a, b] => joinS a b
  | .split, [a, b] => splitS a b
  | .part, [a, b] => partS a b
  | .upper, [a] => upperS a
  | .strP, [a] => strS a
  | .intP, [a] => intO a
  | .lrange, [a] => lrangeS a
  | .max2, [a, b] => intS (fun i j => some (if j > i then j else i)) a b
  | .min2, [a, b] => intS (fun i j => some (if j < i then j else i)) a b
  | .rep, [a, b] => repS a b
  | .count, [a, b] => countS a b
  | .isx kn acc _, [a] => isxS kn acc a
  | .fld cs f, [a] => fldS cs f a
  | _, _ => none
/-- a primitive's arguments may be owned things that are only looked at -/
def P.pk : P → Bool
  | .tup => false
  | .lst => false
  | _ => true

/-- .. of a thing of that type -/
def semAt (t : String) (p : P) : List D → Option (D × Bool)
  | d :: ds => if tyn d = t then p.sem (d :: ds) else none
  | [] => none
/-- what a method may be called of -/
def P.rcv : P → D → Bool
  | .index, .str _ => true
  | .index, .lst _ => true
  | .join, .str _ => true
  | .split, .str _ => true
  | .part, .str _ => true
  | .upper, .str _ => true
  | .count, .lst _ => true
  | _, _ => false
def insAt {α : Type} (xs : List α) (i : Nat) (x : α) : List α := xs.take i ++ x :: xs.drop i
/-- a method that changes its object: what it holds behind it, the answer -/
def M.sem : M → D → List D → Option (D × D)
  | .append, .lst xs, [d] => if xs.length < LIM then some (.lst (xs ++ [d]), .non) else none
  | .insert, .lst xs, [.int i, d] => if xs.length < LIM ∧ 0 ≤ i ∧ i < 2 ^ 62 then some (.lst (insAt xs (min i.toNat xs.length) d), .non) else none
  | .extend, .lst xs, [.lst ys] => if xs.length + ys.length ≤ LIM then some (.lst (xs ++ ys), .non) else none
  | .pop0, .lst xs, [] => xs[xs.length - 1]?.map fun d => (.lst xs.dropLast, d)
  | .pop1, .lst xs, [.int i] => (ixd xs.length i).bind fun j => if xs.length ≤ LIM then xs[j]?.map fun d => (.lst (xs.eraseIdx j), d) else none
  | _, _, _ => none
def M.rcv : M → D → Bool
  | _, .lst _ => true
  | _, _ => false
def M.pk : M → Bool
  | .extend => true
  | _ => false

def IK.sem : IK → List D → Option (List D)
  | .seq, [.lst xs] => some xs
  | .seq, [.tup xs] => some xs
  | .seq, [.str s] => some (s.map fun c => .str [c])
  | .seq, [.scr ns] => some (ns.map .int)
  | .range, [.int j] => if j < 2 ^ 62 ∧ -(2 ^ 62) ≤ j then some ((List.range j.toNat).map fun i => .int (Int.ofNat i)) else none
  | .range, [.int i, .int j] => if -(2 ^ 62) ≤ i ∧ i < 2 ^ 62 ∧ j < 2 ^ 62 ∧ -(2 ^ 62) ≤ j then some ((List.range (j - i).toNat).map fun k => .int (i + Int.ofNat k)) else none
  | .enum, [.lst xs] => some (xs.mapIdx fun i d => .tup [.int (Int.ofNat i), d])
  | .enum, [.tup xs] => some (xs.mapIdx fun i d => .tup [.int (Int.ofNat i), d])
  | .zip, [.lst xs, .lst ys] => some (List.zipWith (fun a b => .tup [a, b]) xs ys)
  | .zip, [.tup xs, .tup ys] => some (List.zipWith (fun a b => .tup [a, b]) xs ys)
  | _, _ => none

/-! ### the evaluator -/
inductive Ag where
  | vl (d : D) | pk (i : Nat)
def isVar : E → Option Nat
  | .var i => some i
  | _ => none
def Ag.get (ρ : Rho) : Ag → Option D
  | .vl d => some d
  | .pk i => (ρ[i]?.getD .un).val
def gets (ρ : Rho) : List Ag → Option (List D)
  | [] => some []
  | a :: r => (a.get ρ).bind fun d => (gets ρ r).map fun ds => d :: ds
/-- what is left to a name whose value is given out -/
def giv (ρ : Rho) (i : Nat) : R (D × Bool) := match ρ[i]?.getD .un with
  | .fz d => .ok (d, false) ρ
  | .pz d => .ok (d, false) ρ
  | .ow d => .ok (d, false) (ρ.set i (.fz d))
  | .pr d => .ok (d, false) (ρ.set i (.pz d))
  | _ => .no
/-- a store to a name -/
def stv (ρ : Rho) (i : Nat) (d : D) (b : Bool) : Option Rho := if (ρ[i]?.getD .un).pin || !decide (i < ρ.length) then none else some (ρ.set i (if b then .ow d else .fz d))
mutual
def stt : T → D → Bool → Rho → Option Rho
  | .nm i, d, b, ρ => stv ρ i d b
  | .tp ts, .tup ds, _, ρ => stts ts ds ρ
  | .tp ts, .lst ds, _, ρ => stts ts ds ρ
  | .sp ts i, .tup ds, _, ρ => if ts.length ≤ ds.length ∧ ds.length ≤ 16384 then (stts ts (ds.take ts.length) ρ).bind fun ρ' => stv ρ' i (.lst (ds.drop ts.length)) true else none
  | .sp ts i, .lst ds, _, ρ => if ts.length ≤ ds.length ∧ ds.length ≤ 16384 then (stts ts (ds.take ts.length) ρ).bind fun ρ' => stv ρ' i (.lst (ds.drop ts.length)) true else none
  | _, _, _, _ => none
def stts : List T → List D → Rho → Option Rho
  | [], [], ρ => some ρ
  | t :: ts, d :: ds, ρ => (stt t d false ρ).bind fun ρ' => stts ts ds ρ'
  | _, _, _ => none
end
/-- the cells that a call hands in -/
def agCell (ρ : Rho) : Ag → Option Cell
  | .vl d => some (.fz d)
  | .pk i => (ρ[i]?.getD .un).mt.map .pr
def agCells (ρ : Rho) : List Ag → Option (List Cell)
  | [] => some []
  | a :: r => (agCell ρ a).bind fun c => (agCells ρ r).map fun cs => c :: cs
def pks : List Ag → List Nat
  | [] => []
  | .vl _ :: r => pks r
  | .pk i :: r => i :: pks r
def nodupB : List Nat → Bool
  | [] => true
  | i :: r => !r.contains i && nodupB r
/-- what a parameter's object is behind the call -/
def back (c f : Cell) : Cell := match c, f with
  | .ow _, .pr d => .ow d
  | .ow _, .pz d => .fz d
  | .pr _, .pr d => .pr d
  | .pr _, .pz d => .pz d
  | _, _ => .un
def backs (ρ : Rho) : List Ag → List Cell → Rho
  | .pk i :: r, f :: fs => backs (ρ.set i (back (ρ[i]?.getD .un) f)) r fs
  | .vl _ :: r, _ :: fs => backs ρ r fs
  | _, _ => ρ
inductive Rs where
  | ok (d : D) (b : Bool) | ex (x : Exn)
/-- what the defs do: their number, the cells handed in; the answer, the cells behind -/
abbrev CS := Nat → List Cell → Option (Rs × List Cell)
def locks (ρ : Rho) : List Ag → Rho
  | [] => ρ
  | .vl _ :: r => locks ρ r
  | .pk i :: r => locks (ρ.set i (ρ[i]?.getD .un).lock) r
/-- the cells at some places as they were -/
def putsAt (ρ ρ0 : Rho) : List Nat → Rho
  | [] => ρ
  | i :: r => putsAt (ρ.set i (ρ0[i]?.getD .un)) ρ0 r
def unl (c0 c : Cell) : Cell := match c0 with
  | .lk _ _ => c
  | _ => c.unlock
def unlocks (ρ ρ0 : Rho) : List Ag → Rho
  | [] => ρ
  | .vl _ :: r => unlocks ρ ρ0 r
  | .pk i :: r => unlocks (ρ.set i (unl (ρ0[i]?.getD .un) (ρ[i]?.getD .un))) ρ0 r
def wiped (ρ : Rho) : List Nat → Rho
  | [] => ρ
  | i :: r => wiped (ρ.set i .un) r
def noOwn (ρ : Rho) : List Nat → Bool
  | [] => true
  | i :: r => (match ρ[i]?.getD .un with | .un => true | .fz _ => true | _ => false) && noOwn ρ r
/-- a comprehension's turns -/
def lcGo (step : D → Rho → R (Option D)) : List D → List D → Rho → R (List D)
  | [], acc, ρ => .ok acc ρ
  | x :: xs, acc, ρ => (step x ρ).bind fun o ρ1 => match o with
    | some d => if acc.length < LIM then lcGo step xs (acc ++ [d]) ρ1 else .no
    | none => lcGo step xs acc ρ1

/-- an argument: a name of an owned thing that is only looked at, or a value -/
def onVar (e : E) (ρ : Rho) : Bool := match isVar e with
  | some i => (ρ[i]?.getD .un).on.isSome
  | none => false
def argOf (pk : Bool) (e : E) (ρ : Rho) (r : R (D × Bool)) : R Ag :=
  if (pk && onVar e ρ) = true then .ok (.pk ((isVar e).getD 0)) ρ else r.bind fun v ρ1 => .ok (.vl v.1) ρ1
def callK (cs : CS) (f : Nat) (as : List Ag) (ρ1 : Rho) : R (D × Bool) := match nodupB (pks as), agCells ρ1 as with
  | true, some cells => (match cs f cells with
    | some (.ok d b, fin) => .ok (d, b) (backs ρ1 as fin)
    | some (.ex x, fin) => .ex x (backs ρ1 as fin)
    | none => .no)
  | _, _ => .no
/-- what a new instance's __init__ leaves -/
def newK (cs : CS) (c : String) (g : Nat) (as : List Ag) (ρ1 : Rho) : R (D × Bool) := match nodupB (pks as), agCells ρ1 as with
  | true, some cells => (match cs g (.pr (.ins c [] []) :: cells) with
    | some (.ok .non false, .pr d :: fin) => .ok (d, true) (backs ρ1 as fin)
    | some (.ex x, _ :: fin) => .ex x (backs ρ1 as fin)
    | _ => .no)
  | _, _ => .no
mutual
def ev (cs : CS) : E → Rho → R (D × Bool)
  | .var i, ρ => giv ρ i
  | .mv i, ρ => match ρ[i]?.getD .un with
    | .ow d => .ok (d, true) (ρ.set i .un)
    | _ => giv ρ i
  | .non, ρ => .ok (.non, false) ρ
  | .bl b, ρ => .ok (.bl b, false) ρ
  | .int i, ρ => .ok (.int i, false) ρ
  | .str s, ρ => .ok (.str s, false) ρ
  | .glob g, ρ => match cs g [] with
    | some (.ok d _, _) => .ok (d, false) ρ
    | _ => .no
  | .prim p es, ρ => (evs cs p.pk es ρ).bind fun as ρ1 => ofO ((gets ρ1 as).bind p.sem) ρ1
  | .meth p a es, ρ => (argOf true a ρ (ev cs a ρ)).bind fun a0 ρ1 => match a0.get ρ1 with
    | some d0 => if p.rcv d0 then (evs cs p.pk es ρ1).bind fun as ρ2 => ofO ((gets ρ2 (a0 :: as)).bind (semAt (tyn d0) p)) ρ2 else .no
    | none => .no
  | .call f es, ρ => (evs cs true es ρ).bind (callK cs f)
  | .mut m i es, ρ => match (ρ[i]?.getD .un).mt with
    | some d0 => if m.rcv d0 then (evs cs m.pk es ρ).bind fun as ρ1 => (match (ρ1[i]?.getD .un).mt, gets ρ1 as with
      | some d, some ds => (match m.sem d ds with
        | some (d', r) => .ok (r, false) (ρ1.set i ((ρ1[i]?.getD .un).put d'))
        | none => .no)
      | _, _ => .no) else .no
    | none => .no
  | .nt a, ρ => (ev cs a ρ).bind fun v ρ1 => match tru v.1 with
    | some t => .ok (.bl (!t), false) ρ1
    | none => .no
  | .and a b, ρ => (ev cs a ρ).bind fun v ρ1 => match tru v.1 with
    | some t => if t then ev cs b ρ1 else .ok (v.1, false) ρ1
    | none => .no
  | .or a b, ρ => (ev cs a ρ).bind fun v ρ1 => match tru v.1 with
    | some t => if t then .ok (v.1, false) ρ1 else ev cs b ρ1
    | none => .no
  | .ite c a b, ρ => (evt cs c ρ).bind fun t ρ1 => if t then ev cs a ρ1 else ev cs b ρ1
  | .ch p q a b c, ρ => (ev cs a ρ).bind fun x ρ1 => (ev cs b ρ1).bind fun y ρ2 => match cmpI p x.1 y.1 with
    | some true => (ev cs c ρ2).bind fun z ρ3 => (match cmpI q y.1 z.1 with | some t => .ok (.bl t, false) ρ3 | none => .no)
    | some false => .ok (.bl false, false) ρ2
    | none => .no
  | .lc own t k es cns elt, ρ => (evs cs true es ρ).bind fun as ρ1 => match (gets ρ1 as).bind k.sem, noOwn (locks ρ1 as) own with
    | some xs, true => (lcGo (fun x ρ2 => match stt t x false (wiped ρ2 own) with
        | some ρ3 => (evc cs cns ρ3).bind fun b ρ4 => if b then (ev cs elt ρ4).bind fun v ρ5 => .ok (some v.1) ρ5 else .ok none ρ4
        | none => .no) xs [] (locks ρ1 as)).only fun acc ρ6 => .ok (.lst acc, true) (unlocks (putsAt ρ6 (locks ρ1 as) own) ρ1 as)
    | _, _ => .no
  | .dsp k es, ρ => (evs cs false es ρ).bind fun as ρ1 => ofO ((gets ρ1 as).bind (dspS k)) ρ1
  | .gdix g a, ρ => (ev cs a ρ).bind fun v ρ1 => match cs g [] with
    | some (.ok (.dct _ ks vs) _, _) => ofO (dgetS ks vs v.1) ρ1
    | _ => .no
  | .gdin n g a, ρ => (ev cs a ρ).bind fun v ρ1 => match cs g [] with
    | some (.ok (.dct _ ks _) _, _) => ofO (dinS n ks v.1) ρ1
    | _ => .no
  | .new c g es, ρ => (evs cs true es ρ).bind (newK cs c g)
  | .mcl _ tbl a es, ρ => (argOf true a ρ (ev cs a ρ)).bind fun a0 ρ1 => match ((a0.get ρ1).bind clsD).bind fun c => tbl.lookup c with
    | some g => (evs cs true es ρ1).bind fun as ρ2 => callK cs g (a0 :: as) ρ2
    | none => .no
/-- a test -/
def evt (cs : CS) : E → Rho → R Bool
  | .nt a, ρ => (evt cs a ρ).bind fun b ρ1 => .ok (!b) ρ1
  | .and a b, ρ => (evt cs a ρ).bind fun t ρ1 => if t then evt cs b ρ1 else .ok false ρ1
  | .or a b, ρ => (evt cs a ρ).bind fun t ρ1 => if t then .ok true ρ1 else evt cs b ρ1
  | .var i, ρ => ofO ((ρ[i]?.getD .un).val.bind tru) ρ
  | .prim p es, ρ => (evs cs p.pk es ρ).bind fun as ρ1 => match (gets ρ1 as).bind p.sem with
    | some (d, _) => ofO (tru d) ρ1
    | none => .no
  | .ch p q a b c, ρ => (ev cs a ρ).bind fun x ρ1 => (ev cs b ρ1).bind fun y ρ2 => match cmpI p x.1 y.1 with
    | some true => (ev cs c ρ2).bind fun z ρ3 => (match cmpI q y.1 z.1 with | some t => .ok t ρ3 | none => .no)
    | some false => .ok false ρ2
    | none => .no
  | .call f es, ρ => ((evs cs true es ρ).bind (callK cs f)).bind fun v ρ1 => ofO (tru v.1) ρ1
  | .gdin n g a, ρ => (ev cs a ρ).bind fun v ρ1 => match cs g [] with
    | some (.ok (.dct _ ks _) _, _) => (match dinS n ks v.1 with
      | some (d, _) => ofO (tru d) ρ1
      | none => .no)
    | _ => .no
  | .mcl _ tbl a es, ρ => ((argOf true a ρ (ev cs a ρ)).bind fun a0 ρ1 => match ((a0.get ρ1).bind clsD).bind fun c => tbl.lookup c with
    | some g => (evs cs true es ρ1).bind fun as ρ2 => callK cs g (a0 :: as) ρ2
    | none => .no).bind fun v ρ1 => ofO (tru v.1) ρ1
  | _, _ => .no
/-- a clause's tests: none or one -/
def evc (cs : CS) : List E → Rho → R Bool
  | [], ρ => .ok true ρ
  | [c], ρ => evt cs c ρ
  | _, _ => .no
def evs (cs : CS) (pk : Bool) : List E → Rho → R (List Ag)
  | [], ρ => .ok [] ρ
  | e :: es, ρ => (argOf pk e ρ (ev cs e ρ)).bind fun a ρ1 => (evs cs pk es ρ1).bind fun as ρ2 => .ok (a :: as) ρ2
end

/-! ### statements -/
inductive Fl where
  | nx (ρ : Rho) | rt (d : D) (b : Bool) (ρ : Rho) | bk (ρ : Rho) | ct (ρ : Rho) | ex (x : Exn) (ρ : Rho) | no
def Fl.then (f : Fl) (k : Rho → Fl) : Fl := match f with
  | .nx ρ => k ρ
  | f => f
def R.fl {α : Type} (r : R α) (k : α → Rho → Fl) : Fl := match r with
  | .ok a ρ => k a ρ
  | .ex x ρ => .ex x ρ
  | .no => .no
def O.fl {α : Type} (r : Option α) (k : α → Fl) : Fl := match r with
  | some a => k a
  | none => .no
def forGo (step : D → Rho → Fl) : List D → Rho → Fl
  | [], ρ => .nx ρ
  | x :: xs, ρ => match step x ρ with
    | .nx ρ1 => forGo step xs ρ1
    | .ct ρ1 => forGo step xs ρ1
    | .bk ρ1 => .bk ρ1
    | f => f
def unbrk (f : Fl) (k : Rho → Rho) : Fl := match f with
  | .nx ρ => .nx (k ρ)
  | .bk ρ => .nx (k ρ)
  | .ct _ => .no
  | .ex x ρ => .ex x (k ρ)
  | .rt d b ρ => .rt d b (k ρ)
  | .no => .no
def whGo (test : Rho → R Bool) (body : Rho → Fl) : Nat → Rho → Fl
  | 0, _ => .no
  | n + 1, ρ => (test ρ).fl fun b ρ1 => if b then (match body ρ1 with
      | .nx ρ2 => whGo test body n ρ2
      | .ct ρ2 => whGo test body n ρ2
      | .bk ρ2 => .nx ρ2
      | f => f) else .nx ρ1
def WH : Nat := 100000
def setIx (d : D) (k v : D) : Option D := match d, k with
  | .lst xs, .int i => (ixd xs.length i).map fun j => .lst (xs.set j v)
  | _, _ => none
def getIx (d : D) (k : D) : Option D := match d, k with
  | .lst xs, .int i => atd xs i
  | _, _ => none
/-- name op= value, of ints; of texts -/
def augS : P → D → D → Option D
  | .add, .int i, .int j => some (.int (i + j))
  | .sub, .int i, .int j => some (.int (i - j))
  | .add, .str a, .str b => if a.length + b.length ≤ LIM then some (.str (a ++ b)) else none
  | _, _, _ => none
/-- a try: what its body lets out is not looked at -/
def noEx : Fl → Fl
  | .ex _ _ => .no
  | f => f
/-- a clause's name goes -/
def unname (i : Nat) : Fl → Fl
  | .nx ρ => .nx (ρ.set i .un)
  | .rt d b ρ => .rt d b (ρ.set i .un)
  | .bk ρ => .bk (ρ.set i .un)
  | .ct ρ => .ct (ρ.set i .un)
  | f => f
mutual
def ex (cs : CS) : S → Rho → Fl
  | .asg t e, ρ => (ev cs e ρ).fl fun v ρ1 => O.fl (stt t v.1 v.2 ρ1) .nx
  | .par i j a b, ρ => (ev cs a ρ).fl fun v ρ1 => (ev cs b ρ1).fl fun w ρ2 => O.fl (stv ρ2 i v.1 v.2) fun ρ3 => O.fl (stv ρ3 j w.1 w.2) .nx
  | .setix i k v, ρ => (ev cs v ρ).fl fun x ρ1 => O.fl (ρ1[i]?.getD .un).mt fun _ => (ev cs k ρ1).fl fun y ρ2 => O.fl ((ρ2[i]?.getD .un).mt.bind fun d => setIx d y.1 x.1) fun d' => .nx (ρ2.set i ((ρ2[i]?.getD .un).put d'))
  | .aug i p e, ρ => match (ρ[i]?.getD .un) with
    | .fz d => (ev cs e ρ).fl fun v ρ1 => O.fl ((augS p d v.1).bind fun r => stv ρ1 i r false) .nx
    | _ => .no
  | .augix i k p e, ρ => (ev cs k ρ).fl fun y ρ1 => O.fl ((ρ1[i]?.getD .un).mt.bind fun d => getIx d y.1) fun x => (ev cs e ρ1).fl fun v ρ2 =>
      O.fl ((p.sem [x, v.1]).bind fun r => (ρ2[i]?.getD .un).mt.bind fun d => setIx d y.1 r.1) fun d' => .nx (ρ2.set i ((ρ2[i]?.getD .un).put d'))
  | .ex e, ρ => (ev cs e ρ).fl fun _ ρ1 => .nx ρ1
  | .iff c a b, ρ => (evt cs c ρ).fl fun t ρ1 => if t then exs cs a ρ1 else exs cs b ρ1
  | .for t k es b, ρ => (evs cs true es ρ).fl fun as ρ1 => O.fl ((gets ρ1 as).bind k.sem) fun xs =>
      unbrk (forGo (fun x ρ2 => O.fl (stt t x false ρ2) fun ρ3 => exs cs b ρ3) xs (locks ρ1 as)) fun ρ4 => unlocks ρ4 ρ1 as
  | .tr b, ρ => noEx (exs cs b ρ)
  | .while c b, ρ => whGo (fun ρ => evt cs c ρ) (fun ρ => exs cs b ρ) WH ρ
  | .ret e, ρ => (ev cs e ρ).fl fun v ρ1 => .rt v.1 v.2 ρ1
  | .retN, ρ => .rt .non false ρ
  | .brk, ρ => .bk ρ
  | .cont, ρ => .ct ρ
  | .pass, ρ => .nx ρ
  | .never, _ => .no
  | .raise c fs es, ρ => (evs cs false es ρ).fl fun as ρ1 => O.fl (gets ρ1 as) fun ds => if ds.length = fs.length then .ex ⟨c, fs.reverse, ds.reverse⟩ ρ1 else .no
  | .tryH b hs, ρ => (match exs cs b ρ with
    | .ex x ρ1 => hand cs hs x ρ1
    | f => f)
  | .hdl _ _ _ _, _ => .no
  | .tryR b acc _ i cl f c2 f2, ρ => (match exs cs b ρ with
    | .ex x ρ1 => if acc.contains x.c = true then O.fl (fldS cl f (.ins x.c x.fs x.vs)) fun d => O.fl (stv ρ1 i .non false) fun ρ2 => .ex ⟨c2, [f2], [d.1]⟩ (ρ2.set i .un) else .ex x ρ1
    | f => f)
  | .setf i f e, ρ => (ev cs e ρ).fl fun v ρ1 => O.fl ((ρ1[i]?.getD .un).mt.bind fun d => setF d f v.1) fun d' => .nx (ρ1.set i ((ρ1[i]?.getD .un).put d'))
/-- the clauses of a try -/
def hand (cs : CS) : List S → Exn → Rho → Fl
  | [], x, ρ => .ex x ρ
  | .hdl acc _ none b :: r, x, ρ => if acc.contains x.c = true then noEx (exs cs b ρ) else hand cs r x ρ
  | .hdl acc _ (some i) b :: r, x, ρ => if acc.contains x.c = true then O.fl (stv ρ i (.ins x.c x.fs x.vs) false) fun ρ1 => unname i (noEx (exs cs b ρ1)) else hand cs r x ρ
  | _ :: _, _, _ => .no
def exs (cs : CS) : List S → Rho → Fl
  | [], ρ => .nx ρ
  | s :: r, ρ => (ex cs s ρ).then fun ρ1 => exs cs r ρ1
end

/-! ### defs -/
structure Fn where
  np : Nat
  nn : Nat
  body : List S
def Cell.keep (c : Cell) : Cell := if c.pin then c else .un
def finOf (ρ : Rho) (n : Nat) : List Cell := (ρ.take n).map Cell.keep
def runFn (cs : CS) (f : Fn) (cells : List Cell) : Option (Rs × List Cell) :=
  if cells.length = f.np ∧ f.np ≤ f.nn then match exs cs f.body (cells ++ List.replicate (f.nn - f.np) .un) with
    | .nx ρ => some (.ok .non false, finOf ρ f.np)
    | .rt d b ρ => some (.ok d b, finOf ρ f.np)
    | .ex x ρ => some (.ex x, finOf ρ f.np)
    | _ => none
  else none
inductive Ent where
  | fn (f : Fn) | val (d : D)
  /-- a def that may be called where an exception is handled; a method -/
  | fnh (f : Fn) | mt (h : Bool) (f : Fn)
  /-- an exception class: those above it (itself too), its __init__'s fields -/
  | xc (c : String) (sup : List String) (fs : Option (List String))
  /-- another class: its fields; its methods, __init__ too -/
  | ic (c : String) (fs : List String) (ms : List (String × Nat))
abbrev Tb := Nat → Option Ent
/-- the defs' doing, k calls deep -/
def run (tb : Tb) : Nat → CS
  | 0, g, _ => match tb g with
    | some (.val d) => some (.ok d false, [])
    | _ => none
  | k + 1, g, cells => match tb g with
    | some (.val d) => some (.ok d false, [])
    | some (.fn f) => runFn (run tb k) f cells
    | some (.fnh f) => runFn (run tb k) f cells
    | some (.mt _ f) => runFn (run tb k) f cells
    | _ => none
end BV

/-! BvRel: what a thing by value is in the heap; steps. -/
namespace BV
open PySem L2 PySem.Spec PyProof.Rows
abbrev Sg := L2.St

/-- the class c's address -/
def clA (K : PySem.W.Frag) (c : String) : Addr := He.ga K (Str.ofString c)
def nmsD (fs : List String) : List Str := fs.map Str.ofString
/-- what the written part says of an exception class; of another one -/
structure XcOk (K : PySem.W.Frag) (C : Addr) : Prop where
  xf : XfC K C
  cl : (PySem.W.clsIn K C).isSome = true
  ha : PySem.W.findIn K (.ref C) "__class__" = some (some (.builtin "object.__class__"))
  hm : PySem.W.mroIn K C (.type "object") = some true
structure IcOk (K : PySem.W.Frag) (C : Addr) : Prop where
  cls : Cls K C
  ha : PySem.W.findIn K (.ref C) "__class__" = some (some (.builtin "object.__class__"))
  hm : PySem.W.mroIn K C (.type "object") = some true
mutual
inductive Rep (K : PySem.W.Frag) (F : Hp) : V → D → Prop
  | non : Rep K F .non .non
  | bl (b : Bool) : Rep K F (.bl b) (.bl b)
  | int (i : Int) : Rep K F (.int i) (.int i)
  | str (s : List Nat) : Rep K F (.str (toS s)) (.str s)
  | tup {a : Addr} {vs : List V} {ds : List D} : SqT K F a vs → RepL K F vs ds → Rep K F (.ref a) (.tup ds)
  | lst {a : Addr} {vs : List V} {ds : List D} : F a = some (.lst vs) → RepL K F vs ds → Rep K F (.ref a) (.lst ds)
  | scr {a : Addr} {ns : List Int} : SqL K F a (ns.map V.int) → Rep K F (.ref a) (.scr ns)
  | dct0 {a : Addr} {kvs : List (Key × V)} {ks vs : List D} : F a = some (.dK kvs) → ks.map keyD = kvs.map (fun p => some p.1) → RepL K F (kvs.map (·.2)) vs → Rep K F (.ref a) (.dct 0 ks vs)
  | dct1 {a : Addr} {kvs : List (List Key × V)} {ks vs : List D} : F a = some (.dT kvs) → ks.map keyT = kvs.map (fun p => some p.1) → RepL K F (kvs.map (·.2)) vs → Rep K F (.ref a) (.dct 1 ks vs)
  | ins {a dx : Addr} {c : String} {kvs : List (Str × V)} {fs : List String} {ds : List D} : IcOk K (clA K c) → F a = some (.ins (clA K c) dx kvs) → kvs.map (·.1) = nmsD fs → RepL K F (kvs.map (·.2)) ds → Rep K F (.ref a) (.ins c fs ds)
  | exc {a dx : Addr} {c : String} {oe : Obj} {u : HO} {xs : Array Value} {kvs : List (Str × V)} {fs : List String} {ds : List D} : XcOk K (clA K c) → F a = some (.frz oe u) → oe.cls = .ref (clA K c) → oe.data = .fields xs → oe.dict = some dx → F dx = some (.xd kvs) → kvs.map (·.1) = nmsD fs → RepL K F (kvs.map (·.2)) ds →
      Rep K F (.ref a) (.ins c fs ds)
  | exc0 {a : Addr} {c : String} {oe : Obj} {u : HO} {xs : Array Value} : XcOk K (clA K c) → F a = some (.frz oe u) → oe.cls = .ref (clA K c) → oe.data = .fields xs → oe.dict = none → Rep K F (.ref a) (.ins c [] [])
inductive RepL (K : PySem.W.Frag) (F : Hp) : List V → List D → Prop
  | nil : RepL K F [] []
  | cons {v : V} {vs : List V} {d : D} {ds : List D} : Rep K F v d → RepL K F vs ds → RepL K F (v :: vs) (d :: ds)
end
theorem same_rd {F F' : Hp} (e : Same F F') {a : Addr} {u : HO} (h : Rd F a u) : Rd F' a u := by
  rcases h with h | ⟨o, h⟩
  · exact .inl (e _ _ h)
  · exact .inr ⟨o, e _ _ h⟩
theorem same_L {K : PySem.W.Frag} {F F' : Hp} (e : Same F F') {a : Addr} {xs : List V} (h : SqL K F a xs) : SqL K F' a xs := h.imp (same_rd e) id
theorem same_T {K : PySem.W.Frag} {F F' : Hp} (e : Same F F') {a : Addr} {xs : List V} (h : SqT K F a xs) : SqT K F' a xs := h.imp (same_rd e) id
mutual
theorem Rep.mono {K : PySem.W.Frag} {F F' : Hp} (e : Same F F') : ∀ {v : V} {d : D}, Rep K F v d → Rep K F' v d
  | _, _, .non => .non
  | _, _, .bl b => .bl b
  | _, _, .int i => .int i
  | _, _, .str s => .str s
  | _, _, .tup h r => .tup (same_T e h) (RepL.mono e r)
  | _, _, .lst h r => .lst (e _ _ h) (RepL.mono e r)
  | _, _, .scr h => .scr (same_L e h)
  | _, _, .dct0 h k r => .dct0 (e _ _ h) k (RepL.mono e r)
  | _, _, .dct1 h k r => .dct1 (e _ _ h) k (RepL.mono e r)
  | _, _, .ins ok h k r => .ins ok (e _ _ h) k (RepL.mono e r)
  | _, _, .exc ok h k1 k2 k3 h2 k r => .exc ok (e _ _ h) k1 k2 k3 (e _ _ h2) k (RepL.mono e r)
  | _, _, .exc0 ok h k1 k2 k3 => .exc0 ok (e _ _ h) k1 k2 k3
theorem RepL.mono {K : PySem.W.Frag} {F F' : Hp} (e : Same F F') : ∀ {vs : List V} {ds : List D}, RepL K F vs ds → RepL K F' vs ds
  | _, _, .nil => .nil
  | _, _, .cons h r => .cons (Rep.mono e h) (RepL.mono e r)
end
section
variable {K : PySem.W.Frag} {F : Hp}
theorem RepL.length : ∀ {vs : List V} {ds : List D}, RepL K F vs ds → vs.length = ds.length
  | _, _, .nil => rfl
  | _, _, .cons _ r => by simp [RepL.length r]
theorem RepL.get : ∀ {vs : List V} {ds : List D} {i : Nat} {d : D}, RepL K F vs ds → ds[i]? = some d → ∃ v, vs[i]? = some v ∧ Rep K F v d
  | _, _, _, _, .nil, e => by simp at e
  | _, _, 0, _, .cons h _, e => by simp at e; subst e; exact ⟨_, rfl, h⟩
  | _, _, i + 1, d, .cons _ r, e => by
    obtain ⟨v, h1, h2⟩ := RepL.get (i := i) (d := d) r (by simpa using e)
    exact ⟨v, by simpa using h1, h2⟩
theorem RepL.getV : ∀ {vs : List V} {ds : List D} {i : Nat} {v : V}, RepL K F vs ds → vs[i]? = some v → ∃ d, ds[i]? = some d ∧ Rep K F v d
  | _, _, _, _, .nil, e => by simp at e
  | _, _, 0, _, .cons h _, e => by simp at e; subst e; exact ⟨_, rfl, h⟩
  | _, _, i + 1, v, .cons _ r, e => by
    obtain ⟨d, h1, h2⟩ := RepL.getV (i := i) (v := v) r (by simpa using e)
    exact ⟨d, by simpa using h1, h2⟩
theorem RepL.append : ∀ {vs ws : List V} {ds es : List D}, RepL K F vs ds → RepL K F ws es → RepL K F (vs ++ ws) (ds ++ es)
  | _, _, _, _, .nil, s => s
  | _, _, _, _, .cons h r, s => .cons h (RepL.append r s)
theorem RepL.take : ∀ {vs : List V} {ds : List D} (n : Nat), RepL K F vs ds → RepL K F (vs.take n) (ds.take n)
  | _, _, 0, _ => by simp; exact .nil
  | _, _, _ + 1, .nil => .nil
  | _, _, n + 1, .cons h r => .cons h (RepL.take n r)
theorem RepL.drop : ∀ {vs : List V} {ds : List D} (n : Nat), RepL K F vs ds → RepL K F (vs.drop n) (ds.drop n)
  | _, _, 0, r => r
  | _, _, _ + 1, .nil => .nil
  | _, _, n + 1, .cons _ r => RepL.drop n r
theorem RepL.set {v : V} {d : D} (h : Rep K F v d) : ∀ {vs : List V} {ds : List D} (i : Nat), RepL K F vs ds → RepL K F (vs.set i v) (ds.set i d)
  | _, _, _, .nil => .nil
  | _, _, 0, .cons _ r => .cons h r
  | _, _, i + 1, .cons q r => .cons q (RepL.set h i r)
theorem RepL.eraseIdx : ∀ {vs : List V} {ds : List D} (i : Nat), RepL K F vs ds → RepL K F (vs.eraseIdx i) (ds.eraseIdx i)
  | _, _, _, .nil => .nil
  | _, _, 0, .cons _ r => r
  | _, _, i + 1, .cons q r => .cons q (RepL.eraseIdx i r)
theorem RepL.dropLast {vs : List V} {ds : List D} (r : RepL K F vs ds) : RepL K F vs.dropLast ds.dropLast := by
  rw [List.dropLast_eq_take, List.dropLast_eq_take, r.length]
  exact r.take _
end

/-- what stands at an owned thing's address -/
def Top (K : PySem.W.Frag) (F : Hp) (o : Option HO) : D → Prop
  | .lst ds => ∃ vs, o = some (.lst vs) ∧ RepL K F vs ds
  | .dct 0 ks vs => ∃ kvs : List (Key × V), o = some (.dK kvs) ∧ ks.map keyD = kvs.map (fun p => some p.1) ∧ RepL K F (kvs.map (·.2)) vs
  | .dct 1 ks vs => ∃ kvs : List (List Key × V), o = some (.dT kvs) ∧ ks.map keyT = kvs.map (fun p => some p.1) ∧ RepL K F (kvs.map (·.2)) vs
  | .ins c fs ds => ∃ (dx : Addr) (kvs : List (Str × V)), IcOk K (clA K c) ∧ o = some (.ins (clA K c) dx kvs) ∧ kvs.map (·.1) = nmsD fs ∧ RepL K F (kvs.map (·.2)) ds
  | _ => False
theorem Top.mono {K : PySem.W.Frag} {F F' : Hp} (e : Same F F') {o : Option HO} : ∀ {d : D}, Top K F o d → Top K F' o d
  | .lst ds, ⟨vs, h, r⟩ => ⟨vs, h, r.mono e⟩
  | .dct 0 ks us, ⟨vs, h, k, r⟩ => ⟨vs, h, k, r.mono e⟩
  | .dct 1 ks us, ⟨vs, h, k, r⟩ => ⟨vs, h, k, r.mono e⟩
  | .ins c fs us, ⟨dx, vs, ok, h, k, r⟩ => ⟨dx, vs, ok, h, k, r.mono e⟩
theorem Top.some {K : PySem.W.Frag} {F : Hp} {o : Option HO} : ∀ {d : D}, Top K F o d → ∃ u, o = Option.some u
  | .lst ds, ⟨vs, h, r⟩ => ⟨_, h⟩
  | .dct 0 ks us, ⟨vs, h, k, r⟩ => ⟨_, h⟩
  | .dct 1 ks us, ⟨vs, h, k, r⟩ => ⟨_, h⟩
  | .ins c fs us, ⟨dx, vs, ok, h, k, r⟩ => ⟨_, h⟩
/-- an owned thing as a value, over a heap that holds it -/
theorem Top.rep {K : PySem.W.Frag} {F H : Hp} {a : Addr} (e : Same F H) : ∀ {d : D}, Top K F (H a) d → Rep K H (.ref a) d
  | .lst ds, ⟨vs, h, r⟩ => .lst h (r.mono e)
  | .dct 0 ks us, ⟨vs, h, k, r⟩ => .dct0 h k (r.mono e)
  | .dct 1 ks us, ⟨vs, h, k, r⟩ => .dct1 h k (r.mono e)
  | .ins c fs us, ⟨dx, vs, ok, h, k, r⟩ => .ins ok h k (r.mono e)
theorem Top.froze {K : PySem.W.Frag} {F : Hp} {a : Addr} {o : HO} (n : F a = none) : ∀ {d : D}, Top K F (Option.some o) d → Rep K (upd F a o) (.ref a) d
  | .lst ds, ⟨vs, h, r⟩ => by
    cases h
    exact .lst upd_same (r.mono fun b u q => by rw [upd_ne (ne_of_none q n)]; exact q)
  | .dct 0 ks us, ⟨vs, h, k, r⟩ => by
    cases h
    exact .dct0 upd_same k (r.mono fun b u q => by rw [upd_ne (ne_of_none q n)]; exact q)
  | .dct 1 ks us, ⟨vs, h, k, r⟩ => by
    cases h
    exact .dct1 upd_same k (r.mono fun b u q => by rw [upd_ne (ne_of_none q n)]; exact q)
  | .ins c fs us, ⟨dx, vs, ok, h, k, r⟩ => by
    cases h
    exact .ins ok upd_same k (r.mono fun b u q => by rw [upd_ne (ne_of_none q n)]; exact q)

structure EnvR (K : PySem.W.Frag) (F H : Hp) (σ : Sg) (ρ : Rho) : Prop where
  sub : Same F H
  len : ρ.length = σ.length
  fr : ∀ (i : Nat) (c : Cell) (d : D), ρ[i]? = some c → c.fr = some d → ∃ v, σ[i]? = some (some v) ∧ Rep K F v d
  on : ∀ (i : Nat) (c : Cell) (d : D), ρ[i]? = some c → c.on = some d → ∃ a, σ[i]? = some (some (.ref a)) ∧ F a = none ∧ Top K F (H a) d
  ap : ∀ (i j : Nat) (c c' : Cell) (a : Addr), ρ[i]? = some c → ρ[j]? = some c' → c.on.isSome = true → c'.on.isSome = true → σ[i]? = some (some (.ref a)) → σ[j]? = some (some (.ref a)) → i = j
/-- the address of an owned thing that a name holds -/
def OnA (σ : Sg) (ρ : Rho) (a : Addr) : Prop := ∃ (i : Nat) (c : Cell), ρ[i]? = some c ∧ c.on.isSome = true ∧ σ[i]? = some (some (.ref a))
/-- how a cell may go on -/
def Evo (c c' : Cell) : Prop := match c with
  | .pr _ => ∃ d, c' = .pr d ∨ c' = .pz d
  | .pz d => c' = .pz d
  | .lk b d => c' = .lk b d
  | _ => c'.pin = false
theorem Evo.refl (c : Cell) : Evo c c := by
  cases c <;> simp [Evo, Cell.pin]
theorem Evo.trans {a b c : Cell} (h : Evo a b) (g : Evo b c) : Evo a c := by
  cases a with
  | pr d =>
    obtain ⟨e, h | h⟩ := h
    · subst h
      exact g
    · subst h
      have g' : c = .pz e := g
      exact ⟨e, .inr g'⟩
  | pz d => have h' : b = .pz d := h; subst h'; exact g
  | lk k d => have h' : b = .lk k d := h; subst h'; exact g
  | un | fz | ow =>
    have h' : b.pin = false := h
    show c.pin = false
    cases b <;> first | exact g | (exact absurd h' (by simp [Cell.pin]))
structure Stp (F H : Hp) (σ : Sg) (ρ : Rho) (F' H' : Hp) (σ' : Sg) (ρ' : Rho) : Prop where
  ext : Same F F'
  frm : ∀ a o, H a = some o → F a = none → ¬ OnA σ ρ a → H' a = some o ∧ F' a = none
  new : ∀ a, OnA σ' ρ' a → OnA σ ρ a ∨ H a = none
  pin : ∀ (i : Nat) (c : Cell), ρ[i]? = some c → ∃ c', ρ'[i]? = some c' ∧ Evo c c' ∧ (c.pin = true → σ'[i]? = σ[i]?)
  ln : ρ'.length = ρ.length
theorem Stp.refl (F H : Hp) (σ : Sg) (ρ : Rho) : Stp F H σ ρ F H σ ρ :=
  ⟨Same.refl _, fun a o h n _ => ⟨h, n⟩, fun a h => .inl h, fun i c h => ⟨c, h, Evo.refl c, fun _ => rfl⟩, rfl⟩
theorem Evo.pinned {c c' : Cell} (h : Evo c c') (p : c.pin = true) : c'.pin = true := by
  cases c with
  | pr d => obtain ⟨e, h | h⟩ := h <;> subst h <;> rfl
  | pz d => have h' : c' = .pz d := h; subst h'; rfl
  | lk k d => have h' : c' = .lk k d := h; subst h'; rfl
  | un | fz | ow => exact absurd p (by simp [Cell.pin])
theorem Stp.trans {F H F1 H1 F2 H2 : Hp} {σ σ1 σ2 : Sg} {ρ ρ1 ρ2 : Rho} (a : Stp F H σ ρ F1 H1 σ1 ρ1) (b : Stp F1 H1 σ1 ρ1 F2 H2 σ2 ρ2) (s : Same F1 H1) : Stp F H σ ρ F2 H2 σ2 ρ2 where
  ext := a.ext.trans b.ext
  frm := fun x o h n q => by
    obtain ⟨h1, n1⟩ := a.frm x o h n q
    refine b.frm x o h1 n1 fun z => ?_
    rcases a.new x z with z | z
    · exact q z
    · rw [h] at z; cases z
  new := fun x q => by
    rcases b.new x q with z | z
    · exact a.new x z
    · by_cases on : OnA σ ρ x
      · exact .inl on
      · refine .inr ?_
        cases e : H x with
        | none => rfl
        | some o =>
          exfalso
          cases f : F x with
          | some u =>
            have := s x u (a.ext x u f)
            rw [z] at this; cases this
          | none =>
            have := (a.frm x o e f on).1
            rw [z] at this; cases this
  pin := fun i c h => by
    obtain ⟨c1, h1, e1, p1⟩ := a.pin i c h
    obtain ⟨c2, h2, e2, p2⟩ := b.pin i c1 h1
    exact ⟨c2, h2, e1.trans e2, fun p => (p2 (e1.pinned p)).trans (p1 p)⟩
  ln := b.ln.trans a.ln
end BV

/-! BvAns: the readings; arguments; what a primitive is to show. -/
namespace BV
open PySem L2 PySem.Spec PyProof.Rows

/-- new since then, or owned then -/
def Org (H : Hp) (σ : Sg) (ρ : Rho) (a : Addr) : Prop := OnA σ ρ a ∨ H a = none
theorem Stp.org {F H F1 H1 : Hp} {σ σ1 : Sg} {ρ ρ1 : Rho} (a : Stp F H σ ρ F1 H1 σ1 ρ1) (s : Same F1 H1) {x : Addr} (q : Org H1 σ1 ρ1 x) : Org H σ ρ x := by
  rcases q with z | z
  · exact a.new x z
  · by_cases on : OnA σ ρ x
    · exact .inl on
    · refine .inr ?_
      cases e : H x with
      | none => rfl
      | some o =>
        exfalso
        cases f : F x with
        | some u =>
          have := s x u (a.ext x u f)
          rw [z] at this; cases this
        | none =>
          have := (a.frm x o e f on).1
          rw [z] at this; cases this
/-- an expression's answer in the heap; b: a new thing that nobody holds (H0, ρ0: as it began) -/
def Res (K : PySem.W.Frag) (H0 : Hp) (ρ0 : Rho) (F H : Hp) (σ : Sg) (ρ : Rho) (v : V) (d : D) (b : Bool) : Prop :=
  if b = true then ∃ a, v = .ref a ∧ F a = none ∧ ¬ OnA σ ρ a ∧ Top K F (H a) d ∧ Org H0 σ ρ0 a else Rep K F v d
theorem EnvR.freeze {K : PySem.W.Frag} {F H : Hp} {σ : Sg} {ρ : Rho} (e : EnvR K F H σ ρ) {a : Addr} {o : HO} (h : H a = some o) (n : F a = none) (q : ¬ OnA σ ρ a) : EnvR K (upd F a o) H σ ρ := by
  have sm : Same F (upd F a o) := fun b u z => by rw [upd_ne (ne_of_none z n)]; exact z
  refine ⟨fun b u z => ?_, e.len, fun i c d h1 h2 => ?_, fun i c d h1 h2 => ?_, e.ap⟩
  · by_cases hb : b = a
    · subst hb; rw [upd_same] at z; cases z; exact h
    · rw [upd_ne hb] at z; exact e.sub b u z
  · obtain ⟨v, h3, h4⟩ := e.fr i c d h1 h2
    exact ⟨v, h3, h4.mono sm⟩
  · obtain ⟨b, h3, h4, h5⟩ := e.on i c d h1 h2
    refine ⟨b, h3, ?_, h5.mono sm⟩
    rw [upd_ne]
    · exact h4
    · intro z
      subst z
      exact q ⟨i, c, h1, by rw [h2]; rfl, h3⟩
/-- a new thing given out: from here on it stays -/
theorem Res.froze {K : PySem.W.Frag} {F H F1 H1 : Hp} {σ : Sg} {ρ ρ1 : Rho} {v : V} {d : D} {b : Bool} (e1 : EnvR K F1 H1 σ ρ1) (s1 : Stp F H σ ρ F1 H1 σ ρ1) (r : Res K H ρ F1 H1 σ ρ1 v d b) :
    ∃ F2, EnvR K F2 H1 σ ρ1 ∧ Stp F H σ ρ F2 H1 σ ρ1 ∧ Rep K F2 v d ∧ Same F1 F2 := by
  unfold Res at r
  cases b with
  | false => exact ⟨F1, e1, s1, by simpa using r, Same.refl _⟩
  | true =>
    rw [if_pos rfl] at r
    obtain ⟨a, rfl, n, q, t, og⟩ := r
    obtain ⟨o, ho⟩ := t.some
    have sm : Same F1 (upd F1 a o) := fun b u z => by rw [upd_ne (ne_of_none z n)]; exact z
    refine ⟨upd F1 a o, e1.freeze ho n q, ⟨s1.ext.trans sm, fun x u h1 h2 h3 => ?_, s1.new, s1.pin, s1.ln⟩, (by rw [ho] at t; exact t.froze n), sm⟩
    obtain ⟨h4, h5⟩ := s1.frm x u h1 h2 h3
    refine ⟨h4, ?_⟩
    rw [upd_ne]
    · exact h5
    · intro z
      subst z
      rcases og with z | z
      · exact h3 z
      · rw [h1] at z; cases z
theorem Res.back {K : PySem.W.Frag} {F H F1 H1 F2 H2 : Hp} {σ : Sg} {ρ ρ1 ρ2 : Rho} {v : V} {d : D} {b : Bool} (s : Stp F H σ ρ F1 H1 σ ρ1) (sm : Same F1 H1) (r : Res K H1 ρ1 F2 H2 σ ρ2 v d b) : Res K H ρ F2 H2 σ ρ2 v d b := by
  unfold Res at r ⊢
  cases b with
  | false => exact r
  | true =>
    rw [if_pos rfl] at r ⊢
    obtain ⟨a, h1, h2, h3, h4, h5⟩ := r
    exact ⟨a, h1, h2, h3, h4, s.org sm h5⟩
/-- the surroundings of a text: the module's names, the defs' numbers -/
structure Sur where
  K : PySem.W.Frag
  mg : Str → Option Value
  gn : Nat → Str
  cs : CS
  /-- the own exception classes, each with those above it (itself too) -/
  xs : List (String × List String)
/-- an exception that flies: its class, its dict -/
def ExR (U : Sur) (F H : Hp) (cls : Value) (dd : Option Addr) (x : Exn) : Prop :=
  cls = .ref (clA U.K x.c) ∧ (x.c ∈ U.xs.map (·.1)) ∧ ((x.fs = [] ∧ x.vs = [] ∧ dd = none) ∨ ∃ d kvs, dd = some d ∧ F d = some (.xd kvs) ∧ kvs.map (·.1) = nmsD x.fs ∧ RepL U.K F (kvs.map (·.2)) x.vs)
/-- the ways of an answer -/
def Ans {α : Type} (U : Sur) (W : WX) (F H : Hp) (σ : Sg) (ρ : Rho) (r : R α) (k : α → Rho → Hp → Hp → Prop) : Prop := match r with
  | .ok a ρ' => ∀ F' H', EnvR U.K F' H' σ ρ' → Stp F H σ ρ F' H' σ ρ' → k a ρ' F' H'
  | .ex x ρ' => ∀ cls dd F' H', EnvR U.K F' H' σ ρ' → Stp F H σ ρ F' H' σ ρ' → ExR U F' H' cls dd x → W cls dd σ H'
  | .no => False
section
variable {α β : Type} {U : Sur} {W : WX} {F H : Hp} {σ : Sg} {ρ : Rho}
theorem Ans.bind2 {r : R α} {f : α → Rho → R β} {k : β → Rho → Hp → Hp → Prop} {k' : α → Rho → Hp → Hp → Prop} (h : Ans U W F H σ ρ (r.bind f) k)
    (m : ∀ a ρ1 F1 H1, Ans U W F H σ ρ (f a ρ1) k → EnvR U.K F1 H1 σ ρ1 → Stp F H σ ρ F1 H1 σ ρ1 → k' a ρ1 F1 H1) : Ans U W F H σ ρ r k' := by
  cases r with
  | ok a ρ1 => exact fun F1 H1 e1 s1 => m a ρ1 F1 H1 h e1 s1
  | ex x ρ1 => exact h
  | no => exact h
theorem Ans.bind3 {r : R α} {f : α → Rho → R β} {k : β → Rho → Hp → Hp → Prop} {k' : α → Rho → Hp → Hp → Prop} (h : Ans U W F H σ ρ (r.bind f) k)
    (m : ∀ a ρ1 F1 H1, r = .ok a ρ1 → Ans U W F H σ ρ (f a ρ1) k → EnvR U.K F1 H1 σ ρ1 → Stp F H σ ρ F1 H1 σ ρ1 → k' a ρ1 F1 H1) : Ans U W F H σ ρ r k' := by
  cases r with
  | ok a ρ1 => exact fun F1 H1 e1 s1 => m a ρ1 F1 H1 rfl h e1 s1
  | ex x ρ1 => exact h
  | no => exact h
theorem Ans.bind {r : R α} {f : α → Rho → R β} {k : β → Rho → Hp → Hp → Prop} (h : Ans U W F H σ ρ (r.bind f) k) : Ans U W F H σ ρ r fun a ρ1 F1 H1 => Ans U W F1 H1 σ ρ1 (f a ρ1) k := by
  cases r with
  | ok a ρ1 =>
    intro F1 H1 e1 s1
    have h' : Ans U W F H σ ρ (f a ρ1) k := h
    show Ans U W F1 H1 σ ρ1 (f a ρ1) k
    cases hf : f a ρ1 with
    | ok b ρ2 =>
      rw [hf] at h'
      exact fun F2 H2 e2 s2 => h' F2 H2 e2 (s1.trans s2 e1.sub)
    | ex x ρ2 =>
      rw [hf] at h'
      exact fun cls dd F2 H2 e2 s2 q => h' cls dd F2 H2 e2 (s1.trans s2 e1.sub) q
    | no => rw [hf] at h'; exact h'
  | ex x ρ1 => exact h
  | no => exact h
theorem Ans.mono {r : R α} {k k' : α → Rho → Hp → Hp → Prop} (h : Ans U W F H σ ρ r k) (m : ∀ a ρ' F' H', r = .ok a ρ' → EnvR U.K F' H' σ ρ' → Stp F H σ ρ F' H' σ ρ' → k a ρ' F' H' → k' a ρ' F' H') : Ans U W F H σ ρ r k' := by
  cases r with
  | ok a ρ1 => exact fun F' H' e s => m a ρ1 F' H' rfl e s (h F' H' e s)
  | ex x ρ1 => exact h
  | no => exact h
theorem Ans.here {a : α} {k : α → Rho → Hp → Hp → Prop} (e : EnvR U.K F H σ ρ) (h : Ans U W F H σ ρ (.ok a ρ) k) : k a ρ F H := h F H e (Stp.refl ..)
/-- from a step on -/
theorem Ans.from {F1 H1 : Hp} {ρ1 : Rho} {r : R α} {k : α → Rho → Hp → Hp → Prop} (h : Ans U W F H σ ρ r k) (e1 : EnvR U.K F1 H1 σ ρ1) (s1 : Stp F H σ ρ F1 H1 σ ρ1) : Ans U W F1 H1 σ ρ1 r k := by
  cases r with
  | ok a ρ2 => exact fun F2 H2 e2 s2 => h F2 H2 e2 (s1.trans s2 e1.sub)
  | ex x ρ2 => exact fun cls dd F2 H2 e2 s2 q => h cls dd F2 H2 e2 (s1.trans s2 e1.sub) q
  | no => exact h
end
/-! ### readings -/
def tD (U : Sur) (W : WX) (e : E) : TE := fun σ H Q => ∃ F ρ, EnvR U.K F H σ ρ ∧ Ans U W F H σ ρ (ev U.cs e ρ) fun r ρ' F' H' => ∀ v, Res U.K H ρ F' H' σ ρ' v r.1 r.2 → Q v H'
def tT (U : Sur) (W : WX) (e : E) : TT := fun σ H Q => ∃ F ρ, EnvR U.K F H σ ρ ∧ Ans U W F H σ ρ (evt U.cs e ρ) fun b _ _ H' => Q b H'
/-- an argument by value, or a name of an owned thing -/
inductive AgR (K : PySem.W.Frag) (F : Hp) (σ : Sg) : List V → List Ag → Prop
  | nil : AgR K F σ [] []
  | vl {v : V} {d : D} {vs : List V} {as : List Ag} : Rep K F v d → AgR K F σ vs as → AgR K F σ (v :: vs) (.vl d :: as)
  | pk {v : V} {i : Nat} {vs : List V} {as : List Ag} : σ[i]? = some (some v) → AgR K F σ vs as → AgR K F σ (v :: vs) (.pk i :: as)
theorem AgR.mono {K : PySem.W.Frag} {F F' : Hp} {σ : Sg} (e : Same F F') : ∀ {vs : List V} {as : List Ag}, AgR K F σ vs as → AgR K F' σ vs as
  | _, _, .nil => .nil
  | _, _, .vl h r => .vl (h.mono e) (AgR.mono e r)
  | _, _, .pk h r => .pk h (AgR.mono e r)
def tDs (U : Sur) (W : WX) (pk : Bool) (es : List E) : TA := fun σ H Q => ∃ F ρ, EnvR U.K F H σ ρ ∧ Ans U W F H σ ρ (evs U.cs pk es ρ) fun as _ F' H' => ∀ vs, AgR U.K F' σ vs as → Q vs H'
/-- one argument -/
def tE (U : Sur) (W : WX) (e : E) : TE := match isVar e with
  | some i => fun σ H Q => tVar i σ H Q ∨ tD U W e σ H Q
  | none => tD U W e
theorem isVar_eq {e : E} {i : Nat} (h : isVar e = some i) : e = .var i := by
  cases e <;> simp [isVar] at h
  rw [h]
theorem PE.or {X : Cx} {x : Expr} {t u : TE} (h : PE X x t) (g : PE X x u) : PE X x fun σ H Q => t σ H Q ∨ u σ H Q :=
  ⟨fun pins s σ H Q I q => q.elim (h.run pins s σ H Q I) (g.run pins s σ H Q I)⟩
theorem PE.imp {X : Cx} {x : Expr} {t u : TE} (h : PE X x t) (m : ∀ σ H Q, u σ H Q → t σ H Q) : PE X x u :=
  ⟨fun pins s σ H Q I q => h.run pins s σ H Q I (m σ H Q q)⟩
theorem PT.imp {X : Cx} {x : Expr} {t u : TT} (h : PT X x t) (m : ∀ σ H Q, u σ H Q → t σ H Q) : PT X x u :=
  ⟨fun pins s σ H Q I q => h.run pins s σ H Q I (m σ H Q q)⟩
theorem PA.imp {X : Cx} {x : List Expr} {t u : TA} (h : PA X x t) (m : ∀ σ H Q, u σ H Q → t σ H Q) : PA X x u :=
  ⟨fun pos pins s σ H Q I q => h.run pos pins s σ H Q I (m σ H Q q)⟩
section
variable {U : Sur} {W : WX} {σ : Sg} {H : Hp} {pk : Bool}
theorem Cell.on_val {c : Cell} (h : c.on.isSome = true) : c.on = c.val := by
  cases c <;> simp [Cell.on, Cell.val] at h ⊢
theorem getD_on {ρ : Rho} {i : Nat} (h : (ρ[i]?.getD .un).on.isSome = true) : ∃ c, ρ[i]? = some c ∧ c.on.isSome = true := by
  cases e : ρ[i]? with
  | none => rw [e] at h; simp [Cell.on] at h
  | some c => rw [e] at h; exact ⟨c, rfl, h⟩
theorem onVar_eq {e : E} {ρ : Rho} (h : onVar e ρ = true) : ∃ i c, e = .var i ∧ isVar e = some i ∧ ρ[i]? = some c ∧ c.on.isSome = true := by
  unfold onVar at h
  cases hi : isVar e with
  | none => rw [hi] at h; cases h
  | some i =>
    rw [hi] at h
    obtain ⟨c, hc, ho⟩ := getD_on h
    exact ⟨i, c, isVar_eq hi, rfl, hc, ho⟩
/-- one argument, then more -/
theorem argE {β : Type} {e : E} {f : Ag → Rho → R β} {F H : Hp} {ρ : Rho} (er : EnvR U.K F H σ ρ) {k : β → Rho → Hp → Hp → Prop} (h : Ans U W F H σ ρ ((argOf pk e ρ (ev U.cs e ρ)).bind f) k)
    {Q : VK} (m : ∀ v a ρ1 F1 H1, EnvR U.K F1 H1 σ ρ1 → Stp F H σ ρ F1 H1 σ ρ1 → AgR U.K F1 σ [v] [a] → Ans U W F1 H1 σ ρ1 (f a ρ1) k → Q v H1) : tE U W e σ H Q := by
  unfold argOf at h
  by_cases hp : (pk && onVar e ρ) = true
  · rw [if_pos hp] at h
    obtain ⟨i, c, rfl, hi, hc, ho⟩ := onVar_eq (Bool.and_eq_true_iff.mp hp).2
    obtain ⟨d, hd⟩ := Option.isSome_iff_exists.mp ho
    obtain ⟨a, ha, _⟩ := er.on i c d hc hd
    exact .inl ⟨_, ha, m _ _ ρ F H er (Stp.refl ..) (.pk ha .nil) h⟩
  · rw [if_neg hp] at h
    have g : tD U W e σ H Q := by
      refine ⟨F, ρ, er, ?_⟩
      cases hr : ev U.cs e ρ with
      | ok r ρ1 =>
        rw [hr] at h
        intro F1 H1 e1 s1 v hv
        obtain ⟨F2, e2, s2, rp, _⟩ := hv.froze e1 s1
        exact m v _ ρ1 F2 H1 e2 s2 (.vl rp .nil) (Ans.from (show Ans U W F H σ ρ (f (.vl r.1) ρ1) k from h) e2 s2)
      | ex x ρ1 => rw [hr] at h; exact h
      | no => rw [hr] at h; exact h
    unfold tE
    cases hi : isVar e with
    | none => exact g
    | some i => exact .inr g
theorem tDs_cons {e : E} {es : List E} {Q : List V → Hp → Prop} (h : tDs U W pk (e :: es) σ H Q) : tE U W e σ H fun v H1 => tDs U W pk es σ H1 fun vs H2 => Q (v :: vs) H2 := by
  obtain ⟨F, ρ, er, h⟩ := h
  rw [evs] at h
  refine argE er h fun v a ρ1 F1 H1 e1 s1 ha k => ⟨F1, ρ1, e1, k.bind2 fun as ρ2 F2 H2 k2 e2 s2 vs hv => (k2.from e2 s2).here e2 _ ?_⟩
  cases ha with
  | vl h1 h2 => exact .vl (h1.mono s2.ext) hv
  | pk h1 h2 => exact .pk h1 hv
theorem tD_mono {e : E} {Q Q' : VK} (h : tD U W e σ H Q) (m : ∀ v H', Q v H' → Q' v H') : tD U W e σ H Q' := by
  obtain ⟨F, ρ, er, h⟩ := h
  exact ⟨F, ρ, er, h.mono fun r ρ' F' H' _ _ _ k v hv => m v H' (k v hv)⟩
theorem tE_mono {e : E} {Q Q' : VK} (h : tE U W e σ H Q) (m : ∀ v H', Q v H' → Q' v H') : tE U W e σ H Q' := by
  cases hi : isVar e with
  | none =>
    unfold tE at h ⊢
    rw [hi] at h ⊢
    exact tD_mono h m
  | some i =>
    unfold tE at h ⊢
    rw [hi] at h ⊢
    rcases h with ⟨v, h1, h2⟩ | h
    · exact .inl ⟨v, h1, m v H h2⟩
    · exact .inr (tD_mono h m)
theorem tDs_nil {Q : List V → Hp → Prop} (h : tDs U W pk [] σ H Q) : Q [] H := by
  obtain ⟨F, ρ, er, h⟩ := h
  rw [evs] at h
  exact h.here er [] .nil
end
end BV

/-! BvB: defs that may be called where an exception is handled; an exception as a value; a try with several clauses. -/
namespace BV
open PySem L2 PySem.Spec PyProof.Rows
/-! ### a def's promise; hot: also where an exception is handled -/
structure FnB (hot : Bool) (P : Program) (w : World) (K : PySem.W.Frag) (mg : Str → Option Value) (base : Heap) (CX : CXT) (k : Nat) (f : Addr) (fd : FuncData) (ps : List Str) (sp : Sp) : Prop where
  len : ∀ vs H Q E, sp vs H Q E → vs.length = ps.length
  run : ∀ (A : Around) (outer : List Env) (s : Shared) (H : Hp) (args : Args) (us : List Value) (vs : List V) (Q : VK) (E : XK), L2H.RoomH k A → (hot = false → A.handled = none) → Env0 P w K mg base A outer s H → BindsTo s fd args (ps.zip us) → Vals vs us → sp vs H Q E →
    codeAny (model P w) A (.call (.ref f) args) (CR CX outer P w H s Q E) s
section
variable {P : Program} {w : World} {K : PySem.W.Frag} {mg : Str → Option Value} {base : Heap} {CX : CXT} {j k : Nat} {f : Addr} {fd : FuncData} {ps : List Str} {sp : Sp} {hot : Bool}
theorem FnB.ok (F : FnB false P w K mg base CX k f fd ps sp) : FnOk P w K mg base CX k f fd ps sp :=
  ⟨F.len, fun A outer s H args us vs Q E hr => F.run A outer s H args us vs Q E ⟨hr.dp, hr.un⟩ fun _ => hr.hd⟩
theorem FnB.cool (F : FnB hot P w K mg base CX k f fd ps sp) : FnB false P w K mg base CX k f fd ps sp :=
  ⟨F.len, fun A outer s H args us vs Q E hr hh => F.run A outer s H args us vs Q E hr fun _ => hh rfl⟩
theorem FnB.mono (F : FnB hot P w K mg base CX j f fd ps sp) (h : j ≤ k) : FnB hot P w K mg base CX k f fd ps sp :=
  ⟨F.len, fun A outer s H args us vs Q E hr => F.run A outer s H args us vs Q E (hr.mono h)⟩
end
section
variable {X : Cx} {CX : CXT} {k : Nat} {f : Addr} {fd : FuncData} {ps : List Str} {sp : Sp} {E : L2.St → XK} {x : Str} {p pos : Pos} {e : Expr} {es : List Expr} {t : TA} {hot : Bool}
theorem run_fnB {pins : List (Addr × Obj)} {σ : L2.St} {H : Hp} {s : Shared} {Q : VK} {us : List Value} {vs : List V} (F : FnB hot X.prog X.w X.K X.mg X.base CX k f fd ps sp) (hr : L2H.RoomH k X.A) (hh : hot = false → X.A.handled = none) (hb : Binds X.K fd ps []) (hx : PassesAt CX X σ (E σ))
    (I : Inv X pins σ H s) (r : Vals vs us) (h : sp vs H Q (E σ)) : wpAny (model X.prog X.w) X.A (call (.ref f) us) (EP X pins σ Q) X.xe s := by
  have hl : us.length = ps.length := by rw [← r.length]; exact F.len _ _ _ _ h
  have b := hb s us I.kIn (by rw [List.append_nil]; exact hl)
  rw [List.append_nil] at b
  refine wpAny_call (codeAny_mono (F.run X.A X.stack s H ⟨us, []⟩ us vs Q (E σ) hr hh I.env0 b r h) fun r s' hq => ?_)
  cases r with
  | error e => exact hx pins H s e s' I hq
  | ok fl =>
    cases fl with
    | ret u => exact I.after hq
    | next => exact False.elim hq
    | brk => exact False.elim hq
    | cont => exact False.elim hq
theorem pe_callF (F : FnB hot X.prog X.w X.K X.mg X.base CX k f fd ps sp) (hr : L2H.RoomH k X.A) (hh : hot = false → X.A.handled = none) (hg : Gl X x) (hm : X.mg x = some (.ref f)) (hk : PySem.W.keepIn X.K (.ref f) = true) (hb : Binds X.K fd ps []) (hx : ∀ σ, PassesAt CX X σ (E σ))
    (ha : PA X (e :: es) t) (hdb : (x == ("__debug__" : Str)) = false := by decide) (he : starEach (e :: es) X.env = (false, eval e X.env) :: starEach es X.env := by rfl) (hpl : (backTo pos (starEach es X.env)).any (·.1) = false := by rfl) :
    PE X (.Call (.Name x p) (e :: es) [] pos) (tCallS sp E t) := by
  refine ⟨fun pins s σ H Q I h => ?_⟩
  refine wpAny_Call_Name_kw (ld_glob I hg hm ?_ hdb)
  refine PySem.W.callWith_K (h₀ := X.base) I.ok.mod.kin hk (thn (ha.run pos pins s σ H _ I h) fun us s1 ⟨vs, H1, I1, r, q⟩ => ⟨I1.kIn, ?_⟩) he hpl
  exact run_fnB F hr hh hb (hx σ) I1 r q
end
/-- the context of such a def's body -/
def cxB (hot : Bool) (CX : CXT) (P : Program) (w : World) (K : PySem.W.Frag) (mg : Str → Option Value) (base : Heap) (N : List Str) (qual : Str) (scope : Scope) (f : Addr) (cd : Value) (A : Around) (outer : List Env) (s : Shared) (H : Hp) (E : XK) : Cx :=
  { cxOf CX P w K mg base N qual scope f cd A outer s H E with calm := !hot }
theorem inv_startB {CX : CXT} {P : Program} {w : World} {K : PySem.W.Frag} {mg : Str → Option Value} {base : Heap} {N ps : List Str} {qual : Str} {scope : Scope} {f : Addr} {cd : Value} {A : Around} {outer : List Env} {s s1 : Shared} {H : Hp} {E : XK} {us : List Value} {vs : List V} {hot : Bool}
    (S : FnScope N ps scope) (hd : hot = false → A.handled = none) (e0 : Env0 P w K mg base A outer s H) (hl : vs.length = ps.length) (r : Vals vs us)
    (x : InCallC s s.heap.objs.size (bindL (envOfC qual scope s.heap.objs.size f cd).kindOf (ps.zip us) fun _ => none) (cellsFrom (s.heap.objs.size + 1) scope.names []) (bindC (envOfC qual scope s.heap.objs.size f cd).kindOf (ps.zip us) fun _ => none) s1) :
    Inv (cxB hot CX P w K mg base N qual scope f cd A outer s H E) [] (L2.start N vs) H s1 := by
  have hpl : ps.length ≤ N.length := by have := congrArg List.length S.pre; rw [List.length_take] at this; omega
  obtain ⟨h1, tk, rfl, hk⟩ := x.done
  have noA : ∀ b : Addr, b ∉ (cxB hot CX P w K mg base N qual scope f cd A outer s H E).ex := fun b z => absurd (show b ∈ ([] : List Addr) from z) (by simp)
  refine ⟨⟨e0.mod, S.kind, rfl, rfl, Nat.le_refl _, fun y z c h1 h2 => ?_, fun y hy => ?_, fun y c _ h => ?_, (fun z => hd (by simpa using (show (!hot) = true from z))), Around.frames_deeper e0.frames, .inr ⟨rfl, rfl⟩, fun b z => absurd z (noA b), e0.bs, e0.bsz, fun b _ _ => noA b, fun b z => absurd z (noA b), e0.funs, e0.frf⟩,
    rfl, e0.bare, Un.kept hk, ⟨_, x.toInCall.ns, fun i y v h1 h2 h3 => ?_⟩, fun y c h => ⟨_, x.cell y c h⟩, e0.hok.fresh (Nat.le_refl _), fun y c h => ?_, fun p hp => absurd (show p ∈ ([] : List (Addr × Obj)) from hp) (by simp), e0.hok.kept hk, ?_⟩
  · exact name_of_addr x.apart (PySem.mem_of_lookup h1) (PySem.mem_of_lookup h2)
  · have hy : scope.names.lookup y = some .cell ∨ scope.names.lookup y = some .free := hy
    rcases hy with hy | hy
    · exact cell_has hy
    · exact absurd rfl (S.nofree _ (PySem.mem_of_lookup hy))
  · exact Nat.le_of_lt (x.above y c (PySem.mem_of_lookup h))
  · have hi : i < vs.length := by
      unfold L2.start at h2
      by_cases hi : i < vs.length
      · exact hi
      · rw [List.getElem?_append_right (by simpa using hi)] at h2
        rw [List.getElem?_replicate] at h2
        split at h2 <;> cases h2
    have ha : vs[i]? = some v := by
      unfold L2.start at h2
      rw [List.getElem?_append_left (by simpa using hi), List.getElem?_map] at h2
      cases e : vs[i]? with
      | none => rw [e] at h2; cases h2
      | some a => rw [e] at h2; cases h2; rfl
    obtain ⟨u, hu, rv⟩ := r.get ha
    have hp : ps[i]? = some y := by
      rw [← S.pre, List.getElem?_take_of_lt (by omega)]; exact h1
    have ndP : ps.Nodup := by rw [← S.pre]; exact S.nd.sublist (List.take_sublist _ _)
    refine ⟨u, rv, ?_⟩
    rcases S.par y (List.mem_of_getElem? hp) with k | k
    · exact .inl ⟨k, bindL_get ndP hp hu k⟩
    · obtain ⟨c, e⟩ := cell_has (n := s.heap.objs.size + 1) k
      refine .inr ⟨.inl k, c, e, ?_⟩
      have q := x.cell y c e
      rw [bindC_get ndP hp hu (by show scope.names.lookup y ≠ _; rw [k]; decide)] at q
      exact q
  · exact e0.hok.fresh (Nat.le_of_lt (x.above y c (PySem.mem_of_lookup h)))
  · unfold L2.start
    show _ = N.length
    rw [List.length_append, List.length_map, List.length_replicate]
    omega
theorem fn_ofB {CX : CXT} {P : Program} {w : World} {K : PySem.W.Frag} {mg : Str → Option Value} {base : Heap} {k : Nat} {f : Addr} {name qual : Str} {params : Arguments} {body : List Stmt} {scope : Scope} {dV kV doc pm cdv ct oc : Value} {an od : Option Addr} {hot : Bool}
    {osl : Array (Option Value)} {N ps : List Str} {sp : Sp} (lk : K.lookup f = some ⟨oc, od, .func (PySem.W.fnOf name qual params body scope dV kV doc pm an cdv ct), osl⟩) (hcd : PySem.W.codeIn K cdv qual = true) (S : FnScope N ps scope)
    (len : ∀ vs H Q E, sp vs H Q E → vs.length = ps.length)
    (hbody : ∀ (A : Around) (outer : List Env) (s : Shared) (H : Hp) (vs : List V) (Q : VK) (E : XK), (hot = false → A.handled = none) → L2H.RoomH k (A.deeper (envOfC qual scope s.heap.objs.size f cdv)) → sp vs H Q E →
      ∃ t, PSs (cxB hot CX P w K mg base N qual scope f cdv A outer s H E) body t ∧ t { nx := fun _ H' => Q .non H', rt := Q } (L2.start N vs) H) :
    FnB hot P w K mg base CX (k + 1) f (PySem.W.fnOf name qual params body scope dV kV doc pm an cdv ct) ps sp := by
  refine ⟨len, fun A outer s H args us vs Q E hr hot' e0 hb r hsp => ?_⟩
  have hl := len _ _ _ _ hsp
  have KX : K.In s.heap := e0.mod.kin.keeps fun b o e => (e0.bs b o e).1
  have lim : s.heap.NoLimit := e0.mod.nolimit.keeps fun b o e => (e0.bs b o e).1
  have hkind : ∀ y ∈ ps.zip us, scope.names.lookup y.1 = some .local ∨ (scope.names.lookup y.1 = some .cell ∧ ((cellsFrom (s.heap.objs.size + 1) scope.names []).lookup y.1).isSome = true) := fun ⟨n, v⟩ hy => by
    rcases S.par n (List.of_mem_zip hy).1 with q | q
    · exact .inl q
    · exact .inr ⟨q, PySem.W.cellsFrom_some _ _ _ (.inl q)⟩
  refine codeAny_call_function hr.depth (KX _ _ lk) rfl S.co S.gen rfl (PySem.W.codeRec_of KX hcd) (hb _ _ _ _ ?_)
  refine wpAny_newFunctionEnv_cells S.kind hkind fun env he s1 x => ?_
  subst he
  refine ⟨lim.keeps x.toInCall.keep, codeAny_func ?_⟩
  obtain ⟨t, ht, hq⟩ := hbody A outer s H vs Q E hot' (hr.deeper _) hsp
  have I : Inv (cxB hot CX P w K mg base N qual scope f cdv A outer s H E) [] (L2.start N vs) H s1 := inv_startB S hot' e0 hl r x
  refine wpAny_mono (ht.run [] s1 (L2.start N vs) H _ I hq) (fun fl s' hs => ?_) fun e s' hs => hs
  have fin : ∀ {σ' : L2.St} {H' : Hp} {v : V} {u : Value}, Inv (cxB hot CX P w K mg base N qual scope f cdv A outer s H E) [] σ' H' s' → RelV v u → Q v H' → CE outer P w H s Q u s' :=
    fun {σ' H' v u} J rv q => ⟨v, H', J.os, J.bare, J.base, J.hok, rv, q⟩
  cases fl with
  | ret u =>
    obtain ⟨v, σ', H', J, rv, q⟩ := hs
    exact fin J rv q
  | next =>
    obtain ⟨σ', H', J, q⟩ := hs
    exact fin (v := V.non) (u := Value.none) J rfl q
  | brk =>
    obtain ⟨_, _, _, q⟩ := hs
    exact False.elim q
  | cont =>
    obtain ⟨_, _, _, q⟩ := hs
    exact False.elim q
theorem funD_okB {P : Program} {w : World} {K : PySem.W.Frag} {mg : Str → Option Value} {base : Heap} {x qual : Str} {params : Arguments} {body : List Stmt} {scope : Scope} {dvs : List V} {kws : List (Str × V)} {f : Addr} {fd : FuncData} {hot : Bool} {CX : CXT} {N ps : List Str} {k : Nat} {sp : Sp}
    (F : FunD K x qual params body scope dvs kws f fd) (S : FnScope N ps scope) (len : ∀ vs H Q E, sp vs H Q E → vs.length = ps.length)
    (hbody : ∀ (cdv : Value) (A : Around) (outer : List Env) (s : Shared) (H : Hp) (vs : List V) (Q : VK) (E : XK), (hot = false → A.handled = none) → L2H.RoomH k (A.deeper (envOfC qual scope s.heap.objs.size f cdv)) → sp vs H Q E →
      ∃ t, PSs (cxB hot CX P w K mg base N qual scope f cdv A outer s H E) body t ∧ t { nx := fun _ H' => Q .non H', rt := Q } (L2.start N vs) H) : FnB hot P w K mg base CX (k + 1) f fd ps sp := by
  obtain ⟨oc, od, dV, kV, doc, pm, an, cdv, ct, osl, rfl, lk, hcd, _, _⟩ := F.ex
  exact fn_ofB lk hcd S len fun A outer s H vs Q E hh hr hsp => hbody cdv A outer s H vs Q E hh hr hsp
/-! ### an exception as a value -/
structure GcOk (K : PySem.W.Frag) : Prop where
  hn : PySem.W.specialIn K (.builtin "object.__class__") "__get__" = some (some (.builtin "getset_descriptor.__get__"))
  ht : PySem.W.takesIn K (.builtin "object.__class__") = some true
/-- a.f, a a caught exception -/
def tXfF (K : PySem.W.Frag) (f : Str) (te : TE) : TE := fun σ H Q => te σ H fun x H1 => ∃ (a dx C : Addr) (oe : Obj) (u : HO) (xs : Array Value) (kvs : List (Str × V)) (v : V), x = .ref a ∧ H1 a = some (.frz oe u) ∧ oe.cls = .ref C ∧ oe.data = .fields xs ∧ oe.dict = some dx ∧ H1 dx = some (.xd kvs) ∧
  XfC K C ∧ NoAttr K C f ∧ kvs.lookup f = some v ∧ Q v H1
section
variable {X : Cx} {e : Expr} {te : TE} {pos : Pos} {n : Str}
theorem pe_xfF (he : PE X e te) (hb : attributeBase e n X.env (eval e X.env) = eval e X.env) : PE X (.Attribute e n pos) (tXfF X.K n te) := by
  refine ⟨fun pins s σ H Q I h => ?_⟩
  refine attr_of hb (thn (he.run pins s σ H _ I h) fun u s1 hh => ?_)
  obtain ⟨x, H1, I1, rx, a, dx, C, oe, u0, xs, kvs, v, ex, ea, ec, ed, edx, exd, T, hno, l, q⟩ := hh
  subst ex
  obtain rfl : u = Value.ref a := rx
  obtain ⟨ha, _⟩ := (show ObjOk X.prog X.w H1 s1.heap a (.frz oe u0) from I1.hok a _ ea)
  have hx : ObjOk X.prog X.w H1 s1.heap dx (.xd kvs) := I1.hok dx _ exd
  obtain ⟨mA, hns, hr⟩ := hx
  obtain ⟨od, ho, hl⟩ := lookIn_ns hns
  obtain ⟨u, hu, ru⟩ := RelO.some_of (v := v) (o := mA n) (by rw [← l]; exact hr n)
  have J : PySem.W.InstAt s1.heap a oe C (some od) := ⟨ha, ec, by unfold PySem.W.notCls; rw [ed] <;> rfl, by rw [edx]; exact ho⟩
  exact HandSPX.exc_get I1.kIn J T.ga T.gg T.exC (PySem.W.findObj_own T.hdC hno rfl (by rw [hl, hu])) (handed_of ru) ⟨v, H1, I1.tok _, ru, q⟩
/-- isinstance(x, c), isinstance(x, (c, ..)), x a caught exception of the class at C -/
def ExcAt (K : PySem.W.Frag) (H : Hp) (a C : Addr) : Prop := ∃ (oe : Obj) (u : HO) (xs : Array Value), H a = some (.frz oe u) ∧ oe.cls = .ref C ∧ oe.data = .fields xs ∧ (oe.dict = none ∨ ∃ dx kvs, oe.dict = some dx ∧ H dx = some (.xd kvs)) ∧ XcOk K C ∧ GcOk K
theorem kit_exc {pins : List (Addr × Obj)} {σ : L2.St} {H : Hp} {s : Shared} {a C : Addr} (I : Inv X pins σ H s) (h : ExcAt X.K H a C) : ∃ P : Heap → Prop, PySem.W.KitX X.K (.ref a) (.ref C) P ∧ P s.heap := by
  obtain ⟨oe, u, xs, ea, ec, ed, hd, T, G⟩ := h
  obtain ⟨ha, _⟩ := (show ObjOk X.prog X.w H s.heap a (.frz oe u) from I.hok a _ ea)
  rcases hd with hd | ⟨dx, kvs, hd, hx⟩
  · exact ⟨_, PySem.W.kitx_exc (x := a) (ox := oe) (od := none) T.cl T.xf.ga T.xf.gg T.xf.exC T.ha G.hn G.ht T.hm, ha, ec, by unfold PySem.W.notCls; rw [ed] <;> rfl, by rw [hd]; trivial⟩
  · have hx : ObjOk X.prog X.w H s.heap dx (.xd kvs) := I.hok dx _ hx
    obtain ⟨mA, hns, hr⟩ := hx
    obtain ⟨od, ho, hl⟩ := lookIn_ns hns
    exact ⟨_, PySem.W.kitx_exc (x := a) (ox := oe) (od := some od) T.cl T.xf.ga T.xf.gg T.xf.exC T.ha G.hn G.ht T.hm, ha, ec, by unfold PySem.W.notCls; rw [ed] <;> rfl, by rw [hd]; exact ho⟩
/-- isinstance of anything -/
inductive TyE (K : PySem.W.Frag) (H : Hp) : V → Value → Prop
  | ty {x : V} {t : Value} (h : TyX K H x t) : TyE K H x t
  | exc {a C : Addr} (h : ExcAt K H a C) : TyE K H (.ref a) (.ref C)
def rIsE1 (K : PySem.W.Frag) : List V → Hp → VK → Prop := fun xs H Q => ∃ (x c : V) (t u : Value) (b : Bool), xs = [x, c] ∧ ClsV c u ∧ TyE K H x t ∧ PySem.W.kitOne K t u = some b ∧ Q (.bl b) H
def rIsET (K : PySem.W.Frag) : List V → Hp → VK → Prop := fun xs H Q => ∃ (x : V) (tp : Addr) (cs : List V) (t : Value) (us : List Value) (b : Bool), xs = [x, .ref tp] ∧ H tp = some (.tup cs) ∧ Paired ClsV cs us ∧ TyE K H x t ∧ PySem.W.kitAny K t us = some b ∧ Q (.bl b) H
theorem kit_anyE {pins : List (Addr × Obj)} {σ : L2.St} {H : Hp} {s : Shared} {x : V} {u t : Value} (I : Inv X pins σ H s) (rx : RelV x u) (ty : TyE X.K H x t) : ∃ P : Heap → Prop, PySem.W.KitX X.K u t P ∧ P s.heap ∧ u ≠ .builtin "__main__.__loader__#opaque" := by
  cases ty with
  | ty h => exact kit_of I rx h
  | @exc a C h =>
    obtain rfl : u = Value.ref a := rx
    obtain ⟨P, h1, h2⟩ := kit_exc I h
    exact ⟨P, h1, h2, fun z => nomatch z⟩
theorem call_isE1 : CallR X (.builtin "isinstance") (rIsE1 X.K) := by
  intro pins s σ H xs us Q I r h
  obtain ⟨x, c, t, u, b, rfl, k, ty, e, q⟩ := h
  obtain ⟨u1, u2, rfl, r1, r2⟩ := vals2 r
  have e2 := k.eq r2
  subst e2
  obtain ⟨P, Z, p, hx⟩ := kit_anyE I r1 ty
  exact PySem.W.kia_one Z I.kIn p e hx fun tk => ⟨.bl b, H, I.tok tk, rfl, q⟩
theorem call_isET : CallR X (.builtin "isinstance") (rIsET X.K) := by
  intro pins s σ H xs us Q I r h
  obtain ⟨x, tp, cs, t, ws, b, rfl, hT, k, ty, e, q⟩ := h
  obtain ⟨u1, u2, rfl, r1, r2⟩ := vals2 r
  cases (show u2 = Value.ref tp from r2)
  obtain ⟨P, Z, p, hx⟩ := kit_anyE I r1 ty
  obtain ⟨_, its, rv, o, h1, h2, n, h3⟩ := (show ObjOk X.prog X.w H s.heap tp (.tup cs) from I.hok tp _ hT)
  have e3 := ClsV.all k rv
  subst e3
  obtain ⟨oc, od, dt, sl⟩ := o
  simp only at h2 h3
  subst h2 h3
  exact PySem.W.kia_tup Z I.kIn p h1 e hx fun tk => ⟨.bl b, H, I.tok tk, rfl, q⟩
end
end BV

/-! BvTr: a try with several clauses, each with or without a name; the exception is tracked in its suite. -/
namespace BV
open PySem L2 PySem.Spec PyProof.Rows
/-- the context of a clause's suite: nothing leaves it -/
abbrev sufX (X : Cx) (a : Addr) : Cx := { X with A := X.A.mark (some (.ref a)), calm := false, xe := fun _ _ => False }
abbrev exF (oe : Obj) : HO := .frz oe (.ext fun _ => True)
section
variable {X : Cx} {pins : List (Addr × Obj)} {σ : L2.St} {H : Hp} {s : Shared}
theorem exF_own {oe : Obj} {x : Addr} : exF oe ≠ .own x := fun z => by
  have z' : HO.frz oe _ = HO.own x := z
  cases z'
theorem sufIn {a : Addr} {oe : Obj} {vs : Array Value} (I : Inv X pins σ H s) (ha : s.heap.get? a = some oe) (hd : oe.data = .fields vs) (na : H a = none) (nL : a ≠ X.env.locals) (n0 : X.s_0.heap.get? a = none) (np : ∀ p ∈ X.pn ++ pins, p.1 ≠ a) :
    Inv (sufX X a) pins σ (upd H a (exF oe)) s := by
  have ne : ∀ {b : Addr} {u : HO}, H b = some u → b ≠ a := fun {b u} q => ne_of_none q na
  refine ⟨⟨I.ok.mod, I.ok.kind, I.ok.glob, I.ok.blt, I.ok.above, I.ok.inj, I.ok.has, I.ok.cab, (fun z => absurd (show false = true from z) Bool.false_ne_true), I.ok.frames, I.ok.stk, I.ok.exf, I.ok.bs, I.ok.bsz, I.ok.noex, I.ok.exfs, I.ok.funs, I.ok.frf⟩,
    I.os, I.bare, ⟨I.base.keep, I.base.slot, fun b o e n hx => ?_, I.base.there, fun b xs e => ?_, fun b o u e => ?_, fun b ps e => ?_⟩, I.loc, I.cell, ?_, fun y c e => ?_, fun p hp => ?_, fun b u q => ?_, I.len⟩
  · rw [upd_ne (fun z => by rw [z, n0] at e; cases e)]
    exact I.base.free b o e n hx
  · have h := I.base.tups b xs e
    rw [upd_ne (ne h)]
    exact h
  · have h := I.base.frzs b o u e
    rw [upd_ne (ne h)]
    exact h
  · obtain ⟨m, h⟩ := I.base.tbls b ps e
    exact ⟨m, by rw [upd_ne (ne h)]; exact h⟩
  · rw [upd_ne (Ne.symm nL)]
    exact I.free
  · rw [upd_ne]
    · exact I.freeC y c e
    · intro z
      obtain ⟨v, o, ho, hdt⟩ := I.cell y c e
      rw [z, ha] at ho
      cases ho
      rw [hd] at hdt
      cases hdt
  · obtain ⟨e, n, nl, nf, d⟩ := I.pin p hp
    exact ⟨e, by rw [upd_ne (np p hp)]; exact n, nl, nf, d⟩
  · by_cases hb : b = a
    · subst hb
      rw [upd_same] at q
      cases q
      exact ⟨ha, trivial, ⟨oe, ha⟩, fun _ _ _ _ => trivial⟩
    · rw [upd_ne hb] at q
      exact (I.hok b u q).stay (fun _ _ _ z => z) (fun c hc => by rw [upd_ne (ne hc)]; exact hc) fun c xs hc => by rw [upd_ne (ne hc)]; exact hc
theorem sufOut {a : Addr} (I : Inv (sufX X a) pins σ H s) (ok : X.Ok) : Inv X pins σ H s := ⟨ok, I.os, I.bare, I.base, I.loc, I.cell, I.free, I.freeC, I.pin, I.hok, I.len⟩
end
/-- a clause: its class, its name's slot, its suite -/
abbrev HC := Value × Option Nat × TS
def nmE (i : Option Nat) (D : Ends) : Ends := match i with
  | none => D
  | some i => { nx := fun σ H => D.nx (σ.set i none) H, rt := D.rt, bk := fun σ H => D.bk (σ.set i none) H, ct := fun σ H => D.ct (σ.set i none) H }
def nmS (i : Option Nat) (σ : L2.St) (a : Addr) : L2.St := match i with
  | none => σ
  | some i => σ.set i (some (.ref a))
def wG (K : PySem.W.Frag) (Wout : WX) (D : Ends) : List HC → WX
  | [] => Wout
  | (c, i, ts) :: r => fun cls d σ H => ∃ b, PySem.W.exmOne K cls c = some b ∧ (b = true → ∀ (a : Addr) (oe : Obj) (xs : Array Value), H a = none → oe.cls = cls → oe.dict = d → oe.data = .fields xs → ts (nmE i D) (nmS i σ a) (upd H a (exF oe))) ∧ (b = false → wG K Wout D r cls d σ H)
inductive HdsG (X : Cx) : List ExceptHandler → List HC → Prop
  | nil : HdsG X [] []
  | cons {x : Str} {c : Value} {ts : TS} {b₀ : Stmt} {suite : List Stmt} {np pos' : Pos} {hds : List ExceptHandler} {l : List HC} (hc : Names X x c)
      (hsu : ∀ a : Addr, PSs (sufX X a) (b₀ :: suite) ts) (r : HdsG X hds l) : HdsG X (.ExceptHandler (some (.Name x np)) none (b₀ :: suite) pos' :: hds) ((c, none, ts) :: l)
  | consA {x n : Str} {i : Nat} {c : Value} {ts : TS} {b₀ : Stmt} {suite : List Stmt} {np pos' : Pos} {hds : List ExceptHandler} {l : List HC} (hc : Names X x c) (hi : X.N[i]? = some n) (hln : X.env.kindOf n = some .local)
      (hsu : ∀ a : Addr, PSs (sufX X a) (b₀ :: suite) ts) (r : HdsG X hds l) : HdsG X (.ExceptHandler (some (.Name x np)) (some n) (b₀ :: suite) pos' :: hds) ((c, some i, ts) :: l)
section
variable {X : Cx} {body : List Stmt} {h₀ : ExceptHandler} {hds : List ExceptHandler} {l : List HC} {pos : Pos} {tb : WX → TS} {Wout : WX}
theorem ps_tryG (hs : X.stack = X.env :: X.outer) (hf : X.env.frame = some X.env.locals) (hex : X.ex = []) (hN : X.N.Nodup) (tk : Takes X Wout)
    (hb : ∀ (W : WX) (pn : List (Addr × Obj)) (xe : Value → Shared → Prop), Takes (X.tr pn xe) W → PassesOwn (model X.prog X.w) X.A X.env xe → PSs (X.tr pn xe) body (tb W))
    (hh : HdsG X (h₀ :: hds) l) : PS X (.Try body (h₀ :: hds) [] [] pos) (fun D σ H => tb (wG X.K Wout D l) D σ H) := by
  refine ⟨fun pins s σ H D I h => ?_⟩
  have ok := I.ok
  have hfr : X.A.frames = some (X.env :: X.outer) := by rw [ok.frames, hs]
  refine wpAny_Try_except ?_
  refine wpAny_mono ((hb (wG X.K Wout D l) (X.pn ++ pins) (fun e s₁ => wpAny (model X.prog X.w) X.A (noteFrame e X.env) (fun _ s₂ => wpAny (model X.prog X.w) X.A (setFlight e none) (fun _ s₃ =>
    wpAny (model X.prog X.w) X.A (handleBy e X.env (h₀ :: hds)) (SP X pins D) X.xe s₃) X.xe s₂) X.xe s₁) (fun u s' xx => ?_) PassesOwn.looking).run [] s σ H D (I.toTry _) h) (fun f s1 hsp => ?_) (fun e s1 he => he)
  · -- the catch
    obtain ⟨a, B, sI, pins', σ', H', cls, d, rfl, J', nb, up, sky, na, os, ag, w⟩ := xx
    have J : Inv X pins σ' H' sI := J'.ofTry ok
    have sky' : Sky B (X.env :: X.outer) a (Zc cls d) X.env.locals s'.heap := by rw [← hs]; exact sky
    show wpAny (model X.prog X.w) X.A (noteFrame (.ref a) X.env) _ _ _
    refine Sky.land Zc.steady hfr hf sky' fun h3 fl3 up3 => ?_
    have J3 : Inv X pins σ' H' { s' with heap := h3 } := J.landed nb fl3.1 (up.trans up3) os ag
    obtain ⟨oe3, vs3, he3, hz3, hd3⟩ := fl3.there
    have notFr : ∀ {h : Heap} {o : Obj} {vs : Array Value}, h.FunFrames B (X.env :: X.outer) → h.get? a = some o → o.data = .fields vs → a ∉ frs (X.env :: X.outer) := fun {h o vs} ff e dd hm => by
      obtain ⟨_, o', e', hnf⟩ := ff.mem hm
      rw [e] at e'; cases e'
      exact hnf _ dd
    have nfr := notFr fl3.2.2.1 he3 hd3
    have nL : a ≠ X.env.locals := fun z => nfr (List.mem_filterMap.mpr ⟨X.env, List.mem_cons_self, by rw [hf, z]⟩)
    have nF : a ∉ X.fs := fun hm => by
      obtain ⟨e, he, q⟩ := List.mem_filterMap.mp hm
      exact nfr (List.mem_filterMap.mpr ⟨e, List.mem_cons_of_mem _ he, q⟩)
    have nB : B.get? a = none := fl3.2.1
    have nI : sI.heap.get? a = none := by
      cases e : sI.heap.get? a with
      | none => rfl
      | some o =>
        have := nb a o e (by rw [hs]; exact nfr)
        rw [nB] at this; cases this
    have n0 : X.s_0.heap.get? a = none := by
      cases e : X.s_0.heap.get? a with
      | none => rfl
      | some o =>
        obtain ⟨o', e'⟩ := J.base.there a o e (by rw [hex]; simp)
        rw [nI] at e'; cases e'
    have npn : ∀ p ∈ X.pn ++ pins, p.1 ≠ a := fun p hp z => by
      have q := (J.pin p hp).1
      rw [z, nI] at q
      cases q
    have go : ∀ {hds' : List ExceptHandler} {l' : List HC}, HdsG X hds' l' → wG X.K Wout D l' cls d σ' H' →
        wpAny (model X.prog X.w) X.A (handleBy (.ref a) X.env hds') (SP X pins D) X.xe { s' with heap := h3 } := by
      -- its object, once it lies
      have LT : PySem.W.Looks (model X.prog X.w) h3 (typeOf (.ref a)) cls := fun A Q E s k q => wpAny_typeOf_ref (k _ _ he3) (by rw [hz3.1]; exact q)
      have S3 := J3.suite he3 hd3 na nL nF
      have test : ∀ {x : Str} {c : Value} {np : Pos} {Q : Value → Shared → Prop} {E : Value → Shared → Prop}, Names X x c → Q c { s' with heap := h3 } → wpAny (model X.prog X.w) (X.A.mark (some (.ref a))) (eval (.Name x np) X.env) Q E { s' with heap := h3 } := fun {x c np Q E} hc q => by
        obtain ⟨hg, hdbg, hm | ⟨hm, hv, hnn⟩⟩ := hc
        · exact ld_glob (X := X.suite a ((a, oe3) :: (X.pn ++ pins))) S3 hg hm q hdbg
        · exact ld_blt (X := X.suite a ((a, oe3) :: (X.pn ++ pins))) S3 hg hm hv q hnn hdbg
      have lay : ∀ {h4 : Heap}, HandSPX.FlyingZ B (X.env :: X.outer) a (Zc cls d) h4 → h3.UpToSlots h4 → ∃ oe4 vs4, oe4.cls = cls ∧ oe4.dict = d ∧ oe4.data = .fields vs4 ∧ Inv (sufX X a) pins σ' (upd H' a (exF oe4)) { s' with heap := h4 } := fun {h4} fl4 up4 => by
        have J4 : Inv X pins σ' H' { s' with heap := h4 } := J.landed nb fl4.1 ((up.trans up3).trans up4) os ag
        obtain ⟨oe4, vs4, he4, hz4, hd4⟩ := fl4.there
        exact ⟨oe4, vs4, hz4.1, hz4.2, hd4, sufIn J4 he4 hd4 na nL n0 npn⟩
      intro hds' l' hk
      induction hk with
      | nil =>
        intro w
        refine wpAny_handleBy_nil ?_
        obtain ⟨k1, k2, k3, oe, vs, T, oT, ts', he, hz, hd, h1, hr⟩ := id fl3
        unfold PySem.passOn
        refine wpAny_bind (wpAny_field he hd h1 ?_)
        rw [if_neg (show ¬ ((Value.ref T == Value.none) = true) from by simp)]
        have fin : wpAny (model X.prog X.w) X.A (setFlight (.ref a) X.env.frame) (fun _ s4 => wpAny (model X.prog X.w) X.A (throw (.ref a) : Sem Flow) (SP X pins D) X.xe s4) X.xe { s' with heap := h3 } := by
          rw [hf]
          refine HandSPX.setFlight_upZ fl3 fun h4 hh4 up4 => wpAny_throw (tk _ _ ?_)
          exact ⟨a, B, sI, pins, σ', H', cls, d, rfl, J, nb, (up.trans up3).trans up4, .inr (.inr (by rw [hs]; exact hh4)), na, os, ag, w⟩
        first
          | exact wpAny_bind (wpAny_pure (wpAny_bind fin))
          | exact wpAny_bind fin
      | @cons x c ts b₀ suite np pos' hds2 l2 hc hsu r ih =>
        intro w
        obtain ⟨b, hb1, hyes, hno⟩ := w
        refine wpAny_handleBy_cons (codeAny_handlers_test ?_) (by intro q; cases q)
        have LM := PySem.W.exm_one (M := model X.prog X.w) (J3.kIn) LT hb1
        refine test hc (LM.here ?_)
        cases b with
        | true =>
          refine codeAny_handlers_suite ?_
          refine HandSPX.lands_againZ fl3 fun h4 fl4 up4 => ?_
          obtain ⟨oe4, vs4, c4, d4, hd4, S4⟩ := lay fl4 up4
          refine wpAny_mono ((hsu a).run pins _ _ _ _ S4 (hyes rfl a oe4 vs4 na c4 d4 hd4)) (fun f s6 hsp => ?_) (fun _ _ z => False.elim z)
          cases f with
          | next =>
            obtain ⟨σ6, H6, S6, q6⟩ := hsp
            exact ⟨_, _, sufOut S6 ok, q6⟩
          | brk =>
            obtain ⟨σ6, H6, S6, q6⟩ := hsp
            exact ⟨_, _, sufOut S6 ok, q6⟩
          | cont =>
            obtain ⟨σ6, H6, S6, q6⟩ := hsp
            exact ⟨_, _, sufOut S6 ok, q6⟩
          | ret u =>
            obtain ⟨v6, σ6, H6, S6, r6, q6⟩ := hsp
            exact ⟨_, _, _, sufOut S6 ok, r6, q6⟩
        | false =>
          show wpAny _ X.A (handleBy (.ref a) X.env hds2) _ _ _
          exact ih (hno rfl)
      | @consA x n i c ts b₀ suite np pos' hds2 l2 hc hi hln hsu r ih =>
        intro w
        obtain ⟨b, hb1, hyes, hno⟩ := w
        refine wpAny_handleBy_cons (codeAny_handlers_test ?_) (by intro q; cases q)
        have LM := PySem.W.exm_one (M := model X.prog X.w) (J3.kIn) LT hb1
        refine test hc (LM.here ?_)
        cases b with
        | true =>
          refine codeAny_handlers_suite_as ?_
          refine HandSPX.lands_againZ fl3 fun h4 fl4 up4 => ?_
          obtain ⟨oe4, vs4, c4, d4, hd4, S4⟩ := lay fl4 up4
          refine store_ok (X := sufX X a) (v := .ref a) S4 hN hi (.inl hln) rfl (fun s5 S5 => ?_) (.inr hln)
          refine wpAny_mono ((hsu a).run pins s5 _ _ _ S5 (hyes rfl a oe4 vs4 na c4 d4 hd4)) (fun f s6 hsp => ?_) (fun _ _ z => False.elim z)
          have end_ : ∀ {σ6 : L2.St} {H6 : Hp} {Q : Shared → Prop}, Inv (sufX X a) pins σ6 H6 s6 → (∀ s7, Inv X pins (σ6.set i none) H6 s7 → Q s7) →
              wpAny (model X.prog X.w) X.A (do bindName X.env n .none; unbindBehindTheSuite X.env n pos') (fun _ s7 => Q s7) X.xe s6 := fun {σ6 H6 Q} S6 hq => gone_ok (sufOut S6 ok) hN hi hln hq
          cases f with
          | next =>
            obtain ⟨σ6, H6, S6, q6⟩ := hsp
            exact end_ S6 fun s7 J7 => ⟨_, _, J7, q6⟩
          | brk =>
            obtain ⟨σ6, H6, S6, q6⟩ := hsp
            exact end_ S6 fun s7 J7 => ⟨_, _, J7, q6⟩
          | cont =>
            obtain ⟨σ6, H6, S6, q6⟩ := hsp
            exact end_ S6 fun s7 J7 => ⟨_, _, J7, q6⟩
          | ret u =>
            obtain ⟨v6, σ6, H6, S6, r6, q6⟩ := hsp
            exact end_ S6 fun s7 J7 => ⟨_, _, _, J7, r6, q6⟩
        | false =>
          show wpAny _ X.A (handleBy (.ref a) X.env hds2) _ _ _
          exact ih (hno rfl)
    exact go hh w
  · cases f with
    | next =>
      obtain ⟨σ', H', J', q⟩ := hsp
      exact wpAny_execs_nil ⟨σ', H', J'.ofTry ok, q⟩
    | brk =>
      obtain ⟨σ', H', J', q⟩ := hsp
      exact ⟨σ', H', J'.ofTry ok, q⟩
    | cont =>
      obtain ⟨σ', H', J', q⟩ := hsp
      exact ⟨σ', H', J'.ofTry ok, q⟩
    | ret u =>
      obtain ⟨v, σ', H', J', r, q⟩ := hsp
      exact ⟨v, σ', H', J'.ofTry ok, r, q⟩
end
end BV

/-! BvPrim: the primitives. -/
namespace BV
open PySem L2 PySem.Spec PyProof.Rows

/-- a thing by value as it is looked at: it stays, or it is owned by a name -/
def NR (K : PySem.W.Frag) (F H : Hp) (v : V) (d : D) : Prop := Rep K F v d ∨ ∃ a, v = .ref a ∧ Top K F (H a) d
inductive NRL (K : PySem.W.Frag) (F H : Hp) : List V → List D → Prop
  | nil : NRL K F H [] []
  | cons {v : V} {vs : List V} {d : D} {ds : List D} : NR K F H v d → NRL K F H vs ds → NRL K F H (v :: vs) (d :: ds)
structure PQ0 (K : PySem.W.Frag) (F H : Hp) (Q : VK) (d : D) (b : Bool) : Prop where
  old : ∀ v, b = false → Rep K F v d → Q v H
  frz : ∀ p o, H p = none → b = false → Rep K (upd F p o) (.ref p) d → Q (.ref p) (upd H p o)
  new : ∀ p o, H p = none → b = true → Top K F (some o) d → Q (.ref p) (upd H p o)
/-- .. whatever was made besides -/
def PQ (K : PySem.W.Frag) (F H : Hp) (Q : VK) (d : D) (b : Bool) : Prop := ∀ H', Same H H' → PQ0 K F H' Q d b
section
variable {K : PySem.W.Frag} {F H : Hp} {σ : Sg} {ρ : Rho}
theorem PQ.old {Q : VK} {d : D} {b : Bool} (q : PQ K F H Q d b) : ∀ v, b = false → Rep K F v d → Q v H := (q H (Same.refl _)).old
theorem PQ.frz {Q : VK} {d : D} {b : Bool} (q : PQ K F H Q d b) : ∀ p o, H p = none → b = false → Rep K (upd F p o) (.ref p) d → Q (.ref p) (upd H p o) := (q H (Same.refl _)).frz
theorem PQ.new {Q : VK} {d : D} {b : Bool} (q : PQ K F H Q d b) : ∀ p o, H p = none → b = true → Top K F (some o) d → Q (.ref p) (upd H p o) := (q H (Same.refl _)).new
theorem val_cases {c : Cell} {d : D} (h : c.val = some d) : c.fr = some d ∨ c.on = some d := by
  cases c <;> simp [Cell.val, Cell.fr, Cell.on] at h ⊢ <;> exact h
theorem getD_some {α : Type} {l : List Cell} {i : Nat} {f : Cell → Option α} {d : α} (hu : f .un = none) (h : f (l[i]?.getD .un) = some d) : ∃ c, l[i]? = some c ∧ f c = some d := by
  cases e : l[i]? with
  | none => rw [e] at h; simp [hu] at h
  | some c => rw [e] at h; exact ⟨c, rfl, h⟩
theorem gets_nr (e : EnvR K F H σ ρ) : ∀ {vs : List V} {as : List Ag} {ds : List D}, AgR K F σ vs as → gets ρ as = some ds → NRL K F H vs ds
  | _, _, ds, .nil, h => by simp [gets] at h; subst h; exact .nil
  | _, _, ds, .vl (d := d) hd r, h => by
    simp only [gets, Ag.get, Option.bind_some, Option.map_eq_some_iff] at h
    obtain ⟨es, h1, h2⟩ := h
    subst h2
    exact .cons (.inl hd) (gets_nr e r h1)
  | _, _, ds, .pk (i := i) hv r, h => by
    simp only [gets, Ag.get, Option.bind_eq_some_iff, Option.map_eq_some_iff] at h
    obtain ⟨d, h0, es, h1, h2⟩ := h
    subst h2
    obtain ⟨c, hc, hd⟩ := getD_some (f := Cell.val) rfl h0
    refine .cons ?_ (gets_nr e r h1)
    rcases val_cases hd with hd | hd
    · obtain ⟨v', h3, h4⟩ := e.fr i c d hc hd
      rw [hv] at h3
      cases h3
      exact .inl h4
    · obtain ⟨a, h3, _, h4⟩ := e.on i c d hc hd
      rw [hv] at h3
      cases h3
      exact .inr ⟨a, rfl, h4⟩
theorem EnvR.there (e : EnvR K F H σ ρ) {a : Addr} (q : OnA σ ρ a) : H a ≠ none ∧ F a = none := by
  obtain ⟨i, c, h1, h2, h3⟩ := q
  obtain ⟨d, hd⟩ := Option.isSome_iff_exists.mp h2
  obtain ⟨b, h4, h5, h6⟩ := e.on i c d h1 hd
  rw [h3] at h4
  cases h4
  obtain ⟨u, hu⟩ := h6.some
  exact ⟨by rw [hu]; simp, h5⟩
theorem EnvR.noOn (e : EnvR K F H σ ρ) {p : Addr} (h : H p = none) : ¬ OnA σ ρ p := fun q => (e.there q).1 h
theorem EnvR.noF (e : EnvR K F H σ ρ) {p : Addr} (h : H p = none) : F p = none := by
  cases q : F p with
  | none => rfl
  | some o => have := e.sub p o q; rw [h] at this; cases this
theorem same_upd {F : Hp} {p : Addr} {o : HO} (h : F p = none) : Same F (upd F p o) := fun b u z => by rw [upd_ne (ne_of_none z h)]; exact z
/-- a new object, nobody's -/
theorem EnvR.alloc (e : EnvR K F H σ ρ) {p : Addr} {o : HO} (h : H p = none) : EnvR K F (upd H p o) σ ρ :=
  ⟨e.sub.trans (same_upd h), e.len, e.fr, fun i c d h1 h2 => by
    obtain ⟨a, h3, h4, h5⟩ := e.on i c d h1 h2
    refine ⟨a, h3, h4, ?_⟩
    obtain ⟨u, hu⟩ := h5.some
    rw [upd_ne (ne_of_none hu h)]
    exact h5, e.ap⟩
theorem EnvR.allocF (e : EnvR K F H σ ρ) {p : Addr} {o : HO} (h : H p = none) : EnvR K (upd F p o) (upd H p o) σ ρ :=
  (e.alloc h).freeze upd_same (e.noF h) (e.noOn h)
theorem Stp.alloc {F0 H0 : Hp} {ρ0 : Rho} (s : Stp F0 H0 σ ρ0 F H σ ρ) {p : Addr} {o : HO} (h : H p = none) : Stp F0 H0 σ ρ0 F (upd H p o) σ ρ :=
  ⟨s.ext, fun a u h1 h2 h3 => by
    obtain ⟨h4, h5⟩ := s.frm a u h1 h2 h3
    exact ⟨by rw [upd_ne (ne_of_none h4 h)]; exact h4, h5⟩, s.new, s.pin, s.ln⟩
theorem Stp.allocF {F0 H0 : Hp} {ρ0 : Rho} (s : Stp F0 H0 σ ρ0 F H σ ρ) (n : F p = none) {o : HO} (h : H p = none) : Stp F0 H0 σ ρ0 (upd F p o) (upd H p o) σ ρ :=
  ⟨s.ext.trans (same_upd n), fun a u h1 h2 h3 => by
    obtain ⟨h4, h5⟩ := s.frm a u h1 h2 h3
    have ne := ne_of_none h4 h
    exact ⟨by rw [upd_ne ne]; exact h4, by rw [upd_ne ne]; exact h5⟩, s.new, s.pin, s.ln⟩
theorem EnvR.grow (e : EnvR K F H σ ρ) {H' : Hp} (s : Same H H') : EnvR K F H' σ ρ :=
  ⟨e.sub.trans s, e.len, e.fr, fun i c d h1 h2 => by
    obtain ⟨a, h3, h4, h5⟩ := e.on i c d h1 h2
    refine ⟨a, h3, h4, ?_⟩
    obtain ⟨u, hu⟩ := h5.some
    rw [s _ _ hu, ← hu]
    exact h5, e.ap⟩
theorem Stp.grow {F0 H0 : Hp} {ρ0 : Rho} (s : Stp F0 H0 σ ρ0 F H σ ρ) {H' : Hp} (m : Same H H') : Stp F0 H0 σ ρ0 F H' σ ρ :=
  ⟨s.ext, fun a u h1 h2 h3 => by
    obtain ⟨h4, h5⟩ := s.frm a u h1 h2 h3
    exact ⟨m _ _ h4, h5⟩, s.new, s.pin, s.ln⟩
/-- what an answer may do next -/
theorem pq_of {F0 H0 : Hp} {ρ0 : Rho} {Q : VK} {d : D} {b : Bool} (e : EnvR K F H σ ρ) (s : Stp F0 H0 σ ρ0 F H σ ρ) (s0 : Same F0 H0)
    (k : ∀ F' H', EnvR K F' H' σ ρ → Stp F0 H0 σ ρ0 F' H' σ ρ → ∀ v, Res K H0 ρ0 F' H' σ ρ v d b → Q v H') : PQ K F H Q d b := by
  intro H' sm
  have e := e.grow sm
  have s := s.grow sm
  refine ⟨fun v hb r => k F H' e s v ?_, fun p o h hb r => k _ _ (e.allocF h) (s.allocF (e.noF h) h) _ ?_, fun p o h hb t => k _ _ (e.alloc h) (s.alloc h) _ ?_⟩
  · unfold Res; rw [hb]; simpa using r
  · unfold Res; rw [hb]; simpa using r
  · unfold Res
    rw [if_pos hb]
    exact ⟨p, rfl, e.noF h, e.noOn h, by rw [upd_same]; exact t, s.org e.sub (.inr h)⟩

/-! ### looking at a value -/
theorem NR.rep (s : Same F H) {v : V} {d : D} (h : NR K F H v d) : Rep K H v d := by
  rcases h with h | ⟨a, rfl, h⟩
  · exact h.mono s
  · exact h.rep s
theorem NR.int {v : V} {i : Int} (h : NR K F H v (.int i)) : v = .int i := by
  rcases h with h | ⟨a, rfl, h⟩
  · cases h; rfl
  · exact h.elim
theorem NR.bl {v : V} {i : Bool} (h : NR K F H v (.bl i)) : v = .bl i := by
  rcases h with h | ⟨a, rfl, h⟩
  · cases h; rfl
  · exact h.elim
theorem NR.str {v : V} {s : List Nat} (h : NR K F H v (.str s)) : v = .str (toS s) := by
  rcases h with h | ⟨a, rfl, h⟩
  · cases h; rfl
  · exact h.elim
theorem NR.non {v : V} (h : NR K F H v .non) : v = .non := by
  rcases h with h | ⟨a, rfl, h⟩
  · cases h; rfl
  · exact h.elim
theorem NR.tup {v : V} {ds : List D} (h : NR K F H v (.tup ds)) : ∃ a vs, v = .ref a ∧ SqT K F a vs ∧ RepL K F vs ds := by
  rcases h with h | ⟨a, rfl, h⟩
  · cases h with | tup h r => exact ⟨_, _, rfl, h, r⟩
  · exact h.elim
theorem NR.lstH (s : Same F H) {v : V} {ds : List D} (h : NR K F H v (.lst ds)) : ∃ a vs, v = .ref a ∧ H a = some (.lst vs) ∧ RepL K F vs ds := by
  rcases h with h | ⟨a, rfl, h⟩
  · cases h with | lst h r => exact ⟨_, _, rfl, s _ _ h, r⟩
  · obtain ⟨vs, h1, h2⟩ := h
    exact ⟨a, vs, rfl, h1, h2⟩
theorem NR.lst (s : Same F H) {v : V} {ds : List D} (h : NR K F H v (.lst ds)) : ∃ a vs, v = .ref a ∧ SqL K H a vs ∧ RepL K F vs ds := by
  obtain ⟨a, vs, e, h1, r⟩ := h.lstH s
  exact ⟨a, vs, e, SqL.of h1, r⟩
theorem NR.scr (s : Same F H) {v : V} {ns : List Int} (h : NR K F H v (.scr ns)) : ∃ a, v = .ref a ∧ SqL K H a (ns.map V.int) := by
  rcases h with h | ⟨a, rfl, h⟩
  · cases h with | scr h => exact ⟨_, rfl, same_L s h⟩
  · exact h.elim
end

section
variable {U : Sur} {W : WX} {σ : Sg} {H : Hp} {Q : VK} {p : P}
def PrimR (U : Sur) (p : P) (Q : VK) : List V → Hp → Prop := fun vs H1 => ∃ F ds d b, Same F H1 ∧ NRL U.K F H1 vs ds ∧ p.sem ds = some (d, b) ∧ PQ U.K F H1 Q d b ∧ (p.pk = false → RepL U.K F vs ds)
theorem AgR.app {K : PySem.W.Frag} {F : Hp} {σ : Sg} : ∀ {vs ws : List V} {as bs : List Ag}, AgR K F σ vs as → AgR K F σ ws bs → AgR K F σ (vs ++ ws) (as ++ bs)
  | _, _, _, _, .nil, h => h
  | _, _, _, _, .vl h r, g => .vl h (AgR.app r g)
  | _, _, _, _, .pk h r, g => .pk h (AgR.app r g)
def allVl : List Ag → Prop
  | [] => True
  | .vl _ :: r => allVl r
  | .pk _ :: _ => False
theorem evs_vl {cs : CS} : ∀ {es : List E} {ρ ρ' : Rho} {as : List Ag}, evs cs false es ρ = .ok as ρ' → allVl as
  | [], ρ, ρ', as, h => by rw [evs] at h; cases h; trivial
  | e :: es, ρ, ρ', as, h => by
    rw [evs] at h
    unfold argOf at h
    rw [if_neg (by simp)] at h
    cases hr : ev cs e ρ with
    | ok v ρ1 =>
      rw [hr] at h
      have h : ((evs cs false es ρ1).bind fun as ρ2 => R.ok (.vl v.1 :: as) ρ2) = .ok as ρ' := h
      cases hq : evs cs false es ρ1 with
      | ok bs ρ2 =>
        rw [hq] at h
        have h : R.ok (Ag.vl v.1 :: bs) ρ2 = .ok as ρ' := h
        cases h
        exact (evs_vl hq : allVl bs)
      | ex x ρ2 => rw [hq] at h; exact nomatch h
      | no => rw [hq] at h; exact nomatch h
    | ex x ρ1 => rw [hr] at h; exact nomatch h
    | no => rw [hr] at h; exact nomatch h
theorem vl_rep {K : PySem.W.Frag} {F : Hp} {σ : Sg} {ρ : Rho} : ∀ {vs : List V} {as : List Ag} {ds : List D}, AgR K F σ vs as → allVl as → gets ρ as = some ds → RepL K F vs ds
  | _, _, ds, .nil, _, h => by simp [gets] at h; subst h; exact .nil
  | _, _, ds, .vl hd r, a, h => by
    simp only [gets, Ag.get, Option.bind_some, Option.map_eq_some_iff] at h
    obtain ⟨es, h1, h2⟩ := h
    subst h2
    exact .cons hd (vl_rep r a h1)
  | _, _, ds, .pk hv r, a, h => a.elim
/-- a primitive's reading -/
def tP (U : Sur) (W : WX) (p : P) (es : List E) : TE := fun σ H Q => tDs U W p.pk es σ H (PrimR U p Q)
theorem prim_core {es : List E} (h : tD U W (.prim p es) σ H Q) : tP U W p es σ H Q := by
  obtain ⟨F, ρ, er, h⟩ := h
  rw [ev] at h
  refine ⟨F, ρ, er, h.bind3 fun as ρ1 F1 H1 heq k e1 s1 vs hv => ?_⟩
  cases hg : (gets ρ1 as).bind p.sem with
  | none => rw [hg] at k; exact k.elim
  | some r =>
    rw [hg] at k
    obtain ⟨ds, h1, h2⟩ := Option.bind_eq_some_iff.mp hg
    obtain ⟨d, b⟩ := r
    exact ⟨F1, ds, d, b, e1.sub, gets_nr e1 hv h1, h2, pq_of e1 s1 er.sub k, fun hp => by rw [hp] at heq; exact vl_rep hv (evs_vl heq) h1⟩
/-- an answer's truth in the heap -/
theorem truV_of {K : PySem.W.Frag} {F H : Hp} {v : V} {d : D} {t : Bool} (s : Same F H) (n : NR K F H v d) (h : tru d = some t) : TruV K v H t := by
  have lr : ∀ {vs : List V} {ds : List D}, RepL K F vs ds → (!vs.isEmpty) = !ds.isEmpty := fun r => by cases r <;> rfl
  cases d with
  | non => cases n.non; cases h; rfl
  | bl b => cases n.bl; cases h; rfl
  | int i => cases n.int; cases h; rfl
  | str z =>
    cases n.str
    have h : (if z.length ≤ LIM then some (!z.isEmpty) else none) = some t := h
    by_cases hz : z.length ≤ LIM
    · rw [if_pos hz] at h
      cases h
      have e : (toS z).length = z.length := by simp [Str.length]
      refine ⟨?_, ?_⟩
      · rw [e]
        exact Nat.le_trans hz (by rw [sizeLine_eq]; show 1000000 ≤ 16777216; decide)
      · rw [e]
        cases z with
        | nil => rfl
        | cons c z =>
          have : (((c :: z).length : Int) != 0) = true := by
            rw [bne_iff_ne, List.length_cons]
            omega
          rw [this]
          rfl
    · rw [if_neg hz] at h
      cases h
  | tup ds =>
    obtain ⟨a, vs, rfl, h1, r⟩ := n.tup
    cases h
    exact .inr (.inl ⟨vs, same_T s h1, (lr r).symm⟩)
  | lst ds =>
    obtain ⟨a, vs, rfl, h1, r⟩ := n.lst s
    cases h
    exact .inl ⟨vs, h1, (lr r).symm⟩
  | dct _ _ _ => cases h
  | ins _ _ _ => cases h
  | scr _ => cases h
/-- .. as a test -/
theorem prim_coreT {es : List E} {Q : Bool → Hp → Prop} (h : tT U W (.prim p es) σ H Q) : tP U W p es σ H fun v H' => ∃ k, TruV U.K v H' k ∧ Q k H' := by
  obtain ⟨F, ρ, er, h⟩ := h
  rw [evt] at h
  refine ⟨F, ρ, er, h.bind3 fun as ρ1 F1 H1 heq k e1 s1 vs hv => ?_⟩
  cases hg : (gets ρ1 as).bind p.sem with
  | none => rw [hg] at k; exact k.elim
  | some r =>
    rw [hg] at k
    obtain ⟨ds, h1, h2⟩ := Option.bind_eq_some_iff.mp hg
    obtain ⟨d, b⟩ := r
    cases ht : tru d with
    | none => simp only [ht] at k; exact k.elim
    | some t =>
      simp only [ht] at k
      refine ⟨F1, ds, d, b, e1.sub, gets_nr e1 hv h1, h2, fun H2 sm => have e1 := e1.grow sm; have s1 := s1.grow sm; ⟨fun v hb r => ⟨t, truV_of e1.sub (.inl r) ht, k F1 H2 e1 s1⟩, fun q o hp hb r => ⟨t, truV_of (e1.allocF hp).sub (.inl r) ht, k _ _ (e1.allocF hp) (s1.allocF (e1.noF hp) hp)⟩,
        fun q o hp hb tp => ⟨t, truV_of (e1.alloc hp).sub (.inr ⟨q, rfl, by rw [upd_same]; exact tp⟩) ht, k _ _ (e1.alloc hp) (s1.alloc hp)⟩⟩, fun hp => by rw [hp] at heq; exact vl_rep hv (evs_vl heq) h1⟩
/-- .. a test by a comparison -/
theorem prim_coreB {es : List E} {Q : Bool → Hp → Prop} (hb : ∀ ds d b, p.sem ds = some (d, b) → ∃ t, d = .bl t) (h : tT U W (.prim p es) σ H Q) : tP U W p es σ H fun v H' => ∃ k, v = .bl k ∧ Q k H' := by
  obtain ⟨F, ρ, er, h⟩ := prim_coreT h
  refine ⟨F, ρ, er, h.mono fun as ρ' F' H' _ _ _ k vs hv => ?_⟩
  obtain ⟨F1, ds, d, b, s, n, hs, q, rl⟩ := k vs hv
  obtain ⟨t, rfl⟩ := hb _ _ _ hs
  refine ⟨F1, ds, _, b, s, n, hs, fun H2 sm => ⟨fun v hb r => ?_, fun q o hp hb r => (nomatch r), fun q o hp hb tp => False.elim tp⟩, rl⟩
  obtain ⟨k, h1, h2⟩ := (q H2 sm).old v hb r
  cases r
  exact ⟨k, by rw [show k = t from h1], h2⟩
theorem NRL.one {K : PySem.W.Frag} {F H : Hp} {v : V} {ds : List D} (h : NRL K F H [v] ds) : ∃ d, ds = [d] ∧ NR K F H v d := by
  cases h with
  | cons h r => cases r; exact ⟨_, rfl, h⟩
theorem NRL.two {K : PySem.W.Frag} {F H : Hp} {v u : V} {ds : List D} (h : NRL K F H [v, u] ds) : ∃ d e, ds = [d, e] ∧ NR K F H v d ∧ NR K F H u e := by
  cases h with
  | cons h r =>
    cases r with
    | cons g r => cases r; exact ⟨_, _, rfl, h, g⟩
theorem NRL.three {K : PySem.W.Frag} {F H : Hp} {v u w : V} {ds : List D} (h : NRL K F H [v, u, w] ds) : ∃ d e f, ds = [d, e, f] ∧ NR K F H v d ∧ NR K F H u e ∧ NR K F H w f := by
  cases h with
  | cons h r =>
    obtain ⟨d, e, rfl, h1, h2⟩ := r.two
    exact ⟨_, _, _, rfl, h, h1, h2⟩
theorem prim1 {a : E} {R : V → Hp → Prop} (h : tP U W p [a] σ H Q) (m : ∀ F H1 v x d b, Same F H1 → NR U.K F H1 v x → p.sem [x] = some (d, b) → PQ U.K F H1 Q d b → R v H1) : tE U W a σ H R := by
  have h1 := tDs_cons h
  exact tE_mono h1 fun v H1 h2 => by
    obtain ⟨F, ds, d, b, s, n, hs, q, _⟩ := tDs_nil h2
    obtain ⟨x, rfl, hx⟩ := n.one
    exact m F H1 v x d b s hx hs q
theorem prim2 {a c : E} {R : V → V → Hp → Prop} (h : tP U W p [a, c] σ H Q) (m : ∀ F H1 v u x y d b, Same F H1 → NR U.K F H1 v x → NR U.K F H1 u y → p.sem [x, y] = some (d, b) → PQ U.K F H1 Q d b → R v u H1) :
    tE U W a σ H fun v H1 => tE U W c σ H1 fun u H2 => R v u H2 := by
  have h1 := tDs_cons h
  exact tE_mono h1 fun v H1 h2 => tE_mono (tDs_cons h2) fun u H2 h3 => by
    obtain ⟨F, ds, d, b, s, n, hs, q, _⟩ := tDs_nil h3
    obtain ⟨x, y, rfl, hx, hy⟩ := n.two
    exact m F H2 v u x y d b s hx hy hs q
theorem prim3 {a c e : E} {R : V → V → V → Hp → Prop} (h : tP U W p [a, c, e] σ H Q) (m : ∀ F H1 v u w x y z d b, Same F H1 → NR U.K F H1 v x → NR U.K F H1 u y → NR U.K F H1 w z → p.sem [x, y, z] = some (d, b) → PQ U.K F H1 Q d b → R v u w H1) :
    tE U W a σ H fun v H1 => tE U W c σ H1 fun u H2 => tE U W e σ H2 fun w H3 => R v u w H3 := by
  have h1 := tDs_cons h
  exact tE_mono h1 fun v H1 h2 => tE_mono (tDs_cons h2) fun u H2 h3 => tE_mono (tDs_cons h3) fun w H3 h4 => by
    obtain ⟨F, ds, d, b, s, n, hs, q, _⟩ := tDs_nil h4
    obtain ⟨x, y, z, rfl, hx, hy, hz⟩ := n.three
    exact m F H3 v u w x y z d b s hx hy hz hs q
end
end BV

/-! BvP1: arithmetic, comparisons. -/
namespace BV
open PySem L2 PySem.Spec PyProof.Rows

theorem lim_line {n : Nat} (h : n ≤ LIM) : n ≤ sizeLine := Nat.le_trans h (by rw [sizeLine_eq]; decide)
theorem toS_len (s : List Nat) : (toS s).length = s.length := by simp [Str.length]
theorem toS_app (a b : List Nat) : toS a ++ toS b = toS (a ++ b) := by
  apply Str.ext'
  show a.toArray ++ b.toArray = (a ++ b).toArray
  simp
theorem bits64_of {i : Int} (h : bits64 i = true) : -(2 ^ 64) < i ∧ i < 2 ^ 64 := by
  unfold bits64 at h
  rw [Bool.and_eq_true, decide_eq_true_eq, decide_eq_true_eq] at h
  exact h

section
variable {X : Cx} {U : Sur} {W : WX} {a b : Expr} {ea eb : E} {pos : Pos}
/-- list + list, whatever is read -/
def rCatL (K : PySem.W.Frag) : R2 := fun x y H Q => ∃ l b xs zs, x = .ref l ∧ y = .ref b ∧ SqL K H l xs ∧ SqL K H b zs ∧ xs.length + zs.length ≤ sizeLine ∧ ∀ p, H p = none → Q (.ref p) (upd H p (.lst (xs ++ zs)))
theorem op_catL : OpR X (binaryOp .Add) (rCatL X.K) := by
  intro pins s σ H x y v u Q I rx ry h
  obtain ⟨l, b, xs, zs, rfl, rfl, hH, hB, hz, q⟩ := h
  cases rx
  cases ry
  obtain ⟨its, r, pl, hl⟩ := I.list hH
  obtain ⟨its2, r2, pl2, hl2⟩ := I.list hB
  have hr := r.length
  have hr2 := r2.length
  obtain ⟨⟨cls, dd, data, sl⟩, ho, hc, n, hd⟩ := pl.isList
  obtain ⟨⟨cls2, dd2, data2, sl2⟩, ho2, hc2, n2, hd2⟩ := pl2.isList
  simp only at hc hd hc2 hd2
  subst hc hd hc2 hd2
  refine concat_meets ⟨_, ho, rfl⟩ ⟨_, ho2, rfl⟩ noFill_list_add seq_list_add PySem.F.slot_list_add PySem.F.entry_list_add (PySem.F.args_list_add_2 _ _) (list_addW l b its.toArray its2.toArray n n2 dd dd2 sl sl2 (by simp only [List.size_toArray]; omega)) ⟨ho, ho2, ?_⟩
  have ea : its.toArray ++ its2.toArray = (its ++ its2).toArray := by simp
  rw [ea]
  exact ⟨.ref _, _, I.lnew (t' := s.toks) (r.append r2) (by rw [List.length_append]; omega), rfl, q _ I.fresh⟩
theorem snd_add (hK : X.K = U.K) (ha : PE X a (tE U W ea)) (hb : PE X b (tE U W eb)) : PE X (.BinOp a .Add b pos) (tP U W .add [ea, eb]) := by
  have hT := op_catA (X := X)
  have hL := op_catL (X := X)
  rw [hK] at hT hL
  refine PE.imp (pe_op (op_add.or (op_add_str.or (hT.or hL))) ha hb) fun σ H Q h => prim2 h ?_
  intro F H1 v u x y d bb s hx hy hs q
  have hs : addS x y = some (d, bb) := hs
  unfold addS at hs
  split at hs
  · cases hs
    exact .inl ⟨_, _, hx.int, hy.int, q.old _ rfl (.int _)⟩
  · split at hs
    · cases hs
      rename_i z
      exact .inr (.inl ⟨_, _, hx.str, hy.str, by rw [toS_len, toS_len]; exact lim_line z, by rw [toS_app]; exact q.old _ rfl (.str _)⟩)
    · cases hs
  · split at hs
    · cases hs
      rename_i z
      obtain ⟨p1, xs, e1, h1, r1⟩ := hx.tup
      obtain ⟨p2, ys, e2, h2, r2⟩ := hy.tup
      have l1 := r1.length
      have l2 := r2.length
      refine .inr (.inr (.inl ⟨p1, p2, xs, ys, e1, e2, same_T s h1, same_T s h2, by rw [l1, l2]; exact lim_line z, ?_⟩))
      refine ⟨fun z0 => ?_, fun z1 z0 => ?_, fun z1 z0 p hp => ?_⟩
      · subst z0
        cases r1
        exact q.old _ rfl (by rw [e2.symm]; subst e2; exact .tup h2 r2)
      · subst z0
        cases r2
        rw [List.append_nil] at q
        exact q.old _ rfl (.tup h1 r1)
      · have sm : Same F (upd F p (.tup (xs ++ ys))) := fun b u w => by
          rw [upd_ne]
          · exact w
          · intro e
            subst e
            have := s _ _ w
            rw [hp] at this; cases this
        exact q.frz p _ hp rfl (.tup (SqT.of upd_same) ((r1.append r2).mono sm))
    · cases hs
  · split at hs
    · cases hs
      rename_i z
      obtain ⟨p1, xs, e1, h1, r1⟩ := hx.lst s
      obtain ⟨p2, ys, e2, h2, r2⟩ := hy.lst s
      have l1 := r1.length
      have l2 := r2.length
      exact .inr (.inr (.inr ⟨p1, p2, xs, ys, e1, e2, h1, h2, by rw [l1, l2]; exact lim_line z, fun p hp => q.new p _ hp rfl ⟨_, rfl, r1.append r2⟩⟩))
    · cases hs
  · cases hs

/-! ### ints -/
theorem int2 {op : Operator} {p : P} {f : Int → Int → Option Int} {C : Int → Int → Prop} {g : Int → Int → Int} (ho : OpR X (binaryOp op) (rI C fun i j => .int (g i j))) (hp : ∀ x y, p.sem [x, y] = intS f x y)
    (hf : ∀ i j k, f i j = some k → C i j ∧ g i j = k) (ha : PE X a (tE U W ea)) (hb : PE X b (tE U W eb)) : PE X (.BinOp a op b pos) (tP U W p [ea, eb]) := by
  refine PE.imp (pe_op ho ha hb) fun σ H Q h => prim2 h ?_
  intro F H1 v u x y d bb s hx hy hs q
  rw [hp] at hs
  unfold intS at hs
  split at hs
  · obtain ⟨k, h1, h2⟩ := Option.map_eq_some_iff.mp hs
    cases h2
    obtain ⟨h3, h4⟩ := hf _ _ _ h1
    exact ⟨_, _, hx.int, hy.int, h3, by show Q (.int (g _ _)) H1; rw [h4]; exact q.old _ rfl (.int _)⟩
  · cases hs
theorem rI_of {f : Value → Value → Sem Value} {g : Int → Int → V} (h : OpR X f (rI0 g)) : OpR X f (rI (fun _ _ => True) g) := by
  intro pins s σ H x y v u Q I rx ry q
  obtain ⟨i, j, e1, e2, _, q⟩ := q
  exact h pins s σ H x y v u Q I rx ry ⟨i, j, e1, e2, q⟩
theorem snd_sub (ha : PE X a (tE U W ea)) (hb : PE X b (tE U W eb)) : PE X (.BinOp a .Sub b pos) (tP U W .sub [ea, eb]) :=
  int2 (g := fun i j => i - j) (rI_of op_sub) (fun _ _ => rfl) (fun i j k h => ⟨trivial, Option.some.inj h⟩) ha hb
theorem snd_mul (ha : PE X a (tE U W ea)) (hb : PE X b (tE U W eb)) : PE X (.BinOp a .Mult b pos) (tP U W .mul [ea, eb]) :=
  int2 (g := fun i j => i * j) op_mul (fun _ _ => rfl) (fun i j k h => by
    unfold mulI at h
    split at h
    · rename_i z
      exact ⟨z.imp bits64_of bits64_of, Option.some.inj h⟩
    · cases h) ha hb
theorem snd_mod (ha : PE X a (tE U W ea)) (hb : PE X b (tE U W eb)) : PE X (.BinOp a .Mod b pos) (tP U W .mod [ea, eb]) :=
  int2 (g := fun i j => i % j) op_mod (fun _ _ => rfl) (fun i j k h => by
    unfold modI at h
    split at h
    · rename_i z
      exact ⟨z, Option.some.inj h⟩
    · cases h) ha hb
theorem snd_fdiv (ha : PE X a (tE U W ea)) (hb : PE X b (tE U W eb)) : PE X (.BinOp a .FloorDiv b pos) (tP U W .fdiv [ea, eb]) :=
  int2 (g := fun i j => i / j) op_fdivW (fun _ _ => rfl) (fun i j k h => by
    unfold fdivI at h
    split at h
    · rename_i z
      exact ⟨wide_div z.1 z.2 (by decide) (by decide), Option.some.inj h⟩
    · cases h) ha hb
theorem snd_pow (ha : PE X a (tE U W ea)) (hb : PE X b (tE U W eb)) : PE X (.BinOp a .Pow b pos) (tP U W .pow [ea, eb]) :=
  int2 (g := fun i j => i ^ j.toNat) op_pow (fun _ _ => rfl) (fun i j k h => by
    unfold powI at h
    split at h
    · rename_i z
      exact ⟨⟨z.1, Int.le_trans z.2.1 (by decide), z.2.2⟩, Option.some.inj h⟩
    · cases h) ha hb
theorem snd_neg (ha : PE X a (tE U W ea)) : PE X (.UnaryOp .USub a pos) (tP U W .neg [ea]) := by
  refine PE.imp (pe_un un_neg ha) fun σ H Q h => prim1 h ?_
  intro F H1 v x d bb s hx hs q
  have hs : negS x = some (d, bb) := hs
  unfold negS at hs
  split at hs
  · cases hs
    exact ⟨_, hx.int, q.old _ rfl (.int _)⟩
  · cases hs

/-! ### comparisons, as values and as tests -/
/-- a comparison by its rule on two values -/
theorem cmp2 {op : CmpOp} {p : P} {r : R2} (ho : OpR X (compareOp op) r) (hm : behindInMarks op b = false) (hs : ∀ F H1 v u x y d bb (Q : VK), Same F H1 → NR U.K F H1 v x → NR U.K F H1 u y → p.sem [x, y] = some (d, bb) → PQ U.K F H1 Q d bb → r v u H1 Q)
    (ha : PE X a (tE U W ea)) (hb : PE X b (tE U W eb)) : PE X (.Compare a [op] [b] pos) (tP U W p [ea, eb]) :=
  PE.imp (pe_cmpR ho ha hb hm) fun σ H Q h => prim2 h fun F H1 v u x y d bb s hx hy h q => hs F H1 v u x y d bb Q s hx hy h q
theorem cmp2T {op : CmpOp} {p : P} {r : R2} (ho : OpR X (compareOp op) r) (hm : behindInMarks op b = false) (hs : ∀ F H1 v u x y d bb (Q : VK), Same F H1 → NR U.K F H1 v x → NR U.K F H1 u y → p.sem [x, y] = some (d, bb) → PQ U.K F H1 Q d bb → r v u H1 Q)
    (hb' : ∀ ds d b, p.sem ds = some (d, b) → ∃ t, d = .bl t) (ha : PE X a (tE U W ea)) (hb : PE X b (tE U W eb)) : PT X (.Compare a [op] [b] pos) (tT U W (.prim p [ea, eb])) :=
  PT.imp (pt_cmpR ho ha hb hm) fun σ H Q h => prim2 (prim_coreB hb' h) fun F H1 v u x y d bb s hx hy h q => hs F H1 v u x y d bb _ s hx hy h q
theorem cmpS_ok {K : PySem.W.Frag} {g : Int → Int → Bool} {F H1 : Hp} {v u : V} {x y d : D} {bb : Bool} {Q : VK} (hx : NR K F H1 v x) (hy : NR K F H1 u y) (h : cmpS g x y = some (d, bb)) (q : PQ K F H1 Q d bb) : rI0 (fun i j => .bl (g i j)) v u H1 Q := by
  unfold cmpS at h
  split at h
  · cases h
    exact ⟨_, _, hx.int, hy.int, q.old _ rfl (.bl _)⟩
  · cases h
theorem cmpS_bl {g : Int → Int → Bool} {x y d : D} {bb : Bool} (h : cmpS g x y = some (d, bb)) : ∃ t, d = .bl t := by
  unfold cmpS at h
  split at h
  · cases h; exact ⟨_, rfl⟩
  · cases h

theorem nomk {b : Expr} {op : CmpOp} (h : op ≠ .In := by decide) (h2 : op ≠ .NotIn := by decide) : behindInMarks op b = false := nomark b h h2
/-- the rule of a comparison: the way from its semantics -/
structure CmpOk (X : Cx) (U : Sur) (op : CmpOp) (p : P) (r : R2) : Prop where
  op : OpR X (compareOp op) r
  sem : ∀ F H1 v u x y d bb (Q : VK), Same F H1 → NR U.K F H1 v x → NR U.K F H1 u y → p.sem [x, y] = some (d, bb) → PQ U.K F H1 Q d bb → r v u H1 Q
  bl : ∀ ds d b, p.sem ds = some (d, b) → ∃ t, d = .bl t
theorem sem_two {p : P} {f : D → D → Option (D × Bool)} (hp : ∀ x y, p.sem [x, y] = f x y) (hn : ∀ ds, (∀ x y, ds ≠ [x, y]) → p.sem ds = none) {g : D → Prop} (hf : ∀ x y d b, f x y = some (d, b) → g d) : ∀ ds d b, p.sem ds = some (d, b) → g d := by
  intro ds d b h
  by_cases e : ∃ x y, ds = [x, y]
  · obtain ⟨x, y, rfl⟩ := e
    rw [hp] at h
    exact hf _ _ _ _ h
  · rw [hn ds fun x y z => e ⟨x, y, z⟩] at h
    cases h
theorem two_or (ds : List D) : (∃ x y, ds = [x, y]) ∨ ∀ x y, ds ≠ [x, y] := by
  by_cases e : ∃ x y, ds = [x, y]
  · exact .inl e
  · exact .inr fun x y z => e ⟨x, y, z⟩
theorem cmp_lt : CmpOk X U .Lt .lt (rI0 fun i j => .bl (decide (i < j))) := ⟨op_lt, fun F H1 v u x y d bb Q s hx hy h q => cmpS_ok hx hy h q, fun ds d b h => by
  rcases two_or ds with ⟨x, y, rfl⟩ | n
  · exact cmpS_bl h
  · match ds, n, h with
    | [x, y], n, h => exact absurd rfl (n x y)⟩
theorem cmp_le : CmpOk X U .LtE .le (rI0 fun i j => .bl (decide (i ≤ j))) := ⟨op_le, fun F H1 v u x y d bb Q s hx hy h q => cmpS_ok hx hy h q, fun ds d b h => by
  rcases two_or ds with ⟨x, y, rfl⟩ | n
  · exact cmpS_bl h
  · match ds, n, h with
    | [x, y], n, h => exact absurd rfl (n x y)⟩
theorem cmp_gt : CmpOk X U .Gt .gt (rI0 fun i j => .bl (decide (j < i))) := ⟨op_gt, fun F H1 v u x y d bb Q s hx hy h q => cmpS_ok hx hy h q, fun ds d b h => by
  rcases two_or ds with ⟨x, y, rfl⟩ | n
  · exact cmpS_bl h
  · match ds, n, h with
    | [x, y], n, h => exact absurd rfl (n x y)⟩
theorem cmp_ge : CmpOk X U .GtE .ge (rI0 fun i j => .bl (decide (j ≤ i))) := ⟨op_ge, fun F H1 v u x y d bb Q s hx hy h q => cmpS_ok hx hy h q, fun ds d b h => by
  rcases two_or ds with ⟨x, y, rfl⟩ | n
  · exact cmpS_bl h
  · match ds, n, h with
    | [x, y], n, h => exact absurd rfl (n x y)⟩

/-! ### == -/
mutual
def py : D → PyData
  | .non => .none
  | .bl b => .bool b
  | .int i => .int i
  | .str s => .str (toS s)
  | .tup xs => .tuple (pys xs)
  | .lst xs => .list (pys xs)
  | _ => .none
def pys : List D → List PyData
  | [] => []
  | x :: xs => py x :: pys xs
end
theorem str_ok {s : List Nat} (h : (s.all fun c => decide (c < 1114112)) = true) : PyData.strOk (toS s) = true := by
  unfold PyData.strOk
  rw [← Array.all_toList]
  exact h
mutual
theorem py_lay : ∀ {n : Nat} {d : D}, okd n d = true → (py d).canLay0 = true ∧ (py d).depth ≤ n
  | _, .non, _ => by simp [py, PyData.canLay0, PyData.depth]
  | _, .bl _, _ => by simp [py, PyData.canLay0, PyData.depth]
  | _, .int _, _ => by simp [py, PyData.canLay0, PyData.depth]
  | _, .str s, h => by
    have h' : (s.all fun c => decide (c < 1114112)) = true := by rw [okd] at h; exact h
    simp only [py, PyData.canLay0, PyData.depth, str_ok h']
    exact ⟨trivial, Nat.zero_le _⟩
  | 0, .tup xs, h => by simp [okd] at h
  | 0, .lst xs, h => by simp [okd] at h
  | n + 1, .tup xs, h => by
    obtain ⟨h1, h2⟩ := pys_lay (n := n) (ds := xs) (by simpa [okd] using h)
    simp [py, PyData.canLay0, PyData.depth, h1]
    omega
  | n + 1, .lst xs, h => by
    obtain ⟨h1, h2⟩ := pys_lay (n := n) (ds := xs) (by simpa [okd] using h)
    simp [py, PyData.canLay0, PyData.depth, h1]
    omega
  | n, .dct _ _ _, h => by cases n <;> simp [okd] at h
  | n, .ins _ _ _, h => by cases n <;> simp [okd] at h
  | n, .scr _, h => by cases n <;> simp [okd] at h
theorem pys_lay : ∀ {n : Nat} {ds : List D}, okds n ds = true → PyData.canLayAll0 (pys ds) = true ∧ PyData.depthAll (pys ds) ≤ n
  | _, [], _ => by simp [pys, PyData.canLayAll0, PyData.depthAll]
  | n, x :: xs, h => by
    have h' : okd n x = true ∧ okds n xs = true := by simpa [okds] using h
    obtain ⟨h1, h2⟩ := py_lay h'.1
    obtain ⟨h3, h4⟩ := pys_lay h'.2
    simp [pys, PyData.canLayAll0, PyData.depthAll, h1, h3]
    omega
end
mutual
theorem py_dp {K : PySem.W.Frag} {H : Hp} : ∀ {n : Nat} {d : D} {v : V}, okd n d = true → Rep K H v d → Dp K H v (py d)
  | _, .non, _, _, h => by cases h; exact .non
  | _, .bl _, _, _, h => by cases h; exact .bl _
  | _, .int _, _, _, h => by cases h; exact .int _
  | _, .str _, _, _, h => by cases h; exact .str _
  | 0, .tup xs, _, o, h => by simp [okd] at o
  | 0, .lst xs, _, o, h => by simp [okd] at o
  | n + 1, .tup xs, _, o, h => by
    cases h with
    | tup h r => exact .tup h (pys_dp (n := n) (by simpa [okd] using o) r)
  | n + 1, .lst xs, _, o, h => by
    cases h with
    | lst h r => exact .lst (SqL.of h) (pys_dp (n := n) (by simpa [okd] using o) r)
  | n, .dct _ _ _, _, o, h => by cases n <;> simp [okd] at o
  | n, .ins _ _ _, _, o, h => by cases n <;> simp [okd] at o
  | n, .scr _, _, o, h => by cases n <;> simp [okd] at o
theorem pys_dp {K : PySem.W.Frag} {H : Hp} : ∀ {n : Nat} {ds : List D} {vs : List V}, okds n ds = true → RepL K H vs ds → DpAll K H vs (pys ds)
  | _, [], _, _, h => by cases h; exact .nil
  | n, x :: xs, _, o, h => by
    have o' : okd n x = true ∧ okds n xs = true := by simpa [okds] using o
    cases h with
    | cons h r => exact .cons (py_dp o'.1 h) (pys_dp o'.2 r)
end
theorem toS_eq (a b : List Nat) : (toS a == toS b) = (a == b) := by
  by_cases h : a = b
  · subst h; simp
  · have h2 : toS a ≠ toS b := fun e => h (by have := congrArg (fun z => z.cps.toList) e; simpa using this)
    rw [beq_eq_false_iff_ne.mpr h, beq_eq_false_iff_ne.mpr h2]
mutual
theorem py_eqv : ∀ {n m : Nat} {d e : D}, okd n d = true → okd m e = true → PyData.eqv (py d) (py e) = eqd d e
  | n + 1, m + 1, .tup xs, .tup ys, h, g => by
    simp only [py, PyData.eqv, eqd]
    exact pys_eqv (n := n) (m := m) (by simpa [okd] using h) (by simpa [okd] using g)
  | n + 1, m + 1, .lst xs, .lst ys, h, g => by
    simp only [py, PyData.eqv, eqd]
    exact pys_eqv (n := n) (m := m) (by simpa [okd] using h) (by simpa [okd] using g)
  | _, _, .str a, .str b, _, _ => by
    simp only [py, PyData.eqv, eqd]
    exact toS_eq a b
  | 0, _, .tup xs, _, h, g => by simp [okd] at h
  | 0, _, .lst xs, _, h, g => by simp [okd] at h
  | _, 0, _, .tup xs, h, g => by simp [okd] at g
  | _, 0, _, .lst xs, h, g => by simp [okd] at g
  | n, _, .dct _ _ _, _, h, g => by cases n <;> simp [okd] at h
  | n, _, .ins _ _ _, _, h, g => by cases n <;> simp [okd] at h
  | n, _, .scr _, _, h, g => by cases n <;> simp [okd] at h
  | _, m, _, .dct _ _ _, h, g => by cases m <;> simp [okd] at g
  | _, m, _, .ins _ _ _, h, g => by cases m <;> simp [okd] at g
  | _, m, _, .scr _, h, g => by cases m <;> simp [okd] at g
  | _, _, .non, .non, _, _ => by simp only [py, PyData.eqv, eqd]
  | _, _, .non, .bl _, _, _ => by simp only [py, PyData.eqv, eqd]
  | _, _, .non, .int _, _, _ => by simp only [py, PyData.eqv, eqd]
  | _, _, .non, .str _, _, _ => by simp only [py, PyData.eqv, eqd]
  | _, _ + 1, .non, .tup _, _, _ => by simp only [py, PyData.eqv, eqd]
  | _, _ + 1, .non, .lst _, _, _ => by simp only [py, PyData.eqv, eqd]
  | _, _, .bl _, .non, _, _ => by simp only [py, PyData.eqv, eqd]
  | _, _, .bl _, .bl _, _, _ => by simp only [py, PyData.eqv, eqd]
  | _, _, .bl _, .int _, _, _ => by simp only [py, PyData.eqv, eqd]
  | _, _, .bl _, .str _, _, _ => by simp only [py, PyData.eqv, eqd]
  | _, _ + 1, .bl _, .tup _, _, _ => by simp only [py, PyData.eqv, eqd]
  | _, _ + 1, .bl _, .lst _, _, _ => by simp only [py, PyData.eqv, eqd]
  | _, _, .int _, .non, _, _ => by simp only [py, PyData.eqv, eqd]
  | _, _, .int _, .bl _, _, _ => by simp only [py, PyData.eqv, eqd]
  | _, _, .int _, .int _, _, _ => by simp only [py, PyData.eqv, eqd]
  | _, _, .int _, .str _, _, _ => by simp only [py, PyData.eqv, eqd]
  | _, _ + 1, .int _, .tup _, _, _ => by simp only [py, PyData.eqv, eqd]
  | _, _ + 1, .int _, .lst _, _, _ => by simp only [py, PyData.eqv, eqd]
  | _, _, .str _, .non, _, _ => by simp only [py, PyData.eqv, eqd]
  | _, _, .str _, .bl _, _, _ => by simp only [py, PyData.eqv, eqd]
  | _, _, .str _, .int _, _, _ => by simp only [py, PyData.eqv, eqd]
  | _, _ + 1, .str _, .tup _, _, _ => by simp only [py, PyData.eqv, eqd]
  | _, _ + 1, .str _, .lst _, _, _ => by simp only [py, PyData.eqv, eqd]
  | _ + 1, _, .tup _, .non, _, _ => by simp only [py, PyData.eqv, eqd]
  | _ + 1, _, .tup _, .bl _, _, _ => by simp only [py, PyData.eqv, eqd]
  | _ + 1, _, .tup _, .int _, _, _ => by simp only [py, PyData.eqv, eqd]
  | _ + 1, _, .tup _, .str _, _, _ => by simp only [py, PyData.eqv, eqd]
  | _ + 1, _ + 1, .tup _, .lst _, _, _ => by simp only [py, PyData.eqv, eqd]
  | _ + 1, _, .lst _, .non, _, _ => by simp only [py, PyData.eqv, eqd]
  | _ + 1, _, .lst _, .bl _, _, _ => by simp only [py, PyData.eqv, eqd]
  | _ + 1, _, .lst _, .int _, _, _ => by simp only [py, PyData.eqv, eqd]
  | _ + 1, _, .lst _, .str _, _, _ => by simp only [py, PyData.eqv, eqd]
  | _ + 1, _ + 1, .lst _, .tup _, _, _ => by simp only [py, PyData.eqv, eqd]
theorem pys_eqv : ∀ {n m : Nat} {ds es : List D}, okds n ds = true → okds m es = true → PyData.eqvAll (pys ds) (pys es) = eqds ds es
  | n, m, [], [], h, g => by simp [pys, PyData.eqvAll, eqds]
  | n, m, [], e :: es, h, g => by simp [pys, PyData.eqvAll, eqds]
  | n, m, d :: ds, [], h, g => by simp [pys, PyData.eqvAll, eqds]
  | n, m, d :: ds, e :: es, h, g => by
    have h' : okd n d = true ∧ okds n ds = true := by simpa [okds] using h
    have g' : okd m e = true ∧ okds m es = true := by simpa [okds] using g
    simp [pys, PyData.eqvAll, eqds, py_eqv h'.1 g'.1, pys_eqv h'.2 g'.2]
end
theorem shaped_of {d : D} (h : okd 64 d = true) : SeqAt.shaped (py d) = true := by
  obtain ⟨h1, h2⟩ := py_lay h
  unfold SeqAt.shaped
  rw [h1, Bool.true_and]
  exact decide_eq_true h2
theorem hu_64 {k : Nat} {A : Around} (hr : L2H.RoomH k A) : A.units + 64 < cLine := by have := hr.un; omega
theorem cmp_eq (hK : X.K = U.K) {k : Nat} (hr : L2H.RoomH k X.A) : CmpOk X U .Eq .eq (rEqD U.K) := by
  refine ⟨hK ▸ op_eqD (hu_64 hr), fun F H1 v u x y d bb Q s hx hy h q => ?_, fun ds d b h => ?_⟩
  · have h : eqS false x y = some (d, bb) := h
    unfold eqS at h
    split at h
    · rename_i o
      cases h
      exact ⟨py x, py y, py_dp o.1 (hx.rep s), py_dp o.2 (hy.rep s), shaped_of o.1, shaped_of o.2, by rw [py_eqv o.1 o.2]; exact q.old _ rfl (.bl _)⟩
    · cases h
  · rcases two_or ds with ⟨x, y, rfl⟩ | n
    · have h : eqS false x y = some (d, b) := h
      unfold eqS at h
      split at h
      · cases h; exact ⟨_, rfl⟩
      · cases h
    · match ds, n, h with
      | [x, y], n, h => exact absurd rfl (n x y)
theorem cmp_ne (hK : X.K = U.K) {k : Nat} (hr : L2H.RoomH k X.A) : CmpOk X U .NotEq .ne (rNeD U.K) := by
  refine ⟨hK ▸ op_neD (hu_64 hr), fun F H1 v u x y d bb Q s hx hy h q => ?_, fun ds d b h => ?_⟩
  · have h : eqS true x y = some (d, bb) := h
    unfold eqS at h
    split at h
    · rename_i o
      cases h
      exact ⟨py x, py y, py_dp o.1 (hx.rep s), py_dp o.2 (hy.rep s), shaped_of o.1, shaped_of o.2, by rw [py_eqv o.1 o.2]; exact q.old _ rfl (.bl _)⟩
    · cases h
  · rcases two_or ds with ⟨x, y, rfl⟩ | n
    · have h : eqS true x y = some (d, b) := h
      unfold eqS at h
      split at h
      · cases h; exact ⟨_, rfl⟩
      · cases h
    · match ds, n, h with
      | [x, y], n, h => exact absurd rfl (n x y)
end
end BV

/-! BvP2: in, is, subscripts, slices, calls of built-ins, displays. -/
namespace BV
open PySem L2 PySem.Spec PyProof.Rows

/-- not a starred thing -/
def nst : Expr → Bool
  | .Starred _ _ => false
  | _ => true
theorem star_cons {e : Expr} {es : List Expr} {env : PySem.Env} (h : nst e = true) : starEach (e :: es) env = (false, eval e env) :: starEach es env := by
  cases e <;> first | rfl | (simp [nst] at h)
theorem star_any {env : PySem.Env} {pos : Pos} : ∀ {es : List Expr}, es.all nst = true → (backTo pos (starEach es env)).any (·.1) = false
  | [], _ => rfl
  | e :: es, h => by
    rw [List.all_cons, Bool.and_eq_true] at h
    rw [star_cons h.1]
    show (false || (backTo pos (starEach es env)).any (·.1)) = false
    rw [star_any h.2]
    rfl
/-- not a slice -/
def nsl : Expr → Bool
  | .Slice _ _ _ _ => false
  | _ => true
theorem plain_ix {b : Expr} (h : nsl b = true) : PlainIx b := by
  intro o i
  cases b <;> first | rfl | (simp [nsl] at h)
def nset : Expr → Bool
  | .Set _ _ _ => false
  | _ => true
theorem no_mark {b : Expr} {op : CmpOp} (h : nset b = true) : behindInMarks op b = false := by
  cases b <;> first | rfl | (simp [nset] at h)

section
variable {X : Cx} {U : Sur} {W : WX} {a b : Expr} {ea eb : E} {pos : Pos}
theorem flat_V {K : PySem.W.Frag} {F : Hp} {v : V} {d : D} (h : Rep K F v d) (f : flatd d = true) : flatV v = true := by
  cases d <;> first | (cases h; rfl) | (simp [flatd] at f)
theorem nr_flat {K : PySem.W.Frag} {F H : Hp} {v : V} {d : D} (h : NR K F H v d) (f : flatd d = true) : Rep K F v d := by
  rcases h with h | ⟨p, rfl, h⟩
  · exact h
  · cases d <;> first | exact h.elim | (simp [flatd] at f)
theorem flat_eq {K : PySem.W.Frag} {F : Hp} {v u : V} {d e : D} (h : Rep K F v d) (g : Rep K F u e) (f : flatd d = true) (f2 : flatd e = true) : eqV v u = eqd d e := by
  cases d <;> first | (simp [flatd] at f; done) | (cases h; cases e <;> first | (simp [flatd] at f2; done) | (cases g; simp [eqV, eqd, toS_eq]))
theorem flat_all {K : PySem.W.Frag} {F : Hp} : ∀ {vs : List V} {ds : List D}, RepL K F vs ds → ds.all flatd = true → vs.all flatV = true
  | _, _, .nil, _ => rfl
  | _, _, .cons h r, f => by
    rw [List.all_cons, Bool.and_eq_true] at f ⊢
    exact ⟨flat_V h f.1, flat_all r f.2⟩
theorem flat_in {K : PySem.W.Frag} {F : Hp} {v : V} {d : D} (h : Rep K F v d) (f : flatd d = true) : ∀ {vs : List V} {ds : List D}, RepL K F vs ds → ds.all flatd = true → inV v vs = inD d ds
  | _, _, .nil, _ => rfl
  | _, _, .cons g r, q => by
    rw [List.all_cons, Bool.and_eq_true] at q
    have ih := flat_in h f r q.2
    unfold inV inD at ih ⊢
    rw [List.any_cons, List.any_cons, ih, flat_eq g h q.1 f]
/-! ### dicts, keys ints and texts -/
theorem key_eq {d e : D} {k j : Key} (h : keyD d = some k) (g : keyD e = some j) : eqd d e = decide (k = j) := by
  cases d <;> simp only [keyD] at h <;> first | (cases h; done) | skip
  · cases e <;> simp only [keyD] at g <;> first | (cases g; done) | skip
    · cases h; cases g
      rename_i i j
      show (i == j) = _
      by_cases q : i = j
      · subst q; simp
      · have q3 : (Sum.inl i : Key) ≠ .inl j := fun e => q (Sum.inl.inj e)
        rw [beq_eq_false_iff_ne.mpr q, decide_eq_false q3]
    · cases h; cases g; simp [eqd]
  · cases e <;> simp only [keyD] at g <;> first | (cases g; done) | skip
    · cases h; cases g; simp [eqd]
    · cases h; cases g
      rename_i a b
      show (a == b) = _
      by_cases q : a = b
      · subst q; simp
      · have q2 : toS a ≠ toS b := fun e => q (by have := congrArg (fun z => z.cps.toList) e; simpa using this)
        have q3 : (Sum.inr (toS a) : Key) ≠ .inr (toS b) := fun e => q2 (Sum.inr.inj e)
        rw [beq_eq_false_iff_ne.mpr q, decide_eq_false q3]
theorem key_V {K : PySem.W.Frag} {F H : Hp} {v : V} {d : D} {k : Key} (n : NR K F H v d) (h : keyD d = some k) : v = kV k := by
  cases d <;> simp only [keyD] at h <;> first | (cases h; done) | skip
  · cases h; exact n.int
  · cases h; exact n.str
theorem find_val {K : PySem.W.Frag} {F : Hp} {x : D} {k : Key} (hx : keyD x = some k) : ∀ {kvs : List (Key × V)} {ks vs : List D}, ks.map keyD = kvs.map (fun p => some p.1) → RepL K F (kvs.map (·.2)) vs →
    (findD x ks = none ∧ valV kvs k = none) ∨ ∃ j v d, findD x ks = some j ∧ valV kvs k = some v ∧ vs[j]? = some d ∧ Rep K F v d
  | [], ks, vs, hk, r => by
    cases ks with
    | nil => exact .inl ⟨rfl, rfl⟩
    | cons _ _ => simp at hk
  | p :: kvs, ks, vs, hk, r => by
    cases ks with
    | nil => simp at hk
    | cons e ks =>
      rw [List.map_cons, List.map_cons] at hk
      injection hk with h1 h2
      rw [List.map_cons] at r
      cases r with
      | cons r1 r2 =>
        have he := key_eq h1 hx
        unfold findD
        by_cases q : p.1 = k
        · rw [he, decide_eq_true q, if_pos rfl, valV_pos q]
          exact .inr ⟨0, _, _, rfl, rfl, rfl, r1⟩
        · rw [he, decide_eq_false q, if_neg Bool.false_ne_true, valV_neg q]
          rcases find_val hx h2 r2 with ⟨g1, g2⟩ | ⟨j, v, d, g1, g2, g3, g4⟩
          · exact .inl ⟨by rw [g1]; rfl, g2⟩
          · exact .inr ⟨j + 1, v, d, by rw [g1]; rfl, g2, by simpa using g3, g4⟩
theorem NR.dct0 {K : PySem.W.Frag} {F H : Hp} (s : Same F H) {v : V} {ks vs : List D} (h : NR K F H v (.dct 0 ks vs)) : ∃ (a : Addr) (kvs : List (Key × V)), v = .ref a ∧ H a = some (.dK kvs) ∧ ks.map keyD = kvs.map (fun p => some p.1) ∧ RepL K F (kvs.map (·.2)) vs := by
  rcases h with h | ⟨a, rfl, h⟩
  · cases h with | dct0 h k r => exact ⟨_, _, rfl, s _ _ h, k, r⟩
  · obtain ⟨kvs, h1, h2, h3⟩ := h
    exact ⟨a, kvs, rfl, h1, h2, h3⟩
theorem ix_dct (hu : X.A.units + 1 < cLine) : IxR X (fun x y H Q => ∃ a v, x = .ref a ∧ DGet H a y (some v) ∧ Q v H) := by
  intro value slice pins s σ H x y v u Q I rx ry h hs
  obtain ⟨a, w, rfl, g, q⟩ := h
  obtain rfl : v = Value.ref a := rx
  exact tail_any (dict_typeIs I g) PySem.F.slot_dict_getitem.lookup (d_getItem hu I g ry fun w' s3 I3 rw' => ⟨w, H, I3, rw', q⟩) hs
def rInDc (n : Bool) : R2 := fun x y H Q => ∃ a o, y = .ref a ∧ DGet H a x o ∧ Q (.bl (if n then !o.isSome else o.isSome)) H
theorem op_inDc (hu : X.A.units + 1 < cLine) : OpR X (compareOp .In) (rInDc false) := by
  intro pins s σ H x y v u Q I rx ry h
  obtain ⟨a, o, rfl, g, q⟩ := h
  obtain rfl : u = Value.ref a := ry
  exact d_in hu I g rx fun s3 I3 => ⟨.bl o.isSome, H, I3, rfl, q⟩
theorem op_notinDc (hu : X.A.units + 1 < cLine) : OpR X (compareOp .NotIn) (rInDc true) := by
  intro pins s σ H x y v u Q I rx ry h
  obtain ⟨a, o, rfl, g, q⟩ := h
  obtain rfl : u = Value.ref a := ry
  exact d_notIn hu I g rx fun s3 I3 => ⟨.bl (!o.isSome), H, I3, rfl, q⟩
/-- in, not in -/
def rInA (K : PySem.W.Frag) (n : Bool) : R2 := fun x y H Q => (∃ i j, x = .str i ∧ y = .str j ∧ Q (.bl (if n then !(!(Builtin.Str.occurrences j i 0 j.length 1).isEmpty) else !(Builtin.Str.occurrences j i 0 j.length 1).isEmpty)) H) ∨ rIn K n x y H Q
def rInB (K : PySem.W.Frag) (n : Bool) : R2 := fun x y H Q => rInA K n x y H Q ∨ rInDc n x y H Q
theorem op_inA (hu : X.A.units + 1 < cLine) : OpR X (compareOp .In) (rInB X.K false) := (op_in_str.or op_in_seq).or (op_inDc hu)
theorem op_notInA (hu : X.A.units + 1 < cLine) : OpR X (compareOp .NotIn) (rInB X.K true) := (L2.op_notIn_str.or op_notIn_seq).or (op_notinDc hu)
theorem inS_ok {K : PySem.W.Frag} {n : Bool} {F H1 : Hp} {v u : V} {x y d : D} {bb : Bool} {Q : VK} (s : Same F H1) (hx : NR K F H1 v x) (hy : NR K F H1 u y) (h : inS n x y = some (d, bb)) (q : PQ K F H1 Q d bb) : rInB K n v u H1 Q := by
  unfold inS at h
  split at h
  · split at h
    · cases h
      exact .inl (.inl ⟨_, _, hx.str, hy.str, q.old _ rfl (.bl _)⟩)
    · cases h
  · split at h
    · rename_i f
      cases h
      obtain ⟨p, vs, rfl, h1, r⟩ := hy.tup
      have hx' := nr_flat hx f.1
      refine .inl (.inr ⟨p, vs, rfl, .inr (same_T s h1), flat_V hx' f.1, flat_all r f.2, ?_⟩)
      rw [flat_in hx' f.1 r f.2]
      exact q.old _ rfl (.bl _)
    · cases h
  · split at h
    · rename_i f
      cases h
      obtain ⟨p, vs, rfl, h1, r⟩ := hy.lst s
      have hx' := nr_flat hx f.1
      refine .inl (.inr ⟨p, vs, rfl, .inl h1, flat_V hx' f.1, flat_all r f.2, ?_⟩)
      rw [flat_in hx' f.1 r f.2]
      exact q.old _ rfl (.bl _)
    · cases h
  · split at h
    · rename_i ks vs f
      cases h
      obtain ⟨k, hk⟩ := Option.isSome_iff_exists.mp f
      obtain ⟨a, kvs, rfl, h1, h2, r⟩ := hy.dct0 s
      have ev := key_V hx hk
      subst ev
      refine .inr ⟨a, valV kvs k, rfl, DGet.k h1, ?_⟩
      have e : (valV kvs k).isSome = (findD x ks).isSome := by
        rcases find_val hk h2 r with ⟨g1, g2⟩ | ⟨j, v, d, g1, g2, _⟩ <;> rw [g1, g2] <;> rfl
      rw [e]
      exact q.old _ rfl (.bl _)
    · cases h
  · cases h
theorem inS_bl {n : Bool} {x y d : D} {b : Bool} (h : inS n x y = some (d, b)) : ∃ t, d = .bl t := by
  unfold inS at h
  split at h
  · split at h
    · cases h; exact ⟨_, rfl⟩
    · cases h
  · split at h
    · cases h; exact ⟨_, rfl⟩
    · cases h
  · split at h
    · cases h; exact ⟨_, rfl⟩
    · cases h
  · split at h
    · cases h; exact ⟨_, rfl⟩
    · cases h
  · cases h
theorem hu_room {k : Nat} {A : Around} (hr : L2H.RoomH k A) : A.units + 1 < cLine := by have := hr.un; omega
theorem cmp_in (hK : X.K = U.K) {k : Nat} (hr : L2H.RoomH k X.A) : CmpOk X U .In .isin (rInB U.K false) := ⟨hK ▸ op_inA (hu_room hr), fun F H1 v u x y d bb Q s hx hy h q => inS_ok s hx hy h q, fun ds d b h => by
  rcases two_or ds with ⟨x, y, rfl⟩ | n
  · exact inS_bl h
  · match ds, n, h with
    | [x, y], n, h => exact absurd rfl (n x y)⟩
theorem cmp_notin (hK : X.K = U.K) {k : Nat} (hr : L2H.RoomH k X.A) : CmpOk X U .NotIn .notin (rInB U.K true) := ⟨hK ▸ op_notInA (hu_room hr), fun F H1 v u x y d bb Q s hx hy h q => inS_ok s hx hy h q, fun ds d b h => by
  rcases two_or ds with ⟨x, y, rfl⟩ | n
  · exact inS_bl h
  · match ds, n, h with
    | [x, y], n, h => exact absurd rfl (n x y)⟩
/-! ### is None -/
theorem nr_non {K : PySem.W.Frag} {F H : Hp} {v : V} {d : D} (h : NR K F H v d) : decide (v = .non) = isN d := by
  rcases h with h | ⟨p, rfl, h⟩
  · cases h <;> rfl
  · cases d <;> first | exact h.elim | rfl
theorem is_core (n : Bool) {p : P} (hp : ∀ x, p.sem [x] = some (.bl (if n then !isN x else isN x), false)) {Q : VK} {σ : Sg} {H : Hp} (h : tP U W p [ea] σ H Q) : tE U W ea σ H fun v H1 => Q (.bl (if n then !decide (v = .non) else decide (v = .non))) H1 :=
  prim1 h fun F H1 v x d bb s hx hs q => by
    rw [hp] at hs
    cases hs
    rw [nr_non hx]
    exact q.old _ rfl (.bl _)
theorem snd_isN {j pos'} (ha : PE X a (tE U W ea)) : PE X (.Compare a [.Is] [.Constant .none j pos'] pos) (tP U W .isN [ea]) :=
  PE.imp (pe_cmp (pc_isN ha) rfl) fun σ H Q h => is_core false (fun _ => rfl) h
theorem snd_notN {j pos'} (ha : PE X a (tE U W ea)) : PE X (.Compare a [.IsNot] [.Constant .none j pos'] pos) (tP U W .notN [ea]) :=
  PE.imp (pe_cmp (pc_notN ha) rfl) fun σ H Q h => is_core true (fun _ => rfl) h
theorem sndT_isN {j pos'} (ha : PE X a (tE U W ea)) : PT X (.Compare a [.Is] [.Constant .none j pos'] pos) (tT U W (.prim .isN [ea])) :=
  PT.imp (pt_cmp (pc_isN ha) rfl) fun σ H Q h => is_core false (fun _ => rfl) (prim_coreB (fun ds d b z => by
    match ds, z with
    | [x], z => cases z; exact ⟨_, rfl⟩) h)
theorem sndT_notN {j pos'} (ha : PE X a (tE U W ea)) : PT X (.Compare a [.IsNot] [.Constant .none j pos'] pos) (tT U W (.prim .notN [ea])) :=
  PT.imp (pt_cmp (pc_notN ha) rfl) fun σ H Q h => is_core true (fun _ => rfl) (prim_coreB (fun ds d b z => by
    match ds, z with
    | [x], z => cases z; exact ⟨_, rfl⟩) h)

/-! ### a[i] -/
theorem ixd_eq (n : Nat) (i : Int) : ixd n i = ixN n i := rfl
theorem atd_get {K : PySem.W.Frag} {F : Hp} {vs : List V} {ds : List D} {i : Int} {d : D} (r : RepL K F vs ds) (h : atd ds i = some d) : ∃ v, atI vs i = some v ∧ Rep K F v d := by
  unfold atd at h
  obtain ⟨j, h1, h2⟩ := Option.bind_eq_some_iff.mp h
  obtain ⟨v, h3, h4⟩ := r.get h2
  refine ⟨v, ?_, h4⟩
  unfold atI
  rw [r.length, ← ixd_eq, h1]
  exact h3
theorem snd_ix (hK : X.K = U.K) {k : Nat} (hro : L2H.RoomH k X.A) (hb' : nsl b = true) (ha : PE X a (tE U W ea)) (hb : PE X b (tE U W eb)) : PE X (.Subscript a b pos) (tP U W .ix [ea, eb]) := by
  have hr := (ix_seq (X := X)).or (ix_dct (hu_room hro))
  rw [hK] at hr
  refine PE.imp (pe_ix hr ha hb (plain_ix hb')) fun σ H Q h => prim2 h ?_
  intro F H1 v u x y d bb s hx hy hs q
  have hs : ixS x y = some (d, bb) := hs
  unfold ixS at hs
  split at hs
  · obtain ⟨e, h1, h2⟩ := Option.map_eq_some_iff.mp hs
    cases h2
    obtain ⟨p, vs, rfl, h3, r⟩ := hx.lst s
    obtain ⟨z, h4, h5⟩ := atd_get r h1
    exact .inl (.inl ⟨p, vs, _, z, rfl, hy.int, h3, h4, q.old _ rfl h5⟩)
  · obtain ⟨e, h1, h2⟩ := Option.map_eq_some_iff.mp hs
    cases h2
    obtain ⟨p, rfl, h3⟩ := hx.scr s
    refine .inl (.inl ⟨p, _, _, .int e, rfl, hy.int, h3, ?_, q.old _ rfl (.int _)⟩)
    unfold atd at h1
    obtain ⟨j, h4, h5⟩ := Option.bind_eq_some_iff.mp h1
    unfold atI
    rw [List.length_map, ← ixd_eq, h4]
    show (List.map V.int _)[j]? = some (V.int e)
    rw [List.getElem?_map, h5]
    rfl
  · obtain ⟨e, h1, h2⟩ := Option.map_eq_some_iff.mp hs
    cases h2
    obtain ⟨p, vs, rfl, h3, r⟩ := hx.tup
    obtain ⟨z, h4, h5⟩ := atd_get r h1
    exact .inl (.inr (.inl ⟨p, vs, _, z, rfl, hy.int, same_T s h3, h4, q.old _ rfl h5⟩))
  · split at hs
    · rename_i hl
      obtain ⟨c, h1, h2⟩ := Option.map_eq_some_iff.mp hs
      cases h2
      refine .inl (.inr (.inr ⟨_, _, c, hx.str, hy.int, by rw [toS_len]; exact lim_line hl, ?_, q.old _ rfl (.str [c])⟩))
      exact h1
    · cases hs
  · split at hs
    · rename_i ks us f
      obtain ⟨j, h1, h2⟩ := Option.bind_eq_some_iff.mp hs
      obtain ⟨e, h3, h4⟩ := Option.map_eq_some_iff.mp h2
      cases h4
      obtain ⟨k, hk⟩ := Option.isSome_iff_exists.mp f
      obtain ⟨p, kvs, rfl, g1, g2, r⟩ := hx.dct0 s
      have ev := key_V hy hk
      subst ev
      rcases find_val hk g2 r with ⟨z1, z2⟩ | ⟨j', w, d', z1, z2, z3, z4⟩
      · rw [z1] at h1; cases h1
      · rw [z1] at h1; cases h1
        rw [z3] at h3; cases h3
        exact .inr ⟨p, w, rfl, by rw [← z2]; exact DGet.k g1, q.old _ rfl z4⟩
    · cases hs
  · cases hs

/-! ### slices -/
theorem slp_eq (n d : Nat) (o : Option Int) : slp n d o = HT.sIx n d o := by
  cases o with
  | none => rfl
  | some v => rfl
theorem cut_rep {K : PySem.W.Frag} {F : Hp} {vs : List V} {ds : List D} {lo hi : Option Int} (r : RepL K F vs ds) : RepL K F (cutV vs lo hi) (cut ds lo hi) := by
  unfold cutV cut
  rw [r.length, slp_eq, slp_eq]
  exact (r.drop _).take _
theorem cut_whole {α : Type} {ds : List α} {lo hi : Option Int} (h : slp ds.length 0 lo = 0 ∧ slp ds.length ds.length hi = ds.length) : cut ds lo hi = ds := by
  unfold cut
  rw [h.1, h.2]
  simp
def rSlAll (K : PySem.W.Frag) : V → Option Int → Option Int → Hp → VK → Prop := fun x lo hi H Q => rSlL K x lo hi H Q ∨ (rSlA K x lo hi H Q ∨ rSlS x lo hi H Q)
theorem sl_all : SlR X (rSlAll X.K) := sl_list.or (sl_tupA.or sl_str)
theorem cutS_eq {s : List Nat} {lo hi : Option Int} : cutS (toS s) lo hi = toS (cut s lo hi) := by
  unfold cutS cut
  rw [toS_len, slp_eq, slp_eq]
theorem slS_ok {K : PySem.W.Frag} {F H1 : Hp} {v : V} {lo hi : Option Int} {x d : D} {bb : Bool} {Q : VK} (s : Same F H1) (hx : NR K F H1 v x) (h : slS lo hi x = some (d, bb)) (q : PQ K F H1 Q d bb) : rSlAll K v lo hi H1 Q := by
  unfold slS at h
  split at h
  · cases h
    obtain ⟨p, vs, rfl, h3, r⟩ := hx.lst s
    exact .inl ⟨p, vs, rfl, h3, fun p hp => q.new p _ hp rfl ⟨_, rfl, cut_rep r⟩⟩
  · cases h
    obtain ⟨p, vs, rfl, h3, r⟩ := hx.tup
    refine .inr (.inl ⟨p, vs, rfl, same_T s h3, fun z => ?_, fun z p2 hp => ?_⟩)
    · rw [r.length, ← slp_eq, ← slp_eq] at z
      rw [cut_whole z] at q
      exact q.old _ rfl (.tup h3 r)
    · have n : F p2 = none := by
        cases e : F p2 with
        | none => rfl
        | some o => have := s _ _ e; rw [hp] at this; cases this
      exact q.frz p2 _ hp rfl (.tup (SqT.of upd_same) ((cut_rep r).mono (same_upd n)))
  · split at h
    · rename_i hl
      cases h
      exact .inr (.inr ⟨_, hx.str, by rw [toS_len]; exact lim_line hl, by rw [cutS_eq]; exact q.old _ rfl (.str _)⟩)
    · cases h
  · cases h

variable {lo hi : Expr} {e0 e1 e2 : E} {p2 : Pos}
/-- an end of a slice -/
theorem po_some' {e : Expr} {te : TE} (h : PE X e te) : PO X (some e) (tPart te) := po_some h
theorem snd_sl00 (hK : X.K = U.K) (ha : PE X a (tE U W e0)) : PE X (.Subscript a (.Slice none none none p2) pos) (tP U W (.sl false false) [e0]) := by
  have hr := sl_all (X := X)
  rw [hK] at hr
  refine PE.imp (pe_slice hr ha po_none po_none) fun σ H Q h => prim1 h ?_
  intro F H1 v x d bb s hx hs q
  exact slS_ok s hx hs q
theorem snd_sl10 (hK : X.K = U.K) (ha : PE X a (tE U W e0)) (hl : PE X lo (tE U W e1)) : PE X (.Subscript a (.Slice (some lo) none none p2) pos) (tP U W (.sl true false) [e0, e1]) := by
  have hr := sl_all (X := X)
  rw [hK] at hr
  refine PE.imp (pe_slice hr ha (po_some hl) po_none) fun σ H Q h => prim2 h ?_
  intro F H1 v u x y d bb s hx hy hs q
  cases y with
  | int i => exact ⟨i, hy.int, slS_ok s hx hs q⟩
  | _ => cases hs
theorem snd_sl01 (hK : X.K = U.K) (ha : PE X a (tE U W e0)) (hh : PE X hi (tE U W e1)) : PE X (.Subscript a (.Slice none (some hi) none p2) pos) (tP U W (.sl false true) [e0, e1]) := by
  have hr := sl_all (X := X)
  rw [hK] at hr
  refine PE.imp (pe_slice hr ha po_none (po_some hh)) fun σ H Q h => prim2 h ?_
  intro F H1 v u x y d bb s hx hy hs q
  cases y with
  | int i => exact ⟨i, hy.int, slS_ok s hx hs q⟩
  | _ => cases hs
/-! ### calls of built-ins of one argument -/
variable {p : Pos} {x : Str} {id T : String}
theorem pa1 {te : TE} (ha : PE X a te) (hn : nst a = true) : PA X [a] (tCons te tNil) := pa_cons ha pa_nil (star_cons hn)
theorem callB1 {r : List V → Hp → VK → Prop} {P' : P} (hc : CallR X (.builtin id) r) (hg : Gl X x) (hm : X.mg x = none) (hv : bootBuiltins x = some (.builtin id)) (hn : x ≠ "__name__") (hd : (x == ("__debug__" : Str)) = false) (ha : PE X a (tE U W ea)) (ns : nst a = true)
    (hs : ∀ F H1 v x d bb (Q : VK), Same F H1 → NR U.K F H1 v x → P'.sem [x] = some (d, bb) → PQ U.K F H1 Q d bb → r [v] H1 Q) : PE X (.Call (.Name x p) [a] [] pos) (tP U W P' [ea]) :=
  PE.imp (pe_callB hc hg hm hv (pa1 ha ns) hn hd (star_cons ns) rfl) fun σ H Q h => prim1 h fun F H1 v x d bb s hx h q => hs F H1 v x d bb Q s hx h q
theorem callT1 {r : List V → Hp → VK → Prop} {P' : P} (hc : CallR X (.type T) r) (hg : Gl X x) (hm : X.mg x = none) (hv : bootBuiltins x = some (.type T)) (hn : x ≠ "__name__") (hd : (x == ("__debug__" : Str)) = false) (ha : PE X a (tE U W ea)) (ns : nst a = true)
    (hs : ∀ F H1 v x d bb (Q : VK), Same F H1 → NR U.K F H1 v x → P'.sem [x] = some (d, bb) → PQ U.K F H1 Q d bb → r [v] H1 Q) : PE X (.Call (.Name x p) [a] [] pos) (tP U W P' [ea]) :=
  PE.imp (pe_callTy hc hg hm hv (pa1 ha ns) hn hd (star_cons ns) rfl) fun σ H Q h => prim1 h fun F H1 v x d bb s hx h q => hs F H1 v x d bb Q s hx h q
theorem snd_len (hK : X.K = U.K) (hg : Gl X "len") (hm : X.mg "len" = none) (ha : PE X a (tE U W ea)) (ns : nst a = true) : PE X (.Call (.Name "len" p) [a] [] pos) (tP U W .len [ea]) := by
  have hc := ((call_len_seq (X := X)).or call_len_str).or call_lenD
  rw [hK] at hc
  refine callB1 hc hg hm PySem.boot_len (by decide +kernel) (by decide +kernel) ha ns fun F H1 v x d bb Q s hx hs q => ?_
  have hs : lenS x = some (d, bb) := hs
  unfold lenS at hs
  split at hs
  · cases hs
    obtain ⟨p, vs, rfl, h3, r⟩ := hx.lst s
    exact .inl (.inl ⟨p, vs, rfl, .inl h3, by rw [r.length]; exact q.old _ rfl (.int _)⟩)
  · cases hs
    obtain ⟨p, rfl, h3⟩ := hx.scr s
    exact .inl (.inl ⟨p, _, rfl, .inl h3, by rw [List.length_map]; exact q.old _ rfl (.int _)⟩)
  · cases hs
    obtain ⟨p, vs, rfl, h3, r⟩ := hx.tup
    exact .inl (.inl ⟨p, vs, rfl, .inr (same_T s h3), by rw [r.length]; exact q.old _ rfl (.int _)⟩)
  · split at hs
    · rename_i hl
      cases hs
      exact .inl (.inr ⟨_, by rw [hx.str], by rw [toS_len]; exact lim_line hl, by rw [toS_len]; exact q.old _ rfl (.int _)⟩)
    · cases hs
  · cases hs
    obtain ⟨p, kvs, rfl, g1, g2, r⟩ := hx.dct0 s
    have e := congrArg List.length g2
    rw [List.length_map, List.length_map] at e
    exact .inr ⟨p, kvs, rfl, g1, by rw [← e]; exact q.old _ rfl (.int _)⟩
  · cases hs
theorem snd_abs (hg : Gl X "abs") (hm : X.mg "abs" = none) (ha : PE X a (tE U W ea)) (ns : nst a = true) : PE X (.Call (.Name "abs" p) [a] [] pos) (tP U W .abs [ea]) := by
  refine callB1 call_abs hg hm (by decide +kernel) (by decide +kernel) (by decide +kernel) ha ns fun F H1 v x d bb Q s hx hs q => ?_
  have hs : absS x = some (d, bb) := hs
  unfold absS at hs
  split at hs
  · cases hs
    exact ⟨_, by rw [hx.int], q.old _ rfl (.int _)⟩
  · cases hs
theorem snd_tuple (hK : X.K = U.K) (hg : Gl X "tuple") (hm : X.mg "tuple" = none) (ha : PE X a (tE U W ea)) (ns : nst a = true) : PE X (.Call (.Name "tuple" p) [a] [] pos) (tP U W .tuple [ea]) := by
  have hc := call_tuple_of (X := X)
  rw [hK] at hc
  refine callT1 hc hg hm (by decide +kernel) (by decide +kernel) (by decide +kernel) ha ns fun F H1 v x d bb Q s hx hs q => ?_
  have hs : tupleS x = some (d, bb) := hs
  unfold tupleS at hs
  split at hs
  · cases hs
    obtain ⟨p, vs, rfl, h3, r⟩ := hx.lst s
    refine ⟨p, vs, rfl, .inl ⟨h3, fun l hl => ?_⟩⟩
    have n : F l = none := by
      cases e : F l with
      | none => rfl
      | some o => have := s _ _ e; rw [hl] at this; cases this
    exact q.frz l _ hl rfl (.tup (SqT.of upd_same) (r.mono (same_upd n)))
  · cases hs
    obtain ⟨p, vs, rfl, h3, r⟩ := hx.tup
    exact ⟨p, vs, rfl, .inr ⟨same_T s h3, q.old _ rfl (.tup h3 r)⟩⟩
  · cases hs
theorem snd_list (hK : X.K = U.K) (hg : Gl X "list") (hm : X.mg "list" = none) (ha : PE X a (tE U W ea)) (ns : nst a = true) : PE X (.Call (.Name "list" p) [a] [] pos) (tP U W .list [ea]) := by
  have hc := call_list_of (X := X)
  rw [hK] at hc
  refine callT1 hc hg hm (by decide +kernel) (by decide +kernel) (by decide +kernel) ha ns fun F H1 v x d bb Q s hx hs q => ?_
  have hs : listS x = some (d, bb) := hs
  unfold listS at hs
  split at hs
  · cases hs
    obtain ⟨p, vs, rfl, h3, r⟩ := hx.lst s
    exact ⟨p, vs, rfl, .inl h3, fun l hl => q.new l _ hl rfl ⟨_, rfl, r⟩⟩
  · cases hs
    obtain ⟨p, vs, rfl, h3, r⟩ := hx.tup
    exact ⟨p, vs, rfl, .inr (same_T s h3), fun l hl => q.new l _ hl rfl ⟨_, rfl, r⟩⟩
  · cases hs
theorem rep_bls {K : PySem.W.Frag} {F : Hp} : ∀ {vs : List V} {ds : List D} {bs : List Bool}, RepL K F vs ds → allBl ds = some bs → vs = bs.map V.bl
  | _, _, bs, .nil, h => by cases h; rfl
  | _, _, bs, .cons (d := d) g r, h => by
    cases d <;> simp [allBl] at h
    obtain ⟨cs, h1, rfl⟩ := h
    cases g
    rw [rep_bls r h1]
    rfl
theorem allS_ok {K : PySem.W.Frag} {F H1 : Hp} {v : V} {x d : D} {bb : Bool} {Q : VK} {f : List Bool → Bool} (s : Same F H1) (hx : NR K F H1 v x) (h : allS f x = some (d, bb)) (q : PQ K F H1 Q d bb) :
    ∃ (a : Addr) (bs : List Bool), [v] = [V.ref a] ∧ SqL K H1 a (bs.map V.bl) ∧ Q (.bl (f bs)) H1 := by
  unfold allS at h
  split at h
  · obtain ⟨bs, h1, h2⟩ := Option.map_eq_some_iff.mp h
    cases h2
    obtain ⟨p, vs, rfl, h3, r⟩ := hx.lst s
    exact ⟨p, bs, rfl, by rw [← rep_bls r h1]; exact h3, q.old _ rfl (.bl _)⟩
  · cases h
theorem snd_all (hK : X.K = U.K) (hc' : X.calm = true) (hg : Gl X "all") (hm : X.mg "all" = none) (ha : PE X a (tE U W ea)) (ns : nst a = true) : PE X (.Call (.Name "all" p) [a] [] pos) (tP U W .all [ea]) := by
  have hc := cr_all (X := X) hc'
  rw [hK] at hc
  exact callB1 hc hg hm (by decide +kernel) (by decide +kernel) (by decide +kernel) ha ns fun F H1 v x d bb Q s hx hs q => allS_ok s hx hs q
theorem snd_any (hK : X.K = U.K) (hc' : X.calm = true) (hg : Gl X "any") (hm : X.mg "any" = none) (ha : PE X a (tE U W ea)) (ns : nst a = true) : PE X (.Call (.Name "any" p) [a] [] pos) (tP U W .any [ea]) := by
  have hc := cr_any (X := X) hc'
  rw [hK] at hc
  exact callB1 hc hg hm (by decide +kernel) (by decide +kernel) (by decide +kernel) ha ns fun F H1 v x d bb Q s hx hs q => allS_ok s hx hs q
end
end BV

/-! BvP3: displays, isinstance, methods. -/
namespace BV
open PySem L2 PySem.Spec PyProof.Rows
section
variable {X : Cx} {U : Sur} {W : WX} {a b : Expr} {ea eb : E} {pos : Pos} {pk : Bool} {σ : Sg} {H : Hp}
theorem tDs_mono {es : List E} {Q Q' : List V → Hp → Prop} (h : tDs U W pk es σ H Q) (m : ∀ vs H', Q vs H' → Q' vs H') : tDs U W pk es σ H Q' := by
  obtain ⟨F, ρ, er, h⟩ := h
  exact ⟨F, ρ, er, h.mono fun r ρ' F' H' _ _ _ k v hv => m v H' (k v hv)⟩
theorem free_of {F H : Hp} (s : Same F H) {l : Addr} (h : H l = none) : F l = none := by
  cases e : F l with
  | none => rfl
  | some o => have := s _ _ e; rw [h] at this; cases this
theorem snd_tup {es : List Expr} {ls : List E} {k : Nat} (ha : PA X es (tDs U W false ls)) : PE X (.Tuple es k pos) (tP U W .tup ls) := by
  refine PE.imp (pe_tup ha) fun σ H Q h => tDs_mono (show tDs U W false ls σ H _ from h) fun vs H1 hp => ?_
  obtain ⟨F, ds, d, bb, s, n, hs, q, rl⟩ := hp
  have r := rl rfl
  have hs : (if ds.length ≤ LIM then some (D.tup ds, false) else none) = some (d, bb) := hs
  split at hs
  · rename_i z
    cases hs
    exact ⟨by rw [r.length]; exact lim_line z, fun p hp => q.frz p _ hp rfl (.tup (SqT.of upd_same) (r.mono (same_upd (free_of s hp))))⟩
  · cases hs
theorem snd_lst {es : List Expr} {ls : List E} (ha : PA X es (tDs U W false ls)) : PE X (.List es pos) (tP U W .lst ls) := by
  refine PE.imp (pe_lst ha) fun σ H Q h => tDs_mono (show tDs U W false ls σ H _ from h) fun vs H1 hp => ?_
  obtain ⟨F, ds, d, bb, s, n, hs, q, rl⟩ := hp
  have r := rl rfl
  have hs : (if ds.length ≤ LIM then some (D.lst ds, true) else none) = some (d, bb) := hs
  split at hs
  · rename_i z
    cases hs
    exact ⟨by rw [r.length]; exact lim_line z, fun p hp => q.new p _ hp rfl ⟨_, rfl, r⟩⟩
  · cases hs

/-! ### isinstance -/
theorem rd_cases {H : Hp} {p : Addr} {u : HO} (h : Rd H p u) : H p = some u ∨ ∃ o, H p = some (.frz o u) := h
theorem ty_of {K : PySem.W.Frag} {F H : Hp} {v : V} {d : D} (s : Same F H) (n : NR K F H v d) (h1 : ∀ k x y, d ≠ .ins k x y) (h2 : ∀ k x y, d ≠ .dct k x y) (h0 : ∀ x, d ≠ .scr x) : TyX K H v (.type (tyn d)) := by
  cases d with
  | non => cases n.non; exact .base .non
  | bl b => cases n.bl; exact .base (.bl b)
  | int i => cases n.int; exact .base (.int i)
  | str z => cases n.str; exact .base (.str _)
  | tup ds =>
    obtain ⟨p, vs, rfl, h3, r⟩ := n.tup
    rcases same_T s h3 with (h | ⟨o, h⟩) | ⟨o, its, m, h4, h5, _⟩
    · exact .base (.tup h)
    · exact .fTuple h
    · exact .kTuple h4 h5
  | lst ds =>
    obtain ⟨p, vs, rfl, h3, r⟩ := n.lst s
    rcases h3 with (h | ⟨o, h⟩) | ⟨o, its, m, h4, h5, _⟩
    · exact .base (.lst h)
    · exact .base (.frz h)
    · exact .kList h4 h5
  | dct k x y => exact absurd rfl (h2 k x y)
  | ins k x y => exact absurd rfl (h1 k x y)
  | scr x => exact absurd rfl (h0 x)
def tynOk (s : String) : Bool := ["NoneType", "bool", "int", "str", "tuple", "list"].contains s
theorem kit_table : (["NoneType", "bool", "int", "str", "tuple", "list"].all fun a => tyNames.all fun t => kitB a t == some (a == t || (a == "bool" && t == "int"))) = true := by decide +kernel
theorem kit_is {d : D} {t : String} (h1 : ∀ k x y, d ≠ .ins k x y) (h2 : ∀ k x y, d ≠ .dct k x y) (h0 : ∀ x, d ≠ .scr x) (ht : tyNames.contains t = true) : kitB (tyn d) t = some (isiOne d t) := by
  have hd : tyn d ∈ ["NoneType", "bool", "int", "str", "tuple", "list"] := by
    cases d <;> first | (simp [tyn]; done) | exact absurd rfl (h1 _ _ _) | exact absurd rfl (h2 _ _ _) | exact absurd rfl (h0 _)
  have h3 := List.all_eq_true.mp (List.all_eq_true.mp kit_table _ hd) t (List.contains_iff_mem.mp ht)
  exact eq_of_beq h3
theorem kit_any {K : PySem.W.Frag} {d : D} (h1 : ∀ k x y, d ≠ .ins k x y) (h2 : ∀ k x y, d ≠ .dct k x y) (h0 : ∀ x, d ≠ .scr x) : ∀ {ts : List String}, ts.all (fun t => tyNames.contains t) = true → PySem.W.kitAny K (.type (tyn d)) (ts.map Value.type) = some (ts.any fun t => isiOne d t)
  | [], _ => kitAny_nil
  | t :: ts, h => by
    rw [List.all_cons, Bool.and_eq_true] at h
    have ih := kit_any (K := K) h1 h2 h0 h.2
    have hk : PySem.W.kitOne K (.type (tyn d)) (.type t) = some (isiOne d t) := kit_ty (kit_is h1 h2 h0 h.1)
    rw [List.map_cons, List.any_cons]
    refine kitAny_cons hk (fun e => ?_) (fun e => by rw [e]; rfl)
    rw [e, Bool.false_or]
    exact ih
theorem isiS_some {ts : List String} {x d : D} {bb : Bool} (h : isiS ts x = some (d, bb)) : (∀ k y z, x ≠ .ins k y z) ∧ (∀ k y z, x ≠ .dct k y z) ∧ (∀ y, x ≠ .scr y) ∧ ts.all (fun t => tyNames.contains t) = true ∧ d = .bl (ts.any fun t => isiOne x t) ∧ bb = false := by
  unfold isiS at h
  split at h
  · cases h
  · cases h
  · cases h
  · rename_i n1 n2 n3
    split at h
    · rename_i o
      cases h
      exact ⟨n1, n2, n3, o, rfl, rfl⟩
    · cases h
variable {p p2 : Pos} {t : Str}
theorem snd_isi1 {T : String} (hK : X.K = U.K) (hg : Gl X "isinstance") (hm : X.mg "isinstance" = none) (hg2 : Gl X t) (hm2 : X.mg t = none) (hv2 : bootBuiltins t = some (.type T)) (hn2 : t ≠ "__name__") (hd2 : (t == ("__debug__" : Str)) = false)
    (ha : PE X a (tE U W ea)) (ns : nst a = true) : PE X (.Call (.Name "isinstance" p) [a, .Name t p2] [] pos) (tP U W (.isi [T]) [ea]) := by
  have hc := call_isi (X := X)
  rw [hK] at hc
  have hpa : PA X [a, .Name t p2] (tCons (tE U W ea) (tCons (tC (.ty T)) tNil)) := pa_cons ha (pa_cons (pe_bltn hg2 hm2 hv2 rfl hn2 hd2) pa_nil rfl) (star_cons ns)
  refine PE.imp (pe_callB hc hg hm (by decide +kernel) hpa (by decide +kernel) (by decide +kernel) (star_cons ns) rfl) fun σ H Q h => prim1 (R := fun v H1 => rIsi U.K [v, .ty T] H1 Q) h ?_
  intro F H1 v x d bb s hx hs q
  obtain ⟨h1, h2, h0, h3, rfl, rfl⟩ := isiS_some hs
  have ht : tyNames.contains T = true := by simpa using h3
  refine ⟨v, .ty T, _, _, _, rfl, .ty T, ty_of s hx h1 h2 h0, kit_ty (kit_is h1 h2 h0 ht), ?_⟩
  have e : ([T].any fun t => isiOne x t) = isiOne x T := by simp
  rw [← e]
  exact q.old _ rfl (.bl _)
/-- the classes of a written tuple -/
def tyRd : List String → TA
  | [] => tNil
  | T :: ts => tCons (tC (.ty T)) (tyRd ts)
theorem tyRd_run {σ : Sg} {H : Hp} {Q : List V → Hp → Prop} : ∀ {ts : List String}, Q (ts.map V.ty) H → tyRd ts σ H Q
  | [], h => h
  | T :: ts, h => tyRd_run (ts := ts) (Q := fun xs H2 => Q (.ty T :: xs) H2) h
theorem ty_cls : ∀ ts : List String, Paired ClsV (ts.map V.ty) (ts.map Value.type)
  | [] => .nil
  | t :: ts => .cons (.ty t) (ty_cls ts)
theorem snd_isiN {ts : List String} {es : List Expr} {k : Nat} (hK : X.K = U.K) (hg : Gl X "isinstance") (hm : X.mg "isinstance" = none) (hl : ts.length ≤ LIM) (ht : PA X es (tyRd ts)) (ha : PE X a (tE U W ea)) (ns : nst a = true) :
    PE X (.Call (.Name "isinstance" p) [a, .Tuple es k p2] [] pos) (tP U W (.isi ts) [ea]) := by
  have hc := call_isiT (X := X)
  rw [hK] at hc
  have hpa : PA X [a, .Tuple es k p2] (tCons (tE U W ea) (tCons (tTup (tyRd ts)) tNil)) := pa_cons ha (pa_cons (pe_tup ht) pa_nil rfl) (star_cons ns)
  refine PE.imp (pe_callB hc hg hm (by decide +kernel) hpa (by decide +kernel) (by decide +kernel) (star_cons ns) rfl) fun σ H Q h => prim1 (R := fun v H1 => tTup (tyRd ts) σ H1 fun u H2 => rIsiT U.K [v, u] H2 Q) h ?_
  intro F H1 v x d bb s hx hs q
  obtain ⟨h1, h2, h0, h3, rfl, rfl⟩ := isiS_some hs
  have hz : (ts.map V.ty).length ≤ sizeLine := by
    rw [List.length_map]
    exact lim_line hl
  refine tyRd_run ⟨hz, fun q' hq' => ?_⟩
  refine ⟨v, q', _, _, _, _, rfl, upd_same, ty_cls ts, ty_of (s.trans (same_upd hq')) (hx.imp id fun ⟨a, e, t⟩ => ⟨a, e, ?_⟩) h1 h2 h0, kit_any h1 h2 h0 h3, (q _ (same_upd hq')).old _ rfl (.bl _)⟩
  obtain ⟨u, hu⟩ := t.some
  rw [upd_ne (ne_of_none hu hq')]
  exact t

/-! ### methods that only look -/
theorem meth_core {P' : P} {es : List E} {Q : VK} (h : tD U W (.meth P' ea es) σ H Q) : tE U W ea σ H fun v H1 => ∃ F d0, Same F H1 ∧ NR U.K F H1 v d0 ∧ P'.rcv d0 = true ∧
    tDs U W P'.pk es σ H1 fun us H2 => ∃ F2 ds d b, Same F2 H2 ∧ NRL U.K F2 H2 (v :: us) ds ∧ semAt (tyn d0) P' ds = some (d, b) ∧ PQ U.K F2 H2 Q d b := by
  obtain ⟨F, ρ, er, h⟩ := h
  rw [ev] at h
  refine argE er h fun v ag ρ1 F1 H1 e1 s1 ha k => ?_
  cases hg : ag.get ρ1 with
  | none => simp only [hg] at k; exact k.elim
  | some d0 =>
    simp only [hg] at k
    have hn : NR U.K F1 H1 v d0 := by
      obtain ⟨d, e, n⟩ := (gets_nr e1 (ds := [d0]) ha (by simp [gets, hg])).one
      cases e
      exact n
    by_cases hr : P'.rcv d0 = true
    · rw [if_pos hr] at k
      refine ⟨F1, d0, e1.sub, hn, hr, F1, ρ1, e1, k.bind2 fun as ρ2 F2 H2 k2 e2 s2 us hv => ?_⟩
      cases hq : (gets ρ2 (ag :: as)).bind (semAt (tyn d0) P') with
      | none => rw [hq] at k2; exact k2.elim
      | some r =>
        rw [hq] at k2
        obtain ⟨ds, h1, h2⟩ := Option.bind_eq_some_iff.mp hq
        obtain ⟨d, b⟩ := r
        have ha2 : AgR U.K F2 σ (v :: us) (ag :: as) := AgR.app (ha.mono s2.ext) hv
        exact ⟨F2, ds, d, b, e2.sub, gets_nr e2 ha2 h1, h2, pq_of e2 s2 e1.sub fun F' H' e' s' w hw => k2 F' H' e' s' w (hw.back s1 e1.sub)⟩
    · rw [if_neg hr] at k; exact k.elim

/-- not a call without arguments (super) -/
def nsup : Expr → Bool
  | .Call (.Name _ _) [] [] _ => false
  | _ => true
theorem base_ok {o : Expr} {n : Str} {env : PySem.Env} {w : Sem Value} (h : nsup o = true) : attributeBase o n env w = w := by
  unfold attributeBase
  split
  · simp [nsup] at h
  · rfl
theorem few_ok {env : PySem.Env} {cpos : Pos} {es : List Expr} (h : es.all nst = true) (hl : es.length < 30) : ((backTo cpos (starEach es env)).all (fun x => !x.1) && (backToKw cpos (keywordEach [] env)).all (fun x => x.1.isSome)
      && decide (es.length + ([] : List Keyword).length + (if ([] : List Keyword).isEmpty then 0 else 1) < 30)) = true := by
  have h1 : ∀ {es : List Expr}, es.all nst = true → (backTo cpos (starEach es env)).all (fun x => !x.1) = true := by
    intro es
    induction es with
    | nil => intro _; rfl
    | cons e es ih =>
      intro h
      rw [List.all_cons, Bool.and_eq_true] at h
      rw [star_cons h.1]
      show (!false && (backTo cpos (starEach es env)).all (fun x => !x.1)) = true
      rw [ih h.2]
      rfl
  rw [h1 h, Bool.and_eq_true, Bool.and_eq_true]
  refine ⟨⟨rfl, rfl⟩, decide_eq_true ?_⟩
  show es.length + 0 + 0 < 30
  omega
/-- o.m(e, ..), its rule by the receiver's type, one of several -/
structure Alt (X : Cx) (name : Str) where
  T : String
  id : String
  r : V → List V → Hp → VK → Prop
  pa : PlainAttrs T
  slot : Slot T name id
  hty : typeOf (.builtin id) = pure (.type "method_descriptor")
  hm : MtR X id r
theorem snd_meth {ι : Type} {P' : P} {o e : Expr} {es : List Expr} {ls : List E} {name : Str} {apos cpos : Pos} (A : ι → Alt X name) (hK : X.K = U.K)
    (ho : PE X o (tE U W ea)) (ha : PA X (e :: es) (tDs U W P'.pk ls)) (hsup : nsup o = true) (hst : (e :: es).all nst = true) (hl : (e :: es).length < 30) (hline : (apos.endLine == cpos.line) = true)
    (hs : ∀ F H1 v d0 (Q : VK), Same F H1 → NR U.K F H1 v d0 → P'.rcv d0 = true → ∃ i, tyV U.K (A i).T v H1 ∧ ∀ F2 H2 us d1 ds d b, Same F2 H2 → tyn d1 = tyn d0 → NR U.K F2 H2 v d1 → NRL U.K F2 H2 us ds → P'.sem (d1 :: ds) = some (d, b) → PQ U.K F2 H2 Q d b → (A i).r v us H2 Q) :
    PE X (.Call (.Attribute o name apos) (e :: es) [] cpos) (tD U W (.meth P' ea ls)) := by
  have hst1 : nst e = true := by rw [List.all_cons, Bool.and_eq_true] at hst; exact hst.1
  have hst2 : es.all nst = true := by rw [List.all_cons, Bool.and_eq_true] at hst; exact hst.2
  have core : PE X (.Call (.Attribute o name apos) (e :: es) [] cpos) fun σ H Q => tE U W ea σ H fun x H1 => ∃ i, tyV X.K (A i).T x H1 ∧ tDs U W P'.pk ls σ H1 fun xs H2 => (A i).r x xs H2 Q := by
    refine ⟨fun pins s σ H Q I h => ?_⟩
    refine wpAny_Call_method_late (base_ok hsup) (few_ok hst hl) hline rfl (thn (ho.run pins s σ H _ I h) fun v s1 ⟨x, H1, I1, r1, i, ty, q1⟩ => ?_)
    obtain ⟨h1, h2⟩ := tyV_is I1 r1 ty
    refine ⟨(A i).T, (A i).id, (A i).pa, (A i).slot, (A i).hty, h1, h2, ?_⟩
    have hA := ha.run cpos pins s1 σ H1 _ I1 q1
    rw [star_cons hst1] at hA ⊢
    refine Calls.callWith_builtin (by show (false || (backTo cpos (starEach es X.env)).any (·.1)) = false; rw [star_any hst2] <;> rfl) (Calls.evalArgs_plain ?_)
    exact thn hA fun us s2 ⟨vs, H2, I2, r2, q2⟩ => (A i).hm pins s2 σ H2 x vs v us Q I2 r1 r2 q2
  refine PE.imp core fun σ H Q h => tE_mono (meth_core h) fun v H1 hv => ?_
  obtain ⟨F, d0, sm, n, hr, k⟩ := hv
  obtain ⟨i, ty, hr2⟩ := hs F H1 v d0 Q sm n hr
  refine ⟨i, by rw [hK]; exact ty, tDs_mono k fun us H2 hu => ?_⟩
  obtain ⟨F2, ds, d, b, s2, nn, hsem, q⟩ := hu
  cases nn with
  | cons n1 n2 =>
    unfold semAt at hsem
    dsimp only at hsem
    split at hsem
    · rename_i ht
      exact hr2 F2 H2 us _ _ d b s2 ht n1 n2 hsem q
    · cases hsem
theorem mt_idx : MtR X "str.index" (fun x xs H Q => ∃ (a b : Str) (k : Nat) (rest : List Nat), x = .str a ∧ xs = [.str b] ∧ Builtin.Str.occurrences a b 0 a.length 1 = k :: rest ∧ Q (.int (k : Nat)) H) := by
  intro pins s σ H x xs v us Q I rx rs h
  obtain ⟨a, b, k, rest, rfl, rfl, e, q⟩ := h
  obtain ⟨t, rfl⟩ := rx
  obtain ⟨u, rfl, u', rfl⟩ := vals1 rs
  exact PySem.SC.index e ⟨.int (k : Nat), H, I.tok _, ⟨_, rfl⟩, q⟩
theorem findD_ok {n m : Nat} {x : D} (ox : okd m x = true) : ∀ {xs : List D} {j : Nat}, okds n xs = true → findD x xs = some j → ∃ z, (pys xs)[j]? = some z ∧ PyData.eqv z (py x) = true ∧ ∀ (i : Nat) (z' : PyData), i < j → (pys xs)[i]? = some z' → PyData.eqv z' (py x) = false
  | [], j, _, h => by simp [findD] at h
  | y :: ys, j, o, h => by
    have o' : okd n y = true ∧ okds n ys = true := by simpa [okds] using o
    unfold findD at h
    by_cases hq : eqd y x = true
    · rw [if_pos hq] at h
      cases h
      exact ⟨py y, by simp [pys], by rw [py_eqv o'.1 ox]; exact hq, fun i z' hi => absurd hi (Nat.not_lt_zero _)⟩
    · rw [if_neg hq] at h
      obtain ⟨j', h1, h2⟩ := Option.map_eq_some_iff.mp h
      subst h2
      obtain ⟨z, h3, h4, h5⟩ := findD_ok ox o'.2 h1
      refine ⟨z, by simpa [pys] using h3, h4, fun i z' hi hz => ?_⟩
      cases i with
      | zero =>
        simp [pys] at hz
        subst hz
        rw [py_eqv o'.1 ox]
        exact Bool.eq_false_iff.mpr hq
      | succ i => exact h5 i z' (by omega) (by simpa [pys] using hz)
mutual
theorem okd_le : ∀ {n m : Nat} {d : D}, n ≤ m → okd n d = true → okd m d = true
  | _, _, .non, _, _ => by simp [okd]
  | _, _, .bl _, _, _ => by simp [okd]
  | _, _, .int _, _, _ => by simp [okd]
  | n, m, .str s, _, h => by
    rw [okd] at h ⊢
    exact h
  | n + 1, m + 1, .tup xs, l, h => by
    rw [okd] at h ⊢
    exact okds_le (Nat.le_of_succ_le_succ l) h
  | n + 1, m + 1, .lst xs, l, h => by
    rw [okd] at h ⊢
    exact okds_le (Nat.le_of_succ_le_succ l) h
  | 0, _, .tup xs, _, h => by simp [okd] at h
  | 0, _, .lst xs, _, h => by simp [okd] at h
  | n + 1, 0, _, l, _ => absurd l (Nat.not_succ_le_zero _)
  | n, _, .dct _ _ _, _, h => by cases n <;> simp [okd] at h
  | n, _, .ins _ _ _, _, h => by cases n <;> simp [okd] at h
  | n, _, .scr _, _, h => by cases n <;> simp [okd] at h
theorem okds_le : ∀ {n m : Nat} {ds : List D}, n ≤ m → okds n ds = true → okds m ds = true
  | _, _, [], _, _ => by simp [okds]
  | n, m, x :: xs, l, h => by
    have h' : okd n x = true ∧ okds n xs = true := by simpa [okds] using h
    simp [okds, okd_le l h'.1, okds_le l h'.2]
end
theorem lst_py {K : PySem.W.Frag} {F H : Hp} {v : V} {xs : List D} {n : Nat} (s : Same F H) (h : NR K F H v (.lst xs)) (o : okds n xs = true) : ∃ a, v = .ref a ∧ Dp K H (.ref a) (.list (pys xs)) := by
  obtain ⟨a, vs, rfl, h1, r⟩ := h.lst s
  exact ⟨a, rfl, .lst h1 (pys_dp o (r.mono s))⟩
def altIx (X : Cx) {k : Nat} (hr : L2H.RoomH k X.A) : Bool → Alt X "index"
  | false => ⟨"str", "str.index", _, PySem.F.plainAttrs_str, PySem.F.slot_str_index, PySem.F.type_str_index, mt_idx⟩
  | true => ⟨"list", "list.index", _, PySem.F.plainAttrs_list, PySem.F.slot_list_index, PySem.F.type_list_index, mt_indexD (by have := hr.un; omega)⟩
theorem snd_index {o e : Expr} {le : E} {apos cpos : Pos} (hK : X.K = U.K) {k : Nat} (hr : L2H.RoomH k X.A) (ho : PE X o (tE U W ea)) (ha : PA X [e] (tDs U W true [le])) (hsup : nsup o = true) (hst : nst e = true) (hline : (apos.endLine == cpos.line) = true) :
    PE X (.Call (.Attribute o "index" apos) [e] [] cpos) (tD U W (.meth .index ea [le])) := by
  have hst' : [e].all nst = true := by simp [hst]
  refine snd_meth (P' := .index) (ls := [le]) (altIx X hr) hK ho ha hsup hst' (by show 1 < 30; omega) hline fun F H1 v d0 Q s n hrc => ?_
  cases d0 with
  | str z =>
    refine ⟨false, by rw [n.str]; rfl, fun F2 H2 us d1 ds d b s2 ht n1 nn hsem q => ?_⟩
    cases d1 <;> first | (simp [tyn] at ht; done) | skip
    rename_i z1
    have hd : ∃ y, ds = [.str y] := by
      cases ds with
      | nil => cases hsem
      | cons y r =>
        cases r with
        | nil => cases y <;> first | exact ⟨_, rfl⟩ | cases hsem
        | cons y2 r => cases y <;> cases hsem
    obtain ⟨y, rfl⟩ := hd
    · cases nn with
      | cons ny nr =>
        cases nr
        have hsem : ((Builtin.Str.occurrences (toS z1) (toS y) 0 (toS z1).length 1).head?).map (fun j => (D.int (Int.ofNat j), false)) = some (d, b) := hsem
        obtain ⟨j, h1, h2⟩ := Option.map_eq_some_iff.mp hsem
        cases h2
        obtain ⟨rest, hr⟩ : ∃ rest, Builtin.Str.occurrences (toS z1) (toS y) 0 (toS z1).length 1 = j :: rest := by
          cases ho : Builtin.Str.occurrences (toS z1) (toS y) 0 (toS z1).length 1 with
          | nil => rw [ho] at h1; cases h1
          | cons k rest => rw [ho] at h1; cases h1; exact ⟨rest, rfl⟩
        exact ⟨_, _, j, rest, n1.str, by rw [ny.str], hr, q.old _ rfl (.int _)⟩
  | lst zs =>
    obtain ⟨a, vs, rfl, h1, r⟩ := n.lst s
    refine ⟨true, .inl ⟨rfl, vs, h1⟩, fun F2 H2 us d1 ds d b s2 ht n1 nn hsem q => ?_⟩
    cases d1 <;> first | (simp [tyn] at ht; done) | skip
    rename_i z1
    have hd : ∃ y, ds = [y] := by
      cases ds with
      | nil => cases hsem
      | cons y r =>
        cases r with
        | nil => exact ⟨_, rfl⟩
        | cons y2 r => cases y <;> cases hsem
    obtain ⟨y, rfl⟩ := hd
    · cases nn with
      | cons ny nr =>
        cases nr
        have hsem : (if okd 60 y = true ∧ okds 60 z1 = true then (findD y z1).map fun j => (D.int (Int.ofNat j), false) else none) = some (d, b) := by
          cases y <;> exact hsem
        split at hsem
        · rename_i o
          obtain ⟨j, h2, h3⟩ := Option.map_eq_some_iff.mp hsem
          cases h3
          obtain ⟨a', e, dl⟩ := lst_py s2 n1 o.2
          cases e
          obtain ⟨w, h4, h5, h6⟩ := findD_ok o.1 o.2 h2
          refine ⟨a, _, py y, pys z1, j, w, rfl, rfl, (by rw [hK]; exact dl), py_dp o.1 (by rw [hK]; exact ny.rep s2), shaped_of (d := .lst z1) ?_, shaped_of (okd_le (by decide) o.1), h4, h5, h6, q.old _ rfl (.int _)⟩
          rw [okd]
          exact okds_le (by decide) o.2
        · cases hsem
  | _ => cases hrc
end
end BV

/-! BvP4: texts, numbers of texts, ranges as lists, written dicts. -/
namespace BV
open PySem L2 PySem.Spec PyProof.Rows
theorem toS_tl (x : Str) : toS (TL.tl x) = x := TL.mk_tl x
theorem tl_map (ys : List (List Nat)) : (ys.map toS).map TL.tl = ys := by
  rw [List.map_map]
  have : (TL.tl ∘ toS) = id := rfl
  rw [this, List.map_id]
theorem strs_rep {K : PySem.W.Frag} {F : Hp} : ∀ {vs : List V} {ds : List D} {ys : List (List Nat)}, RepL K F vs ds → strsD ds = some ys → vs = (ys.map toS).map V.str
  | _, _, ys, .nil, h => by cases h; rfl
  | _, _, ys, .cons (d := d) g r, h => by
    cases d <;> simp [strsD] at h
    obtain ⟨zs, h1, rfl⟩ := h
    cases g
    rw [strs_rep r h1]
    rfl
theorem rep_strs {K : PySem.W.Frag} {F : Hp} : ∀ zs : List Str, RepL K F (zs.map V.str) ((zs.map TL.tl).map D.str)
  | [] => .nil
  | z :: zs => by
    have e : V.str z = V.str (toS (TL.tl z)) := by rw [toS_tl]
    rw [List.map_cons, List.map_cons, List.map_cons, e]
    exact .cons (.str _) (rep_strs zs)
theorem join_toS (a : List Nat) (ys : List (List Nat)) : Txt.join (toS a) (ys.map toS) = toS (TL.joinL a ys) := by
  have h := TL.tl_join (toS a) (ys.map toS)
  rw [tl_map] at h
  rw [TL.join_eq, ← toS_tl (Str.join _ _), h]
theorem lens_toS (ys : List (List Nat)) : ((ys.map toS).map (·.length)).sum = (ys.map List.length).sum := by
  rw [List.map_map]
  have : ((fun x : Str => x.length) ∘ toS) = List.length := by
    funext z
    exact toS_len z
  rw [this]
section
variable {X : Cx} {U : Sur} {W : WX} {a b : Expr} {ea eb : E} {pos : Pos} {σ : Sg} {H : Hp}
def altS {name : Str} {id : String} {r : V → List V → Hp → VK → Prop} (slot : Slot "str" name id) (hty : typeOf (.builtin id) = pure (.type "method_descriptor")) (hm : MtR X id r) : Unit → Alt X name :=
  fun _ => ⟨"str", id, r, PySem.F.plainAttrs_str, slot, hty, hm⟩
/-- a text's method of one argument -/
theorem snd_str1 {P' : P} {name : Str} {id : String} {r : V → List V → Hp → VK → Prop} {o e : Expr} {le : E} {apos cpos : Pos} (slot : Slot "str" name id) (hty : typeOf (.builtin id) = pure (.type "method_descriptor")) (hm : MtR X id r)
    (hK : X.K = U.K) (ho : PE X o (tE U W ea)) (ha : PA X [e] (tDs U W P'.pk [le])) (hsup : nsup o = true) (hst : nst e = true) (hline : (apos.endLine == cpos.line) = true)
    (hrc : ∀ d0, P'.rcv d0 = true → ∃ s, d0 = .str s) (htw : ∀ s ds d b, P'.sem (.str s :: ds) = some (d, b) → ∃ y, ds = [y])
    (hs : ∀ F H s u y d b (Q : VK), Same F H → NR U.K F H u y → P'.sem [.str s, y] = some (d, b) → PQ U.K F H Q d b → r (.str (toS s)) [u] H Q) :
    PE X (.Call (.Attribute o name apos) [e] [] cpos) (tD U W (.meth P' ea [le])) := by
  refine snd_meth (P' := P') (ls := [le]) (altS slot hty hm) hK ho ha hsup (by simp [hst]) (by show 1 < 30; omega) hline fun F H1 v d0 Q s n hr => ?_
  obtain ⟨z, rfl⟩ := hrc d0 hr
  refine ⟨(), by rw [n.str]; rfl, fun F2 H2 us d1 ds d b s2 ht n1 nn hsem q => ?_⟩
  cases d1 <;> first | (simp [tyn] at ht; done) | skip
  obtain ⟨y, rfl⟩ := htw _ _ _ _ hsem
  cases nn with
  | cons ny nr =>
    cases nr
    rw [n1.str]
    exact hs F2 H2 _ _ _ _ _ Q s2 ny hsem q
theorem snd_join {o e : Expr} {le : E} {apos cpos : Pos} (hK : X.K = U.K) (ho : PE X o (tE U W ea)) (ha : PA X [e] (tDs U W true [le])) (hsup : nsup o = true) (hst : nst e = true) (hline : (apos.endLine == cpos.line) = true) :
    PE X (.Call (.Attribute o "join" apos) [e] [] cpos) (tD U W (.meth .join ea [le])) := by
  refine snd_str1 (P' := .join) PySem.F.slot_str_join PySem.F.type_str_join mt_join hK ho ha hsup hst hline (fun d0 h => by cases d0 <;> first | exact ⟨_, rfl⟩ | cases h) (fun s ds d b h => ?_) fun F H s u y d b Q sm n h q => ?_
  · match ds, h with
    | [y], _ => exact ⟨y, rfl⟩
  · have key : ∀ xs, joinG s xs = some (d, b) → (∃ a vs, u = .ref a ∧ (SqL X.K H a vs ∨ SqT X.K H a vs) ∧ RepL U.K F vs xs) → ∃ (a : Str) (p : Addr) (ys : List Str), V.str (toS s) = .str a ∧ [u] = [V.ref p] ∧ (SqL X.K H p (ys.map V.str) ∨ SqT X.K H p (ys.map V.str)) ∧
        (ys.map (·.length)).sum + ys.length * a.length ≤ 16777216 ∧ Q (.str (Txt.join a ys)) H := fun xs h ⟨a, vs, e, hl, r⟩ => by
      unfold joinG at h
      obtain ⟨ys, h1, h2⟩ := Option.bind_eq_some_iff.mp h
      split at h2
      · rename_i hz
        cases h2
        have ev := strs_rep r h1
        subst ev e
        refine ⟨toS s, a, ys.map toS, rfl, rfl, hl, ?_, ?_⟩
        · rw [lens_toS, List.length_map, toS_len]
          exact Nat.le_trans hz (by decide)
        · rw [join_toS]
          exact q.old _ rfl (.str _)
      · cases h2
    cases y <;> first | (cases h; done) | skip
    · obtain ⟨a, vs, e, h3, r⟩ := n.tup
      exact key _ h ⟨a, vs, e, .inr (by rw [hK]; exact same_T sm h3), r⟩
    · obtain ⟨a, vs, e, h3, r⟩ := n.lst sm
      exact key _ h ⟨a, vs, e, .inl (by rw [hK]; exact h3), r⟩
theorem snd_split {o e : Expr} {le : E} {apos cpos : Pos} (hK : X.K = U.K) (ho : PE X o (tE U W ea)) (ha : PA X [e] (tDs U W true [le])) (hsup : nsup o = true) (hst : nst e = true) (hline : (apos.endLine == cpos.line) = true) :
    PE X (.Call (.Attribute o "split" apos) [e] [] cpos) (tD U W (.meth .split ea [le])) := by
  refine snd_str1 (P' := .split) PySem.F.slot_str_split PySem.F.type_str_split mt_split hK ho ha hsup hst hline (fun d0 h => by cases d0 <;> first | exact ⟨_, rfl⟩ | cases h) (fun s ds d b h => ?_) fun F H s u y d b Q sm n h q => ?_
  · match ds, h with
    | [y], _ => exact ⟨y, rfl⟩
  · cases y <;> first | (cases h; done) | skip
    rename_i z
    have h : (if z ≠ [] ∧ z.all (fun c => decide (c < 256)) = true ∧ s.length < LIM then some (D.lst ((TL.spl z 0 [] s).map .str), true) else none) = some (d, b) := h
    split at h
    · rename_i hz
      cases h
      have ez : TL.tl (toS z) = z := rfl
      have hsp := TL.split_spl (toS s) (toS z) (by rw [ez]; exact hz.1) (TL.kind_ok (by rw [← Array.all_toList]; exact hz.2.1))
      rw [ez] at hsp
      refine ⟨toS s, toS z, rfl, by rw [n.str], ?_, ?_, fun p hp => q.new p _ hp rfl ⟨_, rfl, ?_⟩⟩
      · rw [toS_len]
        cases z with
        | nil => exact absurd rfl hz.1
        | cons _ _ => rfl
      · rw [toS_len, sizeLine_eq]
        have : s.length < 1000000 := hz.2.2
        omega
      · rw [show TL.spl z 0 [] s = _ from hsp.symm]
        exact rep_strs _
    · cases h
theorem snd_part {o e : Expr} {le : E} {apos cpos : Pos} (hK : X.K = U.K) (ho : PE X o (tE U W ea)) (ha : PA X [e] (tDs U W true [le])) (hsup : nsup o = true) (hst : nst e = true) (hline : (apos.endLine == cpos.line) = true) :
    PE X (.Call (.Attribute o "partition" apos) [e] [] cpos) (tD U W (.meth .part ea [le])) := by
  refine snd_str1 (P' := .part) PySem.F.slot_str_partition PySem.F.type_str_partition mt_partition hK ho ha hsup hst hline (fun d0 h => by cases d0 <;> first | exact ⟨_, rfl⟩ | cases h) (fun s ds d b h => ?_) fun F H s u y d b Q sm n h q => ?_
  · match ds, h with
    | [y], _ => exact ⟨y, rfl⟩
  · cases y <;> first | (cases h; done) | skip
    rename_i z
    have h : (if z ≠ [] ∧ s.length < LIM then some ((match TL.par z [] s with
      | some q => D.tup [.str q.1, .str z, .str q.2]
      | none => .tup [.str s, .str [], .str []]), false) else none) = some (d, b) := h
    split at h
    · rename_i hz
      cases h
      have ez : TL.tl (toS z) = z := rfl
      have hsp := TL.partition_par (toS s) (toS z) (by rw [ez]; exact hz.1)
      rw [ez] at hsp
      refine ⟨toS s, toS z, rfl, by rw [n.str], ?_, ?_, fun p hp => q.frz p _ hp rfl ?_⟩
      · rw [toS_len]
        cases z with
        | nil => exact absurd rfl hz.1
        | cons _ _ => rfl
      · rw [toS_len, sizeLine_eq]
        have : s.length < 1000000 := hz.2
        omega
      · rw [hsp]
        have es : TL.tl (toS s) = s := rfl
        rw [es]
        cases TL.par z [] s with
        | none => exact .tup (SqT.of upd_same) (.cons (.str s) (.cons (.str []) (.cons (.str []) .nil)))
        | some w => exact .tup (SqT.of upd_same) (.cons (.str w.1) (.cons (.str z) (.cons (.str w.2) .nil)))
    · cases h
/-- a text's method without arguments -/
theorem snd_str0 {P' : P} {name : Str} {id : String} {r : V → List V → Hp → VK → Prop} {o : Expr} {apos cpos : Pos} (slot : Slot "str" name id) (hty : typeOf (.builtin id) = pure (.type "method_descriptor")) (hm : MtR X id r)
    (hK : X.K = U.K) (ho : PE X o (tE U W ea)) (hsup : nsup o = true) (hline : (apos.endLine == cpos.line) = true) (hrc : ∀ d0, P'.rcv d0 = true → ∃ s, d0 = .str s)
    (hs : ∀ F H s d b (Q : VK), Same F H → P'.sem [.str s] = some (d, b) → PQ U.K F H Q d b → r (.str (toS s)) [] H Q) :
    PE X (.Call (.Attribute o name apos) [] [] cpos) (tD U W (.meth P' ea [])) := by
  refine PE.imp (pe_bm0 PySem.F.plainAttrs_str slot hty hm ho (base_ok hsup) hline) fun σ H Q h => tE_mono (meth_core h) fun v H1 hv => ?_
  obtain ⟨F, d0, sm, n, hr, k⟩ := hv
  obtain ⟨z, rfl⟩ := hrc d0 hr
  have hk := tDs_nil k
  obtain ⟨F2, ds, d, b, s2, nn, hsem, q⟩ := hk
  refine ⟨by rw [n.str]; rfl, ?_⟩
  cases nn with
  | cons n1 n2 =>
    cases n2
    unfold semAt at hsem
    dsimp only at hsem
    split at hsem
    · rename_i d1 ht
      cases d1 <;> first | (simp [tyn] at ht; done) | skip
      rw [n1.str]
      exact hs F2 H1 _ _ _ Q s2 hsem q
    · cases hsem
theorem snd_upper {o : Expr} {apos cpos : Pos} (hK : X.K = U.K) (ho : PE X o (tE U W ea)) (hsup : nsup o = true) (hline : (apos.endLine == cpos.line) = true) :
    PE X (.Call (.Attribute o "upper" apos) [] [] cpos) (tD U W (.meth .upper ea [])) := by
  refine snd_str0 (P' := .upper) PySem.F.slot_str_upper PySem.F.type_str_upper mt_upper hK ho hsup hline (fun d0 h => by cases d0 <;> first | exact ⟨_, rfl⟩ | cases h) fun F H s d b Q sm h q => ?_
  have h : (if s.length ≤ LIM then some (D.str (TL.tl (Txt.upper (toS s))), false) else none) = some (d, b) := h
  split at h
  · rename_i hz
    cases h
    refine ⟨toS s, rfl, rfl, by rw [toS_len]; exact Nat.le_trans hz (by decide), ?_⟩
    have e : V.str (Txt.upper (toS s)) = V.str (toS (TL.tl (Txt.upper (toS s)))) := by rw [toS_tl]
    rw [e]
    exact q.old _ rfl (.str _)
  · cases h
variable {p : Pos}
theorem snd_strP (hg : Gl X "str") (hm : X.mg "str" = none) (ha : PE X a (tE U W ea)) (ns : nst a = true) : PE X (.Call (.Name "str" p) [a] [] pos) (tP U W .strP [ea]) := by
  refine callT1 ((call_str_int (X := X)).or SkE.call_str_str) hg hm (by decide +kernel) (by decide +kernel) (by decide +kernel) ha ns fun F H1 v x d bb Q s hx hs q => ?_
  have hs : strS x = some (d, bb) := hs
  unfold strS at hs
  split at hs
  · split at hs
    · rename_i hl
      cases hs
      refine .inl ⟨_, by rw [hx.int], hl, ?_⟩
      refine q.old _ rfl ?_
      have e : ∀ z : Str, V.str z = V.str (toS (TL.tl z)) := fun z => by rw [toS_tl]
      rw [e]
      exact .str _
    · cases hs
  · cases hs
    exact .inr ⟨_, by rw [hx.str], q.old _ rfl (.str _)⟩
  · cases hs
theorem snd_intP (hg : Gl X "int") (hm : X.mg "int" = none) (ha : PE X a (tE U W ea)) (ns : nst a = true) : PE X (.Call (.Name "int" p) [a] [] pos) (tP U W .intP [ea]) := by
  refine callT1 ((call_int1 (X := X)).or call_int_str) hg hm (by decide +kernel) (by decide +kernel) (by decide +kernel) ha ns fun F H1 v x d bb Q s hx hs q => ?_
  have hs : intO x = some (d, bb) := hs
  unfold intO at hs
  split at hs
  · cases hs
    exact .inl (.inl ⟨_, by rw [hx.int], q.old _ rfl (.int _)⟩)
  · cases hs
    exact .inl (.inr ⟨_, by rw [hx.bl], q.old _ rfl (.int _)⟩)
  · split at hs
    · rename_i hl
      obtain ⟨i, h1, h2⟩ := Option.map_eq_some_iff.mp hs
      cases h2
      exact .inr ⟨_, i, by rw [hx.str], h1, by rw [toS_len]; exact hl, q.old _ rfl (.int _)⟩
    · cases hs
  · cases hs
theorem snd_lrange {p2 pos2 : Pos} (hc : X.calm = true) (hg : Gl X "list") (hm : X.mg "list" = none) (hg2 : Gl X "range") (hm2 : X.mg "range" = none) (ha : PE X a (tE U W ea)) (ns : nst a = true) :
    PE X (.Call (.Name "list" p) [.Call (.Name "range" p2) [a] [] pos2] [] pos) (tP U W .lrange [ea]) := by
  refine PE.imp (pe_listRg hc hg hm (prg_1 hg2 hm2 ha (star_cons ns))) fun σ H Q h => prim1 h fun F H1 v x d bb s hx hs q => ?_
  have hs : lrangeS x = some (d, bb) := hs
  unfold lrangeS at hs
  split at hs
  · rename_i i
    split at hs
    · rename_i hl
      cases hs
      have hL : (LIM : Int) = 1000000 := rfl
      have h1 := hl.1
      have h2 := hl.2
      refine ⟨_, hx.int, ⟨by decide, by decide, by omega, by omega, by omega⟩, fun l hl => q.new l _ hl rfl ⟨_, rfl, ?_⟩⟩
      unfold rgV
      rw [Int.sub_zero]
      have : ∀ ks : List Nat, RepL U.K F (ks.map fun i => V.int (0 + (i : Nat))) (ks.map fun k => D.int (Int.ofNat k)) := by
        intro ks
        induction ks with
        | nil => exact .nil
        | cons k ks ih =>
          rw [List.map_cons, List.map_cons]
          refine .cons ?_ ih
          rw [Int.zero_add]
          exact .int _
      exact this _
    · cases hs
  · cases hs
theorem pa2 {te tf : TE} (ha : PE X a te) (hb : PE X b tf) (hn : nst a = true) (hn2 : nst b = true) : PA X [a, b] (tCons te (tCons tf tNil)) := pa_cons ha (pa_cons hb pa_nil (star_cons hn2)) (star_cons hn)
theorem callB2 {r : List V → Hp → VK → Prop} {x : Str} {id : String} {P' : P} (hc : CallR X (.builtin id) r) (hg : Gl X x) (hm : X.mg x = none) (hv : bootBuiltins x = some (.builtin id)) (hn : x ≠ "__name__") (hd : (x == ("__debug__" : Str)) = false) (ha : PE X a (tE U W ea)) (hb : PE X b (tE U W eb)) (ns : nst a = true) (ns2 : nst b = true)
    (hs : ∀ F H1 v u x y d bb (Q : VK), Same F H1 → NR U.K F H1 v x → NR U.K F H1 u y → P'.sem [x, y] = some (d, bb) → PQ U.K F H1 Q d bb → r [v, u] H1 Q) : PE X (.Call (.Name x p) [a, b] [] pos) (tP U W P' [ea, eb]) :=
  PE.imp (pe_callB hc hg hm hv (pa2 ha hb ns ns2) hn hd (star_cons ns) (by rw [star_cons ns2]; rfl)) fun σ H Q h => prim2 h fun F H1 v u x y d bb s hx hy h q => hs F H1 v u x y d bb Q s hx hy h q
theorem intS_ok {K : PySem.W.Frag} {f : Int → Int → Int} {F H1 : Hp} {v u : V} {x y d : D} {bb : Bool} {Q : VK} (hx : NR K F H1 v x) (hy : NR K F H1 u y) (h : intS (fun i j => some (f i j)) x y = some (d, bb)) (q : PQ K F H1 Q d bb) : ∃ i j, v = .int i ∧ u = .int j ∧ Q (.int (f i j)) H1 := by
  unfold intS at h
  split at h
  · obtain ⟨k, h1, h2⟩ := Option.map_eq_some_iff.mp h
    cases h1
    cases h2
    exact ⟨_, _, hx.int, hy.int, q.old _ rfl (.int _)⟩
  · cases h
theorem snd_max2 (hc : X.calm = true) (hg : Gl X "max") (hm : X.mg "max" = none) (ha : PE X a (tE U W ea)) (hb : PE X b (tE U W eb)) (ns : nst a = true) (ns2 : nst b = true) : PE X (.Call (.Name "max" p) [a, b] [] pos) (tP U W .max2 [ea, eb]) :=
  callB2 (call_max2 hc) hg hm (by decide +kernel) (by decide +kernel) (by decide +kernel) ha hb ns ns2 fun F H1 v u x y d bb Q s hx hy h q => by
    obtain ⟨i, j, rfl, rfl, z⟩ := intS_ok hx hy h q
    exact ⟨i, j, rfl, z⟩
theorem snd_min2 (hc : X.calm = true) (hg : Gl X "min") (hm : X.mg "min" = none) (ha : PE X a (tE U W ea)) (hb : PE X b (tE U W eb)) (ns : nst a = true) (ns2 : nst b = true) : PE X (.Call (.Name "min" p) [a, b] [] pos) (tP U W .min2 [ea, eb]) :=
  callB2 (call_min2 hc) hg hm (by decide +kernel) (by decide +kernel) (by decide +kernel) ha hb ns ns2 fun F H1 v u x y d bb Q s hx hy h q => by
    obtain ⟨i, j, rfl, rfl, z⟩ := intS_ok hx hy h q
    exact ⟨i, j, rfl, z⟩
/-! ### a text, a list, some times -/
theorem flat_cps (x : List Nat) : ∀ n : Nat, (List.replicate n (toS x).cps).foldl (· ++ ·) #[] = ((List.replicate n x).flatten).toArray := by
  have key : ∀ (n : Nat) (acc : List Nat), (List.replicate n (toS x).cps).foldl (· ++ ·) acc.toArray = (acc ++ (List.replicate n x).flatten).toArray := by
    intro n
    induction n with
    | zero => intro acc; simp
    | succ n ih =>
      intro acc
      rw [List.replicate_succ, List.replicate_succ, List.foldl_cons, List.flatten_cons]
      have : acc.toArray ++ (toS x).cps = (acc ++ x).toArray := by simp
      rw [this, ih, List.append_assoc]
  intro n
  have := key n []
  simpa using this
theorem mul_toS (x : List Nat) (i : Int) : Txt.mul (toS x) i = toS (List.replicate i.toNat x).flatten := by
  unfold Txt.mul
  by_cases h : i < 1
  · rw [if_pos h]
    have : i.toNat = 0 := by omega
    rw [this]
    rfl
  · rw [if_neg h]
    split
    · rename_i h2
      rw [Bool.or_eq_true, beq_iff_eq, beq_iff_eq] at h2
      rcases h2 with h2 | h2
      · subst h2
        show toS x = _
        have : (List.replicate (1 : Int).toNat x).flatten = x := by simp
        rw [this]
      · rw [toS_len] at h2
        have : x = [] := List.length_eq_zero_iff.mp h2
        subst this
        have : (List.replicate i.toNat ([] : List Nat)).flatten = [] := by simp
        rw [this]
    · rw [flat_cps]
def rMulS : R2 := fun x y H Q => ∃ (s : List Nat) (i : Int), x = .str (toS s) ∧ y = .int i ∧ i ≤ 1000000 ∧ -1000000 ≤ i ∧ s.length * i.toNat ≤ 1000000 ∧ Q (.str (toS (List.replicate i.toNat s).flatten)) H
theorem op_mulS : OpR X (binaryOp .Mult) rMulS := by
  intro pins s σ H x y v u Q I rx ry h
  obtain ⟨z, i, rfl, rfl, h1, h2, h3, q⟩ := h
  obtain ⟨t, rfl⟩ := rx
  obtain ⟨t', rfl⟩ := ry
  refine PySem.SB.mul ⟨?_, fun g1 g2 => ?_, fun g1 g2 => ?_⟩ fun t2 k => ⟨.str _, H, I.tok k, ⟨t2, rfl⟩, by rw [mul_toS]; exact q⟩
  · rw [Bool.or_eq_false_iff]
    exact ⟨decide_eq_false (by omega), decide_eq_false (by omega)⟩
  · rw [toS_len]
    have hz : (z.length : Int) ≤ 1000000 := by
      have : 1 ≤ i.toNat := by omega
      have := Nat.le_trans (Nat.le_mul_of_pos_right z.length this) h3
      omega
    have hd : (1000000 : Int) ≤ (2 ^ 63 - 1) / i := by
      rw [Int.le_ediv_iff_mul_le (by omega)]
      omega
    omega
  · unfold Builtin.Str.tooLong
    rw [toS_len]
    simp
    have : sizeLine = 16777216 := sizeLine_eq
    omega
theorem snd_rep (ha : PE X a (tE U W ea)) (hb : PE X b (tE U W eb)) : PE X (.BinOp a .Mult b pos) (tP U W .rep [ea, eb]) := by
  refine PE.imp (pe_op (op_mulS.or op_rep) ha hb) fun σ H Q h => prim2 h ?_
  intro F H1 v u x y d bb s hx hy hs q
  have hs : repS x y = some (d, bb) := hs
  unfold repS at hs
  split at hs
  · split at hs
    · rename_i hl
      cases hs
      exact .inl ⟨_, _, hx.str, hy.int, hl.1, hl.2.1, hl.2.2, q.old _ rfl (.str _)⟩
    · cases hs
  · rename_i xs i _
    split at hs
    · rename_i hl
      cases hs
      obtain ⟨l, vs, rfl, h3, r⟩ := hx.lstH s
      have hL : (LIM : Int) = 1000000 := rfl
      have hL2 : LIM = 1000000 := rfl
      have h1 := hl.1
      have h2 := hl.2.1
      have h4 := hl.2.2
      refine .inr ⟨l, _, vs, rfl, hy.int, h3, by omega, by omega, by rw [r.length, sizeLine_eq]; omega, fun p hp => q.new p _ hp rfl ⟨_, rfl, ?_⟩⟩
      have : ∀ n : Nat, RepL U.K F (List.replicate n vs).flatten (List.replicate n xs).flatten := by
        intro n
        induction n with
        | zero => exact .nil
        | succ n ih =>
          rw [List.replicate_succ, List.replicate_succ, List.flatten_cons, List.flatten_cons]
          exact r.append ih
      exact this _
    · cases hs
  · cases hs
end
end BV

/-! BvP5: written dicts. -/
namespace BV
open PySem L2 PySem.Spec PyProof.Rows
section
variable {K : PySem.W.Frag} {F H F1 H1 F2 H2 : Hp} {σ σ1 σ2 : Sg} {ρ ρ1 ρ2 : Rho}
structure Held (F H : Hp) (σ : Sg) (ρ : Rho) (D : Addr) (o : HO) : Prop where
  at_ : H D = some o
  non : F D = none
  off : ¬ OnA σ ρ D
theorem Held.step {D : Addr} {o : HO} (h : Held F1 H1 σ1 ρ1 D o) (s : Stp F1 H1 σ1 ρ1 F H σ2 ρ) : Held F H σ2 ρ D o := by
  obtain ⟨h1, h2⟩ := s.frm D o h.at_ h.non h.off
  refine ⟨h1, h2, fun z => ?_⟩
  rcases s.new D z with q | q
  · exact h.off q
  · rw [h.at_] at q; cases q
theorem EnvR.poke {D : Addr} {o o' : HO} (e : EnvR K F H σ ρ) (h : Held F H σ ρ D o) : EnvR K F (upd H D o') σ ρ := by
  refine ⟨fun b u z => ?_, e.len, e.fr, fun i c d h1 h2 => ?_, e.ap⟩
  · rw [upd_ne (ne_of_none z h.non)]
    exact e.sub b u z
  · obtain ⟨a, q1, q2, q3⟩ := e.on i c d h1 h2
    refine ⟨a, q1, q2, ?_⟩
    rw [upd_ne]
    · exact q3
    · intro z
      subst z
      exact h.off ⟨i, c, h1, by rw [h2]; rfl, q1⟩
theorem Stp.poke {D : Addr} {o' : HO} (s : Stp F1 H1 σ1 ρ1 F H σ2 ρ) (h : H1 D = none) : Stp F1 H1 σ1 ρ1 F (upd H D o') σ2 ρ :=
  ⟨s.ext, fun a o q1 q2 q3 => by
    obtain ⟨h1, h2⟩ := s.frm a o q1 q2 q3
    exact ⟨by rw [upd_ne (ne_of_none q1 h)]; exact h1, h2⟩, s.new, s.pin, s.ln⟩
theorem Held.poke {D : Addr} {o o' : HO} (h : Held F H σ ρ D o) : Held F (upd H D o') σ ρ D o' := ⟨upd_same, h.non, h.off⟩
/-- begun over more -/
theorem Stp.shrink (s : Stp F H1 σ ρ F2 H2 σ2 ρ2) (m : Same H H1) : Stp F H σ ρ F2 H2 σ2 ρ2 :=
  ⟨s.ext, fun a o q1 q2 q3 => s.frm a o (m _ _ q1) q2 q3, fun a q => (s.new a q).imp id (fun z => by
    cases e : H a with
    | none => rfl
    | some o => rw [m _ _ e] at z; cases z), s.pin, s.ln⟩
/-- a dict's table by keys and values -/
structure KR (K : PySem.W.Frag) (F : Hp) (kvs : List (Key × V)) (ks vs : List D) : Prop where
  keys : ks.map keyD = kvs.map fun p => some p.1
  vals : RepL K F (kvs.map (·.2)) vs
theorem set_vals {x d : D} {k : Key} {v : V} (hx : keyD x = some k) (hv : Rep K F v d) : ∀ {kvs : List (Key × V)} {ks vs : List D}, ks.map keyD = kvs.map (fun p => some p.1) → RepL K F (kvs.map (·.2)) vs →
    RepL K F ((kvs.map fun kv => if kv.1 = k then (kv.1, v) else kv).map (·.2)) (List.zipWith (fun e w => if eqd e x = true then d else w) ks vs)
  | [], ks, vs, hk, r => by
    cases ks with
    | nil => exact .nil
    | cons _ _ => simp at hk
  | p :: kvs, ks, vs, hk, r => by
    cases ks with
    | nil => simp at hk
    | cons e ks =>
      rw [List.map_cons, List.map_cons] at hk
      injection hk with h1 h2
      rw [List.map_cons] at r
      cases r with
      | cons r1 r2 =>
        rw [List.map_cons, List.map_cons, List.zipWith_cons_cons, key_eq h1 hx]
        refine .cons ?_ (set_vals hx hv h2 r2)
        by_cases q : p.1 = k
        · rw [if_pos q, decide_eq_true q, if_pos rfl]
          exact hv
        · rw [if_neg q, decide_eq_false q, if_neg Bool.false_ne_true]
          exact r1
theorem KR.put {kvs : List (Key × V)} {ks vs : List D} (r : KR K F kvs ks vs) {x d : D} {k : Key} {v : V} (hx : keyD x = some k) (hv : Rep K F v d) : KR K F (putK kvs k v) (putD ks vs x d).1 (putD ks vs x d).2 := by
  unfold putK putD
  rw [valV_any]
  rcases find_val hx r.keys r.vals with ⟨g1, g2⟩ | ⟨j, v', d', g1, g2, g3, g4⟩
  · rw [g1, g2]
    refine ⟨?_, ?_⟩
    · show (ks ++ [x]).map keyD = (kvs ++ [(k, v)]).map _
      rw [List.map_append, List.map_append, r.keys]
      simp [hx]
    · show RepL K F ((kvs ++ [(k, v)]).map (·.2)) (vs ++ [d])
      rw [List.map_append]
      exact r.vals.append (.cons hv .nil)
  · rw [g1, g2]
    show KR K F (kvs.map fun kv => if kv.1 = k then (kv.1, v) else kv) ks (List.zipWith (fun e w => if eqd e x = true then d else w) ks vs)
    refine ⟨?_, set_vals hx hv r.keys r.vals⟩
    rw [r.keys, List.map_map]
    apply List.map_congr_left
    intro p _
    show some p.1 = some (if p.1 = k then (p.1, v) else p).1
    split <;> rfl
end
section
variable {X : Cx} {U : Sur} {W : WX} {σ : Sg} {H : Hp} {pos : Pos}
theorem Ans.grow {α : Type} {F H1 : Hp} {ρ : Rho} {r : R α} {k : α → Rho → Hp → Hp → Prop} (h : Ans U W F H σ ρ r k) (m : Same H H1) : Ans U W F H1 σ ρ r k := by
  cases r with
  | ok a ρ1 => exact fun F2 H2 e s => h F2 H2 e (s.shrink m)
  | ex x ρ1 => exact fun c dd F2 H2 e s q => h c dd F2 H2 e (s.shrink m) q
  | no => exact h
theorem Ans.bind3g {α β : Type} {F H1 : Hp} {ρ : Rho} {r : R α} {f : α → Rho → R β} {k : β → Rho → Hp → Hp → Prop} {k' : α → Rho → Hp → Hp → Prop} (h : Ans U W F H σ ρ (r.bind f) k) (sm : Same H H1)
    (m : ∀ a ρ1 F1 H2, r = .ok a ρ1 → Ans U W F H σ ρ (f a ρ1) k → EnvR U.K F1 H2 σ ρ1 → Stp F H1 σ ρ F1 H2 σ ρ1 → k' a ρ1 F1 H2) : Ans U W F H1 σ ρ r k' := by
  cases r with
  | ok a ρ1 => exact fun F1 H2 e1 s1 => m a ρ1 F1 H2 rfl h e1 s1
  | ex x ρ1 => exact fun c dd F2 H2 e s q => h c dd F2 H2 e (s.shrink sm) q
  | no => exact h
theorem agr_len {K : PySem.W.Frag} {F : Hp} {σ : Sg} : ∀ {vs : List V} {as : List Ag}, AgR K F σ vs as → vs.length = as.length
  | _, _, .nil => rfl
  | _, _, .vl h r => by rw [List.length_cons, List.length_cons, agr_len r]
  | _, _, .pk h r => by rw [List.length_cons, List.length_cons, agr_len r]
def TMono (t : TE) : Prop := ∀ (σ : Sg) (H : Hp) (Q Q' : VK), t σ H Q → (∀ v H', Q v H' → Q' v H') → t σ H Q'
def trsOf (U : Sur) (W : WX) : List E → List (TE × TE)
  | k :: v :: r => (tE U W k, tE U W v) :: trsOf U W r
  | _ => []
def flatP : List (V × V) → List V
  | [] => []
  | p :: r => p.1 :: p.2 :: flatP r
def evenL : List E → Bool
  | [] => true
  | _ :: _ :: r => evenL r
  | _ => false
theorem pairs_of : ∀ {es : List E} {σ : Sg} {H : Hp} {Q : List V → Hp → Prop}, evenL es = true → tDs U W false es σ H Q → tPairs (trsOf U W es) σ H fun ps H2 => Q (flatP ps) H2
  | [], σ, H, Q, _, h => tDs_nil h
  | [_], _, _, _, e, _ => by cases e
  | k :: v :: r, σ, H, Q, e, h => by
    show tE U W k σ H fun x H1 => tE U W v σ H1 fun y H2 => tPairs (trsOf U W r) σ H2 fun ps H3 => Q (flatP ((x, y) :: ps)) H3
    exact tE_mono (tDs_cons h) fun x H1 h1 => tE_mono (tDs_cons h1) fun y H2 h2 => pairs_of (es := r) e h2
theorem dsp_kvs {K : PySem.W.Frag} {F : Hp} : ∀ {ps : List (V × V)} {ds ks us ks' us' : List D} {kvs0 : List (Key × V)}, RepL K F (flatP ps) ds → dspG ds ks us = some (ks', us') → KR K F kvs0 ks us →
    ∃ kvs : List (Key × V), ps = kvs.map (fun kv => (kV kv.1, kv.2)) ∧ KR K F (mergeK kvs0 kvs) ks' us'
  | [], ds, ks, us, ks', us', kvs0, r, h, r0 => by
    cases r
    cases h
    exact ⟨[], rfl, r0⟩
  | (x, y) :: ps, ds, ks, us, ks', us', kvs0, r, h, r0 => by
    cases r with
    | cons r1 r2 =>
      cases r2 with
      | cons r3 r4 =>
        unfold dspG at h
        split at h
        · rename_i hk
          obtain ⟨k, hk⟩ := Option.isSome_iff_exists.mp hk
          have ex : x = kV k := key_V (H := F) (.inl r1) hk
          obtain ⟨kvs, h1, h2⟩ := dsp_kvs r4 h (r0.put hk r3)
          exact ⟨(k, y) :: kvs, by rw [List.map_cons, h1, ex], h2⟩
        · cases h
theorem flat_len : ∀ {ps : List (V × V)}, (flatP ps).length = 2 * ps.length
  | [] => rfl
  | p :: r => by rw [flatP, List.length_cons, List.length_cons, List.length_cons, flat_len]; omega
theorem evs_len' {cs : CS} {pk : Bool} : ∀ {es : List E} {ρ ρ1 : Rho} {as : List Ag}, evs cs pk es ρ = .ok as ρ1 → as.length = es.length
  | [], ρ, ρ1, as, h => by
    rw [evs] at h
    cases h
    rfl
  | e :: es, ρ, ρ1, as, h => by
    rw [evs] at h
    cases h1 : argOf pk e ρ (ev cs e ρ) with
    | ok a ρ2 =>
      rw [h1] at h
      have h : (evs cs pk es ρ2).bind (fun as ρ2 => R.ok (a :: as) ρ2) = .ok as ρ1 := h
      cases h2 : evs cs pk es ρ2 with
      | ok bs ρ3 =>
        rw [h2] at h
        cases h
        rw [List.length_cons, List.length_cons, evs_len' h2]
      | ex _ _ => rw [h2] at h; cases h
      | no => rw [h2] at h; cases h
    | ex _ _ => rw [h1] at h; cases h
    | no => rw [h1] at h; cases h
theorem tPairs_mono : ∀ {trs : List (TE × TE)} {σ : Sg} {H : Hp} {Q Q' : List (V × V) → Hp → Prop}, (∀ q ∈ trs, TMono q.1 ∧ TMono q.2) → tPairs trs σ H Q → (∀ ps H', Q ps H' → Q' ps H') → tPairs trs σ H Q'
  | [], _, _, _, _, _, h, m => m _ _ h
  | (a, b) :: r, σ, H, Q, Q', hm, h, m => by
    have h0 := hm _ List.mem_cons_self
    exact h0.1 _ _ _ _ h fun x H1 h1 => h0.2 _ _ _ _ h1 fun y H2 h2 => tPairs_mono (fun q hq => hm q (List.mem_cons_of_mem _ hq)) h2 fun ps H' q => m _ _ q
theorem trs_mono : ∀ {es : List E}, ∀ q ∈ trsOf U W es, TMono q.1 ∧ TMono q.2
  | [], q, h => by cases h
  | [_], q, h => by cases h
  | k :: v :: r, q, h => by
    rcases List.mem_cons.mp h with h | h
    · subst h
      exact ⟨fun σ H Q Q' h m => tE_mono h m, fun σ H Q Q' h m => tE_mono h m⟩
    · exact trs_mono (es := r) q h
theorem dsp_core {k : Nat} {es : List E} {Q : VK} (hev : evenL es = true) (hne : es ≠ []) (h : tD U W (.dsp k es) σ H Q) : tDisp (trsOf U W es) σ H Q := by
  obtain ⟨F, ρ, er, h⟩ := h
  rw [ev] at h
  intro p hp
  have e1 : EnvR U.K F (upd H p (.dK [])) σ ρ := er.alloc hp
  have hd0 : Held F (upd H p (.dK [])) σ ρ p (.dK []) := ⟨upd_same, er.noF hp, er.noOn hp⟩
  have key : tDs U W false es σ (upd H p (.dK [])) fun vs H2 => ∀ ps, vs = flatP ps → H2 p = some (.dK []) ∧ ∃ kvs : List (Key × V), ps = kvs.map (fun kv => (kV kv.1, kv.2)) ∧ kvs.length ≤ 15 ∧ Q (.ref p) (upd H2 p (.dK (mergeK [] kvs))) := by
    refine ⟨F, ρ, e1, h.bind3g (same_upd hp) fun as ρ1 F1 H2 heq k1 e2 s2 vs hv ps hps => ?_⟩
    have hd := hd0.step s2
    refine ⟨hd.at_, ?_⟩
    cases hg : (gets ρ1 as).bind (dspS k) with
    | none => rw [hg] at k1; exact k1.elim
    | some r =>
      rw [hg] at k1
      obtain ⟨ds, g1, g2⟩ := Option.bind_eq_some_iff.mp hg
      have rl := vl_rep hv (evs_vl heq) g1
      subst hps
      have hl := rl.length
      rw [flat_len] at hl
      cases ds with
      | nil =>
        cases ps with
        | cons _ _ => rw [List.length_cons, List.length_nil] at hl; omega
        | nil =>
          have := agr_len hv
          have h2 := evs_len' heq
          rw [← this] at h2
          cases es with
          | nil => exact absurd rfl hne
          | cons _ _ => cases h2
      | cons d0 ds =>
        have g2 : (if k = 0 ∧ (d0 :: ds).length ≤ 30 then (dspG (d0 :: ds) [] []).map fun q => (D.dct 0 q.1 q.2, true) else none) = some r := g2
        split at g2
        · rename_i hz
          obtain ⟨q, g3, g4⟩ := Option.map_eq_some_iff.mp g2
          cases g4
          obtain ⟨kvs, z1, z2⟩ := dsp_kvs rl g3 (kvs0 := []) ⟨rfl, .nil⟩
          refine ⟨kvs, z1, ?_, ?_⟩
          · have := congrArg List.length z1
            rw [List.length_map] at this
            have := hz.2
            omega
          · refine k1 F1 (upd H2 p (.dK (mergeK [] kvs))) (e2.poke hd) ((s2.shrink (same_upd hp)).poke hp) (.ref p) ?_
            unfold Res
            rw [if_pos rfl]
            exact ⟨p, rfl, hd.non, hd.off, by rw [upd_same]; exact ⟨_, rfl, z2.keys, z2.vals⟩, .inr hp⟩
        · cases g2
  have hp2 := pairs_of hev key
  exact tPairs_mono trs_mono hp2 fun ps H2 q => q ps rfl
theorem snd_dsp {k : Nat} {es : List E} {keys : List (Option Expr)} {values : List Expr} (hev : evenL es = true) (hne : es ≠ []) (h : PPs X pos keys values (trsOf U W es)) (hall : keys.all (·.isSome) = true) (hl : keys.length = values.length) (h0 : keys ≠ []) (h15 : keys.length ≤ 15) :
    PE X (.Dict keys values pos) (tD U W (.dsp k es)) := PE.imp (pe_disp h hall hl h0 h15) fun σ H Q q => dsp_core hev hne q
theorem snd_dnew {k : Nat} : PE X (.Dict [] [] pos) (tD U W (.dsp k [])) := by
  refine PE.imp (PE.or pe_dnewK pe_dnewT) fun σ H Q ⟨F, ρ, er, h⟩ => ?_
  rw [ev, evs] at h
  have h : Ans U W F H σ ρ (ofO (dspS k []) ρ) fun r ρ' F' H' => ∀ v, Res U.K H ρ F' H' σ ρ' v r.1 r.2 → Q v H' := h
  unfold dspS at h
  by_cases h0 : k = 0
  · rw [if_pos h0] at h
    refine .inl fun d hd => ?_
    refine h F (upd H d (.dK [])) (er.alloc hd) ((Stp.refl ..).alloc hd) (.ref d) ?_
    unfold Res
    rw [if_pos rfl]
    exact ⟨d, rfl, er.noF hd, er.noOn hd, by rw [upd_same]; exact ⟨[], rfl, rfl, .nil⟩, .inr hd⟩
  · rw [if_neg h0] at h
    by_cases h1 : k = 1
    · rw [if_pos h1] at h
      refine .inr fun d hd => ?_
      refine h F (upd H d (.dT [])) (er.alloc hd) ((Stp.refl ..).alloc hd) (.ref d) ?_
      unfold Res
      rw [if_pos rfl]
      exact ⟨d, rfl, er.noF hd, er.noOn hd, by rw [upd_same]; exact ⟨[], rfl, rfl, .nil⟩, .inr hd⟩
    · rw [if_neg h1] at h
      exact h.elim
end
end BV

/-! BvCn: xs.count(x). -/
namespace BV
open PySem L2 PySem.Spec PyProof.Rows
section
variable {X : Cx} {U : Sur} {W : WX} {ea : E}
def rCountD (K : PySem.W.Frag) : V → List V → Hp → VK → Prop := fun x xs H Q => ∃ (a : Addr) (y : V) (d : PyData) (ds : List PyData), x = V.ref a ∧ xs = [y] ∧ Dp K H (V.ref a) (.list ds) ∧ Dp K H y d ∧
  SeqAt.shaped (.list ds) = true ∧ SeqAt.shaped d = true ∧ Q (.int ((ds.countP fun z => PyData.eqv z d : Nat) : Int)) H
def rCountT (K : PySem.W.Frag) : V → List V → Hp → VK → Prop := fun x xs H Q => ∃ (a : Addr) (y : V) (d : PyData) (ds : List PyData), x = V.ref a ∧ xs = [y] ∧ Dp K H (V.ref a) (.tuple ds) ∧ Dp K H y d ∧
  SeqAt.shaped (.tuple ds) = true ∧ SeqAt.shaped d = true ∧ Q (.int ((ds.countP fun z => PyData.eqv z d : Nat) : Int)) H
theorem mt_countD (hu : X.A.units + 65 < cLine) : MtR X "list.count" (rCountD X.K) := by
  intro pins s σ H x xs v us Q I rx rxs h
  obtain ⟨a, y, d, ds, rfl, rfl, hl, hy, sl, sd, q⟩ := h
  cases rx
  cases rxs with
  | cons ry rt =>
    rename_i uy ut
    cases rt
    obtain ⟨bs, r1⟩ := Dp.reads I d y uy hy ry
    have hxs : PyData.canLayAll0 ds = true := SeqAt.canLay_of_shaped sl
    have hroom : X.A.units + 1 + min (PyData.depthAll ds) d.depth < cLine := room_in_shaped sd hu
    cases hl with
    | lst hs ha =>
      obtain ⟨its, rv, ⟨⟨cls, dd, data, sls⟩, n, ho, hc, hdn, hdt⟩, hlen⟩ := I.list hs
      simp only at hc hdt
      subst hc hdt
      obtain ⟨as, h4⟩ := Dp.readsAll I ds _ its ha rv
      have hmap : its.map (SeqAt.readOf s.heap) = ds := SeqAt.readsAll_map ds its as hxs h4
      refine call_meets PySem.F.slot_list_count ⟨_, ho, rfl⟩ PySem.F.entry_list_count (PySem.F.args_list_count_2 _ _)
        (SeqAt.list_countAt a its.toArray n dd sls uy (fun u => PyData.eqv (SeqAt.readOf s.heap u) d)) ⟨ho, SeqAt.items_eqAt (vs := its.toArray) (show ReadsAll s.heap its.toArray.toList ds as from h4) r1 hxs (SeqAt.canLay_of_shaped sd) hroom, ?_⟩
      have ec : its.toArray.toList.countP (fun u => PyData.eqv (SeqAt.readOf s.heap u) d) = ds.countP fun z => PyData.eqv z d := by
        rw [← hmap, List.countP_map]
        rfl
      refine ⟨.int ((ds.countP fun z => PyData.eqv z d : Nat) : Int), H, I.tok _, ⟨s.toks, ?_⟩, q⟩
      show Value.int ((its.toArray.toList.countP _ : Nat) : Int) s.toks = _
      rw [ec]
theorem mt_countT (hu : X.A.units + 65 < cLine) : MtR X "tuple.count" (rCountT X.K) := by
  intro pins s σ H x xs v us Q I rx rxs h
  obtain ⟨a, y, d, ds, rfl, rfl, hl, hy, sl, sd, q⟩ := h
  cases rx
  cases rxs with
  | cons ry rt =>
    rename_i uy ut
    cases rt
    obtain ⟨bs, r1⟩ := Dp.reads I d y uy hy ry
    have hxs : PyData.canLayAll0 ds = true := SeqAt.canLay_of_shaped sl
    have hroom : X.A.units + 1 + min (PyData.depthAll ds) d.depth < cLine := room_in_shaped sd hu
    cases hl with
    | tup hs ha =>
      obtain ⟨its, rv, ⟨⟨cls, dd, data, sls⟩, ho, hc, n, hdt⟩, hlen⟩ := I.tuple hs
      simp only at hc hdt
      subst hc hdt
      obtain ⟨as, h4⟩ := Dp.readsAll I ds _ its ha rv
      have hmap : its.map (SeqAt.readOf s.heap) = ds := SeqAt.readsAll_map ds its as hxs h4
      refine call_meets PySem.F.slot_tuple_count ⟨_, ho, rfl⟩ PySem.F.entry_tuple_count (PySem.F.args_tuple_count_2 _ _)
        (SeqAt.tuple_countAt a its.toArray n dd sls uy (fun u => PyData.eqv (SeqAt.readOf s.heap u) d)) ⟨ho, SeqAt.items_eqAt (vs := its.toArray) (show ReadsAll s.heap its.toArray.toList ds as from h4) r1 hxs (SeqAt.canLay_of_shaped sd) hroom, ?_⟩
      have ec : its.toArray.toList.countP (fun u => PyData.eqv (SeqAt.readOf s.heap u) d) = ds.countP fun z => PyData.eqv z d := by
        rw [← hmap, List.countP_map]
        rfl
      refine ⟨.int ((ds.countP fun z => PyData.eqv z d : Nat) : Int), H, I.tok _, ⟨s.toks, ?_⟩, q⟩
      show Value.int ((its.toArray.toList.countP _ : Nat) : Int) s.toks = _
      rw [ec]
theorem cnt_py {n m : Nat} {x : D} (ox : okd m x = true) : ∀ {xs : List D}, okds n xs = true → (pys xs).countP (fun z => PyData.eqv z (py x)) = cntD x xs
  | [], _ => rfl
  | y :: ys, o => by
    have o' : okd n y = true ∧ okds n ys = true := by simpa [okds] using o
    have ih := cnt_py ox o'.2
    unfold cntD at ih ⊢
    rw [pys, List.countP_cons, ih, py_eqv o'.1 ox, List.filter_cons]
    split <;> simp
theorem tup_py {K : PySem.W.Frag} {F H : Hp} {v : V} {xs : List D} {n : Nat} (s : Same F H) (h : NR K F H v (.tup xs)) (o : okds n xs = true) : ∃ a, v = .ref a ∧ Dp K H (.ref a) (.tuple (pys xs)) := by
  obtain ⟨a, vs, rfl, h1, r⟩ := h.tup
  exact ⟨a, rfl, .tup (same_T s h1) (pys_dp o (r.mono s))⟩
def altCn (X : Cx) {k : Nat} (hr : L2H.RoomH k X.A) : Unit → Alt X "count" := fun _ => ⟨"list", "list.count", _, PySem.F.plainAttrs_list, PySem.F.slot_list_count, PySem.F.type_list_count, mt_countD (by have := hr.un; omega)⟩
theorem snd_count {o e : Expr} {le : E} {apos cpos : Pos} (hK : X.K = U.K) {k : Nat} (hr : L2H.RoomH k X.A) (ho : PE X o (tE U W ea)) (ha : PA X [e] (tDs U W true [le])) (hsup : nsup o = true) (hst : nst e = true) (hline : (apos.endLine == cpos.line) = true) :
    PE X (.Call (.Attribute o "count" apos) [e] [] cpos) (tD U W (.meth .count ea [le])) := by
  have hst' : [e].all nst = true := by simp [hst]
  refine snd_meth (P' := .count) (ls := [le]) (altCn X hr) hK ho ha hsup hst' (by show 1 < 30; omega) hline fun F H1 v d0 Q s n hrc => ?_
  have one : ∀ {z1 : D} {ds : List D} {d : D} {b : Bool}, P.count.sem (z1 :: ds) = some (d, b) → ∃ y, ds = [y] := fun {z1 ds d b} hsem => by
    cases ds with
    | nil => cases hsem
    | cons y r =>
      cases r with
      | nil => exact ⟨_, rfl⟩
      | cons y2 r => cases hsem
  cases d0 with
  | lst zs =>
    obtain ⟨a, vs, rfl, h1, r⟩ := n.lst s
    refine ⟨(), .inl ⟨rfl, vs, h1⟩, fun F2 H2 us d1 ds d b s2 ht n1 nn hsem q => ?_⟩
    cases d1 <;> first | (simp [tyn] at ht; done) | skip
    rename_i z1
    obtain ⟨y, rfl⟩ := one hsem
    cases nn with
    | cons ny nr =>
      cases nr
      have hsem : (if okd 60 y = true ∧ okds 60 z1 = true then some (D.int (Int.ofNat (cntD y z1)), false) else none) = some (d, b) := hsem
      split at hsem
      · rename_i o
        cases hsem
        obtain ⟨a', e, dl⟩ := lst_py s2 n1 o.2
        cases e
        refine ⟨a, _, py y, pys z1, rfl, rfl, (by rw [hK]; exact dl), py_dp o.1 (by rw [hK]; exact ny.rep s2), shaped_of (d := .lst z1) ?_, shaped_of (okd_le (by decide) o.1), ?_⟩
        · rw [okd]
          exact okds_le (by decide) o.2
        · rw [cnt_py o.1 o.2]
          exact q.old _ rfl (.int _)
      · cases hsem
  | _ => cases hrc
end
end BV

/-! BvM: what changes an owned thing. -/
namespace BV
open PySem L2 PySem.Spec PyProof.Rows
section
variable {K : PySem.W.Frag} {F H : Hp} {σ : Sg} {ρ : Rho}
theorem mt_on {c : Cell} {d : D} (h : c.mt = some d) : c.on = some d := by
  cases c <;> simp [Cell.mt, Cell.on] at h ⊢ <;> exact h
theorem put_on {c : Cell} {d d' : D} (h : c.mt = some d) : (c.put d').on = some d' := by
  cases c <;> simp [Cell.mt, Cell.on, Cell.put] at h ⊢
theorem set_get {i j : Nat} {c x : Cell} (h : (ρ.set i c)[j]? = some x) : (j = i ∧ x = c ∧ i < ρ.length) ∨ (j ≠ i ∧ ρ[j]? = some x) := by
  by_cases e : j = i
  · subst e
    by_cases hl : j < ρ.length
    · rw [List.getElem?_set_self hl] at h
      cases h
      exact .inl ⟨rfl, rfl, hl⟩
    · rw [List.getElem?_eq_none (by simpa using hl)] at h
      cases h
  · rw [List.getElem?_set_ne (Ne.symm e)] at h
    exact .inr ⟨e, h⟩
/-- an owned thing is written -/
theorem EnvR.write (e : EnvR K F H σ ρ) {i : Nat} {c : Cell} {d d' : D} {a : Addr} {o : HO} (hc : ρ[i]? = some c) (hm : c.mt = some d) (ha : σ[i]? = some (some (.ref a))) (t : Top K F (some o) d') : EnvR K F (upd H a o) σ (ρ.set i (c.put d')) := by
  have hon := mt_on hm
  obtain ⟨a', h1, h2, h3⟩ := e.on i c d hc hon
  rw [ha] at h1; cases h1
  refine ⟨fun b u z => ?_, by rw [List.length_set]; exact e.len, fun j x y h4 h5 => ?_, fun j x y h4 h5 => ?_, fun j k x y b h4 h5 h6 h7 h8 h9 => ?_⟩
  · rw [upd_ne]
    · exact e.sub b u z
    · intro q; subst q; rw [h2] at z; cases z
  · rcases set_get h4 with ⟨rfl, rfl, _⟩ | ⟨_, h4⟩
    · exfalso
      have := put_on (d' := d') hm
      cases c <;> simp [Cell.put, Cell.fr] at h5 <;> simp [Cell.mt] at hm
    · exact e.fr j x y h4 h5
  · rcases set_get h4 with ⟨rfl, rfl, _⟩ | ⟨hj, h4⟩
    · rw [put_on hm] at h5
      cases h5
      exact ⟨a, ha, h2, by rw [upd_same]; exact t⟩
    · obtain ⟨b, h6, h7, h8⟩ := e.on j x y h4 h5
      refine ⟨b, h6, h7, ?_⟩
      rw [upd_ne]
      · exact h8
      · intro q; subst q
        exact hj (e.ap j i x c b h4 hc (by rw [h5]; rfl) (by rw [hon]; rfl) h6 ha)
  · have on' : ∀ {j : Nat} {x : Cell}, (ρ.set i (c.put d'))[j]? = some x → x.on.isSome = true → ∃ x', ρ[j]? = some x' ∧ x'.on.isSome = true := fun {j x} h4 h6 => by
      rcases set_get h4 with ⟨rfl, rfl, _⟩ | ⟨_, h4⟩
      · exact ⟨c, hc, by rw [hon]; rfl⟩
      · exact ⟨x, h4, h6⟩
    obtain ⟨x', q1, q2⟩ := on' h4 h6
    obtain ⟨y', q3, q4⟩ := on' h5 h7
    exact e.ap j k x' y' b q1 q3 q2 q4 h8 h9
theorem put_evo {c : Cell} {d' : D} : Evo c (c.put d') := by
  cases c <;> simp [Evo, Cell.put, Cell.pin]
theorem Stp.write {F0 H0 : Hp} {σ0 : Sg} {ρ0 : Rho} (s : Stp F0 H0 σ0 ρ0 F H σ ρ) (e : EnvR K F H σ ρ) {i : Nat} {c : Cell} {d d' : D} {a : Addr} {o : HO} (hc : ρ[i]? = some c) (hm : c.mt = some d) (ha : σ[i]? = some (some (.ref a))) :
    Stp F0 H0 σ0 ρ0 F (upd H a o) σ (ρ.set i (c.put d')) := by
  have hon := mt_on hm
  have oa : OnA σ ρ a := ⟨i, c, hc, by rw [hon]; rfl, ha⟩
  refine ⟨s.ext, fun x u h1 h2 h3 => ?_, fun x hx => ?_, fun j x h1 => ?_, by rw [List.length_set]; exact s.ln⟩
  · obtain ⟨h4, h5⟩ := s.frm x u h1 h2 h3
    refine ⟨?_, h5⟩
    rw [upd_ne]
    · exact h4
    · intro q; subst q
      rcases s.new x oa with z | z
      · exact h3 z
      · rw [h1] at z; cases z
  · refine s.new x ?_
    obtain ⟨j, y, h1, h2, h3⟩ := hx
    rcases set_get h1 with ⟨rfl, rfl, _⟩ | ⟨_, h1⟩
    · exact ⟨j, c, hc, by rw [hon]; rfl, h3⟩
    · exact ⟨j, y, h1, h2, h3⟩
  · obtain ⟨y, h2, h3, h4⟩ := s.pin j x h1
    by_cases e : j = i
    · subst e
      rw [h2] at hc; cases hc
      exact ⟨c.put d', by rw [List.getElem?_set_self (List.getElem?_eq_some_iff.mp h2).1], h3.trans put_evo, h4⟩
    · exact ⟨y, by rw [List.getElem?_set_ne (Ne.symm e)]; exact h2, h3, h4⟩
end
section
variable {X : Cx} {U : Sur} {W : WX} {σ : Sg} {H : Hp} {pos : Pos}
/-- what a changing method is to do -/
def MutR (U : Sur) (m : M) (Q : VK) (v : V) : List V → Hp → Prop := fun us H2 => ∃ F d ds d' r a, Same F H2 ∧ v = .ref a ∧ F a = none ∧ Top U.K F (H2 a) d ∧ NRL U.K F H2 us ds ∧ (m.pk = false → RepL U.K F us ds) ∧ m.sem d ds = some (d', r) ∧
  ∀ o w, Top U.K F (some o) d' → Rep U.K F w r → Q w (upd H2 a o)
theorem mut_core {m : M} {i : Nat} {es : List E} {Q : VK} (h : tD U W (.mut m i es) σ H Q) : tVar i σ H fun v H1 => (∃ d0 F a, Same F H1 ∧ v = .ref a ∧ Top U.K F (H1 a) d0 ∧ m.rcv d0 = true) ∧ tDs U W m.pk es σ H1 (MutR U m Q v) := by
  obtain ⟨F, ρ, er, h⟩ := h
  rw [ev] at h
  cases hm : (ρ[i]?.getD .un).mt with
  | none => simp only [hm] at h; exact h.elim
  | some d0 =>
    simp only [hm] at h
    obtain ⟨c, hc, hd⟩ := getD_some (f := Cell.mt) rfl hm
    obtain ⟨a, ha, na, ta⟩ := er.on i c d0 hc (mt_on hd)
    by_cases hr : m.rcv d0 = true
    · rw [if_pos hr] at h
      refine ⟨_, ha, ⟨d0, F, a, er.sub, rfl, ta, hr⟩, F, ρ, er, h.bind3 fun as ρ1 F1 H1 heq k e1 s1 us hv => ?_⟩
      cases hm1 : (ρ1[i]?.getD .un).mt with
      | none => simp only [hm1] at k; exact k.elim
      | some d =>
        cases hg : gets ρ1 as with
        | none => simp only [hm1, hg] at k; exact k.elim
        | some ds =>
          simp only [hm1, hg] at k
          cases hs : m.sem d ds with
          | none => simp only [hs] at k; exact k.elim
          | some r =>
            obtain ⟨d', r⟩ := r
            simp only [hs] at k
            obtain ⟨c1, hc1, hd1⟩ := getD_some (f := Cell.mt) rfl hm1
            obtain ⟨a1, ha1, na1, ta1⟩ := e1.on i c1 d hc1 (mt_on hd1)
            rw [ha] at ha1; cases ha1
            have hgd : ρ1[i]?.getD .un = c1 := by rw [hc1]; rfl
            rw [hgd] at k
            refine ⟨F1, d, ds, d', r, a, e1.sub, rfl, na1, ta1, gets_nr e1 hv hg, fun hp => by rw [hp] at heq; exact vl_rep hv (evs_vl heq) hg, hs, fun o w t rw' => ?_⟩
            exact k F1 (upd H1 a o) (e1.write hc1 hd1 ha t) (s1.write e1 hc1 hd1 ha) w (by unfold Res; simpa using rw')
    · rw [if_neg hr] at h; exact h.elim
theorem ns_cons {e : Expr} {es : List Expr} (h : (e :: es).all nst = true) : nst e = true ∧ es.all nst = true := by
  rw [List.all_cons, Bool.and_eq_true] at h
  exact h
/-- x.m(e, ..) of an owned list -/
theorem snd_mut {m : M} {i : Nat} {x : Str} {e : Expr} {es : List Expr} {ls : List E} {id : String} {name : Str} {apos cpos p0 : Pos} {r : V → List V → Hp → VK → Prop} (slot : Slot "list" name id) (hty : typeOf (.builtin id) = pure (.type "method_descriptor")) (hm : MtR X id r)
    (hK : X.K = U.K) (ho : PE X (.Name x p0) (tVar i)) (ha : PA X (e :: es) (tDs U W m.pk ls)) (hst : (e :: es).all nst = true) (hl : (e :: es).length < 30) (hline : (apos.endLine == cpos.line) = true)
    (hs : ∀ H2 v us (Q : VK), MutR U m Q v us H2 → r v us H2 Q) :
    PE X (.Call (.Attribute (.Name x p0) name apos) (e :: es) [] cpos) (tD U W (.mut m i ls)) := by
  obtain ⟨hst1, hst2⟩ := ns_cons hst
  refine PE.imp (pe_bm PySem.F.plainAttrs_list slot hty hm ho ha (base_ok rfl) (few_ok hst hl) hline (star_cons hst1) (star_any hst2)) fun σ H Q h => ?_
  obtain ⟨v, hv, ⟨d0, F, a, sm, rfl, t, hr⟩, k⟩ := mut_core h
  refine ⟨_, hv, ?_, tDs_mono k fun us H2 hu => hs H2 _ us Q hu⟩
  rw [hK]
  cases d0 <;> first | exact t.elim | (cases hr; done) | skip
  obtain ⟨vs, h1, _⟩ := t
  exact .inl ⟨rfl, vs, SqL.of h1⟩
theorem snd_mut0 {m : M} {i : Nat} {x : Str} {id : String} {name : Str} {apos cpos p0 : Pos} {r : V → List V → Hp → VK → Prop} (slot : Slot "list" name id) (hty : typeOf (.builtin id) = pure (.type "method_descriptor")) (hm : MtR X id r)
    (hK : X.K = U.K) (ho : PE X (.Name x p0) (tVar i)) (hline : (apos.endLine == cpos.line) = true)
    (hs : ∀ H2 v (Q : VK), MutR U m Q v [] H2 → r v [] H2 Q) :
    PE X (.Call (.Attribute (.Name x p0) name apos) [] [] cpos) (tD U W (.mut m i [])) := by
  refine PE.imp (pe_bm0 PySem.F.plainAttrs_list slot hty hm ho (base_ok rfl) hline) fun σ H Q h => ?_
  obtain ⟨v, hv, ⟨d0, F, a, sm, rfl, t, hr⟩, k⟩ := mut_core h
  refine ⟨_, hv, ?_, hs _ _ Q (tDs_nil k)⟩
  rw [hK]
  cases d0 <;> first | exact t.elim | (cases hr; done) | skip
  obtain ⟨vs, h1, _⟩ := t
  exact .inl ⟨rfl, vs, SqL.of h1⟩
theorem top_lst {K : PySem.W.Frag} {F : Hp} {o : Option HO} {ds : List D} (t : Top K F o (.lst ds)) : ∃ vs, o = some (.lst vs) ∧ RepL K F vs ds := t
theorem ok_append {H2 : Hp} {v : V} {us : List V} {Q : VK} (h : MutR U .append Q v us H2) : rAppend v us H2 Q := by
  obtain ⟨F, d, ds, d', r, a, sm, rfl, na, t, n, rl, hs, k⟩ := h
  have r0 := rl rfl
  cases d <;> first | exact t.elim | (simp [M.sem] at hs; done) | skip
  rename_i xs
  cases r0 with
  | nil => cases hs
  | cons h1 h2 =>
    cases h2 with
    | nil =>
      rename_i y dy
      have hs : (if xs.length < LIM then some (D.lst (xs ++ [dy]), D.non) else none) = some (d', r) := hs
      split at hs
      · rename_i hl
        cases hs
        obtain ⟨vs, h3, h4⟩ := t
        exact ⟨a, vs, y, rfl, rfl, h3, by rw [h4.length]; exact Nat.lt_of_lt_of_le hl (by rw [sizeLine_eq]; show 1000000 ≤ 16777216; decide), k _ _ ⟨_, rfl, h4.append (.cons h1 .nil)⟩ .non⟩
      · cases hs
    | cons h3 h4 => cases hs
theorem ok_insert {H2 : Hp} {v : V} {us : List V} {Q : VK} (h : MutR U .insert Q v us H2) : (fun x vs H Q => ∃ (l : Addr) (xs : List V) (i : Int) (y : V), x = .ref l ∧ vs = [.int i, y] ∧ H l = some (.lst xs) ∧ xs.length < sizeLine ∧ 0 ≤ i ∧ i < 2 ^ 63 ∧
    Q .non (upd H l (.lst (xs.take i.toNat ++ [y] ++ xs.drop i.toNat)))) v us H2 Q := by
  obtain ⟨F, d, ds, d', r, a, sm, rfl, na, t, n, rl, hs, k⟩ := h
  have r0 := rl rfl
  cases d <;> first | exact t.elim | (simp [M.sem] at hs; done) | skip
  rename_i xs
  cases r0 with
  | nil => cases hs
  | cons h1 h2 =>
    rename_i y0 vs0 d0 ds0
    cases h2 with
    | nil => cases d0 <;> cases hs
    | cons h3 h4 =>
      rename_i y vs1 dy ds1
      cases h4 with
      | cons h5 h6 => cases d0 <;> cases hs
      | nil =>
        cases d0 <;> first | cases hs; done | skip
        rename_i i
        cases h1
        have hs : (if xs.length < LIM ∧ 0 ≤ i ∧ i < 2 ^ 62 then some (D.lst (insAt xs (min i.toNat xs.length) dy), D.non) else none) = some (d', r) := hs
        split at hs
        · rename_i hl
          cases hs
          obtain ⟨vs, h7, h8⟩ := t
          refine ⟨a, vs, i, y, rfl, rfl, h7, by rw [h8.length]; exact Nat.lt_of_lt_of_le hl.1 (by rw [sizeLine_eq]; show 1000000 ≤ 16777216; decide), hl.2.1, by omega, k _ _ ⟨_, rfl, ?_⟩ .non⟩
          have e1 : insAt xs (min i.toNat xs.length) dy = xs.take i.toNat ++ [dy] ++ xs.drop i.toNat := by
            unfold insAt
            by_cases hi : i.toNat ≤ xs.length
            · rw [Nat.min_eq_left hi]; simp
            · rw [Nat.min_eq_right (by omega), List.take_of_length_le (Nat.le_refl _), List.drop_of_length_le (Nat.le_refl _), List.take_of_length_le (by omega), List.drop_of_length_le (by omega), List.append_nil]
          rw [e1]
          exact ((h8.take _).append (.cons h3 .nil)).append (h8.drop _)
        · cases hs
theorem ok_extend {H2 : Hp} {v : V} {us : List V} {Q : VK} (h : MutR U .extend Q v us H2) : rExtend v us H2 Q := by
  obtain ⟨F, d, ds, d', r, a, sm, rfl, na, t, n, rl, hs, k⟩ := h
  cases d <;> first | exact t.elim | (simp [M.sem] at hs; done) | skip
  rename_i xs
  cases n with
  | nil => cases hs
  | cons h1 h2 =>
    rename_i y vs0 dy ds0
    cases h2 with
    | cons h3 h4 => cases dy <;> cases hs
    | nil =>
      cases dy <;> first | cases hs; done | skip
      rename_i ys
      have hs : (if xs.length + ys.length ≤ LIM then some (D.lst (xs ++ ys), D.non) else none) = some (d', r) := hs
      split at hs
      · rename_i hl
        cases hs
        obtain ⟨vs, h7, h8⟩ := t
        obtain ⟨b, ws, rfl, h9, h10⟩ := h1.lstH sm
        exact ⟨a, b, vs, ws, rfl, rfl, h7, h9, by rw [h8.length, h10.length]; exact lim_line hl, k _ _ ⟨_, rfl, h8.append h10⟩ .non⟩
      · cases hs
theorem ok_pop0 {H2 : Hp} {v : V} {Q : VK} (h : MutR U .pop0 Q v [] H2) : rPop v [] H2 Q := by
  obtain ⟨F, d, ds, d', r, a, sm, rfl, na, t, n, rl, hs, k⟩ := h
  cases d <;> first | exact t.elim | (simp [M.sem] at hs; done) | skip
  rename_i xs
  cases n
  obtain ⟨e, h1, h2⟩ := Option.map_eq_some_iff.mp (show xs[xs.length - 1]?.map (fun d => (D.lst xs.dropLast, d)) = some (d', r) from hs)
  cases h2
  obtain ⟨vs, h7, h8⟩ := t
  obtain ⟨w, h9, h10⟩ := h8.get h1
  exact ⟨a, vs, w, rfl, rfl, h7, by rw [h8.length]; exact h9, k _ _ ⟨_, rfl, h8.dropLast⟩ h10⟩
theorem ok_pop1 {H2 : Hp} {v : V} {us : List V} {Q : VK} (h : MutR U .pop1 Q v us H2) : rPopAt v us H2 Q := by
  obtain ⟨F, d, ds, d', r, a, sm, rfl, na, t, n, rl, hs, k⟩ := h
  cases d <;> first | exact t.elim | (simp [M.sem] at hs; done) | skip
  rename_i xs
  cases n with
  | nil => cases hs
  | cons h1 h2 =>
    rename_i y vs0 dy ds0
    cases h2 with
    | cons h3 h4 => cases dy <;> cases hs
    | nil =>
      cases dy <;> first | cases hs; done | skip
      rename_i i
      have hs : ((ixd xs.length i).bind fun j => if xs.length ≤ LIM then xs[j]?.map (fun d => (D.lst (xs.eraseIdx j), d)) else none) = some (d', r) := hs
      obtain ⟨j, h3, h4⟩ := Option.bind_eq_some_iff.mp hs
      split at h4
      · rename_i hl
        obtain ⟨e, h5, h6⟩ := Option.map_eq_some_iff.mp h4
        cases h6
        obtain ⟨vs, h7, h8⟩ := t
        obtain ⟨w, h9, h10⟩ := h8.get h5
        rw [ixd_eq] at h3
        obtain ⟨q1, q2, q3, q4⟩ := ixN_seq h3
        have hL : xs.length ≤ 1000000 := hl
        exact ⟨a, vs, i, j, w, rfl, by rw [h1.int], h7, by omega, by omega, by rw [h8.length]; exact q1, h9, k _ _ ⟨_, rfl, h8.eraseIdx j⟩ h10⟩
      · cases h4
end
end BV

/-! BvCall: a call of a def. -/
namespace BV
open PySem L2 PySem.Spec PyProof.Rows
theorem nodupB_cons {i : Nat} {r : List Nat} (h : nodupB (i :: r) = true) : i ∉ r ∧ nodupB r = true := by
  unfold nodupB at h
  rw [Bool.and_eq_true] at h
  refine ⟨fun hi => ?_, h.2⟩
  have : r.contains i = true := List.contains_iff_mem.mpr hi
  rw [this] at h
  exact absurd h.1 (by simp)
theorem backs_len : ∀ {as : List Ag} {fin : List Cell} {ρ : Rho}, (backs ρ as fin).length = ρ.length
  | [], _, _ => by simp [backs]
  | .vl _ :: r, [], _ => by simp [backs]
  | .pk _ :: r, [], _ => by simp [backs]
  | .vl _ :: r, _ :: fs, ρ => by simp only [backs]; exact backs_len
  | .pk i :: r, f :: fs, ρ => by simp only [backs]; rw [backs_len, List.length_set]
theorem backs_out : ∀ {as : List Ag} {fin : List Cell} {ρ : Rho} {i : Nat}, i ∉ pks as → (backs ρ as fin)[i]? = ρ[i]?
  | [], _, _, _, _ => by simp [backs]
  | .vl _ :: r, [], _, _, _ => by simp [backs]
  | .pk _ :: r, [], _, _, _ => by simp [backs]
  | .vl _ :: r, _ :: fs, ρ, i, h => by simp only [backs]; exact backs_out h
  | .pk k :: r, f :: fs, ρ, i, h => by
    simp only [backs]
    simp only [pks, List.mem_cons, not_or] at h
    rw [backs_out h.2, List.getElem?_set_ne (Ne.symm h.1)]
theorem pks_mem : ∀ {as : List Ag} {i : Nat}, i ∈ pks as ↔ ∃ j : Nat, as[j]? = some (Ag.pk i)
  | [], i => by simp [pks]
  | .vl d :: r, i => by
    simp only [pks]
    rw [pks_mem]
    constructor
    · rintro ⟨j, h⟩
      exact ⟨j + 1, by simpa using h⟩
    · rintro ⟨j, h⟩
      cases j with
      | zero => simp at h
      | succ j => exact ⟨j, by simpa using h⟩
  | .pk k :: r, i => by
    simp only [pks, List.mem_cons]
    rw [pks_mem]
    constructor
    · rintro (rfl | ⟨j, h⟩)
      · exact ⟨0, rfl⟩
      · exact ⟨j + 1, by simpa using h⟩
    · rintro ⟨j, h⟩
      cases j with
      | zero => simp at h; exact .inl h.symm
      | succ j => exact .inr ⟨j, by simpa using h⟩
theorem backs_in : ∀ {as : List Ag} {fin : List Cell} {ρ : Rho} {i j : Nat} {f : Cell}, nodupB (pks as) = true → as[j]? = some (.pk i) → fin[j]? = some f → i < ρ.length → (backs ρ as fin)[i]? = some (back (ρ[i]?.getD .un) f)
  | [], _, _, _, _, _, _, h, _, _ => by simp at h
  | .vl _ :: r, [], _, _, _, _, _, _, h, _ => by simp at h
  | .pk _ :: r, [], _, _, _, _, _, _, h, _ => by simp at h
  | .vl d :: r, g :: fs, ρ, i, j, f, nd, h, h2, hl => by
    simp only [backs]
    cases j with
    | zero => simp at h
    | succ j => exact backs_in (by simpa [pks] using nd) (by simpa using h) (by simpa using h2) hl
  | .pk k :: r, g :: fs, ρ, i, j, f, nd, h, h2, hl => by
    simp only [backs]
    obtain ⟨n1, n2⟩ := nodupB_cons (by simpa only [pks] using nd)
    cases j with
    | zero =>
      simp at h h2
      subst h h2
      rw [backs_out n1, List.getElem?_set_self hl]
    | succ j =>
      have hi : i ∈ pks r := pks_mem.mpr ⟨j, by simpa using h⟩
      have hne : i ≠ k := fun e => n1 (e ▸ hi)
      rw [backs_in n2 (by simpa using h) (by simpa using h2) (by rw [List.length_set]; exact hl), List.getElem?_set_ne (Ne.symm hne)]
theorem cells_len {ρ : Rho} : ∀ {as : List Ag} {cells : List Cell}, agCells ρ as = some cells → cells.length = as.length
  | [], cells, h => by cases h; rfl
  | a :: r, cells, h => by
    obtain ⟨c, h1, h2⟩ := Option.bind_eq_some_iff.mp (show ((agCell ρ a).bind fun c => (agCells ρ r).map fun cs => c :: cs) = some cells from h)
    obtain ⟨cs, h3, h4⟩ := Option.map_eq_some_iff.mp h2
    subst h4
    simp [cells_len h3]
theorem cells_at {ρ : Rho} : ∀ {as : List Ag} {cells : List Cell} {j : Nat} {c : Cell}, agCells ρ as = some cells → cells[j]? = some c → ∃ a, as[j]? = some a ∧ agCell ρ a = some c
  | [], cells, j, c, h, h0 => by cases h; simp at h0
  | a :: r, cells, j, c, h, h0 => by
    obtain ⟨c', h1, h2⟩ := Option.bind_eq_some_iff.mp (show ((agCell ρ a).bind fun c => (agCells ρ r).map fun cs => c :: cs) = some cells from h)
    obtain ⟨cs, h3, h4⟩ := Option.map_eq_some_iff.mp h2
    subst h4
    cases j with
    | zero => simp at h0; subst h0; exact ⟨a, rfl, h1⟩
    | succ j =>
      obtain ⟨a', h5, h6⟩ := cells_at h3 (by simpa using h0)
      exact ⟨a', by simpa using h5, h6⟩
theorem agr_at {K : PySem.W.Frag} {F : Hp} {σ : Sg} : ∀ {vs : List V} {as : List Ag} {j : Nat} {a : Ag}, AgR K F σ vs as → as[j]? = some a → ∃ v, vs[j]? = some v ∧ (match a with | .vl d => Rep K F v d | .pk i => σ[i]? = some (some v))
  | _, _, _, _, .nil, h => by simp at h
  | _, _, 0, _, .vl h r, h0 => by simp at h0; subst h0; exact ⟨_, rfl, h⟩
  | _, _, 0, _, .pk h r, h0 => by simp at h0; subst h0; exact ⟨_, rfl, h⟩
  | _, _, j + 1, a, .vl h r, h0 => by
    obtain ⟨v, h1, h2⟩ := agr_at r (j := j) (a := a) (by simpa using h0)
    exact ⟨v, by simpa using h1, h2⟩
  | _, _, j + 1, a, .pk h r, h0 => by
    obtain ⟨v, h1, h2⟩ := agr_at r (j := j) (a := a) (by simpa using h0)
    exact ⟨v, by simpa using h1, h2⟩
theorem AgR.length {K : PySem.W.Frag} {F : Hp} {σ : Sg} : ∀ {vs : List V} {as : List Ag}, AgR K F σ vs as → vs.length = as.length
  | _, _, .nil => rfl
  | _, _, .vl h r => by simp [AgR.length r]
  | _, _, .pk h r => by simp [AgR.length r]
theorem map_some {vs : List V} {j : Nat} {x : Option V} (h : (vs.map some)[j]? = some x) : ∃ v, vs[j]? = some v ∧ x = some v := by
  rw [List.getElem?_map] at h
  cases e : vs[j]? with
  | none => rw [e] at h; cases h
  | some v => rw [e] at h; cases h; exact ⟨v, rfl, rfl⟩
theorem some_map {vs : List V} {j : Nat} {v : V} (h : vs[j]? = some v) : (vs.map some)[j]? = some (some v) := by
  rw [List.getElem?_map, h]; rfl

section
variable {K : PySem.W.Frag} {F H : Hp} {σ : Sg} {ρ : Rho} {as : List Ag} {vs : List V} {cells : List Cell}
/-- what the callee owns is what the caller owned -/
theorem callee_on (e : EnvR K F H σ ρ) (ha : AgR K F σ vs as) (hc : agCells ρ as = some cells) {j : Nat} {c : Cell} (h : cells[j]? = some c) (ho : c.on.isSome = true) : ∃ (i : Nat) (x : Cell) (d : D), as[j]? = some (Ag.pk i) ∧ ρ[i]? = some x ∧ x.mt = some d ∧ c = .pr d ∧ ∃ v, vs[j]? = some v ∧ σ[i]? = some (some v) := by
  obtain ⟨a, h1, h2⟩ := cells_at hc h
  cases a with
  | vl d => cases h2; cases ho
  | pk i =>
    obtain ⟨d, h3, h4⟩ := Option.map_eq_some_iff.mp (show (ρ[i]?.getD .un).mt.map Cell.pr = some c from h2)
    obtain ⟨x, h5, h6⟩ := getD_some (f := Cell.mt) rfl h3
    obtain ⟨v, h7, h8⟩ := agr_at ha h1
    exact ⟨i, x, d, h1, h5, h6, h4.symm, v, h7, h8⟩
theorem callee_env (e : EnvR K F H σ ρ) (ha : AgR K F σ vs as) (nd : nodupB (pks as) = true) (hc : agCells ρ as = some cells) : EnvR K F H (vs.map some) cells := by
  refine ⟨e.sub, by rw [List.length_map, ha.length, cells_len hc], fun j c d h1 h2 => ?_, fun j c d h1 h2 => ?_, fun j k c c' a h1 h2 h3 h4 h5 h6 => ?_⟩
  · obtain ⟨a, h3, h4⟩ := cells_at hc h1
    cases a with
    | vl d' =>
      cases h4
      cases h2
      obtain ⟨v, h5, h6⟩ := agr_at ha h3
      exact ⟨v, some_map h5, h6⟩
    | pk i =>
      obtain ⟨d', h5, h6⟩ := Option.map_eq_some_iff.mp (show (ρ[i]?.getD .un).mt.map Cell.pr = some c from h4)
      subst h6
      cases h2
  · obtain ⟨i, x, d', h3, h4, h5, rfl, v, h6, h7⟩ := callee_on e ha hc h1 (by rw [h2]; rfl)
    cases h2
    obtain ⟨a, h8, h9, h10⟩ := e.on i x _ h4 (mt_on h5)
    rw [h7] at h8; cases h8
    exact ⟨a, some_map h6, h9, h10⟩
  · obtain ⟨i, x, d, q1, q2, q3, _, v, q4, q5⟩ := callee_on e ha hc h1 h3
    obtain ⟨i', x', d', r1, r2, r3, _, v', r4, r5⟩ := callee_on e ha hc h2 h4
    obtain ⟨w, w1, w2⟩ := map_some h5
    obtain ⟨w', w3, w4⟩ := map_some h6
    cases w2; cases w4
    rw [q4] at w1; cases w1
    rw [r4] at w3; cases w3
    have hi : i = i' := e.ap i i' x x' a q2 r2 (by rw [mt_on q3]; rfl) (by rw [mt_on r3]; rfl) q5 r5
    subst hi
    -- one place alone
    have uniq : ∀ {as : List Ag} {j k : Nat} {i : Nat}, nodupB (pks as) = true → as[j]? = some (.pk i) → as[k]? = some (.pk i) → j = k := by
      intro as
      induction as with
      | nil => intro j k i _ h; simp at h
      | cons a r ih =>
        intro j k i nd h h'
        cases a with
        | vl d =>
          cases j with
          | zero => simp at h
          | succ j =>
            cases k with
            | zero => simp at h'
            | succ k => exact congrArg Nat.succ (ih (j := j) (k := k) (i := i) (by simpa [pks] using nd) (by simpa using h) (by simpa using h'))
        | pk m =>
          obtain ⟨n1, n2⟩ := nodupB_cons (by simpa only [pks] using nd)
          cases j with
          | zero =>
            cases k with
            | zero => rfl
            | succ k =>
              simp at h
              subst h
              exact absurd (pks_mem.mpr ⟨k, by simpa using h'⟩) n1
          | succ j =>
            cases k with
            | zero =>
              simp at h'
              subst h'
              exact absurd (pks_mem.mpr ⟨j, by simpa using h⟩) n1
            | succ k => exact congrArg Nat.succ (ih (j := j) (k := k) (i := i) n2 (by simpa using h) (by simpa using h'))
    exact uniq nd q1 r1
theorem callee_OnA (e : EnvR K F H σ ρ) (ha : AgR K F σ vs as) (hc : agCells ρ as = some cells) {a : Addr} (h : OnA (vs.map some) cells a) : ∃ (i : Nat) (x : Cell), i ∈ pks as ∧ ρ[i]? = some x ∧ x.on.isSome = true ∧ σ[i]? = some (some (.ref a)) := by
  obtain ⟨j, c, h1, h2, h3⟩ := h
  obtain ⟨i, x, d, q1, q2, q3, _, v, q4, q5⟩ := callee_on e ha hc h1 h2
  obtain ⟨w, w1, w2⟩ := map_some h3
  cases w2
  rw [q4] at w1; cases w1
  exact ⟨i, x, pks_mem.mpr ⟨j, q1⟩, q2, by rw [mt_on q3]; rfl, q5⟩
/-- the caller's names behind a call -/
theorem backs_at (e : EnvR K F H σ ρ) (ha : AgR K F σ vs as) (nd : nodupB (pks as) = true) (hc : agCells ρ as = some cells) {F' H' : Hp} {fin : List Cell} (s : Stp F H (vs.map some) cells F' H' (vs.map some) fin) {i : Nat} {y : Cell} (h : (backs ρ as fin)[i]? = some y) :
    (i ∉ pks as ∧ ρ[i]? = some y) ∨ (i ∈ pks as ∧ ∃ (j : Nat) (x : Cell) (d : D) (f : Cell) (v : V), as[j]? = some (Ag.pk i) ∧ ρ[i]? = some x ∧ x.mt = some d ∧ fin[j]? = some f ∧ y = back x f ∧ (∃ d', f = .pr d' ∨ f = .pz d') ∧ vs[j]? = some v ∧ σ[i]? = some (some v)) := by
  by_cases hi : i ∈ pks as
  · right
    refine ⟨hi, ?_⟩
    obtain ⟨j, hj⟩ := pks_mem.mp hi
    have hlen := cells_len hc
    have hj' : j < cells.length := by rw [hlen]; exact (List.getElem?_eq_some_iff.mp hj).1
    obtain ⟨c, h1⟩ : ∃ c, cells[j]? = some c := ⟨_, List.getElem?_eq_getElem hj'⟩
    obtain ⟨a, h2, h3⟩ := cells_at hc h1
    rw [hj] at h2; cases h2
    obtain ⟨d, h4, h5⟩ := Option.map_eq_some_iff.mp (show (ρ[i]?.getD .un).mt.map Cell.pr = some c from h3)
    subst h5
    obtain ⟨x, h6, h7⟩ := getD_some (f := Cell.mt) rfl h4
    obtain ⟨v, h8, h9⟩ := agr_at ha hj
    obtain ⟨f, h10, h11, _⟩ := s.pin j _ h1
    have hb := backs_in (ρ := ρ) nd hj h10 (List.getElem?_eq_some_iff.mp h6).1
    rw [h] at hb
    rw [h6] at hb
    exact ⟨j, x, d, f, v, hj, h6, h7, h10, Option.some.inj hb, h11, h8, h9⟩
  · left
    rw [backs_out hi] at h
    exact ⟨hi, h⟩
theorem back_fr {x f : Cell} {d : D} (h : (back x f).fr = some d) : f = .pz d := by
  cases x <;> cases f <;> simp [back, Cell.fr] at h <;> subst h <;> rfl
theorem back_on {x f : Cell} {d : D} (h : (back x f).on = some d) : f = .pr d ∧ x.mt.isSome = true := by
  cases x <;> cases f <;> simp [back, Cell.on] at h <;> subst h <;> exact ⟨rfl, rfl⟩
theorem call_back (e : EnvR K F H σ ρ) (ha : AgR K F σ vs as) (nd : nodupB (pks as) = true) (hc : agCells ρ as = some cells) {F' H' : Hp} {fin : List Cell} (e' : EnvR K F' H' (vs.map some) fin) (s : Stp F H (vs.map some) cells F' H' (vs.map some) fin) :
    EnvR K F' H' σ (backs ρ as fin) ∧ Stp F H σ ρ F' H' σ (backs ρ as fin) ∧ (∀ a, OnA σ (backs ρ as fin) a → OnA (vs.map some) fin a ∨ (OnA σ ρ a ∧ ¬ OnA (vs.map some) cells a)) := by
  have onOut : ∀ {i : Nat} {x : Cell} {a : Addr}, i ∉ pks as → ρ[i]? = some x → x.on.isSome = true → σ[i]? = some (some (.ref a)) → ¬ OnA (vs.map some) cells a := fun {i x a} hi hx ho hs q => by
    obtain ⟨i', x', h1, h2, h3, h4⟩ := callee_OnA e ha hc q
    exact hi ((e.ap i i' x x' a hx h2 ho h3 hs h4) ▸ h1)
  have on2 : ∀ a, OnA σ (backs ρ as fin) a → OnA (vs.map some) fin a ∨ (OnA σ ρ a ∧ ¬ OnA (vs.map some) cells a) := fun a ⟨i, y, h1, h2, h3⟩ => by
    rcases backs_at e ha nd hc s h1 with ⟨hi, hx⟩ | ⟨hi, j, x, d, f, v, q1, q2, q3, q4, rfl, q5, q6, q7⟩
    · exact .inr ⟨⟨i, y, hx, h2, h3⟩, onOut hi hx h2 h3⟩
    · obtain ⟨d', hd'⟩ := Option.isSome_iff_exists.mp h2
      obtain ⟨rfl, _⟩ := back_on hd'
      rw [q7] at h3; cases h3
      exact .inl ⟨j, _, q4, rfl, some_map q6⟩
  refine ⟨⟨e'.sub, by rw [backs_len]; exact e.len, fun i y d h1 h2 => ?_, fun i y d h1 h2 => ?_, fun i k y y' a h1 h2 h3 h4 h5 h6 => ?_⟩, ⟨s.ext, fun a o h1 h2 h3 => ?_, fun a h => ?_, fun i c h1 => ?_, backs_len⟩, on2⟩
  · rcases backs_at e ha nd hc s h1 with ⟨hi, hx⟩ | ⟨hi, j, x, d', f, v, q1, q2, q3, q4, rfl, q5, q6, q7⟩
    · obtain ⟨v, h3, h4⟩ := e.fr i y d hx h2
      exact ⟨v, h3, h4.mono s.ext⟩
    · have hf := back_fr h2
      subst hf
      obtain ⟨w, h3, h4⟩ := e'.fr j _ d q4 rfl
      rw [some_map q6] at h3
      cases h3
      exact ⟨v, q7, h4⟩
  · rcases backs_at e ha nd hc s h1 with ⟨hi, hx⟩ | ⟨hi, j, x, d', f, v, q1, q2, q3, q4, rfl, q5, q6, q7⟩
    · obtain ⟨a, h3, h4, h5⟩ := e.on i y d hx h2
      obtain ⟨o, ho⟩ := h5.some
      obtain ⟨h6, h7⟩ := s.frm a o ho h4 (onOut hi hx (by rw [h2]; rfl) h3)
      exact ⟨a, h3, h7, by rw [h6, ← ho]; exact h5.mono s.ext⟩
    · obtain ⟨hf, _⟩ := back_on h2
      subst hf
      obtain ⟨a, h3, h4, h5⟩ := e'.on j _ d q4 rfl
      rw [some_map q6] at h3
      cases h3
      exact ⟨a, q7, h4, h5⟩
  · rcases backs_at e ha nd hc s h1 with ⟨hi, hx⟩ | ⟨hi, j, x, d', f, v, q1, q2, q3, q4, rfl, q5, q6, q7⟩
    · rcases backs_at e ha nd hc s h2 with ⟨hk, hy⟩ | ⟨hk, j', x', d2, f', v', r1, r2, r3, r4, rfl, r5, r6, r7⟩
      · exact e.ap i k y y' a hx hy h3 h4 h5 h6
      · exact e.ap i k y x' a hx r2 h3 (by rw [mt_on r3]; rfl) h5 h6
    · rcases backs_at e ha nd hc s h2 with ⟨hk, hy⟩ | ⟨hk, j', x', d2, f', v', r1, r2, r3, r4, rfl, r5, r6, r7⟩
      · exact e.ap i k x y' a q2 hy (by rw [mt_on q3]; rfl) h4 h5 h6
      · exact e.ap i k x x' a q2 r2 (by rw [mt_on q3]; rfl) (by rw [mt_on r3]; rfl) h5 h6
  · exact s.frm a o h1 h2 fun q => h3 (by
      obtain ⟨i, x, _, h4, h5, h6⟩ := callee_OnA e ha hc q
      exact ⟨i, x, h4, h5, h6⟩)
  · rcases on2 a h with h | h
    · rcases s.new a h with h | h
      · obtain ⟨i, x, _, h4, h5, h6⟩ := callee_OnA e ha hc h
        exact .inl ⟨i, x, h4, h5, h6⟩
      · exact .inr h
    · exact .inl h.1
  · have hl : i < (backs ρ as fin).length := by rw [backs_len]; exact (List.getElem?_eq_some_iff.mp h1).1
    refine ⟨_, List.getElem?_eq_getElem hl, ?_, fun _ => rfl⟩
    rcases backs_at e ha nd hc s (List.getElem?_eq_getElem hl) with ⟨hi, hx⟩ | ⟨hi, j, x, d', f, v, q1, q2, q3, q4, q8, q5, q6, q7⟩
    · rw [h1] at hx
      rw [← Option.some.inj hx]
      exact Evo.refl _
    · rw [h1] at q2; cases q2
      rw [q8]
      obtain ⟨d2, rfl | rfl⟩ := q5 <;> cases c <;> simp [Cell.mt] at q3 <;> simp [back, Evo, Cell.pin]
theorem call_res (e : EnvR K F H σ ρ) (ha : AgR K F σ vs as) (nd : nodupB (pks as) = true) (hc : agCells ρ as = some cells) {F' H' : Hp} {fin : List Cell} (e' : EnvR K F' H' (vs.map some) fin) (s : Stp F H (vs.map some) cells F' H' (vs.map some) fin) {v : V} {d : D} {b : Bool}
    (r : Res K H cells F' H' (vs.map some) fin v d b) : Res K H ρ F' H' σ (backs ρ as fin) v d b := by
  obtain ⟨_, _, on2⟩ := call_back e ha nd hc e' s
  unfold Res at r ⊢
  cases b with
  | false => exact r
  | true =>
    rw [if_pos rfl] at r ⊢
    obtain ⟨a, h1, h2, h3, h4, h5⟩ := r
    have og : Org H σ ρ a := by
      rcases h5 with h5 | h5
      · obtain ⟨i, x, _, q1, q2, q3⟩ := callee_OnA e ha hc h5
        exact .inl ⟨i, x, q1, q2, q3⟩
      · exact .inr h5
    refine ⟨a, h1, h2, fun q => ?_, h4, og⟩
    rcases on2 a q with q | ⟨q, q2⟩
    · exact h3 q
    · rcases h5 with h5 | h5
      · exact q2 h5
      · exact (e.there q).1 h5
end
end BV

/-! BvMt: a piece of the small language and a piece of the text: the one is the other's. -/
namespace BV
open PySem L2 PySem.Spec PyProof.Rows

def visB (N : List Str) (sc : Scope) (i : Nat) (x : Str) : Bool :=
  decide (N[i]? = some x) && (match sc.names.lookup x with | some .local => true | some .cell => true | some .free => true | _ => false) && !(x == ("__debug__" : Str)) && !(x == ("__classdict__" : Str))
def locB (N : List Str) (sc : Scope) (i : Nat) (x : Str) : Bool :=
  decide (N[i]? = some x) && (match sc.names.lookup x with | some .local => true | some .cell => true | _ => false)
def glB (sc : Scope) (x : Str) : Bool := decide (sc.names.lookup x = some .globalImplicit) && !(x == ("__debug__" : Str)) && !(x == ("__name__" : Str))
/-- a call of the built-in name -/
def blt (sc : Scope) (n : Str) (x : Str) : Bool := x == n && glB sc x
def tyNm (sc : Scope) : List String → List Expr → Bool
  | [], [] => true
  | T :: ts, .Name y _ :: es => y == Str.ofString T && glB sc y && tyNames.contains T && tyNm sc ts es
  | _, _ => false
def shp (sc : Scope) : P → Expr → Option (List Expr)
  | .add, .BinOp a .Add b _ => some [a, b]
  | .sub, .BinOp a .Sub b _ => some [a, b]
  | .mul, .BinOp a .Mult b _ => some [a, b]
  | .mod, .BinOp a .Mod b _ => some [a, b]
  | .fdiv, .BinOp a .FloorDiv b _ => some [a, b]
  | .pow, .BinOp a .Pow b _ => some [a, b]
  | .neg, .UnaryOp .USub a _ => some [a]
  | .eq, .Compare a [.Eq] [b] _ => some [a, b]
  | .ne, .Compare a [.NotEq] [b] _ => some [a, b]
  | .lt, .Compare a [.Lt] [b] _ => some [a, b]
  | .le, .Compare a [.LtE] [b] _ => some [a, b]
  | .gt, .Compare a [.Gt] [b] _ => some [a, b]
  | .ge, .Compare a [.GtE] [b] _ => some [a, b]
  | .isin, .Compare a [.In] [b] _ => if nset b then some [a, b] else none
  | .notin, .Compare a [.NotIn] [b] _ => if nset b then some [a, b] else none
  | .isN, .Compare a [.Is] [.Constant .none _ _] _ => some [a]
  | .notN, .Compare a [.IsNot] [.Constant .none _ _] _ => some [a]
  | .ix, .Subscript a b _ => if nsl b then some [a, b] else none
  | .sl false false, .Subscript a (.Slice none none none _) _ => some [a]
  | .sl true false, .Subscript a (.Slice (some l) none none _) _ => some [a, l]
  | .sl false true, .Subscript a (.Slice none (some h) none _) _ => some [a, h]
  | .tup, .Tuple es _ _ => if es.all nst then some es else none
  | .lst, .List es _ => if es.all nst then some es else none
  | .len, .Call (.Name x _) [a] [] _ => if blt sc "len" x && nst a then some [a] else none
  | .abs, .Call (.Name x _) [a] [] _ => if blt sc "abs" x && nst a then some [a] else none
  | .tuple, .Call (.Name x _) [a] [] _ => if blt sc "tuple" x && nst a then some [a] else none
  | .list, .Call (.Name x _) [a] [] _ => if blt sc "list" x && nst a then some [a] else none
  | .all, .Call (.Name x _) [a] [] _ => if blt sc "all" x && nst a then some [a] else none
  | .any, .Call (.Name x _) [a] [] _ => if blt sc "any" x && nst a then some [a] else none
  | .rep, .BinOp a .Mult b _ => some [a, b]
  | .strP, .Call (.Name x _) [a] [] _ => if blt sc "str" x && nst a then some [a] else none
  | .intP, .Call (.Name x _) [a] [] _ => if blt sc "int" x && nst a then some [a] else none
  | .lrange, .Call (.Name x _) [.Call (.Name y _) [a] [] _] [] _ => if blt sc "list" x && blt sc "range" y && nst a then some [a] else none
  | .max2, .Call (.Name x _) [a, b] [] _ => if blt sc "max" x && nst a && nst b then some [a, b] else none
  | .min2, .Call (.Name x _) [a, b] [] _ => if blt sc "min" x && nst a && nst b then some [a, b] else none
  | .isx _ _ _, .Call (.Name y _) [x, t] [] _ => if blt sc "isinstance" y && nst x && nst t then some [x] else none
  | .fld _ f, .Attribute x n _ => if n == Str.ofString f && nsup x then some [x] else none
  | .isi [T], .Call (.Name x _) [a, .Name y _] [] _ => if blt sc "isinstance" x && nst a && tyNm sc [T] [.Name y ⟨0, 0, 0, 0⟩] then some [a] else none
  | .isi ts, .Call (.Name x _) [a, .Tuple es _ _] [] _ => if blt sc "isinstance" x && nst a && tyNm sc ts es && decide (ts.length ≤ LIM) then some [a] else none
  | _, _ => none
def bnames : List Str := ["len", "abs", "tuple", "list", "all", "any", "isinstance", "int", "bool", "str", "dict", "range", "enumerate", "zip", "max", "min", "sum", "sorted", "ValueError"]
def mName : M → Str
  | .append => "append"
  | .insert => "insert"
  | .extend => "extend"
  | .pop0 => "pop"
  | .pop1 => "pop"
def mArgs : M → Nat
  | .append => 1
  | .insert => 2
  | .extend => 1
  | .pop0 => 0
  | .pop1 => 1
/-- what is walked -/
def ishp (sc : Scope) : IK → Expr → Option (List Expr)
  | .seq, x => if nset x && nst x then some [x] else none
  | .range, .Call (.Name x _) [a] [] _ => if blt sc "range" x && nst a then some [a] else none
  | .range, .Call (.Name x _) [a, b] [] _ => if blt sc "range" x && nst a && nst b then some [a, b] else none
  | .enum, .Call (.Name x _) [a] [] _ => if blt sc "enumerate" x && nst a then some [a] else none
  | .zip, .Call (.Name x _) [a, b] [] _ => if blt sc "zip" x && nst a && nst b then some [a, b] else none
  | _, _ => none
mutual
def mtg (N : List Str) (sc : Scope) : T → Expr → Bool
  | .nm i, .Name x _ => locB N sc i x
  | .tp ts, .Tuple es _ _ => es.all nst && mtgs N sc ts es
  | .sp ts i, .Tuple es _ _ => mtgS N sc ts i es
  | _, _ => false
/-- .. the last one starred -/
def mtgS (N : List Str) (sc : Scope) : List T → Nat → List Expr → Bool
  | [], i, [.Starred (.Name x _) _] => locB N sc i x
  | t :: ts, i, e :: es => nst e && mtg N sc t e && mtgS N sc ts i es
  | _, _, _ => false
def mtgs (N : List Str) (sc : Scope) : List T → List Expr → Bool
  | [], [] => true
  | t :: ts, e :: es => mtg N sc t e && mtgs N sc ts es
  | _, _ => false
end
def isTup : Expr → Bool
  | .Tuple _ _ _ => true
  | _ => false
/-- items of two go to a written tuple -/
def pairTg (k : IK) (x : Expr) : Bool := match k with
  | .enum => isTup x
  | .zip => isTup x
  | _ => true
/-- the text's surroundings for the match: the numbers' names, which of them are constants -/
structure Mk0 where
  gn : Nat → Str
  isV : Nat → Bool
  isF : Nat → Bool
  isD : Nat → Bool
  /-- an exception is handled -/
  hot : Bool
  /-- defs that may be called then -/
  isH : Nat → Bool
  /-- exception classes, with those above (themselves too); their __init__s' fields -/
  xs : List (String × List String)
  xf : List (String × List String)
  /-- other classes: fields, methods -/
  ics : List (String × List String)
  mth : List (String × String × Nat)
def Mk0.known (m : Mk0) : List String := m.xs.map (·.1) ++ m.ics.map (·.1)
/-- an instance of c is one of y -/
def Mk0.subC (m : Mk0) (c y : String) : Bool := match m.xs.lookup c with
  | some sup => sup.contains y || y == "ValueError"
  | none => c == y
def Mk0.wrOk (m : Mk0) (y : String) : Bool := m.known.contains y || y == "ValueError"
/-- what needs calm -/
def calmP : P → Bool
  | .all => true
  | .any => true
  | .lrange => true
  | .max2 => true
  | .min2 => true
  | _ => false
mutual
def tsl : T → List Nat
  | .nm i => [i]
  | .tp ts => tsls ts
  | .sp ts i => tsls ts ++ [i]
def tsls : List T → List Nat
  | [] => []
  | t :: ts => tsl t ++ tsls ts
end
/-- a method's name, how many arguments it has -/
def mnm : P → Option (Str × Bool)
  | .index => some ("index", true)
  | .join => some ("join", true)
  | .split => some ("split", true)
  | .part => some ("partition", true)
  | .upper => some ("upper", false)
  | .count => some ("count", true)
  | _ => none
/-- a method's call -/
def mshp (p : P) (x : Expr) : Option (Expr × List Expr) := match mnm p, x with
  | some (m, true), .Call (.Attribute o n apos) [x] [] cpos => if n == m && nsup o && nst x && apos.endLine == cpos.line then some (o, [x]) else none
  | some (m, false), .Call (.Attribute o n apos) [] [] cpos => if n == m && nsup o && apos.endLine == cpos.line then some (o, []) else none
  | _, _ => none
def dshp : List (Option Expr) → List Expr → Option (List Expr)
  | [], [] => some []
  | some k :: ks, v :: vs => (dshp ks vs).map fun r => k :: v :: r
  | _, _ => none
def dsh : Expr → Option (List Expr × Nat)
  | .Dict keys values _ => (dshp keys values).map fun r => (r, keys.length)
  | _ => none
def gshp : Expr → Option (Str × Expr)
  | .Subscript (.Name x _) k _ => some (x, k)
  | _ => none
def nshp : Bool → Expr → Option (Str × Expr)
  | false, .Compare k [.In] [.Name x _] _ => some (x, k)
  | true, .Compare k [.NotIn] [.Name x _] _ => some (x, k)
  | _, _ => none
def cOpB : P → CmpOp → Bool
  | .lt, .Lt => true
  | .le, .LtE => true
  | .gt, .Gt => true
  | .ge, .GtE => true
  | _, _ => false
def cshp : Expr → Option (CmpOp × CmpOp × Expr × Expr × Expr)
  | .Compare a [o1, o2] [b, c] _ => some (o1, o2, a, b, c)
  | _ => none
def lshp : Expr → Option (Expr × Expr × Expr × List Expr × Scope)
  | .ListComp x [⟨tg, it, ifs, a⟩] scope _ => if a = 0 then some (x, tg, it, ifs, scope) else none
  | _ => none
def ownOf (N : List Str) (own : List Nat) : List (Str × Nat) := own.map fun i => (N[i]?.getD Str.empty, i)
def clNm (m : Mk0) (sc : Scope) (c : String) : Expr → Bool
  | .Name y _ => y == Str.ofString c && glB sc y && m.wrOk c
  | _ => false
def clNmL (m : Mk0) (sc : Scope) : List String → List Expr → Bool
  | [], [] => true
  | c :: cs, e :: es => clNm m sc c e && clNmL m sc cs es
  | _, _ => false
/-- the classes that isinstance names -/
def clNms (m : Mk0) (sc : Scope) (cs : List String) : Expr → Bool
  | .Tuple es _ _ => clNmL m sc cs es && es.all nst
  | x => (match cs with
    | [c] => clNm m sc c x
    | _ => false)
/-- a field that the class's instances have -/
def fldB (m : Mk0) (c f : String) : Bool := (match m.xf.lookup c with
  | some fs => fs.contains f
  | none => false) || (match m.ics.lookup c with
  | some fs => fs.contains f
  | none => false)
/-- what a primitive asks of the text's classes -/
def okP (m : Mk0) (sc : Scope) : P → Expr → Bool
  | .isx kn acc cs, .Call _ [_, t] _ _ => clNms m sc cs t && !m.known.isEmpty && decide (kn = m.known) && decide (acc = m.known.filter fun c => cs.any fun y => m.subC c y) && decide (cs.length < 100)
  | .isx _ _ _, _ => false
  | .fld cs f, _ => cs.all fun c => fldB m c f
  | _, _ => true
mutual
def mt (m : Mk0) (N : List Str) (sc : Scope) : E → Expr → Bool
  | .var i, .Name x _ => visB N sc i x
  | .mv i, .Name x _ => visB N sc i x
  | .non, .Constant .none _ _ => true
  | .bl b, .Constant (.bool c) _ _ => b == c
  | .int i, .Constant (.int j) _ _ => i == j
  | .str s, .Constant (.str x) _ _ => s == x.cps.toList
  | .glob g, .Name x _ => x == m.gn g && glB sc x && m.isV g
  | .prim p es, x => match shp sc p x with
    | some xs => (!m.hot || !calmP p) && okP m sc p x && mts m N sc es xs
    | none => false
  | .meth p a es, x => match mshp p x with
    | some (o, xs) => mt m N sc a o && mts m N sc es xs
    | none => false
  | .call f es, .Call (.Name x _) xs [] _ => x == m.gn f && glB sc x && xs.all nst && m.isF f && (!m.hot || m.isH f) && mts m N sc es xs
  | .mut k i es, .Call (.Attribute (.Name x _) n apos) xs [] cpos => n == mName k && visB N sc i x && xs.all nst && decide (xs.length = mArgs k) && apos.endLine == cpos.line && mts m N sc es xs
  | .nt a, .UnaryOp .Not x _ => mt m N sc a x
  | .and a b, .BoolOp .And [x, y] _ => mt m N sc a x && mt m N sc b y
  | .and a b, .BoolOp .And (x :: y :: z :: r) pos => mt m N sc a x && mt m N sc b (.BoolOp .And (y :: z :: r) pos)
  | .or a b, .BoolOp .Or [x, y] _ => mt m N sc a x && mt m N sc b y
  | .or a b, .BoolOp .Or (x :: y :: z :: r) pos => mt m N sc a x && mt m N sc b (.BoolOp .Or (y :: z :: r) pos)
  | .ite c a b, .IfExp x y z _ => mt m N sc c x && mt m N sc a y && mt m N sc b z
  | .ch p q a b c, z => match cshp z with
    | some (o1, o2, x, y, w) => cOpB p o1 && cOpB q o2 && mt m N sc a x && mt m N sc b y && mt m N sc c w
    | none => false
  | .lc own t k es cns elt, z => match lshp z with
    | some (x, tg, it, ifs, scope) => match ishp sc k it with
      | some xs => !m.hot && mts m N sc es xs && pairTg k tg && blkC N sc scope (ownOf N own) && (tsl t).all own.contains && mtg N scope t tg && mts m N (relS scope sc) cns ifs && decide (cns.length ≤ 1) && mt m N (relS scope sc) elt x
      | none => false
    | none => false
  | .gdix g a, z => match gshp z with
    | some (x, k) => x == m.gn g && glB sc x && m.isD g && nsl k && mt m N sc a k
    | none => false
  | .gdin n g a, z => match nshp n z with
    | some (x, k) => x == m.gn g && glB sc x && m.isD g && mt m N sc a k
    | none => false
  | .dsp k es, z => match dsh z with
    | some (xs, n) => decide (n ≤ 15) && mts m N sc es xs
    | none => false
  | _, _ => false
def mts (m : Mk0) (N : List Str) (sc : Scope) : List E → List Expr → Bool
  | [], [] => true
  | e :: es, x :: xs => mt m N sc e x && mts m N sc es xs
  | _, _ => false
end
end BV

/-! BvXc: the text's classes: isinstance, fields. -/
namespace BV
open PySem L2 PySem.Spec PyProof.Rows
def clV (K : PySem.W.Frag) (m : Mk0) (y : String) : Value := if m.known.contains y = true then .ref (clA K y) else .type y
def ty0 : List String := ["NoneType", "bool", "int", "str", "tuple", "list"]
/-- what the written part says of the text's classes -/
structure ClsOk (K : PySem.W.Frag) (mg : Str → Option Value) (m : Mk0) : Prop where
  gc : m.known ≠ [] → GcOk K
  xok : ∀ c ∈ m.xs.map (·.1), XcOk K (clA K c)
  iok : ∀ c ∈ m.ics.map (·.1), IcOk K (clA K c)
  mgc : ∀ c ∈ m.known, mg (Str.ofString c) = some (.ref (clA K c))
  kit : ∀ c ∈ m.known, ∀ y, m.wrOk y = true → PySem.W.kitOne K (.ref (clA K c)) (clV K m y) = some (m.subC c y)
  kit0 : m.known ≠ [] → ∀ T ∈ ty0, ∀ y, m.wrOk y = true → PySem.W.kitOne K (.type T) (clV K m y) = some false
  exm : ∀ c ∈ m.xs.map (·.1), ∀ y ∈ m.xs.map (·.1), PySem.W.exmOne K (.ref (clA K c)) (.ref (clA K y)) = some (m.subC c y)
  noX : ∀ c fs, m.xf.lookup c = some fs → c ∈ m.xs.map (·.1) ∧ fs.length < 100 ∧ ∀ f ∈ fs, NoAttr K (clA K c) (Str.ofString f)
  noI : ∀ c fs, m.ics.lookup c = some fs → c ∈ m.ics.map (·.1) ∧ ∀ f ∈ fs, NoAttr K (clA K c) (Str.ofString f)
  oex : ∀ c fs, m.xf.lookup c = some fs → OexC K (clA K c) ∧ PySem.W.findIn K (.ref (clA K c)) "__init__" = some (some (.ref (He.ma K (clA K c) "__init__"))) ∧ PySem.W.typeIn K (.ref (He.ma K (clA K c) "__init__")) = some (.type "function")
  meth : ∀ c n g, (c, n, g) ∈ m.mth → c ∈ m.ics.map (·.1) ∧ Meth K (clA K c) (Str.ofString n) (He.ma K (clA K c) (Str.ofString n))
  mkr : ∀ c g, (c, "__init__", g) ∈ m.mth → L2.Mk K (clA K c) (He.ma K (clA K c) "__init__")
/-- what an exception's __init__ does: its fields stand, the last one ahead -/
def spXi (K : PySem.W.Frag) (C : Addr) (fs : List String) : Sp := fun vs H Q _ => ∃ (a : Addr) (ws : List V), vs = .ref a :: ws ∧ ws.length = fs.length ∧ OexC K C ∧ H a = some (exo a C none) ∧
  ∀ (dx : Addr) (H' : Hp) (kvs : List (Str × V)), H dx = none → dx ≠ a → H' a = some (exo a C (some dx)) → H' dx = some (exd dx kvs) → (∀ b, b ≠ a → b ≠ dx → H' b = H b) → kvs.map (·.1) = (nmsD fs).reverse → kvs.map (·.2) = ws.reverse → Q .non H'

section
variable {X : Cx} {U : Sur} {W : WX} {m : Mk0} {a : Expr} {ea : E} {pos p : Pos} {σ : Sg} {H : Hp}
def clVv (K : PySem.W.Frag) (m : Mk0) (y : String) : V := if m.known.contains y = true then .ref (clA K y) else .ty y
theorem clVv_ok (K : PySem.W.Frag) (m : Mk0) (y : String) : ClsV (clVv K m y) (clV K m y) := by
  unfold clVv clV
  split
  · exact .own _
  · exact .ty _
theorem ve_boot : bootBuiltins "ValueError" = some (.type "ValueError") := by decide +kernel
/-- a class's name -/
theorem pe_clsNm (cl : ClsOk X.K X.mg m) (ve : X.mg "ValueError" = none) {c : String} {e : Expr} (h : clNm m X.env.scope c e = true) : PE X e (tC (clVv X.K m c)) ∧ m.wrOk c = true := by
  cases e <;> first | (cases h; done) | skip
  rename_i y py
  unfold clNm at h
  simp only [Bool.and_eq_true, beq_iff_eq] at h
  obtain ⟨⟨rfl, h2⟩, h3⟩ := h
  refine ⟨?_, h3⟩
  have g1 : X.env.scope.names.lookup (Str.ofString c) = some .globalImplicit ∧ (Str.ofString c == ("__debug__" : Str)) = false ∧ Str.ofString c ≠ "__name__" := by
    unfold glB at h2
    simp only [Bool.and_eq_true, decide_eq_true_eq, Bool.not_eq_true'] at h2
    exact ⟨h2.1.1, h2.1.2, by simpa using h2.2⟩
  unfold clVv
  by_cases hk : m.known.contains c = true
  · rw [if_pos hk]
    exact pe_glob g1.1 (cl.mgc c (List.contains_iff_mem.mp hk)) (v := .ref _) rfl g1.2.1
  · rw [if_neg hk]
    unfold Mk0.wrOk at h3
    rw [Bool.or_eq_true] at h3
    have e := eq_of_beq (h3.resolve_left hk)
    subst e
    exact pe_bltn g1.1 ve ve_boot rfl g1.2.2 g1.2.1
def clRd (K : PySem.W.Frag) (m : Mk0) : List String → TA
  | [] => tNil
  | T :: ts => tCons (tC (clVv K m T)) (clRd K m ts)
theorem clRd_run {K : PySem.W.Frag} {σ : Sg} {H : Hp} {Q : List V → Hp → Prop} : ∀ {ts : List String}, Q (ts.map (clVv K m)) H → clRd K m ts σ H Q
  | [], h => h
  | T :: ts, h => clRd_run (ts := ts) (Q := fun xs H2 => Q (clVv K m T :: xs) H2) h
theorem cls_cls (K : PySem.W.Frag) : ∀ ts : List String, Paired ClsV (ts.map (clVv K m)) (ts.map (clV K m))
  | [] => .nil
  | t :: ts => .cons (clVv_ok K m t) (cls_cls K ts)
theorem pa_clsNm (cl : ClsOk X.K X.mg m) (ve : X.mg "ValueError" = none) : ∀ {cs : List String} {es : List Expr}, clNmL m X.env.scope cs es = true → es.all nst = true → PA X es (clRd X.K m cs) ∧ cs.all m.wrOk = true
  | [], [], _, _ => ⟨pa_nil, rfl⟩
  | [], _ :: _, h, _ => by cases h
  | _ :: _, [], h, _ => by cases h
  | c :: cs, e :: es, h, hn => by
    unfold clNmL at h
    rw [Bool.and_eq_true] at h
    obtain ⟨n1, n2⟩ := ns_cons hn
    obtain ⟨g1, g2⟩ := pe_clsNm cl ve h.1
    obtain ⟨g3, g4⟩ := pa_clsNm cl ve h.2 n2
    exact ⟨pa_cons g1 g3 (star_cons n1), by rw [List.all_cons, g2, g4]; rfl⟩
def subD (m : Mk0) (x : D) (y : String) : Bool := match x with
  | .ins c _ _ => m.subC c y
  | _ => false
/-- a value's type, what isinstance says of it -/
theorem ty_any {K : PySem.W.Frag} {mg : Str → Option Value} (cl : ClsOk K mg m) {F H : Hp} {v : V} {x : D} {acc : List String} {r : D × Bool} (hne : m.known ≠ []) (s : Same F H) (n : NR K F H v x) (h : isxS m.known acc x = some r) :
    ∃ t, TyE K H v t ∧ ∀ y, m.wrOk y = true → PySem.W.kitOne K t (clV K m y) = some (subD m x y) := by
  have G := cl.gc hne
  have base : (∀ k x' y, x ≠ .ins k x' y) → (∀ k x' y, x ≠ .dct k x' y) → (∀ x', x ≠ .scr x') → ∃ t, TyE K H v t ∧ ∀ y, m.wrOk y = true → PySem.W.kitOne K t (clV K m y) = some (subD m x y) := fun h1 h2 h0 => by
    refine ⟨_, .ty (ty_of s n h1 h2 h0), fun y hy => ?_⟩
    have e : subD m x y = false := by
      cases x <;> first | rfl | exact absurd rfl (h1 _ _ _)
    rw [e]
    refine cl.kit0 hne _ ?_ y hy
    cases x <;> first | (simp [tyn, ty0]; done) | exact absurd rfl (h1 _ _ _) | exact absurd rfl (h2 _ _ _) | exact absurd rfl (h0 _)
  cases x with
  | ins c fs ds =>
    have hk : m.known.contains c = true := by
      by_cases q : m.known.contains c = true
      · exact q
      · simp only [isxS, if_neg q] at h
        cases h
    refine ⟨.ref (clA K c), ?_, fun y hy => cl.kit c (List.contains_iff_mem.mp hk) y hy⟩
    rcases n with n | ⟨a, rfl, dx, kvs, ok, ho, _, _⟩
    · cases n with
      | ins ok hf _ _ => exact .ty (.base (.ins (s _ _ hf) ok.cls ok.ha G.hn G.ht ok.hm))
      | exc ok hf h1 h2 h3 h4 _ _ => exact .exc ⟨_, _, _, s _ _ hf, h1, h2, .inr ⟨_, _, h3, s _ _ h4⟩, ok, G⟩
      | exc0 ok hf h1 h2 h3 => exact .exc ⟨_, _, _, s _ _ hf, h1, h2, .inl h3, ok, G⟩
    · exact .ty (.base (.ins ho ok.cls ok.ha G.hn G.ht ok.hm))
  | dct k x y => cases h
  | scr x => cases h
  | non => exact base (fun _ _ _ z => by cases z) (fun _ _ _ z => by cases z) (fun _ z => by cases z)
  | bl b => exact base (fun _ _ _ z => by cases z) (fun _ _ _ z => by cases z) (fun _ z => by cases z)
  | int i => exact base (fun _ _ _ z => by cases z) (fun _ _ _ z => by cases z) (fun _ z => by cases z)
  | str b => exact base (fun _ _ _ z => by cases z) (fun _ _ _ z => by cases z) (fun _ z => by cases z)
  | tup b => exact base (fun _ _ _ z => by cases z) (fun _ _ _ z => by cases z) (fun _ z => by cases z)
  | lst b => exact base (fun _ _ _ z => by cases z) (fun _ _ _ z => by cases z) (fun _ z => by cases z)
theorem isx_val {x : D} {cs : List String} {d : D} {b : Bool} (h : isxS m.known (m.known.filter fun c => cs.any fun y => m.subC c y) x = some (d, b)) : d = .bl (cs.any (subD m x)) ∧ b = false := by
  have no : (cs.any fun _ => false) = false := by induction cs <;> simp_all
  cases x with
  | ins c fs ds =>
    by_cases q : m.known.contains c = true
    · simp only [isxS, if_pos q] at h
      cases h
      refine ⟨?_, rfl⟩
      congr 1
      have q' := List.contains_iff_mem.mp q
      show (m.known.filter fun c => cs.any fun y => m.subC c y).contains c = cs.any fun y => m.subC c y
      cases z : cs.any fun y => m.subC c y with
      | true => exact List.contains_iff_mem.mpr (List.mem_filter.mpr ⟨q', z⟩)
      | false =>
        refine Bool.eq_false_iff.mpr fun w => ?_
        have := (List.mem_filter.mp (List.contains_iff_mem.mp w)).2
        rw [z] at this
        cases this
    · simp only [isxS, if_neg q] at h
      cases h
  | dct _ _ _ => cases h
  | scr _ => cases h
  | _ =>
    cases h
    exact ⟨congrArg D.bl no.symm, rfl⟩
theorem kit_anyX {K : PySem.W.Frag} {t : Value} {f : String → Bool} : ∀ {cs : List String}, (∀ y, m.wrOk y = true → PySem.W.kitOne K t (clV K m y) = some (f y)) → cs.all m.wrOk = true → PySem.W.kitAny K t (cs.map (clV K m)) = some (cs.any f)
  | [], _, _ => kitAny_nil
  | c :: cs, h, hw => by
    rw [List.all_cons, Bool.and_eq_true] at hw
    have ih := kit_anyX (cs := cs) h hw.2
    rw [List.map_cons, List.any_cons]
    refine kitAny_cons (h c hw.1) (fun e => ?_) (fun e => by rw [e]; rfl)
    rw [e, Bool.false_or]
    exact ih
theorem snd_isx (hK : X.K = U.K) (cl : ClsOk X.K X.mg m) (hne : m.known ≠ []) (hg : Gl X "isinstance") (hm : X.mg "isinstance" = none) (ve : X.mg "ValueError" = none) {cs : List String} {t : Expr} (hc : clNms m X.env.scope cs t = true) (hl : cs.length < 100)
    (ha : PE X a (tE U W ea)) (ns : nst a = true) (nt : nst t = true) : PE X (.Call (.Name "isinstance" p) [a, t] [] pos) (tP U W (.isx m.known (m.known.filter fun c => cs.any fun y => m.subC c y) cs) [ea]) := by
  have one : ∀ {c : String}, cs = [c] → clNm m X.env.scope c t = true → PE X (.Call (.Name "isinstance" p) [a, t] [] pos) (tP U W (.isx m.known (m.known.filter fun c => cs.any fun y => m.subC c y) cs) [ea]) := fun {c} e h => by
    subst e
    obtain ⟨g1, g2⟩ := pe_clsNm cl ve h
    have hpa : PA X [a, t] (tCons (tE U W ea) (tCons (tC (clVv X.K m c)) tNil)) := pa_cons ha (pa_cons g1 pa_nil (star_cons nt)) (star_cons ns)
    refine PE.imp (pe_callB call_isE1 hg hm (by decide +kernel) hpa (by decide +kernel) (by decide +kernel) (star_cons ns) (star_any (es := [t]) (by simp [nt]))) fun σ H Q h => prim1 (R := fun v H1 => rIsE1 X.K [v, clVv X.K m c] H1 Q) h ?_
    intro F H1 v x d bb s hx hs q
    have hs : isxS m.known (m.known.filter fun c' => [c].any fun y => m.subC c' y) x = some (d, bb) := hs
    obtain ⟨rfl, rfl⟩ := isx_val hs
    rw [hK] at cl ⊢
    obtain ⟨ty, t1, t2⟩ := ty_any cl hne s hx hs
    refine ⟨v, _, ty, _, _, rfl, clVv_ok _ _ _, t1, t2 c g2, ?_⟩
    have e : [c].any (subD m x) = subD m x c := by simp
    rw [← e]
    exact q.old _ rfl (.bl _)
  unfold clNms at hc
  split at hc
  · rename_i es k pt
    rw [Bool.and_eq_true] at hc
    obtain ⟨g1, g2⟩ := pa_clsNm cl ve hc.1 hc.2
    have hpa : PA X [a, .Tuple es k pt] (tCons (tE U W ea) (tCons (tTup (clRd X.K m cs)) tNil)) := pa_cons ha (pa_cons (pe_tup g1) pa_nil rfl) (star_cons ns)
    refine PE.imp (pe_callB call_isET hg hm (by decide +kernel) hpa (by decide +kernel) (by decide +kernel) (star_cons ns) rfl) fun σ H Q h => prim1 (R := fun v H1 => tTup (clRd X.K m cs) σ H1 fun u H2 => rIsET X.K [v, u] H2 Q) h ?_
    intro F H1 v x d bb s hx hs q
    have hs : isxS m.known (m.known.filter fun c' => cs.any fun y => m.subC c' y) x = some (d, bb) := hs
    obtain ⟨rfl, rfl⟩ := isx_val hs
    rw [hK] at cl ⊢
    have hz : (cs.map (clVv U.K m)).length ≤ sizeLine := by
      rw [List.length_map, sizeLine_eq]
      omega
    refine clRd_run ⟨hz, fun q' hq' => ?_⟩
    have sm := same_upd (o := .tup (cs.map (clVv U.K m))) hq'
    have hx' : NR U.K F (upd H1 q' (.tup (cs.map (clVv U.K m)))) v x := hx.imp id fun ⟨a, e, t⟩ => ⟨a, e, by
      obtain ⟨u, hu⟩ := t.some
      rw [upd_ne (ne_of_none hu hq')]
      exact t⟩
    obtain ⟨ty, t1, t2⟩ := ty_any cl hne (s.trans sm) hx' hs
    exact ⟨v, q', _, ty, _, _, rfl, upd_same, cls_cls _ cs, t1, kit_anyX t2 g2, (q _ sm).old _ rfl (.bl _)⟩
  · split at hc
    · exact one rfl hc
    · cases hc
/-! ### a field -/
theorem ofString_inj {s t : String} (h : Str.ofString s = Str.ofString t) : s = t := by
  rw [Str.ofString_eq_toList, Str.ofString_eq_toList] at h
  have h1 : s.toList.map Char.toNat = t.toList.map Char.toNat := by
    have := congrArg (fun z : Str => z.cps.toList) h
    simpa using this
  have inj : ∀ {l l' : List Char}, l.map Char.toNat = l'.map Char.toNat → l = l' := by
    intro l
    induction l with
    | nil => intro l' h; cases l' <;> first | rfl | cases h
    | cons a l ih =>
      intro l' h
      cases l' with
      | nil => cases h
      | cons b l' =>
        simp only [List.map_cons, List.cons.injEq] at h
        rw [ih h.2, Char.ext (UInt32.toNat_inj.mp h.1)]
  exact String.toList_inj.mp (inj h1)
theorem lookF_at {f : String} {d : D} {K : PySem.W.Frag} {F : Hp} : ∀ {kvs : List (Str × V)} {fs : List String} {ds : List D}, kvs.map (·.1) = nmsD fs → RepL K F (kvs.map (·.2)) ds → lookF f fs ds = some d → ∃ v, kvs.lookup (Str.ofString f) = some v ∧ Rep K F v d
  | [], [], _, _, _, h => by cases h
  | [], _ :: _, _, h, _, _ => by cases h
  | _ :: _, [], _, h, _, _ => by cases h
  | (k, v) :: kvs, g :: fs, [], _, r, _ => by cases r
  | (k, v) :: kvs, g :: fs, y :: ds, e, r, h => by
    cases r with
    | cons r1 r2 =>
      have e1 : k = Str.ofString g ∧ kvs.map (·.1) = nmsD fs := by
        unfold nmsD at e ⊢
        simpa using e
      obtain ⟨rfl, e2⟩ := e1
      unfold lookF at h
      by_cases hg : g = f
      · rw [if_pos hg] at h
        cases h
        subst hg
        exact ⟨v, by simp [List.lookup], r1⟩
      · rw [if_neg hg] at h
        obtain ⟨w, h1, h2⟩ := lookF_at e2 r2 h
        refine ⟨w, ?_, h2⟩
        have hb : (Str.ofString f == Str.ofString g) = false := beq_eq_false_iff_ne.mpr fun z => hg (ofString_inj z.symm)
        simp only [List.lookup, hb, h1]
/-- e.f, of an instance or of a caught exception -/
def tFldE (K : PySem.W.Frag) (ta : TE) (f : Str) : TE := fun σ H Q => ta σ H fun x H1 => ∃ (a : Addr) (v : V), x = .ref a ∧ Q v H1 ∧ ((∃ C dx fs, H1 a = some (.ins C dx fs) ∧ Cls K C ∧ NoAttr K C f ∧ fs.lookup f = some v) ∨
  ∃ (dx C : Addr) (oe : Obj) (u : HO) (xs : Array Value) (kvs : List (Str × V)), H1 a = some (.frz oe u) ∧ oe.cls = .ref C ∧ oe.data = .fields xs ∧ oe.dict = some dx ∧ H1 dx = some (.xd kvs) ∧ XfC K C ∧ NoAttr K C f ∧ kvs.lookup f = some v)
theorem pe_fldE {e : Expr} {ta : TE} {f : Str} (he : PE X e ta) (hb : attributeBase e f X.env (eval e X.env) = eval e X.env) : PE X (.Attribute e f pos) (tFldE X.K ta f) := by
  refine ⟨fun pins s σ H Q I h => ?_⟩
  refine attr_of hb (thn (he.run pins s σ H _ I h) fun u s1 hh => ?_)
  obtain ⟨x, H1, I1, rx, a, v, ex, q, hh⟩ := hh
  subst ex
  obtain rfl : u = Value.ref a := rx
  rcases hh with ⟨C, dx, fs, ea, c, n, l⟩ | ⟨dx, C, oe, u0, xs, kvs, ea, ec, ed, edx, exd, T, hno, l⟩
  · exact getattr_ok I1 ea c n l fun u' s2 I2 ru => ⟨v, H1, I2, ru, q⟩
  · obtain ⟨ha, _⟩ := (show ObjOk X.prog X.w H1 s1.heap a (.frz oe u0) from I1.hok a _ ea)
    have hx : ObjOk X.prog X.w H1 s1.heap dx (.xd kvs) := I1.hok dx _ exd
    obtain ⟨mA, hns, hr⟩ := hx
    obtain ⟨od, ho, hl⟩ := lookIn_ns hns
    obtain ⟨u, hu, ru⟩ := RelO.some_of (v := v) (o := mA f) (by rw [← l]; exact hr f)
    have J : PySem.W.InstAt s1.heap a oe C (some od) := ⟨ha, ec, by unfold PySem.W.notCls; rw [ed] <;> rfl, by rw [edx]; exact ho⟩
    exact HandSPX.exc_get I1.kIn J T.ga T.gg T.exC (PySem.W.findObj_own T.hdC hno rfl (by rw [hl, hu])) (handed_of ru) ⟨v, H1, I1.tok _, ru, q⟩
theorem snd_fld (hK : X.K = U.K) (cl : ClsOk X.K X.mg m) {cs : List String} {f : String} {x : Expr} (hc : cs.all (fun c => fldB m c f) = true) (hx : nsup x = true) (ha : PE X x (tE U W ea)) : PE X (.Attribute x (Str.ofString f) pos) (tP U W (.fld cs f) [ea]) := by
  refine PE.imp (pe_fldE ha (base_ok hx)) fun σ H Q h => prim1 (R := fun v H1 => _) h ?_
  intro F H1 v y d bb s hy hs q
  have hs : fldS cs f y = some (d, bb) := hs
  obtain ⟨c, fs, ds, rfl⟩ : ∃ c fs ds, y = .ins c fs ds := by
    cases y <;> first | (cases hs; done) | exact ⟨_, _, _, rfl⟩
  have hs : (if cs.contains c = true then (lookF f fs ds).map fun d => (d, false) else none) = some (d, bb) := hs
  split at hs
  · rename_i hcc
    obtain ⟨d', h1, h2⟩ := Option.map_eq_some_iff.mp hs
    cases h2
    have hf := List.all_eq_true.mp hc c (List.contains_iff_mem.mp hcc)
    have na : NoAttr X.K (clA X.K c) (Str.ofString f) := by
      unfold fldB at hf
      rw [Bool.or_eq_true] at hf
      rcases hf with hf | hf
      · split at hf
        · rename_i fs' e
          exact (cl.noX c fs' e).2.2 f (List.contains_iff_mem.mp hf)
        · cases hf
      · split at hf
        · rename_i fs' e
          exact (cl.noI c fs' e).2 f (List.contains_iff_mem.mp hf)
        · cases hf
    rw [hK] at na ⊢
    rcases hy with n | ⟨a, rfl, dx, kvs, ok, ho, e1, r⟩
    · cases n with
      | ins ok hf e1 r =>
        obtain ⟨w, g1, g2⟩ := lookF_at e1 r h1
        exact ⟨_, w, rfl, q.old _ rfl g2, .inl ⟨_, _, _, s _ _ hf, ok.cls, na, g1⟩⟩
      | exc ok hf k1 k2 k3 k4 e1 r =>
        obtain ⟨w, g1, g2⟩ := lookF_at e1 r h1
        exact ⟨_, w, rfl, q.old _ rfl g2, .inr ⟨_, _, _, _, _, _, s _ _ hf, k1, k2, k3, s _ _ k4, ok.xf, na, g1⟩⟩
      | exc0 ok hf k1 k2 k3 => cases h1
    · obtain ⟨w, g1, g2⟩ := lookF_at e1 r h1
      exact ⟨a, w, rfl, q.old _ rfl g2, .inl ⟨_, _, _, ho, ok.cls, na, g1⟩⟩
  · cases hs
end
end BV

/-! BvXi: an exception class's own __init__. -/
namespace BV
open PySem L2 PySem.Spec PyProof.Rows
/-- a method's call, by its parts -/
theorem meth_form {o : Expr} {name : Str} {apos pos : Pos} {args : List Expr} {env : PySem.Env} (hbase : attributeBase o name env (eval o env) = eval o env)
    (hfew : ((backTo pos (starEach args env)).all (fun x => !x.1) && (backToKw pos (keywordEach [] env)).all (fun x => x.1.isSome)
      && decide (args.length + ([] : List Keyword).length + (if ([] : List Keyword).isEmpty then 0 else 1) < 30)) = true)
    (hline : (apos.endLine == pos.line) = true) : eval (.Call (.Attribute o name apos) args [] pos) env = (do
      let ov ← eval o env
      standAt apos.atName
      let (f, first) ← holding [ov] (getMethod ov name (do return (← importBound o env).getD true))
      callWith pos f first (backTo pos (starEach args env)) (backToKw pos (keywordEach [] env))) := by
  have hform : methodCallForm (args.length + ([] : List Keyword).length) (backTo pos (starEach args env)) (backToKw pos (keywordEach [] env)) = true := hfew
  have hpos : methodCallPos true o env apos pos = pure pos := by unfold methodCallPos; simp [hline]
  rw [arm_eval_Call, hbase]
  unfold methodCall calleeOf
  rw [hform, hpos]
  simp only [if_true, pure_bind]
/-- the class above, whose __init__ is ValueError's -/
structure BiOk (K : PySem.W.Frag) (C : Addr) : Prop where
  ga : PySem.W.specialIn K (.ref C) "__getattribute__" = some (some (.builtin "type.__getattribute__"))
  rd : PySem.W.readsIn K C (.type "type") = true
  at_ : PySem.W.findCls K (.ref C) (.type "type") "__init__" = some (.val (.builtin "ValueError.__init__"))
section
variable {X : Cx} {e : Expr} {es : List Expr} {ta : TA} {p1 p2 pos : Pos} {x : Str} {C : Addr}
theorem pe_binit {pl : Sem Bool} (hg : Gl X x) (hm : X.mg x = some (.ref C)) (B : BiOk X.K C) (ha : PA X (e :: es) ta) (hd : (x == ("__debug__" : Str)) = false)
    (hc : eval (.Call (.Attribute (.Name x p1) "__init__" p2) (e :: es) [] pos) X.env = (do
      let ov ← eval (.Name x p1) X.env
      standAt p2.atName
      let (f, first) ← holding [ov] (getMethod ov "__init__" pl)
      callWith pos f first (backTo pos (starEach (e :: es) X.env)) (backToKw pos (keywordEach [] X.env))) := by rfl)
    (he : starEach (e :: es) X.env = (false, eval e X.env) :: starEach es X.env := by rfl) (hpl : (backTo pos (starEach es X.env)).any (·.1) = false := by rfl) :
    PE X (.Call (.Attribute (.Name x p1) "__init__" p2) (e :: es) [] pos) (tVeI X.K ta) := by
  refine ⟨fun pins s σ H Q I h => ?_⟩
  refine PySem.W.methodCall_KW (ld_glob I hg hm ?_ hd) hc
  refine PySem.W.method_cls I.kIn B.ga (PySem.W.cls_value I.kIn B.rd B.at_ (by decide +kernel) ?_)
  show wpAny _ _ (callWith pos (Value.builtin "ValueError.__init__") [] (backTo pos (starEach (e :: es) X.env)) []) _ _ _
  refine PyProof.Rows.callWith_method1 (thn (ha.run pos pins _ σ H _ (I.tok _) h) fun us s1 ⟨vs, H1, I1, r1, a, C, ws, ev, hl, T, ea, q⟩ => ?_) he hpl
  subst ev
  cases r1 with
  | @cons _ u0 _ ur ra rw' =>
    obtain rfl : u0 = Value.ref a := ra
    have hlen : ur.length ≤ sizeLine := by
      rw [← Paired.length rw', sizeLine_eq]
      omega
    exact oinit_ok T I1 ea hlen fun s' J => ⟨.non, H1, J, rfl, q⟩
/-! ### its stores -/
def xstB (N : List Str) (sc : Scope) : List String → Nat → List Stmt → Bool
  | [], _, [] => true
  | f :: fs, i, .Assign [.Attribute (.Name s _) g _] (.Name y _) _ :: r => visB N sc 0 s && visB N sc i y && g == Str.ofString f && xstB N sc fs (i + 1) r
  | _, _, _ => false
def tSt (K : PySem.W.Frag) : List String → Nat → TS
  | [], _ => tNext
  | f :: fs, i => tSeq (tOst K (Str.ofString f) (tVar 0) (tVar i)) (tSt K fs (i + 1))
theorem pvx (i : Nat) {x : Str} {pos : Pos} (h : visB X.N X.env.scope i x = true) : PE X (.Name x pos) (tVar i) := by
  unfold visB at h
  simp only [Bool.and_eq_true, decide_eq_true_eq, Bool.not_eq_true'] at h
  obtain ⟨⟨⟨h1, h2⟩, h3⟩, h4⟩ := h
  refine pe_var h1 ?_ h3 h4
  split at h2
  · exact .inl (by assumption)
  · exact .inr (.inl (by assumption))
  · exact .inr (.inr (by assumption))
  · cases h2
theorem pss_st : ∀ {fs : List String} {i : Nat} {r : List Stmt}, xstB X.N X.env.scope fs i r = true → PSs X r (tSt X.K fs i)
  | [], _, [], _ => pss_nil
  | [], _, _ :: _, h => by unfold xstB at h; cases h
  | f :: fs, i, r, h => by
    cases r with
    | nil => unfold xstB at h; cases h
    | cons st r =>
      obtain ⟨s, ps, g, pg, y, py, pos, rfl⟩ : ∃ s ps g pg y py pos, st = .Assign [.Attribute (.Name s ps) g pg] (.Name y py) pos := by
        unfold xstB at h
        split at h <;> first | (cases h; done) | skip
        · rename_i z1 z2
          cases z1
        · rename_i z1 z2
          cases z2
          exact ⟨_, _, _, _, _, _, _, rfl⟩
      unfold xstB at h
      simp only [Bool.and_eq_true, beq_iff_eq] at h
      obtain ⟨⟨⟨g1, g2⟩, rfl⟩, g4⟩ := h
      exact pss_cons (ps_ost (pvx 0 g1) (pvx i g2)) (pss_st g4)
theorem tSt_more {K : PySem.W.Frag} {D : Ends} {σ : L2.St} {a C dx : Addr} (T : OexC K C) (h0 : σ[0]? = some (some (.ref a))) : ∀ {fs : List String} {i : Nat} {ws : List V} {H : Hp} {acc : List (Str × V)}, ws.length = fs.length → (∀ j v, ws[j]? = some v → σ[i + j]? = some (some v)) →
    (∀ f ∈ fs, NoAttr K C (Str.ofString f)) → H a = some (exo a C (some dx)) → H dx = some (exd dx acc) → dx ≠ a → acc.length + fs.length ≤ 900 →
    (∀ H', H' a = some (exo a C (some dx)) → H' dx = some (exd dx ((((nmsD fs).zip ws).reverse) ++ acc)) → (∀ b, b ≠ dx → H' b = H b) → D.nx σ H') → tSt K fs i D σ H
  | [], i, [], H, acc, _, _, _, ha, hd, _, _, q => q H ha (by simpa [nmsD] using hd) fun _ _ => rfl
  | [], i, _ :: _, _, _, h, _, _, _, _, _, _, _ => by cases h
  | _ :: _, _, [], _, _, h, _, _, _, _, _, _, _ => by cases h
  | f :: fs, i, w :: ws, H, acc, hl, hw, hn, ha, hd, hne, hz, q => by
    have hw0 := hw 0 w rfl
    refine ⟨w, hw0, .ref a, h0, a, C, rfl, T, hn f List.mem_cons_self, .inr ⟨dx, acc, ha, hd, by omega, ?_⟩⟩
    show tSt K fs (i + 1) D σ _
    refine tSt_more (a := a) (C := C) (dx := dx) T h0 (ws := ws) (acc := (Str.ofString f, w) :: acc) (by simpa using hl) (fun j v hj => ?_) (fun g hg => hn g (List.mem_cons_of_mem _ hg)) (by rw [upd_ne (Ne.symm hne)]; exact ha) upd_same hne (by simp only [List.length_cons] at hz ⊢; omega) fun H' q1 q2 q3 => q H' q1 ?_ fun b hb => ?_
    · have := hw (j + 1) v (by simpa using hj)
      rw [show i + 1 + j = i + (j + 1) by omega]
      exact this
    · rw [q2]
      simp [nmsD]
    · rw [q3 b hb, upd_ne hb]
/-! ### the whole -/
def xiB (N : List Str) (sc : Scope) (bx : Str) (fs : List String) : List Stmt → Bool
  | .Expr (.Call (.Attribute (.Name x _) n pn) [.Name s _, .Constant (.str _) _ _] [] pc) _ :: r => x == bx && glB sc x && n == ("__init__" : Str) && visB N sc 0 s && pn.endLine == pc.line && xstB N sc fs 1 r
  | _ => false
theorem xi_body {fs : List String} {bx : Str} {body : List Stmt} (h : xiB X.N X.env.scope bx fs body = true) (hm : X.mg bx = some (.ref C)) (B : BiOk X.K C) :
    ∃ z, PSs X body (tSeq (tDrop (tVeI X.K (tCons (tVar 0) (tCons (tC z) tNil)))) (tSt X.K fs 1)) := by
  unfold xiB at h
  split at h <;> first | (cases h; done) | skip
  rename_i x px n pn s ps z kz pz pc pos r
  simp only [Bool.and_eq_true, beq_iff_eq] at h
  obtain ⟨⟨⟨⟨⟨rfl, h2⟩, rfl⟩, h4⟩, hln⟩, h5⟩ := h
  have g : X.env.scope.names.lookup x = some .globalImplicit ∧ (x == ("__debug__" : Str)) = false := by
    unfold glB at h2
    simp only [Bool.and_eq_true, decide_eq_true_eq, Bool.not_eq_true'] at h2
    exact ⟨h2.1.1, h2.1.2⟩
  exact ⟨_, pss_cons (ps_expr (pe_binit g.1 hm B (pa_cons (pvx 0 h4) (pa_cons pe_str pa_nil)) g.2 (meth_form (base_ok rfl) (few_ok (by rfl) (by show 2 < 30; decide)) (by simpa using hln)))) (pss_st h5)⟩
end
theorem xi_ok {P : Program} {w : World} {K : PySem.W.Frag} {mg : Str → Option Value} {base : Heap} {x qual bx : Str} {params : Arguments} {body : List Stmt} {scope : Scope} {f C0 C : Addr} {fd : FuncData} {N ps : List Str} {fs : List String} {CX : CXT}
    (F : FunD K x qual params body scope [] [] f fd) (S : FnScope N ps scope) (hb : xiB N scope bx fs body = true) (hm : mg bx = some (.ref C0)) (B : BiOk K C0) (hl : ps.length = 1 + fs.length) (hN : N = ps) (hn : ∀ g ∈ fs, NoAttr K C (Str.ofString g)) (hz : fs.length < 100) (hf : fs ≠ []) :
    FnOk P w K mg base CX 1 f fd ps (spXi K C fs) := by
  refine F.ok S (fun vs H Q E ⟨a, ws, h1, h2, _⟩ => by rw [h1, hl, List.length_cons, h2]; omega) fun cdv A outer s H vs Q E hr h => ?_
  obtain ⟨a, ws, rfl, h2, T, ha, q⟩ := h
  obtain ⟨z, hp⟩ := xi_body (X := cxOf CX P w K mg base N qual scope f cdv A outer s H E) hb hm B
  refine ⟨_, hp, ?_⟩
  have h0 : (L2.start N (V.ref a :: ws))[0]? = some (some (.ref a)) := by simp [L2.start]
  have hw : ∀ j v, ws[j]? = some v → (L2.start N (V.ref a :: ws))[1 + j]? = some (some v) := fun j v hj => by
    have hjl := (List.getElem?_eq_some_iff.mp hj).1
    unfold L2.start
    rw [List.getElem?_append_left (by simp; omega), List.getElem?_map, show 1 + j = j + 1 by omega, List.getElem?_cons_succ, hj]
    rfl
  refine ⟨_, h0, ?_⟩
  refine ⟨a, C, [z], rfl, by simp, T, ha, ?_⟩
  show tSt K fs 1 _ _ _
  cases fs with
  | nil => exact absurd rfl hf
  | cons g fs =>
    cases ws with
    | nil => cases h2
    | cons w0 ws =>
      refine ⟨w0, hw 0 w0 rfl, .ref a, h0, a, C, rfl, T, hn g List.mem_cons_self, .inl ⟨ha, fun dx nd ne => ?_⟩⟩
      show tSt K fs 2 _ _ _
      refine tSt_more (a := a) (C := C) (dx := dx) T h0 (ws := ws) (acc := [(Str.ofString g, w0)]) (by simpa using h2) (fun j v hj => ?_) (fun g' hg => hn g' (List.mem_cons_of_mem _ hg)) upd_same (by rw [upd_ne ne, upd_same]) ne (by simp only [List.length_cons, List.length_nil] at hz ⊢; omega) fun H' q1 q2 q3 => ?_
      · have := hw (j + 1) v (by simpa using hj)
        rw [show 2 + j = 1 + (j + 1) by omega]
        exact this
      · refine q dx H' _ nd ne q1 q2 (fun b hb hb2 => by rw [q3 b hb2, upd_ne hb, upd_ne hb2]) ?_ ?_
        · have hl2 : ws.length = fs.length := by simpa using h2
          rw [List.map_append, List.map_reverse, List.map_fst_zip (by simp [nmsD, hl2])]
          simp [nmsD]
        · have hl2 : ws.length = fs.length := by simpa using h2
          rw [List.map_append, List.map_reverse, List.map_snd_zip (by simp [nmsD, hl2])]
          simp
end BV

/-! BvKx: the facts of the text's classes, as one test. -/
namespace BV
open PySem L2 PySem.Spec PyProof.Rows
def gcB (K : PySem.W.Frag) : Bool := decide (PySem.W.specialIn K (.builtin "object.__class__") "__get__" = some (some (.builtin "getset_descriptor.__get__"))) && decide (PySem.W.takesIn K (.builtin "object.__class__") = some true)
theorem gcB_ok {K : PySem.W.Frag} (h : gcB K = true) : GcOk K := by
  unfold gcB at h
  rw [Bool.and_eq_true] at h
  exact ⟨of_decide_eq_true h.1, of_decide_eq_true h.2⟩
def cmB (K : PySem.W.Frag) (C : Addr) : Bool := decide (PySem.W.findIn K (.ref C) "__class__" = some (some (.builtin "object.__class__"))) && decide (PySem.W.mroIn K C (.type "object") = some true)
def xcB (K : PySem.W.Frag) (C : Addr) : Bool := xfB K C && (PySem.W.clsIn K C).isSome && cmB K C
theorem xcB_ok {K : PySem.W.Frag} {C : Addr} (h : xcB K C = true) : XcOk K C := by
  unfold xcB cmB at h
  simp only [Bool.and_eq_true, decide_eq_true_eq] at h
  exact ⟨xfB_ok h.1.1, h.1.2, h.2.1, h.2.2⟩
def icB (K : PySem.W.Frag) (C : Addr) : Bool := PySem.W.plainGet K C Str.empty && PySem.W.hasDictIn K C && PySem.W.plainOver K C && decide (PySem.W.findIn K (.ref C) "__setattr__" = some (some (.builtin "object.__setattr__"))) && cmB K C
theorem icB_ok {K : PySem.W.Frag} {C : Addr} (h : icB K C = true) : IcOk K C := by
  unfold icB cmB at h
  simp only [Bool.and_eq_true, decide_eq_true_eq] at h
  exact ⟨⟨h.1.1.1.1, h.1.1.1.2, h.1.1.2, h.1.2⟩, h.2.1, h.2.2⟩
def oexB (K : PySem.W.Frag) (C : Addr) : Bool := (match K.lookup C with
  | some ⟨.type t, _, .cls cd, sl⟩ => (match cd.mro, sl.toList with
    | .ref C' :: bm, [_, _, _, _, some (.builtin n), _] => t == "type" && C' == C && n == "ValueError.__new__" && !cd.hasDel && cd.hasDict && PySem.HandSPX.refsVE bm
    | _, _ => false)
  | _ => false) && decide (PySem.W.findIn K (.ref C) "__setattr__" = some (some (.builtin "object.__setattr__"))) && decide (PySem.W.subIn K (.ref C) (.type "BaseException") = some true) && decide (PySem.W.typeIn K (.ref C) = some (.type "type")) && PySem.W.keepIn K (.ref C)
theorem oexB_ok {K : PySem.W.Frag} {C : Addr} (h : oexB K C = true) : OexC K C := by
  unfold oexB at h
  simp only [Bool.and_eq_true, decide_eq_true_eq] at h
  obtain ⟨⟨⟨⟨q, h2⟩, h3⟩, h4⟩, h5⟩ := h
  refine ⟨?_, h2, h3, h4, h5⟩
  split at q
  · rename_i t dd cd sl ho
    split at q
    · rename_i C' bm k0 k1 k2 k3 n k5 hm hs
      simp only [Bool.and_eq_true, beq_iff_eq, Bool.not_eq_true'] at q
      obtain ⟨⟨⟨⟨⟨rfl, rfl⟩, rfl⟩, hdel⟩, hdc⟩, ht⟩ := q
      obtain ⟨nm, bs, mro, ns, qn, hd, sn, sub, ab, col, del⟩ := cd
      dsimp only at hm hdel hdc
      subst hm hdel hdc
      have hsl : sl = #[k0, k1, k2, k3, some (.builtin "ValueError.__new__"), k5] := by
        obtain ⟨l⟩ := sl
        simp only at hs
        rw [hs]
      subst hsl
      exact ⟨nm, qn, ns, bs, bm, sn, sub, ab, col, dd, k0, k1, k2, k3, k5, ho, ht⟩
    · cases q
  · cases q
def biB (K : PySem.W.Frag) (C : Addr) : Bool := decide (PySem.W.specialIn K (.ref C) "__getattribute__" = some (some (.builtin "type.__getattribute__"))) && PySem.W.readsIn K C (.type "type") && (match PySem.W.findCls K (.ref C) (.type "type") "__init__" with
  | some (.val (.builtin b)) => b == "ValueError.__init__"
  | _ => false)
theorem biB_ok {K : PySem.W.Frag} {C : Addr} (h : biB K C = true) : BiOk K C := by
  unfold biB at h
  simp only [Bool.and_eq_true, decide_eq_true_eq] at h
  refine ⟨h.1.1, h.1.2, ?_⟩
  have q := h.2
  split at q
  · rename_i b e
    rw [e, eq_of_beq q]
  · cases q
def wrL (m : Mk0) : List String := "ValueError" :: m.known
theorem wr_mem {m : Mk0} {y : String} (h : m.wrOk y = true) : y ∈ wrL m := by
  unfold Mk0.wrOk at h
  rw [Bool.or_eq_true] at h
  rcases h with h | h
  · exact List.mem_cons_of_mem _ (List.contains_iff_mem.mp h)
  · rw [eq_of_beq h]; exact List.mem_cons_self
def noatB (K : PySem.W.Frag) (C : Addr) (fs : List String) : Bool := fs.all fun f => decide (PySem.W.findIn K (.ref C) (Str.ofString f) = some none)
def clsB (K : PySem.W.Frag) (m : Mk0) : Bool := (m.known.isEmpty || (gcB K && ty0.all fun T => (wrL m).all fun y => decide (PySem.W.kitOne K (.type T) (clV K m y) = some false))) &&
  ((m.xs.map (·.1)).all fun c => xcB K (clA K c)) && ((m.ics.map (·.1)).all fun c => icB K (clA K c)) && (m.known.all fun c => He.eqO (PySem.W.nsIn K mainGlobals (Str.ofString c)) (some (some (.ref (clA K c))))) &&
  (m.known.all fun c => (wrL m).all fun y => decide (PySem.W.kitOne K (.ref (clA K c)) (clV K m y) = some (m.subC c y))) &&
  ((m.xs.map (·.1)).all fun c => (m.xs.map (·.1)).all fun y => decide (PySem.W.exmOne K (.ref (clA K c)) (.ref (clA K y)) = some (m.subC c y))) &&
  (m.xf.all fun p => decide (p.1 ∈ m.xs.map (·.1)) && decide (p.2.length < 100) && noatB K (clA K p.1) p.2 && oexB K (clA K p.1) && He.eqO (PySem.W.findIn K (.ref (clA K p.1)) "__init__") (some (some (.ref (He.ma K (clA K p.1) "__init__")))) &&
    decide (PySem.W.typeIn K (.ref (He.ma K (clA K p.1) "__init__")) = some (.type "function"))) &&
  (m.ics.all fun p => noatB K (clA K p.1) p.2) &&
  (m.mth.all fun p => decide (p.1 ∈ m.ics.map (·.1)) && He.eqO (PySem.W.findIn K (.ref (clA K p.1)) (Str.ofString p.2.1)) (some (some (.ref (He.ma K (clA K p.1) (Str.ofString p.2.1))))) && PySem.W.isFn K (.ref (He.ma K (clA K p.1) (Str.ofString p.2.1))) &&
    PySem.W.keepIn K (.ref (He.ma K (clA K p.1) (Str.ofString p.2.1))) && (p.2.1 != "__init__" || (PySem.W.makesIn K (clA K p.1) && PySem.W.keepIn K (.ref (clA K p.1)))))
theorem lk_mem {α : Type} : ∀ {l : List (String × α)} {c : String} {x : α}, l.lookup c = some x → (c, x) ∈ l
  | [], _, _, h => by cases h
  | (k, y) :: l, c, x, h => by
    unfold List.lookup at h
    split at h
    · rename_i e
      cases h
      rw [eq_of_beq e]
      exact List.mem_cons_self
    · exact List.mem_cons_of_mem _ (lk_mem h)
theorem noatB_ok {K : PySem.W.Frag} {C : Addr} {fs : List String} (h : noatB K C fs = true) : ∀ f ∈ fs, NoAttr K C (Str.ofString f) := fun f hf => show PySem.W.findIn K (.ref C) (Str.ofString f) = some none from of_decide_eq_true (List.all_eq_true.mp h f hf)
theorem clsB_ok {K : PySem.W.Frag} {h : Heap} {mg : Str → Option Value} {m : Mk0} (X : K.In h) (G : h.Ns mainGlobals mg) (c : clsB K m = true) : ClsOk K mg m := by
  unfold clsB at c
  simp only [Bool.and_eq_true] at c
  obtain ⟨⟨⟨⟨⟨⟨⟨⟨c1, c2⟩, c3⟩, c4⟩, c5⟩, c6⟩, c7⟩, c8⟩, c9⟩ := c
  have c1' : m.known ≠ [] → gcB K = true ∧ (ty0.all fun T => (wrL m).all fun y => decide (PySem.W.kitOne K (.type T) (clV K m y) = some false)) = true := fun hn => by
    rw [Bool.or_eq_true, Bool.and_eq_true] at c1
    rcases c1 with c1 | c1
    · exact absurd (List.isEmpty_iff.mp c1) hn
    · exact c1
  refine ⟨fun hn => gcB_ok (c1' hn).1, fun c hc => xcB_ok (List.all_eq_true.mp c2 c hc), fun c hc => icB_ok (List.all_eq_true.mp c3 c hc), fun c hc => PySem.W.mg_of X G (He.eqO_ok (List.all_eq_true.mp c4 c hc)), fun c hc y hy => ?_, fun hn T hT y hy => ?_, fun c hc y hy => ?_, fun c fs e => ?_, fun c fs e => ?_, fun c fs e => ?_, fun c n g e => ?_, fun c g e => ?_⟩
  · exact of_decide_eq_true (List.all_eq_true.mp (List.all_eq_true.mp c5 c hc) y (wr_mem hy))
  · exact of_decide_eq_true (List.all_eq_true.mp (List.all_eq_true.mp (c1' hn).2 T hT) y (wr_mem hy))
  · exact of_decide_eq_true (List.all_eq_true.mp (List.all_eq_true.mp c6 c hc) y hy)
  · have q := List.all_eq_true.mp c7 _ (lk_mem e)
    simp only [Bool.and_eq_true, decide_eq_true_eq] at q
    exact ⟨q.1.1.1.1.1, q.1.1.1.1.2, noatB_ok q.1.1.1.2⟩
  · exact ⟨List.mem_map_of_mem (f := (·.1)) (lk_mem e), noatB_ok (List.all_eq_true.mp c8 _ (lk_mem e))⟩
  · have q := List.all_eq_true.mp c7 _ (lk_mem e)
    simp only [Bool.and_eq_true, decide_eq_true_eq] at q
    exact ⟨oexB_ok q.1.1.2, He.eqO_ok q.1.2, q.2⟩
  · have q := List.all_eq_true.mp c9 _ e
    simp only [Bool.and_eq_true, decide_eq_true_eq] at q
    exact ⟨q.1.1.1.1, He.eqO_ok q.1.1.1.2, q.1.1.2, q.1.2⟩
  · have q := List.all_eq_true.mp c9 _ e
    simp only [Bool.and_eq_true, decide_eq_true_eq] at q
    have z : PySem.W.makesIn K (clA K c) = true ∧ PySem.W.keepIn K (.ref (clA K c)) = true := by
      have q2 := q.2
      rw [Bool.or_eq_true, Bool.and_eq_true] at q2
      rcases q2 with q2 | q2
      · exact absurd q2 (by simp)
      · exact q2
    exact ⟨z.1, He.eqO_ok q.1.1.1.2, q.1.1.2, z.2⟩
end BV

/-! BvE: expressions. -/
namespace BV
open PySem L2 PySem.Spec PyProof.Rows

/-- what a def promises -/
def spF (U : Sur) (g : Nat) : Sp := fun vs H Q E => ∃ F cells rs fin, EnvR U.K F H (vs.map some) cells ∧ (∀ c ∈ cells, (∃ d, c = .fz d) ∨ ∃ d, c = .pr d) ∧ U.cs g cells = some (rs, fin) ∧ (match rs with
  | .ok d b => ∀ v F' H', EnvR U.K F' H' (vs.map some) fin → Stp F H (vs.map some) cells F' H' (vs.map some) fin → Res U.K H cells F' H' (vs.map some) fin v d b → Q v H'
  | .ex x => ∀ cls dd F' H', EnvR U.K F' H' (vs.map some) fin → Stp F H (vs.map some) cells F' H' (vs.map some) fin → ExR U F' H' cls dd x → E cls dd H')
def lvl (k : Nat) : Nat := k
/-- a dict of the text's top -/
structure DctOk (K : PySem.W.Frag) (w : World) (a : Addr) (ks vs : List D) : Prop where
  kd : ∃ es n, KDict K w a es n
  at_ : ∀ s : List Nat, (∀ j, findD (.str s) ks = some j → ∃ u v d, PySem.W.nsIn K a (toS s) = some (some u) ∧ RelV v u ∧ vs[j]? = some d ∧ ∀ F : Hp, Rep K F v d) ∧ (findD (.str s) ks = none → PySem.W.nsIn K a (toS s) = some none)
structure Ctx (U : Sur) (m : Mk0) (k : Nat) (X : Cx) (W : WX) : Prop where
  K : X.K = U.K
  mg : X.mg = U.mg
  gn : m.gn = U.gn
  xsU : U.xs = m.xs
  calm : m.hot = false → X.calm = true
  hd : m.hot = false → X.A.handled = none
  nd : X.N.Nodup
  tk : Takes X W
  room : L2H.RoomH (k + 4) X.A
  glob : ∀ g, m.isV g = true → ∃ u v d, X.mg (m.gn g) = some u ∧ RelV v u ∧ Rep U.K (fun _ => none) v d ∧ ∀ cells, U.cs g cells = some (.ok d false, [])
  dcts : ∀ g, m.isD g = true → ∃ addr ks vs, X.mg (m.gn g) = some (.ref addr) ∧ (∀ cells, U.cs g cells = some (.ok (.dct 0 ks vs) false, [])) ∧ DctOk U.K X.w addr ks vs
  fns : ∀ g, m.isF g = true → ∃ addr fd ps, X.mg (m.gn g) = some (.ref addr) ∧ PySem.W.keepIn X.K (.ref addr) = true ∧ Binds X.K fd ps [] ∧ FnB (m.isH g) X.prog X.w X.K X.mg X.base (L2.CX X.prog X.w) (k + 4) addr fd ps (spF U g)
  bu : ∀ x ∈ bnames, X.mg x = none
  cl : ClsOk X.K X.mg m
  mts : ∀ c n g, (c, n, g) ∈ m.mth → ∃ fd ps, Binds X.K fd ps [] ∧ FnB (m.isH g) X.prog X.w X.K X.mg X.base (L2.CX X.prog X.w) (k + 4) (He.ma X.K (clA X.K c) (Str.ofString n)) fd ps (spF U g)
  xmk : ∀ c fs, m.xf.lookup c = some fs → ∃ fd ps, Binds X.K fd ps [] ∧ FnOk X.prog X.w X.K X.mg X.base (L2.CX X.prog X.w) 1 (He.ma X.K (clA X.K c) "__init__") fd ps (spXi X.K (clA X.K c) fs)
theorem hot_of {b : Bool} (h : (!b || !true) = true) : b = false := by simpa using h
inductive PEs (X : Cx) (U : Sur) (W : WX) : List Expr → List E → Prop
  | nil : PEs X U W [] []
  | cons {x : Expr} {xs : List Expr} {e : E} {es : List E} : PE X x (tE U W e) → PEs X U W xs es → PEs X U W (x :: xs) (e :: es)
section
variable {X : Cx} {U : Sur} {W : WX} {m : Mk0} {k : Nat}
theorem vis_of {N : List Str} {sc : Scope} {i : Nat} {x : Str} (h : visB N sc i x = true) : N[i]? = some x ∧ Vis sc x ∧ (x == ("__debug__" : Str)) = false ∧ (x == ("__classdict__" : Str)) = false := by
  unfold visB at h
  simp only [Bool.and_eq_true, decide_eq_true_eq, Bool.not_eq_true'] at h
  obtain ⟨⟨⟨h1, h2⟩, h3⟩, h4⟩ := h
  refine ⟨h1, ?_, h3, h4⟩
  split at h2
  · exact .inl (by assumption)
  · exact .inr (.inl (by assumption))
  · exact .inr (.inr (by assumption))
  · cases h2
theorem gl_of {sc : Scope} {x : Str} (h : glB sc x = true) : sc.names.lookup x = some .globalImplicit ∧ (x == ("__debug__" : Str)) = false ∧ x ≠ "__name__" := by
  unfold glB at h
  simp only [Bool.and_eq_true, decide_eq_true_eq, Bool.not_eq_true'] at h
  obtain ⟨⟨h1, h2⟩, h3⟩ := h
  exact ⟨h1, h2, by simpa using h3⟩
theorem blt_of {sc : Scope} {n x : Str} (h : blt sc n x = true) : x = n ∧ sc.names.lookup n = some .globalImplicit := by
  unfold blt at h
  rw [Bool.and_eq_true] at h
  have e : x = n := eq_of_beq h.1
  subst e
  exact ⟨rfl, (gl_of h.2).1⟩
theorem pv_of (i : Nat) {x : Str} {pos : Pos} (h : visB X.N X.env.scope i x = true) : PE X (.Name x pos) (tVar i) := by
  obtain ⟨h1, h2, h3, h4⟩ := vis_of h
  exact pe_var h1 h2 h3 h4
theorem pa_of {pk : Bool} : ∀ {xs : List Expr} {es : List E}, PEs X U W xs es → xs.all nst = true → PA X xs (tDs U W pk es)
  | _, _, .nil, _ => PA.imp pa_nil fun σ H Q h => tDs_nil h
  | _, _, .cons h r, hn => by
    obtain ⟨h1, h2⟩ := ns_cons hn
    exact PA.imp (pa_cons h (pa_of r h2) (star_cons h1)) fun σ H Q h => tDs_cons h
theorem PEs.one {x : Expr} {es : List E} (h : PEs X U W [x] es) : ∃ e, es = [e] ∧ PE X x (tE U W e) := by
  cases h with
  | cons h r => cases r; exact ⟨_, rfl, h⟩
theorem PEs.two {x y : Expr} {es : List E} (h : PEs X U W [x, y] es) : ∃ e f, es = [e, f] ∧ PE X x (tE U W e) ∧ PE X y (tE U W f) := by
  cases h with
  | cons h r =>
    obtain ⟨f, rfl, g⟩ := r.one
    exact ⟨_, _, rfl, h, g⟩
theorem ty_boot : (tyNames.all fun T => bootBuiltins (Str.ofString T) == some (.type T) && !(Str.ofString T == ("__debug__" : Str)) && !(Str.ofString T == ("__name__" : Str)) && bnames.contains (Str.ofString T)) = true := by decide +kernel
theorem ty_name (C : Ctx U m k X W) {T : String} {y : Str} {pos : Pos} (h1 : y = Str.ofString T) (h2 : glB X.env.scope y = true) (h3 : tyNames.contains T = true) : PE X (.Name y pos) (tC (.ty T)) := by
  have hb := List.all_eq_true.mp ty_boot T (List.contains_iff_mem.mp h3)
  simp only [Bool.and_eq_true, Bool.not_eq_true', beq_iff_eq] at hb
  obtain ⟨⟨⟨b1, b2⟩, b3⟩, b4⟩ := hb
  subst h1
  refine pe_bltn (gl_of h2).1 (C.bu _ (List.contains_iff_mem.mp b4)) b1 rfl (by simpa using b3) b2
theorem ty_names (C : Ctx U m k X W) : ∀ {ts : List String} {es : List Expr}, tyNm X.env.scope ts es = true → PA X es (tyRd ts)
  | [], [], _ => pa_nil
  | T :: ts, .Name y p :: es, h => by
    unfold tyNm at h
    simp only [Bool.and_eq_true] at h
    obtain ⟨⟨⟨h1, h2⟩, h3⟩, h4⟩ := h
    exact pa_cons (ty_name C (eq_of_beq h1) h2 h3) (ty_names C h4) rfl
  | [], _ :: _, h => by unfold tyNm at h; cases h
  | _ :: _, [], h => by unfold tyNm at h; cases h
  | T :: ts, x :: es, h => by
    cases x <;> first | (unfold tyNm at h; cases h; done) | skip
    rename_i y p
    unfold tyNm at h
    simp only [Bool.and_eq_true] at h
    obtain ⟨⟨⟨h1, h2⟩, h3⟩, h4⟩ := h
    exact pa_cons (ty_name C (eq_of_beq h1) h2 h3) (ty_names C h4) rfl
theorem bum (C : Ctx U m k X W) {x : Str} (h : bnames.contains x = true) : X.mg x = none := C.bu x (List.contains_iff_mem.mp h)
theorem prim_snd (C : Ctx U m k X W) {p : P} {x : Expr} {xs : List Expr} {es : List E} (hq : (!m.hot || !calmP p) = true) (ho : okP m X.env.scope p x = true) (h : shp X.env.scope p x = some xs) (hs : PEs X U W xs es) : PE X x (tP U W p es) := by
  unfold shp at h
  split at h
  · cases h; obtain ⟨e, f, rfl, h1, h2⟩ := hs.two; exact snd_add C.K h1 h2
  · cases h; obtain ⟨e, f, rfl, h1, h2⟩ := hs.two; exact snd_sub h1 h2
  · cases h; obtain ⟨e, f, rfl, h1, h2⟩ := hs.two; exact snd_mul h1 h2
  · cases h; obtain ⟨e, f, rfl, h1, h2⟩ := hs.two; exact snd_mod h1 h2
  · cases h; obtain ⟨e, f, rfl, h1, h2⟩ := hs.two; exact snd_fdiv h1 h2
  · cases h; obtain ⟨e, f, rfl, h1, h2⟩ := hs.two; exact snd_pow h1 h2
  · cases h; obtain ⟨e, rfl, h1⟩ := hs.one; exact snd_neg h1
  · cases h; obtain ⟨e, f, rfl, h1, h2⟩ := hs.two; have c := cmp_eq (X := X) (U := U) C.K C.room; exact cmp2 c.op nomk c.sem h1 h2
  · cases h; obtain ⟨e, f, rfl, h1, h2⟩ := hs.two; have c := cmp_ne (X := X) (U := U) C.K C.room; exact cmp2 c.op nomk c.sem h1 h2
  · cases h; obtain ⟨e, f, rfl, h1, h2⟩ := hs.two; have c := cmp_lt (X := X) (U := U); exact cmp2 c.op nomk c.sem h1 h2
  · cases h; obtain ⟨e, f, rfl, h1, h2⟩ := hs.two; have c := cmp_le (X := X) (U := U); exact cmp2 c.op nomk c.sem h1 h2
  · cases h; obtain ⟨e, f, rfl, h1, h2⟩ := hs.two; have c := cmp_gt (X := X) (U := U); exact cmp2 c.op nomk c.sem h1 h2
  · cases h; obtain ⟨e, f, rfl, h1, h2⟩ := hs.two; have c := cmp_ge (X := X) (U := U); exact cmp2 c.op nomk c.sem h1 h2
  · split at h
    · rename_i z; cases h; obtain ⟨e, f, rfl, h1, h2⟩ := hs.two; have c := cmp_in (X := X) (U := U) C.K C.room; exact cmp2 c.op (no_mark z) c.sem h1 h2
    · cases h
  · split at h
    · rename_i z; cases h; obtain ⟨e, f, rfl, h1, h2⟩ := hs.two; have c := cmp_notin (X := X) (U := U) C.K C.room; exact cmp2 c.op (no_mark z) c.sem h1 h2
    · cases h
  · cases h; obtain ⟨e, rfl, h1⟩ := hs.one; exact snd_isN h1
  · cases h; obtain ⟨e, rfl, h1⟩ := hs.one; exact snd_notN h1
  · split at h
    · rename_i z; cases h; obtain ⟨e, f, rfl, h1, h2⟩ := hs.two; exact snd_ix C.K C.room z h1 h2
    · cases h
  · cases h; obtain ⟨e, rfl, h1⟩ := hs.one; exact snd_sl00 C.K h1
  · cases h; obtain ⟨e, f, rfl, h1, h2⟩ := hs.two; exact snd_sl10 C.K h1 h2
  · cases h; obtain ⟨e, f, rfl, h1, h2⟩ := hs.two; exact snd_sl01 C.K h1 h2
  · split at h
    · rename_i z; cases h; exact snd_tup (pa_of hs z)
    · cases h
  · split at h
    · rename_i z; cases h; exact snd_lst (pa_of hs z)
    · cases h
  · split at h
    · rename_i z; cases h; rw [Bool.and_eq_true] at z; obtain ⟨rfl, g⟩ := blt_of z.1; obtain ⟨e, rfl, h1⟩ := hs.one; exact snd_len C.K g (bum C (by decide +kernel)) h1 z.2
    · cases h
  · split at h
    · rename_i z; cases h; rw [Bool.and_eq_true] at z; obtain ⟨rfl, g⟩ := blt_of z.1; obtain ⟨e, rfl, h1⟩ := hs.one; exact snd_abs g (bum C (by decide +kernel)) h1 z.2
    · cases h
  · split at h
    · rename_i z; cases h; rw [Bool.and_eq_true] at z; obtain ⟨rfl, g⟩ := blt_of z.1; obtain ⟨e, rfl, h1⟩ := hs.one; exact snd_tuple C.K g (bum C (by decide +kernel)) h1 z.2
    · cases h
  · split at h
    · rename_i z; cases h; rw [Bool.and_eq_true] at z; obtain ⟨rfl, g⟩ := blt_of z.1; obtain ⟨e, rfl, h1⟩ := hs.one; exact snd_list C.K g (bum C (by decide +kernel)) h1 z.2
    · cases h
  · split at h
    · rename_i z; cases h; rw [Bool.and_eq_true] at z; obtain ⟨rfl, g⟩ := blt_of z.1; obtain ⟨e, rfl, h1⟩ := hs.one; exact snd_all C.K (C.calm (hot_of hq)) g (bum C (by decide +kernel)) h1 z.2
    · cases h
  · split at h
    · rename_i z; cases h; rw [Bool.and_eq_true] at z; obtain ⟨rfl, g⟩ := blt_of z.1; obtain ⟨e, rfl, h1⟩ := hs.one; exact snd_any C.K (C.calm (hot_of hq)) g (bum C (by decide +kernel)) h1 z.2
    · cases h
  · cases h; obtain ⟨e, f, rfl, h1, h2⟩ := hs.two; exact snd_rep h1 h2
  · split at h
    · rename_i z; cases h; rw [Bool.and_eq_true] at z; obtain ⟨rfl, g⟩ := blt_of z.1; obtain ⟨e, rfl, h1⟩ := hs.one; exact snd_strP g (bum C (by decide +kernel)) h1 z.2
    · cases h
  · split at h
    · rename_i z; cases h; rw [Bool.and_eq_true] at z; obtain ⟨rfl, g⟩ := blt_of z.1; obtain ⟨e, rfl, h1⟩ := hs.one; exact snd_intP g (bum C (by decide +kernel)) h1 z.2
    · cases h
  · split at h
    · rename_i z; cases h; rw [Bool.and_eq_true, Bool.and_eq_true] at z; obtain ⟨rfl, g⟩ := blt_of z.1.1; obtain ⟨rfl, g2⟩ := blt_of z.1.2; obtain ⟨e, rfl, h1⟩ := hs.one; exact snd_lrange (C.calm (hot_of hq)) g (bum C (by decide +kernel)) g2 (bum C (by decide +kernel)) h1 z.2
    · cases h
  · split at h
    · rename_i z; cases h; rw [Bool.and_eq_true, Bool.and_eq_true] at z; obtain ⟨rfl, g⟩ := blt_of z.1.1; obtain ⟨e, f, rfl, h1, h2⟩ := hs.two; exact snd_max2 (C.calm (hot_of hq)) g (bum C (by decide +kernel)) h1 h2 z.1.2 z.2
    · cases h
  · split at h
    · rename_i z; cases h; rw [Bool.and_eq_true, Bool.and_eq_true] at z; obtain ⟨rfl, g⟩ := blt_of z.1.1; obtain ⟨e, f, rfl, h1, h2⟩ := hs.two; exact snd_min2 (C.calm (hot_of hq)) g (bum C (by decide +kernel)) h1 h2 z.1.2 z.2
    · cases h
  · split at h
    · rename_i kn acc cs y py x0 t0 pos0 z; cases h
      rw [Bool.and_eq_true, Bool.and_eq_true] at z
      obtain ⟨rfl, g⟩ := blt_of z.1.1
      obtain ⟨e, rfl, h1⟩ := hs.one
      unfold okP at ho
      simp only [Bool.and_eq_true, decide_eq_true_eq, Bool.not_eq_true'] at ho
      obtain ⟨⟨⟨⟨o1, o2⟩, rfl⟩, rfl⟩, o5⟩ := ho
      exact snd_isx C.K C.cl (by intro q; rw [q] at o2; cases o2) g (bum C (by decide +kernel)) (bum C (by decide +kernel)) o1 o5 h1 z.1.2 z.2
    · cases h
  · split at h
    · rename_i z; cases h
      rw [Bool.and_eq_true, beq_iff_eq] at z
      obtain ⟨rfl, g⟩ := z
      obtain ⟨e, rfl, h1⟩ := hs.one
      unfold okP at ho
      exact snd_fld C.K C.cl ho g h1
    · cases h
  · split at h
    · rename_i z; cases h
      rw [Bool.and_eq_true, Bool.and_eq_true] at z
      obtain ⟨rfl, g⟩ := blt_of z.1.1
      obtain ⟨e, rfl, h1⟩ := hs.one
      have t := z.2
      unfold tyNm at t
      simp only [Bool.and_eq_true] at t
      obtain ⟨⟨⟨t1, t2⟩, t3⟩, _⟩ := t
      have hb := List.all_eq_true.mp ty_boot _ (List.contains_iff_mem.mp t3)
      simp only [Bool.and_eq_true, Bool.not_eq_true', beq_iff_eq] at hb
      obtain ⟨⟨⟨b1, b2⟩, b3⟩, b4⟩ := hb
      have ey := eq_of_beq t1
      subst ey
      exact snd_isi1 C.K g (bum C (by decide +kernel)) (gl_of t2).1 (bum C b4) b1 (by simpa using b3) b2 h1 z.1.2
    · cases h
  · split at h
    · rename_i z; cases h
      simp only [Bool.and_eq_true, decide_eq_true_eq] at z
      obtain ⟨⟨⟨z1, z2⟩, z3⟩, z4⟩ := z
      obtain ⟨rfl, g⟩ := blt_of z1
      obtain ⟨e, rfl, h1⟩ := hs.one
      exact snd_isiN C.K g (bum C (by decide +kernel)) z4 (ty_names C z3) h1 z2
    · cases h
  · cases h
end
end BV

/-! BvX: expressions, case by case. -/
namespace BV
open PySem L2 PySem.Spec PyProof.Rows
section
variable {K : PySem.W.Frag} {F H : Hp} {σ : Sg} {ρ : Rho}
theorem set_on_sub {i : Nat} {c' : Cell} (hc' : c'.on = none) {a : Addr} (h : OnA σ (ρ.set i c') a) : OnA σ ρ a ∧ ∀ j x, ρ[j]? = some x → x.on.isSome = true → σ[j]? = some (some (.ref a)) → j ≠ i → True := by
  obtain ⟨j, x, h1, h2, h3⟩ := h
  rcases set_get h1 with ⟨rfl, rfl, _⟩ | ⟨hj, h1⟩
  · rw [hc'] at h2; cases h2
  · exact ⟨⟨j, x, h1, h2, h3⟩, fun _ _ _ _ _ _ => trivial⟩
/-- a name gives up its thing: the cell is no owner any more -/
theorem EnvR.drop (e : EnvR K F H σ ρ) {i : Nat} {c' : Cell} (hc' : c'.on = none) (hf : ∀ d, c'.fr = some d → ∃ v, σ[i]? = some (some v) ∧ Rep K F v d) : EnvR K F H σ (ρ.set i c') := by
  refine ⟨e.sub, by rw [List.length_set]; exact e.len, fun j x d h1 h2 => ?_, fun j x d h1 h2 => ?_, fun j k x y a h1 h2 h3 h4 h5 h6 => ?_⟩
  · rcases set_get h1 with ⟨rfl, rfl, _⟩ | ⟨_, h1⟩
    · exact hf d h2
    · exact e.fr j x d h1 h2
  · rcases set_get h1 with ⟨rfl, rfl, _⟩ | ⟨_, h1⟩
    · rw [hc'] at h2; cases h2
    · exact e.on j x d h1 h2
  · rcases set_get h1 with ⟨rfl, rfl, _⟩ | ⟨_, h1⟩
    · rw [hc'] at h3; cases h3
    · rcases set_get h2 with ⟨rfl, rfl, _⟩ | ⟨_, h2⟩
      · rw [hc'] at h4; cases h4
      · exact e.ap j k x y a h1 h2 h3 h4 h5 h6
theorem Stp.drop {F0 H0 : Hp} {σ0 : Sg} {ρ0 : Rho} (s : Stp F0 H0 σ0 ρ0 F H σ ρ) {i : Nat} {c c' : Cell} (hc : ρ[i]? = some c) (hc' : c'.on = none) (ev : Evo c c') : Stp F0 H0 σ0 ρ0 F H σ (ρ.set i c') := by
  refine ⟨s.ext, s.frm, fun a h => s.new a (set_on_sub hc' h).1, fun j x h1 => ?_, by rw [List.length_set]; exact s.ln⟩
  obtain ⟨y, h2, h3, h4⟩ := s.pin j x h1
  by_cases e : j = i
  · subst e
    rw [hc] at h2; cases h2
    exact ⟨c', by rw [List.getElem?_set_self (List.getElem?_eq_some_iff.mp hc).1], h3.trans ev, h4⟩
  · exact ⟨y, by rw [List.getElem?_set_ne (Ne.symm e)]; exact h2, h3, h4⟩
/-- a named owned thing is given out -/
theorem giveOut (e : EnvR K F H σ ρ) {i : Nat} {c : Cell} {d : D} (hc : ρ[i]? = some c) (hm : c.mt = some d) : ∃ a o, σ[i]? = some (some (.ref a)) ∧ EnvR K (upd F a o) H σ (ρ.set i c.frozen) ∧ Stp F H σ ρ (upd F a o) H σ (ρ.set i c.frozen) ∧ Rep K (upd F a o) (.ref a) d := by
  obtain ⟨a, h1, h2, h3⟩ := e.on i c d hc (mt_on hm)
  obtain ⟨o, ho⟩ := h3.some
  have hfo : c.frozen.on = none := by cases c <;> simp [Cell.mt] at hm <;> rfl
  have hff : ∀ d', c.frozen.fr = some d' → d' = d := fun d' q => by cases c <;> simp [Cell.mt] at hm <;> simp [Cell.frozen, Cell.fr] at q <;> rw [← q, hm]
  have hev : Evo c c.frozen := by cases c <;> simp [Cell.mt] at hm <;> simp [Evo, Cell.frozen, Cell.pin]
  have rp : Rep K (upd F a o) (.ref a) d := by rw [ho] at h3; exact h3.froze h2
  have on1 : OnA σ ρ a := ⟨i, c, hc, by rw [mt_on hm]; rfl, h1⟩
  -- first the name forgets, then the thing is frozen
  have e1 : EnvR K F H σ (ρ.set i .un) := e.drop rfl fun d q => by cases q
  have non : ¬ OnA σ (ρ.set i .un) a := fun ⟨j, x, q1, q2, q3⟩ => by
    rcases set_get q1 with ⟨rfl, rfl, _⟩ | ⟨hj, q1⟩
    · cases q2
    · exact hj (e.ap j i x c a q1 hc q2 (by rw [mt_on hm]; rfl) q3 h1)
  have e2 := e1.freeze ho h2 non
  have e3 : EnvR K (upd F a o) H σ ((ρ.set i .un).set i c.frozen) := e2.drop hfo fun d' q => ⟨_, h1, by rw [hff d' q]; exact rp⟩
  rw [List.set_set] at e3
  refine ⟨a, o, h1, e3, ⟨same_upd h2, fun x u q1 q2 q3 => ⟨q1, ?_⟩, fun x q => .inl (set_on_sub hfo q).1, fun j x q1 => ?_, by rw [List.length_set]⟩, rp⟩
  · rw [upd_ne]
    · exact q2
    · intro z; subst z; exact q3 on1
  · by_cases z : j = i
    · subst z
      rw [hc] at q1; cases q1
      exact ⟨c.frozen, by rw [List.getElem?_set_self (List.getElem?_eq_some_iff.mp hc).1], hev, fun _ => rfl⟩
    · exact ⟨x, by rw [List.getElem?_set_ne (Ne.symm z)]; exact q1, Evo.refl x, fun _ => rfl⟩
end
section
variable {X : Cx} {U : Sur} {W : WX} {m : Mk0} {k : Nat} {σ : Sg} {H : Hp} {pos : Pos}
theorem cell_of {ρ : Rho} {i : Nat} {c : Cell} (h : ρ[i]?.getD .un = c) (n : c ≠ .un) : ρ[i]? = some c := by
  cases e : ρ[i]? with
  | none => rw [e] at h; exact absurd h.symm n
  | some x => rw [e] at h; exact congrArg some h
theorem giv_run {i : Nat} {Q : VK} {F : Hp} {ρ : Rho} (er : EnvR U.K F H σ ρ) (h : Ans U W F H σ ρ (giv ρ i) fun r ρ' F' H' => ∀ v, Res U.K H ρ F' H' σ ρ' v r.1 r.2 → Q v H') : tVar i σ H Q := by
  unfold giv at h
  split at h
  · rename_i d hc
    obtain ⟨v, h1, h2⟩ := er.fr i _ d (cell_of hc (by simp)) rfl
    exact ⟨v, h1, h.here er v (by unfold Res; simpa using h2)⟩
  · rename_i d hc
    obtain ⟨v, h1, h2⟩ := er.fr i _ d (cell_of hc (by simp)) rfl
    exact ⟨v, h1, h.here er v (by unfold Res; simpa using h2)⟩
  · rename_i d hc
    obtain ⟨a, o, h1, e2, s2, rp⟩ := giveOut er (cell_of hc (by simp)) rfl
    exact ⟨_, h1, h _ _ e2 s2 _ (by unfold Res; simpa using rp)⟩
  · rename_i d hc
    obtain ⟨a, o, h1, e2, s2, rp⟩ := giveOut er (cell_of hc (by simp)) rfl
    exact ⟨_, h1, h _ _ e2 s2 _ (by unfold Res; simpa using rp)⟩
  · exact h.elim
theorem snd_var {i : Nat} {x : Str} (h : visB X.N X.env.scope i x = true) : PE X (.Name x pos) (tD U W (.var i)) :=
  PE.imp (pv_of i h) fun σ H Q ⟨F, ρ, er, h⟩ => giv_run er (by rw [ev] at h; exact h)
theorem snd_mv {i : Nat} {x : Str} (h : visB X.N X.env.scope i x = true) : PE X (.Name x pos) (tD U W (.mv i)) := by
  refine PE.imp (pv_of i h) fun σ H Q ⟨F, ρ, er, h⟩ => ?_
  rw [ev] at h
  split at h
  · rename_i d hc
    have hc' := cell_of hc (by simp)
    obtain ⟨a, h1, h2, h3⟩ := er.on i _ d hc' rfl
    refine ⟨_, h1, h _ _ (er.drop rfl fun d q => by cases q) ((Stp.refl ..).drop hc' rfl (show Evo (.ow d) .un from rfl)) _ ?_⟩
    unfold Res
    rw [if_pos rfl]
    refine ⟨a, rfl, h2, fun ⟨j, x, q1, q2, q3⟩ => ?_, h3, .inl ⟨i, _, hc', rfl, h1⟩⟩
    rcases set_get q1 with ⟨rfl, rfl, _⟩ | ⟨hj, q1⟩
    · cases q2
    · exact hj (er.ap j i x _ a q1 hc' q2 rfl q3 h1)
  · exact giv_run er h
theorem ok_here {F : Hp} {ρ : Rho} {v : V} {d : D} {Q : VK} (er : EnvR U.K F H σ ρ) (h : Ans U W F H σ ρ (.ok (d, false) ρ) fun r ρ' F' H' => ∀ v, Res U.K H ρ F' H' σ ρ' v r.1 r.2 → Q v H') (r : Rep U.K F v d) : Q v H :=
  h.here er v (by unfold Res; simpa using r)
theorem snd_glob (C : Ctx U m k X W) {g : Nat} {x : Str} (h : x = m.gn g) (hg : glB X.env.scope x = true) (hv : m.isV g = true) : PE X (.Name x pos) (tD U W (.glob g)) := by
  obtain ⟨u, v, d, h1, h2, h3, h4⟩ := C.glob g hv
  subst h
  obtain ⟨g1, g2, g3⟩ := gl_of hg
  refine PE.imp (pe_glob g1 h1 h2 g2) fun σ H Q ⟨F, ρ, er, h⟩ => ?_
  rw [ev, h4] at h
  exact ok_here er h (h3.mono fun _ _ z => by cases z)
/-! ### calls -/
theorem call_core {f : Nat} {es : List E} {Q : VK} (h : tD U W (.call f es) σ H Q) : tDs U W true es σ H fun vs H1 => spF U f vs H1 Q fun cls dd H' => W cls dd σ H' := by
  obtain ⟨F, ρ, er, h⟩ := h
  rw [ev] at h
  refine ⟨F, ρ, er, h.bind2 fun as ρ1 F1 H1 k e1 s1 vs hv => ?_⟩
  unfold callK at k
  split at k
  · rename_i cells nd hc
    have ce := callee_env e1 hv nd hc
    have cz : ∀ c ∈ cells, (∃ d, c = .fz d) ∨ ∃ d, c = .pr d := fun c hm => by
      obtain ⟨j, hj⟩ := List.mem_iff_getElem?.mp hm
      obtain ⟨a, _, h2⟩ := cells_at hc hj
      cases a with
      | vl d => cases h2; exact .inl ⟨d, rfl⟩
      | pk i =>
        obtain ⟨d, _, h4⟩ := Option.map_eq_some_iff.mp (show (ρ1[i]?.getD .un).mt.map Cell.pr = some c from h2)
        exact .inr ⟨d, h4.symm⟩
    split at k
    · rename_i d b fin hr
      refine ⟨F1, cells, _, fin, ce, cz, hr, fun v F' H' e' s' r => ?_⟩
      obtain ⟨e2, s2, _⟩ := call_back e1 hv nd hc e' s'
      exact k F' H' e2 (s1.trans s2 e1.sub) v ((call_res e1 hv nd hc e' s' r).back s1 e1.sub)
    · rename_i x fin hr
      refine ⟨F1, cells, _, fin, ce, cz, hr, fun cls dd F' H' e' s' r => ?_⟩
      obtain ⟨e2, s2, _⟩ := call_back e1 hv nd hc e' s'
      exact k cls dd F' H' e2 (s1.trans s2 e1.sub) r
    · exact k.elim
  · exact k.elim
theorem snd_call (C : Ctx U m k X W) {f : Nat} {x : Str} {xs : List Expr} {es : List E} {p : Pos} (h : x = m.gn f) (hg : glB X.env.scope x = true) (hv : m.isF f = true) (hh : (!m.hot || m.isH f) = true) (hn : xs.all nst = true) (hs : PEs X U W xs es) : PE X (.Call (.Name x p) xs [] pos) (tD U W (.call f es)) := by
  obtain ⟨g1, g2, g3⟩ := gl_of hg
  obtain ⟨addr, fd, ps, h1, h2, h3, h4⟩ := C.fns f hv
  have hot' : m.isH f = false → X.A.handled = none := fun z => C.hd (by rw [z] at hh; simpa using hh)
  subst h
  cases xs with
  | nil =>
    cases hs
    refine ⟨fun pins s σ H Q I h => ?_⟩
    have h := tDs_nil (call_core h)
    refine wpAny_Call_Name_kw (ld_glob I g1 h1 ?_ g2)
    exact PySem.W.callWith_K0 I.kIn h2 (run_fnB (us := []) (E := WE W) h4 C.room hot' h3 (passAt C.tk σ) I .nil h)
  | cons x xs =>
    obtain ⟨n1, n2⟩ := ns_cons hn
    exact PE.imp (pe_callF (E := WE W) h4 C.room hot' g1 h1 h2 h3 (fun σ => passAt C.tk σ) (pa_of hs hn) g2 (star_cons n1) (star_any n2)) fun σ H Q h => call_core h
/-! ### mutation -/
theorem snd_mutE (C : Ctx U m k X W) {q : M} {i : Nat} {x n : Str} {xs : List Expr} {es : List E} {p0 apos cpos : Pos} (hn : n = mName q) (hv : visB X.N X.env.scope i x = true) (hst : xs.all nst = true) (hl : xs.length = mArgs q) (hline : (apos.endLine == cpos.line) = true) (hs : PEs X U W xs es) :
    PE X (.Call (.Attribute (.Name x p0) n apos) xs [] cpos) (tD U W (.mut q i es)) := by
  subst hn
  cases q with
  | append =>
    cases xs with
    | nil => cases hl
    | cons x xs => exact snd_mut PySem.F.slot_list_append PySem.F.type_list_append mt_append C.K (pv_of i hv) (pa_of hs hst) hst (by rw [hl]; decide) hline fun _ _ _ _ h => ok_append h
  | insert =>
    cases xs with
    | nil => cases hl
    | cons x xs => exact snd_mut PySem.F.slot_list_insert PySem.F.type_list_insert mt_insert C.K (pv_of i hv) (pa_of hs hst) hst (by rw [hl]; decide) hline fun _ _ _ _ h => ok_insert h
  | extend =>
    cases xs with
    | nil => cases hl
    | cons x xs => exact snd_mut PySem.F.slot_list_extend PySem.F.type_list_extend mt_extend C.K (pv_of i hv) (pa_of hs hst) hst (by rw [hl]; decide) hline fun _ _ _ _ h => ok_extend h
  | pop0 =>
    cases xs with
    | nil => cases hs; exact snd_mut0 PySem.F.slot_list_pop PySem.F.type_list_pop mt_pop C.K (pv_of i hv) hline fun _ _ _ h => ok_pop0 h
    | cons x xs => cases hl
  | pop1 =>
    cases xs with
    | nil => cases hl
    | cons x xs => exact snd_mut PySem.F.slot_list_pop PySem.F.type_list_pop mt_popAt C.K (pv_of i hv) (pa_of hs hst) hst (by rw [hl]; decide) hline fun _ _ _ _ h => ok_pop1 h
/-! ### not, and, or, if -/
theorem tD_tru {β : Type} {a : E} {g : Bool → D → Rho → R β} {F : Hp} {ρ : Rho} (er : EnvR U.K F H σ ρ) {kk : β → Rho → Hp → Hp → Prop}
    (h : Ans U W F H σ ρ ((ev U.cs a ρ).bind fun v ρ1 => match tru v.1 with | some t => g t v.1 ρ1 | none => .no) kk) {Q : VK}
    (q : ∀ x t d ρ1 F1 H1, EnvR U.K F1 H1 σ ρ1 → Stp F H σ ρ F1 H1 σ ρ1 → Rep U.K F1 x d → TruV U.K x H1 t → Ans U W F1 H1 σ ρ1 (g t d ρ1) kk → Q x H1) : tD U W a σ H Q := by
  refine ⟨F, ρ, er, ?_⟩
  cases hr : ev U.cs a ρ with
  | ok r ρ1 =>
    rw [hr] at h
    intro F1 H1 e1 s1 v hv
    obtain ⟨F2, e2, s2, rp, _⟩ := hv.froze e1 s1
    have h : Ans U W F H σ ρ (match tru r.1 with | some t => g t r.1 ρ1 | none => .no) kk := h
    cases ht : tru r.1 with
    | none => rw [ht] at h; exact h.elim
    | some t =>
      rw [ht] at h
      exact q v t r.1 ρ1 F2 H1 e2 s2 rp (truV_of e2.sub (.inl rp) ht) (h.from e2 s2)
  | ex x ρ1 => rw [hr] at h; exact h
  | no => rw [hr] at h; exact h
theorem res_old {H0 F1 H1 : Hp} {ρ0 ρ1 : Rho} {v : V} {d : D} (r : Rep U.K F1 v d) : Res U.K H0 ρ0 F1 H1 σ ρ1 v d false := by unfold Res; simpa using r
theorem snd_nt (C : Ctx U m k X W) {a : Expr} {ea : E} (ha : PE X a (tD U W ea)) : PE X (.UnaryOp .Not a pos) (tD U W (.nt ea)) := by
  refine PE.imp (pe_notT ha) fun σ H Q ⟨F, ρ, er, h⟩ => ?_
  rw [ev] at h
  refine tD_tru (g := fun t _ ρ1 => R.ok (D.bl (!t), false) ρ1) er h fun x t d ρ1 F1 H1 e1 s1 rp tv hk => ⟨t, by rw [C.K]; exact tv, ?_⟩
  exact hk.here e1 _ (res_old (.bl _))
theorem snd_and (C : Ctx U m k X W) {a b : Expr} {rest : List Expr} {ea eb : E} (ha : PE X a (tD U W ea)) (hb : PE X (.BoolOp .And (b :: rest) pos) (tD U W eb)) : PE X (.BoolOp .And (a :: b :: rest) pos) (tD U W (.and ea eb)) := by
  refine PE.imp (pe_andT ha hb) fun σ H Q ⟨F, ρ, er, h⟩ => ?_
  rw [ev] at h
  refine tD_tru (g := fun t d ρ1 => if t then ev U.cs eb ρ1 else .ok (d, false) ρ1) er h fun x t d ρ1 F1 H1 e1 s1 rp tv hk => ⟨t, by rw [C.K]; exact tv, ?_⟩
  cases t with
  | true =>
    rw [if_pos rfl] at hk
    refine iteT ?_
    exact ⟨F1, ρ1, e1, hk.mono fun r ρ2 F2 H2 _ _ s2 kk v hv => kk v (hv.back s1 e1.sub)⟩
  | false =>
    rw [if_neg Bool.false_ne_true] at hk
    refine iteF ?_
    exact hk.here e1 _ (res_old rp)
theorem snd_or (C : Ctx U m k X W) {a b : Expr} {rest : List Expr} {ea eb : E} (ha : PE X a (tD U W ea)) (hb : PE X (.BoolOp .Or (b :: rest) pos) (tD U W eb)) : PE X (.BoolOp .Or (a :: b :: rest) pos) (tD U W (.or ea eb)) := by
  refine PE.imp (pe_orT ha hb) fun σ H Q ⟨F, ρ, er, h⟩ => ?_
  rw [ev] at h
  refine tD_tru (g := fun t d ρ1 => if t then .ok (d, false) ρ1 else ev U.cs eb ρ1) er h fun x t d ρ1 F1 H1 e1 s1 rp tv hk => ⟨t, by rw [C.K]; exact tv, ?_⟩
  cases t with
  | true =>
    rw [if_pos rfl] at hk
    refine iteT ?_
    exact hk.here e1 _ (res_old rp)
  | false =>
    rw [if_neg Bool.false_ne_true] at hk
    refine iteF ?_
    exact ⟨F1, ρ1, e1, hk.mono fun r ρ2 F2 H2 _ _ s2 kk v hv => kk v (hv.back s1 e1.sub)⟩
theorem snd_ite {c a b : Expr} {ec ea eb : E} (hc : PT X c (tT U W ec)) (ha : PE X a (tD U W ea)) (hb : PE X b (tD U W eb)) : PE X (.IfExp c a b pos) (tD U W (.ite ec ea eb)) := by
  refine PE.imp (pe_ifExp hc ha hb) fun σ H Q ⟨F, ρ, er, h⟩ => ?_
  rw [ev] at h
  refine ⟨F, ρ, er, h.bind2 fun t ρ1 F1 H1 hk e1 s1 => ?_⟩
  have hk := hk.from e1 s1
  cases t with
  | true =>
    rw [if_pos rfl] at hk
    refine iteT ?_
    exact ⟨F1, ρ1, e1, hk.mono fun r ρ2 F2 H2 _ _ s2 kk v hv => kk v (hv.back s1 e1.sub)⟩
  | false =>
    rw [if_neg Bool.false_ne_true] at hk
    refine iteF ?_
    exact ⟨F1, ρ1, e1, hk.mono fun r ρ2 F2 H2 _ _ s2 kk v hv => kk v (hv.back s1 e1.sub)⟩
/-! ### tests -/
theorem sndT_nt {a : Expr} {ea : E} (ha : PT X a (tT U W ea)) : PT X (.UnaryOp .Not a pos) (tT U W (.nt ea)) := by
  refine PT.imp (pt_not ha) fun σ H Q ⟨F, ρ, er, h⟩ => ?_
  rw [evt] at h
  exact ⟨F, ρ, er, h.bind2 fun t ρ1 F1 H1 hk e1 s1 => (hk.from e1 s1).here e1⟩
theorem pw_of {op : BoolOp} {es : List Expr} {t : TT} (h : PT X (.BoolOp op es pos) t) : PW X (.BoolOp op es pos) t := ⟨fun _ => h.run⟩
theorem sndT_and {a b : Expr} {rest : List Expr} {ea eb : E} (ha : PT X a (tT U W ea)) (hb : PT X (.BoolOp .And (b :: rest) pos) (tT U W eb)) : PT X (.BoolOp .And (a :: b :: rest) pos) (tT U W (.and ea eb)) := by
  refine PT.imp (pw_and ha (pw_of hb)).pt fun σ H Q ⟨F, ρ, er, h⟩ => ?_
  rw [evt] at h
  refine ⟨F, ρ, er, h.bind2 fun t ρ1 F1 H1 hk e1 s1 => ?_⟩
  have hk := hk.from e1 s1
  cases t with
  | true =>
    rw [if_pos rfl] at hk
    refine iteT ?_
    exact ⟨F1, ρ1, e1, hk⟩
  | false =>
    rw [if_neg Bool.false_ne_true] at hk
    refine iteF ?_
    exact hk.here e1
theorem sndT_or {a b : Expr} {rest : List Expr} {ea eb : E} (ha : PT X a (tT U W ea)) (hb : PT X (.BoolOp .Or (b :: rest) pos) (tT U W eb)) : PT X (.BoolOp .Or (a :: b :: rest) pos) (tT U W (.or ea eb)) := by
  refine PT.imp (pw_or ha (pw_of hb)).pt fun σ H Q ⟨F, ρ, er, h⟩ => ?_
  rw [evt] at h
  refine ⟨F, ρ, er, h.bind2 fun t ρ1 F1 H1 hk e1 s1 => ?_⟩
  have hk := hk.from e1 s1
  cases t with
  | true =>
    rw [if_pos rfl] at hk
    refine iteT ?_
    exact hk.here e1
  | false =>
    rw [if_neg Bool.false_ne_true] at hk
    refine iteF ?_
    exact ⟨F1, ρ1, e1, hk⟩
theorem sndT_and1 {a : Expr} {t : TT} (ha : PT X a t) : PT X (.BoolOp .And [a] pos) t := (pw_and1 ha).pt
theorem sndT_or1 {a : Expr} {t : TT} (ha : PT X a t) : PT X (.BoolOp .Or [a] pos) t := (pw_or1 ha).pt
theorem sndT_var (C : Ctx U m k X W) {i : Nat} {x : Str} (h : visB X.N X.env.scope i x = true) : PT X (.Name x pos) (tT U W (.var i)) := by
  refine PT.imp (pt_truth (pv_of i h) fun _ => rfl) fun σ H Q ⟨F, ρ, er, h⟩ => ?_
  rw [evt] at h
  cases hv : (ρ[i]?.getD .un).val with
  | none => rw [hv] at h; exact h.elim
  | some d =>
    rw [hv] at h
    cases ht : tru d with
    | none => simp only [Option.bind_some, ht] at h; exact h.elim
    | some t =>
      simp only [Option.bind_some, ht] at h
      obtain ⟨c, hc, hd⟩ := getD_some (f := Cell.val) rfl hv
      rcases val_cases hd with hd | hd
      · obtain ⟨v, h1, h2⟩ := er.fr i c d hc hd
        exact ⟨v, h1, t, by rw [C.K]; exact truV_of er.sub (.inl h2) ht, h.here er⟩
      · obtain ⟨a, h1, h2, h3⟩ := er.on i c d hc hd
        exact ⟨_, h1, t, by rw [C.K]; exact truV_of er.sub (.inr ⟨a, rfl, h3⟩) ht, h.here er⟩
theorem sndT_call (C : Ctx U m k X W) {f : Nat} {x : Expr} {es : List E} (hx : ∀ whole, isTrue x X.env whole = (do let v ← whole; standAt x.pos; holding [v] (truthy v))) (h : PE X x (tD U W (.call f es))) : PT X x (tT U W (.call f es)) := by
  refine PT.imp (pt_truth h hx) fun σ H Q ⟨F, ρ, er, h⟩ => ?_
  rw [evt] at h
  refine ⟨F, ρ, er, ?_⟩
  rw [ev]
  refine h.bind2 fun r ρ1 F1 H1 hk e1 s1 v hv => ?_
  obtain ⟨F2, e2, s2, rp, _⟩ := hv.froze e1 s1
  cases ht : tru r.1 with
  | none => rw [ht] at hk; exact hk.elim
  | some t =>
    rw [ht] at hk
    exact ⟨t, by rw [C.K]; exact truV_of e2.sub (.inl rp) ht, (hk.from e2 s2).here e2⟩
def plainT : Expr → Bool
  | .UnaryOp .Not _ _ => false
  | .BoolOp _ _ _ => false
  | .IfExp _ _ _ _ => false
  | .Compare _ _ _ _ => false
  | _ => true
theorem plain_he {x : Expr} {env : PySem.Env} (h : plainT x = true) : ∀ whole, isTrue x env whole = (do let v ← whole; standAt x.pos; holding [v] (truthy v)) := by
  intro whole
  cases x <;> first | rfl | (simp [plainT] at h; done) | skip
  rename_i op a p
  cases op <;> first | rfl | (simp [plainT] at h)
theorem sndT_prim (C : Ctx U m k X W) {p : P} {x : Expr} {xs : List Expr} {es : List E} (hq : (!m.hot || !calmP p) = true) (ho : okP m X.env.scope p x = true) (h : shp X.env.scope p x = some xs) (hs : PEs X U W xs es) : PT X x (tT U W (.prim p es)) := by
  by_cases hp : plainT x = true
  · exact PT.imp (pt_truth (prim_snd C hq ho h hs) (plain_he hp)) fun σ H Q q => by
      rw [C.K]
      exact prim_coreT q
  · unfold shp at h
    split at h <;> first | (exact absurd rfl hp) | skip
    · cases h; obtain ⟨e, f, rfl, h1, h2⟩ := hs.two; have c := cmp_eq (X := X) (U := U) C.K C.room; exact cmp2T c.op nomk c.sem c.bl h1 h2
    · cases h; obtain ⟨e, f, rfl, h1, h2⟩ := hs.two; have c := cmp_ne (X := X) (U := U) C.K C.room; exact cmp2T c.op nomk c.sem c.bl h1 h2
    · cases h; obtain ⟨e, f, rfl, h1, h2⟩ := hs.two; have c := cmp_lt (X := X) (U := U); exact cmp2T c.op nomk c.sem c.bl h1 h2
    · cases h; obtain ⟨e, f, rfl, h1, h2⟩ := hs.two; have c := cmp_le (X := X) (U := U); exact cmp2T c.op nomk c.sem c.bl h1 h2
    · cases h; obtain ⟨e, f, rfl, h1, h2⟩ := hs.two; have c := cmp_gt (X := X) (U := U); exact cmp2T c.op nomk c.sem c.bl h1 h2
    · cases h; obtain ⟨e, f, rfl, h1, h2⟩ := hs.two; have c := cmp_ge (X := X) (U := U); exact cmp2T c.op nomk c.sem c.bl h1 h2
    · split at h
      · rename_i z; cases h; obtain ⟨e, f, rfl, h1, h2⟩ := hs.two; have c := cmp_in (X := X) (U := U) C.K C.room; exact cmp2T c.op (no_mark z) c.sem c.bl h1 h2
      · cases h
    · split at h
      · rename_i z; cases h; obtain ⟨e, f, rfl, h1, h2⟩ := hs.two; have c := cmp_notin (X := X) (U := U) C.K C.room; exact cmp2T c.op (no_mark z) c.sem c.bl h1 h2
      · cases h
    · cases h; obtain ⟨e, rfl, h1⟩ := hs.one; exact sndT_isN h1
    · cases h; obtain ⟨e, rfl, h1⟩ := hs.one; exact sndT_notN h1
    · cases h
/-! ### a < b < c -/
def cR : P → R2
  | .lt => rI0 fun i j => .bl (decide (i < j))
  | .le => rI0 fun i j => .bl (decide (i ≤ j))
  | .gt => rI0 fun i j => .bl (decide (j < i))
  | .ge => rI0 fun i j => .bl (decide (j ≤ i))
  | _ => fun _ _ _ _ => False
theorem cR_op {p : P} {o : CmpOp} (h : cOpB p o = true) : OpR X (compareOp o) (cR p) := by
  cases p <;> first | (cases o <;> first | (cases h; done) | skip) | skip
  · exact op_lt
  · exact op_le
  · exact op_gt
  · exact op_ge
theorem cO_mark {p : P} {o : CmpOp} (h : cOpB p o = true) (b : Expr) : behindInMarks o b = false := by
  cases p <;> first | (cases o <;> first | (cases h; done) | exact nomark b) | skip
theorem cR_ok {K : PySem.W.Frag} {F H : Hp} {p : P} {x y : D} {t : Bool} {v u : V} {Q : VK} (h : cmpI p x y = some t) (rx : Rep K F v x) (ry : Rep K F u y) (q : Q (.bl t) H) : cR p v u H Q := by
  unfold cmpI at h
  split at h <;> first | (cases h; done) | skip
  all_goals
    cases h
    cases rx
    cases ry
    exact ⟨_, _, rfl, rfl, q⟩
theorem ch_core {β : Type} {p q : P} {a b c : E} {g : Bool → Rho → R β} {F : Hp} {ρ : Rho} (er : EnvR U.K F H σ ρ) {kk : β → Rho → Hp → Hp → Prop}
    (h : Ans U W F H σ ρ ((ev U.cs a ρ).bind fun x ρ1 => (ev U.cs b ρ1).bind fun y ρ2 => match cmpI p x.1 y.1 with
    | some true => (ev U.cs c ρ2).bind fun z ρ3 => (match cmpI q y.1 z.1 with | some t => g t ρ3 | none => .no)
    | some false => g false ρ2
    | none => .no) kk) {Q : VK} (qq : ∀ t ρ1 F1 H1, EnvR U.K F1 H1 σ ρ1 → Ans U W F1 H1 σ ρ1 (g t ρ1) kk → Q (.bl t) H1) : tChain (cR p) (cR q) (tD U W a) (tD U W b) (tD U W c) σ H Q := by
  refine ⟨F, ρ, er, h.bind2 fun x ρ1 F1 H1 hk e1 s1 v hv => ?_⟩
  obtain ⟨F1', e1', s1', rx, _⟩ := hv.froze e1 s1
  refine ⟨F1', ρ1, e1', (hk.from e1' s1').bind2 fun y ρ2 F2 H2 hk2 e2 s2 u hu => ?_⟩
  obtain ⟨F2', e2', s2', ry, sm⟩ := hu.froze e2 s2
  have hk2 := hk2.from e2' s2'
  have rx2 := rx.mono s2'.ext
  cases hc : cmpI p x.1 y.1 with
  | none => rw [hc] at hk2; exact hk2.elim
  | some t =>
    rw [hc] at hk2
    cases t with
    | false => exact cR_ok hc rx2 ry ⟨false, rfl, iteF (qq false ρ2 F2' H2 e2' hk2)⟩
    | true =>
      refine cR_ok hc rx2 ry ⟨true, rfl, iteT ⟨F2', ρ2, e2', hk2.bind2 fun z ρ3 F3 H3 hk3 e3 s3 w hw => ?_⟩⟩
      obtain ⟨F3', e3', s3', rz, _⟩ := hw.froze e3 s3
      have hk3 := hk3.from e3' s3'
      cases hd : cmpI q y.1 z.1 with
      | none => rw [hd] at hk3; exact hk3.elim
      | some t =>
        rw [hd] at hk3
        exact cR_ok hd (ry.mono s3'.ext) rz (qq t ρ3 F3' H3 e3' hk3)
theorem snd_ch {p q : P} {o1 o2 : CmpOp} {a b c : Expr} {ea eb ec : E} (h1 : cOpB p o1 = true) (h2 : cOpB q o2 = true) (ha : PE X a (tD U W ea)) (hb : PE X b (tD U W eb)) (hc : PE X c (tD U W ec)) :
    PE X (.Compare a [o1, o2] [b, c] pos) (tD U W (.ch p q ea eb ec)) :=
  PE.imp (pe_chain (cR_op h1) (cR_op h2) ha hb hc (cO_mark h2 c)) fun σ H Q ⟨F, ρ, er, h⟩ => by
    rw [ev] at h
    exact ch_core (g := fun t ρ => R.ok (D.bl t, false) ρ) er h fun t ρ1 F1 H1 e1 hk => hk.here e1 _ (res_old (.bl _))
theorem sndT_ch {p q : P} {o1 o2 : CmpOp} {a b c : Expr} {ea eb ec : E} (h1 : cOpB p o1 = true) (h2 : cOpB q o2 = true) (ha : PE X a (tD U W ea)) (hb : PE X b (tD U W eb)) (hc : PE X c (tD U W ec)) :
    PT X (.Compare a [o1, o2] [b, c] pos) (tT U W (.ch p q ea eb ec)) :=
  PT.imp (pt_chain (cR_op h1) (cR_op h2) ha hb hc (cO_mark h2 c)) fun σ H Q ⟨F, ρ, er, h⟩ => by
    rw [evt] at h
    exact ch_core (g := fun t ρ => R.ok t ρ) er h fun t ρ1 F1 H1 e1 hk => ⟨t, rfl, hk.here e1⟩
theorem gd_core {g : Nat} {ea : E} {F : Hp} {ρ : Rho} {β : Type} {ks vs : List D} {kk : β → Rho → Hp → Hp → Prop} {f : List D → List D → D → Rho → R β} (er : EnvR U.K F H σ ρ) (hf : ∀ x ρ1, (∀ s, x ≠ .str s) → f ks vs x ρ1 = .no)
    (h : Ans U W F H σ ρ ((ev U.cs ea ρ).bind fun v ρ1 => f ks vs v.1 ρ1) kk) {R : VK} (m : ∀ s ρ1 F1 H1, EnvR U.K F1 H1 σ ρ1 → Stp F H σ ρ F1 H1 σ ρ1 → Ans U W F1 H1 σ ρ1 (f ks vs (.str s) ρ1) kk → R (.str (toS s)) H1) : tD U W ea σ H R := by
  refine ⟨F, ρ, er, h.bind2 fun v ρ1 F1 H1 k e1 s1 w hw => ?_⟩
  obtain ⟨dv, b⟩ := v
  by_cases z : ∃ s, dv = .str s
  · obtain ⟨s, rfl⟩ := z
    have e : w = .str (toS s) := by
      unfold Res at hw
      cases b with
      | false => have hw : Rep U.K F1 w (.str s) := by simpa using hw
                 cases hw
                 rfl
      | true =>
        rw [if_pos rfl] at hw
        obtain ⟨_, _, _, _, t, _⟩ := hw
        exact t.elim
    subst e
    exact m s ρ1 F1 H1 e1 s1 (k.from e1 s1)
  · have k : Ans U W F H σ ρ (f ks vs dv ρ1) kk := k
    rw [hf dv ρ1 fun s e => z ⟨s, e⟩] at k
    exact k.elim
theorem snd_gdix (C : Ctx U m k X W) {g : Nat} {x : Str} {a : Expr} {ea : E} {p : Pos} (h : x = m.gn g) (hg : glB X.env.scope x = true) (hv : m.isD g = true) (hs : nsl a = true) (ha : PE X a (tD U W ea)) : PE X (.Subscript (.Name x p) a pos) (tD U W (.gdix g ea)) := by
  obtain ⟨addr, ks, vs, h1, h2, Dk⟩ := C.dcts g hv
  subst h
  obtain ⟨g1, g2, g3⟩ := gl_of hg
  refine PE.imp (pe_ix ix_kdict (pe_glob g1 h1 (v := .ref addr) rfl g2) ha (plain_ix hs)) fun σ H Q ⟨F, ρ, er, h⟩ => ?_
  rw [ev, h2] at h
  show tD U W ea σ H fun y H2 => rIxD X.K X.w (.ref addr) y H2 Q
  refine gd_core (g := g) er (f := fun ks vs x ρ1 => ofO (dgetS ks vs x) ρ1) (fun x ρ1 hx => ?_) h fun s ρ1 F1 H1 e1 s1 k => ?_
  · cases x <;> first | rfl | exact absurd rfl (hx _)
  · have k : Ans U W F1 H1 σ ρ1 (ofO ((findD (.str s) ks).bind fun j => vs[j]?.map fun d => (d, false)) ρ1) _ := k
    cases hf : findD (.str s) ks with
    | none => rw [hf] at k; exact k.elim
    | some j =>
      obtain ⟨u, v, d, q1, q2, q3, q4⟩ := (Dk.at_ s).1 j hf
      rw [hf, Option.bind_some, q3] at k
      obtain ⟨es, n, kd⟩ := Dk.kd
      rw [← C.K] at kd q1
      exact ⟨addr, toS s, v, rfl, rfl, ⟨es, n, u, kd.at_, kd.lit, q1, q2⟩, k.here e1 v (res_old (q4 F1))⟩
def ginR (n : Bool) (o : Option Nat) : Bool := if n then !o.isSome else o.isSome
theorem dctAt {K : PySem.W.Frag} {w : World} {a : Addr} {ks vs : List D} (Dk : DctOk K w a ks vs) (s : List Nat) : ∃ r, PySem.W.nsIn K a (toS s) = some r ∧ r.isSome = (findD (.str s) ks).isSome := by
  cases hf : findD (.str s) ks with
  | none => exact ⟨none, (Dk.at_ s).2 hf, rfl⟩
  | some j =>
    obtain ⟨u, v, d, q1, q2, q3, q4⟩ := (Dk.at_ s).1 j hf
    exact ⟨some u, q1, rfl⟩
def rKd (K : PySem.W.Frag) (d : Addr) (n : Bool) : V → Hp → VK → Prop := fun x H Q => ∃ (z : Str) (r : Option Value), x = .str z ∧ V.ref d = .ref d ∧ PySem.W.nsIn K d z = some r ∧ Q (.bl (if n then !r.isSome else r.isSome)) H
theorem gdin_rd (C : Ctx U m k X W) {n : Bool} {g : Nat} {ea : E} {addr : Addr} {ks vs : List D} (h2 : ∀ cells, U.cs g cells = some (.ok (.dct 0 ks vs) false, [])) (Dk : DctOk U.K X.w addr ks vs) {σ : Sg} {H : Hp} {Q : VK} (h : tD U W (.gdin n g ea) σ H Q) :
    tD U W ea σ H fun x H1 => rKd X.K addr n x H1 Q := by
  obtain ⟨F, ρ, er, h⟩ := h
  rw [ev, h2] at h
  refine gd_core (g := g) er (f := fun ks _ x ρ1 => ofO (dinS n ks x) ρ1) (vs := vs) (fun x ρ1 hx => ?_) h fun s ρ1 F1 H1 e1 s1 k => ?_
  · cases x <;> first | rfl | exact absurd rfl (hx _)
  · obtain ⟨r, q1, q2⟩ := dctAt Dk s
    rw [← C.K] at q1
    refine ⟨toS s, r, rfl, rfl, q1, ?_⟩
    rw [q2]
    exact k.here e1 _ (res_old (.bl _))
theorem snd_gdin (C : Ctx U m k X W) {g : Nat} {x : Str} {a : Expr} {ea : E} {p : Pos} (h : x = m.gn g) (hg : glB X.env.scope x = true) (hv : m.isD g = true) (ha : PE X a (tD U W ea)) : PE X (.Compare a [.In] [.Name x p] pos) (tD U W (.gdin false g ea)) ∧
    PT X (.Compare a [.In] [.Name x p] pos) (fun σ H Q => tD U W (.gdin false g ea) σ H fun v H' => ∃ k, v = .bl k ∧ Q k H') := by
  obtain ⟨addr, ks, vs, h1, h2, Dk⟩ := C.dcts g hv
  subst h
  obtain ⟨g1, g2, g3⟩ := gl_of hg
  obtain ⟨es, n, kd⟩ := Dk.kd
  rw [← C.K] at kd
  exact ⟨PE.imp (pe_cmpR (op_in_kd kd) ha (pe_glob g1 h1 (v := .ref addr) rfl g2) rfl) fun σ H Q h => gdin_rd C h2 Dk h, PT.imp (pt_cmpR (op_in_kd kd) ha (pe_glob g1 h1 (v := .ref addr) rfl g2) rfl) fun σ H Q h => gdin_rd C h2 Dk h⟩
theorem snd_gdnotin (C : Ctx U m k X W) {g : Nat} {x : Str} {a : Expr} {ea : E} {p : Pos} (h : x = m.gn g) (hg : glB X.env.scope x = true) (hv : m.isD g = true) (ha : PE X a (tD U W ea)) : PE X (.Compare a [.NotIn] [.Name x p] pos) (tD U W (.gdin true g ea)) ∧
    PT X (.Compare a [.NotIn] [.Name x p] pos) (fun σ H Q => tD U W (.gdin true g ea) σ H fun v H' => ∃ k, v = .bl k ∧ Q k H') := by
  obtain ⟨addr, ks, vs, h1, h2, Dk⟩ := C.dcts g hv
  subst h
  obtain ⟨g1, g2, g3⟩ := gl_of hg
  obtain ⟨es, n, kd⟩ := Dk.kd
  rw [← C.K] at kd
  exact ⟨PE.imp (pe_cmpR (op_notIn_kd kd) ha (pe_glob g1 h1 (v := .ref addr) rfl g2) rfl) fun σ H Q h => gdin_rd C h2 Dk h, PT.imp (pt_cmpR (op_notIn_kd kd) ha (pe_glob g1 h1 (v := .ref addr) rfl g2) rfl) fun σ H Q h => gdin_rd C h2 Dk h⟩
/-- .. as a test -/
theorem gdinT_core {n : Bool} {g : Nat} {ea : E} {Q : Bool → Hp → Prop} (h : tT U W (.gdin n g ea) σ H Q) : tD U W (.gdin n g ea) σ H fun v H' => ∃ k, v = .bl k ∧ Q k H' := by
  obtain ⟨F, ρ, er, h⟩ := h
  rw [evt] at h
  refine ⟨F, ρ, er, ?_⟩
  rw [ev]
  cases hr : ev U.cs ea ρ with
  | no => rw [hr] at h; exact h
  | ex x ρ1 => rw [hr] at h; exact h
  | ok v ρ1 =>
    rw [hr] at h
    show Ans U W F H σ ρ (match U.cs g [] with
      | some (.ok (.dct _ ks _) _, _) => ofO (dinS n ks v.1) ρ1
      | _ => .no) _
    have h : Ans U W F H σ ρ (match U.cs g [] with
      | some (.ok (.dct _ ks _) _, _) => (match dinS n ks v.1 with
        | some (d, _) => ofO (tru d) ρ1
        | none => .no)
      | _ => .no) _ := h
    split at h
    · rename_i z ks z2 z3 z4 hc
      cases hd : dinS n ks v.1 with
      | none => rw [hd] at h; exact h.elim
      | some q =>
        rw [hd] at h
        have hq : ∃ b, q = (.bl b, false) := by
          unfold dinS at hd
          split at hd
          · cases hd; exact ⟨_, rfl⟩
          · cases hd
        obtain ⟨b, rfl⟩ := hq
        intro F' H' e' s' w hw
        have hw : Rep U.K F' w (.bl b) := by unfold Res at hw; simpa using hw
        cases hw
        exact ⟨b, rfl, h F' H' e' s'⟩
    · exact h.elim
end
end BV

/-! BvEn: enumerate of a tuple. -/
namespace RE
open PySem PySem.Spec PyProof.Rows L2
theorem drawsT {prog : Program} {w : World} {A : Around} (hh : A.handled = none) (it t : Addr) (hne : t ≠ it) (items : Array Value) :
    Draws prog w A it [it, t] items.size (fun i v => items[i]? = some v) (fun i h => h.IsTupleIter it t i ∧ h.IsTuple t items) where
  live := fun _ _ st => let ⟨o, ho, _⟩ := st.1; ⟨o, ho⟩
  frame := fun _ _ _ st hk => ⟨st.1.at fun o e => hk it (by simp) o e, st.2.at fun o e => hk t (by simp) o e⟩
  item := fun i s Q E hi st hQ => by
    refine RZ.nextOf_tuple_item st.1 st.2 (x := items[i]) (by simp [hi]) fun h' hit' hs' => ?_
    exact hQ _ h' s.toks (by simp [hi]) ⟨hit', st.2.extBut hs'.extBut hne⟩ hs'
  done := fun s Q E st hE => RZ.nextOf_tuple_end hh st.1 st.2 (by simp) hE
set_option maxHeartbeats 1000000 in
theorem meets_enumT (t : Addr) (items : Array Value) :
    Meets (Builtin.«enumerate.__new__» ⟨[.type "enumerate", .ref t], []⟩) (fun _ R s => s.heap.IsTuple t items ∧
      R (.ok (.ret (.ref (s.heap.push { cls := .type "tuple_iterator", data := .fields #[.ref t, .int 0 0] }).objs.size)))
        { s with heap := (s.heap.push { cls := .type "tuple_iterator", data := .fields #[.ref t, .int 0 0] }).push { cls := .type "enumerate", data := .fields #[.none, .bool false, .ref s.heap.objs.size, rawInt 0, .none, .none] } }) :=
  .of_wp fun prog w A R s h => by
    obtain ⟨hp, g, d, tk, os⟩ := s; obtain ⟨h1, h⟩ := h
    have hsub := sub_enumerate
    have q1 : ∀ {A' : Around} {E : Value → Shared → Prop} {Q : Value → Shared → Prop}, Q (.ref hp.objs.size) ⟨hp.push { cls := .type "tuple_iterator", data := .fields #[.ref t, .int 0 0] }, g, d, tk, os⟩ → wpAny (model prog w) A' (pyIter (.ref t)) Q E ⟨hp, g, d, tk, os⟩ :=
      fun q => wpAny_pyIter_tuple (show Heap.IsTuple (Shared.heap ⟨hp, g, d, tk, os⟩) t items from h1) q
    wp_walk using q1
    refine wpAny_stack_any fun st => wpAny_pure ?_
    split
    · rename_i c _ _ _ _ _
      cases (c == Value.type "enumerate")
      · wp_walk using q1
        exact ⟨_, rfl, h⟩
      · wp_walk using q1
        exact ⟨_, rfl, h⟩
    · wp_walk using q1
      exact ⟨_, rfl, h⟩
theorem call_enumT {prog : Program} {w : World} {A : Around} {E : Value → Shared → Prop} {s : Shared} {t : Addr} {items : Array Value} {Q : Value → Shared → Prop} (hT : s.heap.IsTuple t items)
    (h : ∀ h', IsEnum h' (s.heap.objs.size + 1) s.heap.objs.size 0 .none → h'.IsTupleIter s.heap.objs.size t 0 → h'.objs.size = s.heap.objs.size + 2 →
      (∀ b o, s.heap.get? b = some o → h'.get? b = some o) → Q (.ref (s.heap.objs.size + 1)) { s with heap := h' }) :
    wpAny (model prog w) A (call (.type "enumerate") [.ref t]) Q E s := by
  refine callType_new F.called_enumerate (by decide) (F.typeCall_enumerate_1 _) (F.newCall_enumerate_1 _) (fun obj => F.args_object_init_2 obj _) F.entry_enumerate_new
    (meets_enumT t items) ⟨hT, ?_⟩
  have hz : (s.heap.push { cls := .type "tuple_iterator", data := .fields #[.ref t, .int 0 0] }).objs.size = s.heap.objs.size + 1 := Heap.size_push ..
  show _ ∧ _
  rw [hz]
  have he : IsEnum ((s.heap.push { cls := .type "tuple_iterator", data := .fields #[.ref t, .int 0 0] }).push
      { cls := .type "enumerate", data := .fields #[.none, .bool false, .ref s.heap.objs.size, rawInt 0, .none, .none] }) (s.heap.objs.size + 1) s.heap.objs.size 0 .none := by
    have := Heap.get?_push_size (s.heap.push { cls := .type "tuple_iterator", data := .fields #[.ref t, .int 0 0] })
      (o := { cls := .type "enumerate", data := .fields #[.none, .bool false, .ref s.heap.objs.size, rawInt 0, .none, .none] }) rfl
    rw [hz] at this; exact this
  refine ⟨⟨_, he, rfl⟩, h _ he ⟨_, Heap.get?_push_of_some _ (Heap.get?_push_size _ rfl), rfl, rfl⟩ (by rw [Heap.size_push, hz]) fun b o x => Heap.get?_push_of_some _ (Heap.get?_push_of_some _ x)⟩
/-- the tuple at a, each item in a new pair -/
def IteT (K : PySem.W.Frag) (a : Addr) : It :=
  ⟨fun i H => ∃ (xs : List V) (x : V), SqT K H a xs ∧ xs[i]? = some x, fun i H v H' => ∃ T x, v = .ref T ∧ H T = none ∧ H' = upd H T (.tup [.int (i : Nat), x]) ∧ ∀ xs, SqT K H a xs → xs[i]? = some x, fun i H => ∃ xs : List V, SqT K H a xs ∧ xs.length ≤ i⟩
theorem turn_enumT {P : Program} {w : World} {K : PySem.W.Frag} {elts : List Expr} {kk : Nat} {tpos : Pos} (a e it : Addr) :
    Turn P w K (.Tuple elts kk tpos) (IteT K a) [e, it] e (fun i h => (∃ old, IsEnum h e it ((i : Nat) : Int) old) ∧ h.IsTupleIter it a i ∧ e ≠ it ∧ a ≠ it ∧ a ≠ e) where
  mem := by simp
  obj := fun i h st b hb => by
    obtain ⟨⟨old, he⟩, ⟨o, ho, hc, hd⟩, _⟩ := st
    have e' : b = e ∨ b = it := by simpa using hb
    rcases e' with z | z
    · rw [z]; exact ⟨_, he, fun v q => nomatch q⟩
    · rw [z]; exact ⟨o, ho, fun v q => by rw [hd] at q; cases q⟩
  keep := fun i h h' st k => let ⟨⟨old, he⟩, hi, hne⟩ := st; ⟨⟨old, k e (by simp) _ he⟩, hi.at fun o q => k it (by simp) o q, hne⟩
  item := by
    intro X hP hw hK hc i pins s σ H E I hf st hg
    subst hP hw hK
    obtain ⟨⟨old, he⟩, hit, hne, hai, hae⟩ := st
    obtain ⟨xs, x, hq, hx⟩ := hg
    obtain ⟨its, rv, p, _⟩ := I.tuple hq
    obtain ⟨u, hu, ru⟩ := rv.get hx
    have hel : e < s.heap.objs.size := Heap.lt_size he
    have hil : it < s.heap.objs.size := by obtain ⟨_, q, _⟩ := hit; exact Heap.lt_size q
    have hlt : i < its.toArray.size := by
      have := (List.getElem?_eq_some_iff.mp hu).1
      simpa using this
    have hD : Draws X.prog X.w X.A.in1 it [it, a] its.toArray.size (fun i v => its.toArray[i]? = some v) (fun i h => h.IsTupleIter it a i ∧ h.IsTuple a its.toArray) := drawsT (show X.A.in1.handled = none from I.ok.hd hc) it a hai its.toArray
    refine wpAny_pyNext_enum_itemD hD he ⟨hit, p⟩ hlt hne (by simp [hne, Ne.symm hae]) fun u' h' tk hu' ho st' hT hsz hk => ?_
    have hu2 : u' = u := by
      have h1 : its.toArray[i]? = some u' := hu'
      have h2 : its.toArray[i]? = some u := by simpa using hu
      rw [h1] at h2
      exact Option.some.inj h2
    subst hu2
    obtain ⟨hit', _⟩ := st'
    refine ⟨_, rfl, wpAny_letOwnedTupleGo_enum (s := { s with heap := h', toks := tk + 1 }) ho fun h'' he' sb => ?_⟩
    have hT2 : h''.get? s.heap.objs.size = some { cls := .type "tuple", data := .seq #[.int i tk, u'] } := (sb.2 _ (Nat.ne_of_gt hel)).trans hT
    have new : ObjOk X.prog X.w (upd H s.heap.objs.size (.tup [.int (i : Nat), x])) h'' s.heap.objs.size (.tup [.int (i : Nat), x]) :=
      ⟨by show 2 ≤ sizeLine; decide, [.int i tk, u'], .cons ⟨_, rfl⟩ (.cons ru .nil), ⟨_, hT2, rfl, _, rfl⟩⟩
    have I1 : Inv X pins σ (upd H s.heap.objs.size (.tup [.int (i : Nat), x])) { s with heap := h'', toks := tk + 1 } :=
      I.turnedNew (ch := [e, it]) (fun b ob hb q => (sb.2 b (fun z => hb (by simp [z]))).trans (hk b ob (fun z => hb (by simp [z])) (fun z => hb (by simp [z])) q)) hf (Nat.le_refl _) new
    refine ⟨.ref s.heap.objs.size, _, I1, rfl, ⟨_, x, rfl, I.hok.fresh (Nat.le_refl _), rfl, fun ys hy => by rw [I.tuple_inj hy hq]; exact hx⟩, ⟨⟨u', ?_⟩, hit'.at fun o q => (sb.2 it (Ne.symm hne)).trans q, hne, hai, hae⟩, fun b hb => ?_⟩
    · have e1 : ((i + 1 : Nat) : Int) = (i : Int) + 1 := by omega
      rw [e1]; exact he'
    · have hb' : b < s.heap.objs.size := by
        have e' : b = e ∨ b = it := by simpa using hb
        rcases e' with z | z
        · rw [z]; exact hel
        · rw [z]; exact hil
      rw [upd_ne (Nat.ne_of_lt hb')]
      exact (hf b hb).1
  done := by
    intro X hP hw hK hc i pins s σ H E I hf st hg
    subst hP hw hK
    obtain ⟨⟨old, he⟩, hit, hne, hai, hae⟩ := st
    obtain ⟨xs, hq, hx⟩ := hg
    obtain ⟨its, rv, p, _⟩ := I.tuple hq
    have hl := rv.length
    have hT : s.TypeIs (.ref e) "enumerate" := ⟨_, he, rfl⟩
    unfold pyNext
    refine wpAny_bind (wpAny_attempt (wpAny_callSpecial?_slot (name := Str.ofString "__next__") hT F.slot_enumerate_next
      (wpAny_call_entry F.slot_enumerate_next hT F.entry_enumerate_next ?_ (F.args_enumerate_next_1 _))))
    show wpAny _ _ (field (.ref e) 2 >>= _) _ _ _
    refine wpAny_bind (wpAny_field he rfl (x := .ref it) rfl ?_)
    refine wpAny_bind (RZ.nextOf_tuple_end (show X.A.in1.handled = none from I.ok.hd hc) hit p (by simp; omega) fun h' x he' hx' => ?_)
    obtain ⟨o, ho, hc'⟩ := hx'
    refine wpAny_bind (wpAny_isInstance (T := "StopIteration") (b := true) ⟨o, ho, hc'⟩ isSubtype_stop ?_)
    exact wpAny_pure ⟨rfl, I.turnedL (t' := s.toks) (ch := [e, it]) (fun b o hb q => he' b o (fun z => hb (by simp [z])) q) hf⟩
  self := fun A i s Q E st h => let ⟨⟨_, he⟩, _⟩ := st; wpAny_pyIter_enum he h
def iEnumA (K : PySem.W.Frag) (ta : TA) : TI := fun σ H R => ta σ H fun vs H1 => ∃ a xs, vs = [.ref a] ∧ ((SqL K H1 a xs ∧ R (Ite K a) H1) ∨ (SqT K H1 a xs ∧ R (IteT K a) H1))
theorem pi_enumA {X : Cx} {e : Expr} {ta : TA} {p pos tpos : Pos} {elts : List Expr} {kk : Nat} (hg : Gl X "enumerate") (hm : X.mg "enumerate" = none) (ha : PA X [e] ta) (hs : starEach [e] X.env = [(false, eval e X.env)] := by rfl) :
    PI X (.Tuple elts kk tpos) (.Call (.Name "enumerate" p) [e] [] pos) (iEnumA X.K ta) := by
  refine ⟨fun pins s σ H R I h => ?_⟩
  refine Call_ (ld_blt I hg hm boot_enumerate (PyProof.Rows.callWith_type1 (thn (ha.run pos pins s σ H _ I h) fun us s1 ⟨vs, H1, I1, r1, q1⟩ => ?_) hs rfl))
  obtain ⟨a, xs, ex, q1⟩ := q1
  subst ex
  cases r1 with
  | cons r rr =>
    cases rr
    cases r
    have fresh : ∀ b, b ∈ [s1.heap.objs.size + 1, s1.heap.objs.size] → FpOk X pins H1 b := fun b hb => by
      have e' : b = s1.heap.objs.size + 1 ∨ b = s1.heap.objs.size := by simpa using hb
      have hle : s1.heap.objs.size ≤ b := by
        rcases e' with z | z
        · rw [z]; exact Nat.le_add_right _ _
        · rw [z]; exact Nat.le_refl _
      exact I1.fpOk hle (I1.hok.fresh hle)
    rcases q1 with ⟨hq, q⟩ | ⟨hq, q⟩
    · obtain ⟨its, rv, p', hz⟩ := I1.list hq
      refine call_enumerate_list p'.isList fun h' he hit hsz hk => wpAny_pyIter_enum he ?_
      have I2 : Inv X pins σ H1 { s1 with heap := h' } := I1.kept (t' := s1.toks) hk
      exact ⟨s1.heap.objs.size + 1, [s1.heap.objs.size + 1, s1.heap.objs.size], _, _, H1, rfl, I2, turn_enum a (s1.heap.objs.size + 1) s1.heap.objs.size, ⟨⟨.none, he⟩, hit, Nat.succ_ne_self _⟩, fresh, q⟩
    · obtain ⟨its, rv, p', hz⟩ := I1.tuple hq
      obtain ⟨o1, ho1, _⟩ := id p'
      have hlt : a < s1.heap.objs.size := Heap.lt_size ho1
      refine call_enumT (show s1.heap.IsTuple a its.toArray from p') fun h' he hit hsz hk => wpAny_pyIter_enum he ?_
      have I2 : Inv X pins σ H1 { s1 with heap := h' } := I1.kept (t' := s1.toks) hk
      exact ⟨s1.heap.objs.size + 1, [s1.heap.objs.size + 1, s1.heap.objs.size], _, _, H1, rfl, I2, turn_enumT a (s1.heap.objs.size + 1) s1.heap.objs.size, ⟨⟨.none, he⟩, hit, Nat.succ_ne_self _, Nat.ne_of_lt hlt, Nat.ne_of_lt (Nat.lt_succ_of_lt hlt)⟩, fresh, q⟩
theorem walk_enumT {K : PySem.W.Frag} {a : Addr} {xs : List V} : Walk (IteT K a) xs.length (fun H => SqT K H a xs) (YPair (fun i => some (.int (i : Nat))) (fun i => xs[i]?)) := by
  refine ⟨fun i _ hi q => ⟨xs, xs[i], q, by simp [hi]⟩, fun _ q => ⟨xs, q, Nat.le_refl _⟩, fun i H v H' _ q y => ?_⟩
  obtain ⟨T, x, h1, h2, h3, h4⟩ := y
  exact ⟨T, .int (i : Nat), x, h1, h2, h3, rfl, h4 xs q⟩
end RE

/-! BvIt: what is walked. -/
namespace BV
open PySem L2 PySem.Spec PyProof.Rows
/-- the item that a turn gives: as it stands, or a new pair -/
def YD (K : PySem.W.Frag) (F : Hp) (d : D) (x : V) (H H' : Hp) : Prop :=
  (H' = H ∧ Rep K F x d) ∨ ∃ T v1 v2 d1 d2, x = .ref T ∧ H T = none ∧ H' = upd H T (.tup [v1, v2]) ∧ d = .tup [d1, d2] ∧ Rep K F v1 d1 ∧ Rep K F v2 d2
structure ItD (K : PySem.W.Frag) (J : It) (G : Hp → Hp → Prop) (xs : List D) : Prop where
  go : ∀ F H i, i < xs.length → Same F H → G F H → J.go i H
  stop : ∀ F H, Same F H → G F H → J.stop xs.length H
  yld : ∀ F H i x H', i < xs.length → Same F H → G F H → J.yld i H x H' → ∃ d, xs[i]? = some d ∧ YD K F d x H H'
def tI (U : Sur) (W : WX) (k : IK) (es : List E) : TI := fun σ H R => ∃ F ρ, EnvR U.K F H σ ρ ∧ Ans U W F H σ ρ (evs U.cs true es ρ) fun as ρ1 F1 H1 => ∀ vs, AgR U.K F1 σ vs as → ∃ ds xs, gets ρ1 as = some ds ∧ k.sem ds = some xs ∧
  ∀ J, ItD U.K J (fun F H => NRL U.K F H vs ds) xs → R J H1
section
variable {X : Cx} {U : Sur} {W : WX} {m : Mk0} {k : Nat} {σ : Sg} {H : Hp} {pos : Pos} {tg : Expr}
theorem PI.imp {l : Expr} {t u : TI} (h : PI X tg l t) (q : ∀ σ H R, u σ H R → t σ H R) : PI X tg l u := ⟨fun pins s σ H R I w => h.run pins s σ H R I (q σ H R w)⟩
/-- a list, a tuple, a text -/
def iSeq (K : PySem.W.Frag) (tl : TE) : TI := fun σ H R => tl σ H fun x H1 => (∃ a, x = .ref a ∧ (∃ xs, SqL K H1 a xs) ∧ R (Itl K a) H1) ∨ (∃ a, x = .ref a ∧ (∃ xs, SqT K H1 a xs) ∧ R (Itt K a) H1) ∨ ∃ z, x = .str z ∧ R (Its z) H1
theorem pi_seq {l : Expr} {tl : TE} (hl : PE X l tl) : PI X tg l (iSeq X.K tl) := by
  refine ⟨fun pins s σ H R I h => ?_⟩
  refine thn (hl.run pins s σ H _ I h) fun v s1 ⟨x, H1, I1, r1, q1⟩ => ?_
  rcases q1 with ⟨a, e, ⟨xs, hq⟩, q⟩ | ⟨a, e, ⟨xs, hq⟩, q⟩ | ⟨z, e, q⟩
  · subst e
    cases r1
    obtain ⟨its, rv, p, hz⟩ := I1.list hq
    refine wpAny_pyIter_list p.isList ?_
    refine ⟨s1.heap.objs.size, [s1.heap.objs.size], _, _, H1, rfl, I1.kept (t' := s1.toks) fun b o e => Heap.get?_push_of_some _ e, turn_list a _, ⟨_, Heap.get?_push_size _ rfl, rfl, rfl⟩, fun b hb => ?_, q⟩
    have e : b = s1.heap.objs.size := by simpa using hb
    subst e
    exact I1.fpOk (Nat.le_refl _) (I1.hok.fresh (Nat.le_refl _))
  · subst e
    cases r1
    obtain ⟨its, rv, p, hz⟩ := I1.tuple hq
    refine wpAny_pyIter_tuple (show s1.heap.IsTuple a its.toArray from p) ?_
    refine ⟨s1.heap.objs.size, [s1.heap.objs.size], _, _, H1, rfl, I1.kept (t' := s1.toks) fun b o e => Heap.get?_push_of_some _ e, turn_tuple a _, ⟨_, Heap.get?_push_size _ rfl, rfl, rfl⟩, fun b hb => ?_, q⟩
    have e : b = s1.heap.objs.size := by simpa using hb
    subst e
    exact I1.fpOk (Nat.le_refl _) (I1.hok.fresh (Nat.le_refl _))
  · subst e
    obtain ⟨t, rfl⟩ := r1
    cases ha : z.cps.all (· < 128)
    · exact wpAny_pyIter_wide ha (pi_one (tk := s1.toks) I1 _ (turn_str _ z t "str_iterator" (.inr rfl)) ⟨_, Heap.get?_push_size _ rfl, rfl, rfl⟩ q)
    · exact wpAny_pyIter_ascii ha (pi_one (tk := s1.toks) I1 _ (turn_str _ z t "str_ascii_iterator" (.inl rfl)) ⟨_, Heap.get?_push_size _ rfl, rfl, rfl⟩ q)
/-! ### the sources -/
theorem itd_list {K : PySem.W.Frag} {a : Addr} {ds : List D} : ItD K (Itl K a) (fun F H => NRL K F H [.ref a] [.lst ds]) ds := by
  have get : ∀ {F H : Hp}, Same F H → NRL K F H [.ref a] [.lst ds] → ∃ vs, SqL K H a vs ∧ RepL K F vs ds := fun s n => by
    obtain ⟨d, e, h⟩ := n.one
    cases e
    obtain ⟨b, vs, e, h1, r⟩ := h.lst s
    cases e
    exact ⟨vs, h1, r⟩
  refine ⟨fun F H i hi s n => ?_, fun F H s n => ?_, fun F H i x H' hi s n y => ?_⟩
  · obtain ⟨vs, h1, r⟩ := get s n
    exact walk_list.goes i H (by rw [r.length]; exact hi) h1
  · obtain ⟨vs, h1, r⟩ := get s n
    rw [← r.length]
    exact walk_list.stops H h1
  · obtain ⟨vs, h1, r⟩ := get s n
    obtain ⟨e, h2⟩ := walk_list.yields i H x H' (by rw [r.length]; exact hi) h1 y
    obtain ⟨d, h3, h4⟩ := r.getV h2
    exact ⟨d, h3, .inl ⟨e, h4⟩⟩
theorem itd_scr {K : PySem.W.Frag} {a : Addr} {ns : List Int} : ItD K (Itl K a) (fun F H => NRL K F H [.ref a] [.scr ns]) (ns.map .int) := by
  have get : ∀ {F H : Hp}, Same F H → NRL K F H [.ref a] [.scr ns] → SqL K H a (ns.map V.int) := fun s n => by
    obtain ⟨d, e, h⟩ := n.one
    cases e
    obtain ⟨b, e, h1⟩ := h.scr s
    cases e
    exact h1
  refine ⟨fun F H i hi s n => ?_, fun F H s n => ?_, fun F H i x H' hi s n y => ?_⟩
  · exact walk_list.goes i H (by simpa using hi) (get s n)
  · have := walk_list.stops H (get s n)
    simpa using this
  · obtain ⟨e, h2⟩ := walk_list.yields i H x H' (by simpa using hi) (get s n) y
    rw [List.getElem?_map] at h2
    obtain ⟨z, h3, h4⟩ := Option.map_eq_some_iff.mp h2
    subst h4
    exact ⟨.int z, by rw [List.getElem?_map, h3]; rfl, .inl ⟨e, .int _⟩⟩
theorem itd_tup {K : PySem.W.Frag} {a : Addr} {ds : List D} : ItD K (Itt K a) (fun F H => NRL K F H [.ref a] [.tup ds]) ds := by
  have get : ∀ {F H : Hp}, Same F H → NRL K F H [.ref a] [.tup ds] → ∃ vs, SqT K H a vs ∧ RepL K F vs ds := fun s n => by
    obtain ⟨d, e, h⟩ := n.one
    cases e
    obtain ⟨b, vs, e, h1, r⟩ := h.tup
    cases e
    exact ⟨vs, same_T s h1, r⟩
  refine ⟨fun F H i hi s n => ?_, fun F H s n => ?_, fun F H i x H' hi s n y => ?_⟩
  · obtain ⟨vs, h1, r⟩ := get s n
    exact walk_tup.goes i H (by rw [r.length]; exact hi) h1
  · obtain ⟨vs, h1, r⟩ := get s n
    rw [← r.length]
    exact walk_tup.stops H h1
  · obtain ⟨vs, h1, r⟩ := get s n
    obtain ⟨e, h2⟩ := walk_tup.yields i H x H' (by rw [r.length]; exact hi) h1 y
    obtain ⟨d, h3, h4⟩ := r.getV h2
    exact ⟨d, h3, .inl ⟨e, h4⟩⟩
theorem itd_str {K : PySem.W.Frag} {s : List Nat} {G : Hp → Hp → Prop} : ItD K (Its (toS s)) G (s.map fun c => .str [c]) := by
  have hl : (s.map fun c => D.str [c]).length = (toS s).cps.size := by simp
  refine ⟨fun F H i hi _ _ => walk_str.goes i H (by rw [← hl]; exact hi) trivial, fun F H _ _ => by rw [hl]; exact walk_str.stops H trivial, fun F H i x H' hi _ _ y => ?_⟩
  obtain ⟨e, c, h1, h2⟩ := walk_str.yields i H x H' (by rw [← hl]; exact hi) trivial y
  subst h2
  have h3 : s[i]? = some c := by simpa using h1
  exact ⟨.str [c], by rw [List.getElem?_map, h3]; rfl, .inl ⟨e, .str [c]⟩⟩
theorem itd_range {K : PySem.W.Frag} {lo : Int} {n : Nat} {G : Hp → Hp → Prop} {f : Nat → D} (hf : ∀ i, f i = .int (lo + (i : Nat))) : ItD K (Itr lo n) G ((List.range n).map f) := by
  refine ⟨fun F H i hi _ _ => walk_range.goes i H (by simpa using hi) trivial, fun F H _ _ => by simpa using (walk_range (lo := lo) (n := n)).stops H trivial, fun F H i x H' hi _ _ y => ?_⟩
  have hi' : i < n := by simpa using hi
  obtain ⟨e, h2⟩ := walk_range.yields i H x H' hi' trivial y
  subst h2
  refine ⟨f i, by rw [List.getElem?_map, List.getElem?_range hi']; rfl, .inl ⟨e, ?_⟩⟩
  rw [hf]
  exact .int _
theorem pair_yd {K : PySem.W.Frag} {F H H' : Hp} {x : V} {i : Nat} {f g : Nat → Option V} {d1 d2 : D} (y : YPair f g i H x H') (h1 : ∀ v, f i = some v → Rep K F v d1) (h2 : ∀ v, g i = some v → Rep K F v d2) : YD K F (.tup [d1, d2]) x H H' := by
  obtain ⟨T, v1, v2, e1, e2, e3, e4, e5⟩ := y
  exact .inr ⟨T, v1, v2, d1, d2, e1, e2, e3, rfl, h1 _ e4, h2 _ e5⟩
theorem itd_enum {K : PySem.W.Frag} {a : Addr} {ds : List D} : ItD K (Ite K a) (fun F H => NRL K F H [.ref a] [.lst ds]) (ds.mapIdx fun i d => .tup [.int (Int.ofNat i), d]) := by
  have get : ∀ {F H : Hp}, Same F H → NRL K F H [.ref a] [.lst ds] → ∃ vs, SqL K H a vs ∧ RepL K F vs ds := fun s n => by
    obtain ⟨d, e, h⟩ := n.one
    cases e
    obtain ⟨b, vs, e, h1, r⟩ := h.lst s
    cases e
    exact ⟨vs, h1, r⟩
  refine ⟨fun F H i hi s n => ?_, fun F H s n => ?_, fun F H i x H' hi s n y => ?_⟩
  · obtain ⟨vs, h1, r⟩ := get s n
    exact walk_enum.goes i H (by rw [r.length]; simpa using hi) h1
  · obtain ⟨vs, h1, r⟩ := get s n
    rw [List.length_mapIdx, ← r.length]
    exact walk_enum.stops H h1
  · obtain ⟨vs, h1, r⟩ := get s n
    have hi' : i < ds.length := by simpa using hi
    have y' := walk_enum.yields i H x H' (by rw [r.length]; exact hi') h1 y
    refine ⟨.tup [.int (Int.ofNat i), ds[i]], by rw [List.getElem?_mapIdx, List.getElem?_eq_getElem hi']; rfl, pair_yd y' (fun v hv => by cases hv; exact .int _) fun v hv => ?_⟩
    obtain ⟨d, h3, h4⟩ := r.getV hv
    rw [List.getElem?_eq_getElem hi'] at h3
    cases h3
    exact h4
theorem itd_enumT {K : PySem.W.Frag} {a : Addr} {ds : List D} : ItD K (RE.IteT K a) (fun F H => NRL K F H [.ref a] [.tup ds]) (ds.mapIdx fun i d => .tup [.int (Int.ofNat i), d]) := by
  have get : ∀ {F H : Hp}, Same F H → NRL K F H [.ref a] [.tup ds] → ∃ vs, SqT K H a vs ∧ RepL K F vs ds := fun s n => by
    obtain ⟨d, e, h⟩ := n.one
    cases e
    obtain ⟨b, vs, e, h1, r⟩ := h.tup
    cases e
    exact ⟨vs, same_T s h1, r⟩
  refine ⟨fun F H i hi s n => ?_, fun F H s n => ?_, fun F H i x H' hi s n y => ?_⟩
  · obtain ⟨vs, h1, r⟩ := get s n
    exact RE.walk_enumT.goes i H (by rw [r.length]; simpa using hi) h1
  · obtain ⟨vs, h1, r⟩ := get s n
    rw [List.length_mapIdx, ← r.length]
    exact RE.walk_enumT.stops H h1
  · obtain ⟨vs, h1, r⟩ := get s n
    have hi' : i < ds.length := by simpa using hi
    have y' := RE.walk_enumT.yields i H x H' (by rw [r.length]; exact hi') h1 y
    refine ⟨.tup [.int (Int.ofNat i), ds[i]], by rw [List.getElem?_mapIdx, List.getElem?_eq_getElem hi']; rfl, pair_yd y' (fun v hv => by cases hv; exact .int _) fun v hv => ?_⟩
    obtain ⟨d, h3, h4⟩ := r.getV hv
    rw [List.getElem?_eq_getElem hi'] at h3
    cases h3
    exact h4
theorem zw_get {xs ys : List D} {i : Nat} (h1 : i < xs.length) (h2 : i < ys.length) : (List.zipWith (fun a b => D.tup [a, b]) xs ys)[i]? = some (.tup [xs[i], ys[i]]) := by
  rw [List.getElem?_zipWith, List.getElem?_eq_getElem h1, List.getElem?_eq_getElem h2]
theorem itd_zip {K : PySem.W.Frag} {a b : Addr} {ds es : List D} : ItD K (Itz K a b) (fun F H => NRL K F H [.ref a, .ref b] [.lst ds, .lst es]) (List.zipWith (fun a b => .tup [a, b]) ds es) := by
  have get : ∀ {F H : Hp}, Same F H → NRL K F H [.ref a, .ref b] [.lst ds, .lst es] → ∃ vs ws, SqL K H a vs ∧ RepL K F vs ds ∧ SqL K H b ws ∧ RepL K F ws es := fun s n => by
    obtain ⟨d, e, q, h, g⟩ := n.two
    cases q
    obtain ⟨p, vs, q, h1, r⟩ := h.lst s
    cases q
    obtain ⟨p, ws, q, h2, r2⟩ := g.lst s
    cases q
    exact ⟨vs, ws, h1, r, h2, r2⟩
  refine ⟨fun F H i hi s n => ?_, fun F H s n => ?_, fun F H i x H' hi s n y => ?_⟩
  · obtain ⟨vs, ws, h1, r, h2, r2⟩ := get s n
    exact (walk_zip (xs := vs) (ys := ws) rfl).goes i H (by rw [r.length, r2.length]; simpa using hi) ⟨h1, h2⟩
  · obtain ⟨vs, ws, h1, r, h2, r2⟩ := get s n
    rw [List.length_zipWith, ← r.length, ← r2.length]
    exact (walk_zip (xs := vs) (ys := ws) rfl).stops H ⟨h1, h2⟩
  · obtain ⟨vs, ws, h1, r, h2, r2⟩ := get s n
    have hi' : i < min ds.length es.length := by simpa using hi
    have y' := (walk_zip (xs := vs) (ys := ws) rfl).yields i H x H' (by rw [r.length, r2.length]; exact hi') ⟨h1, h2⟩ y
    refine ⟨_, zw_get (by omega) (by omega), pair_yd y' (fun v hv => ?_) fun v hv => ?_⟩
    · obtain ⟨d, h3, h4⟩ := r.getV hv
      rw [List.getElem?_eq_getElem (by omega)] at h3
      cases h3
      exact h4
    · obtain ⟨d, h3, h4⟩ := r2.getV hv
      rw [List.getElem?_eq_getElem (by omega)] at h3
      cases h3
      exact h4
theorem itd_zipT {K : PySem.W.Frag} {a b : Addr} {ds es : List D} : ItD K (RZ.ItzT K a b) (fun F H => NRL K F H [.ref a, .ref b] [.tup ds, .tup es]) (List.zipWith (fun a b => .tup [a, b]) ds es) := by
  have get : ∀ {F H : Hp}, Same F H → NRL K F H [.ref a, .ref b] [.tup ds, .tup es] → ∃ vs ws, SqT K H a vs ∧ RepL K F vs ds ∧ SqT K H b ws ∧ RepL K F ws es := fun s n => by
    obtain ⟨d, e, q, h, g⟩ := n.two
    cases q
    obtain ⟨p, vs, q, h1, r⟩ := h.tup
    cases q
    obtain ⟨p, ws, q, h2, r2⟩ := g.tup
    cases q
    exact ⟨vs, ws, same_T s h1, r, same_T s h2, r2⟩
  refine ⟨fun F H i hi s n => ?_, fun F H s n => ?_, fun F H i x H' hi s n y => ?_⟩
  · obtain ⟨vs, ws, h1, r, h2, r2⟩ := get s n
    have hi' : i < min ds.length es.length := by simpa using hi
    have l1 := r.length
    have l2 := r2.length
    exact ⟨vs, ws, vs[i]'(by omega), ws[i]'(by omega), h1, h2, List.getElem?_eq_getElem _, List.getElem?_eq_getElem _⟩
  · obtain ⟨vs, ws, h1, r, h2, r2⟩ := get s n
    rw [List.length_zipWith, ← r.length, ← r2.length]
    exact ⟨vs, ws, h1, h2, by omega⟩
  · obtain ⟨vs, ws, h1, r, h2, r2⟩ := get s n
    have hi' : i < min ds.length es.length := by simpa using hi
    obtain ⟨T, v1, v2, e1, e2, e3, e4, e5⟩ := y
    refine ⟨_, zw_get (by omega) (by omega), .inr ⟨T, v1, v2, _, _, e1, e2, e3, rfl, ?_, ?_⟩⟩
    · obtain ⟨d, h3, h4⟩ := r.getV (e4 _ h1)
      rw [List.getElem?_eq_getElem (by omega)] at h3
      cases h3
      exact h4
    · obtain ⟨d, h3, h4⟩ := r2.getV (e5 _ h2)
      rw [List.getElem?_eq_getElem (by omega)] at h3
      cases h3
      exact h4
theorem evs_len {cs : CS} {pk : Bool} : ∀ {es : List E} {ρ ρ1 : Rho} {as : List Ag}, evs cs pk es ρ = .ok as ρ1 → as.length = es.length
  | [], ρ, ρ1, as, h => by
    rw [evs] at h
    cases h
    rfl
  | e :: es, ρ, ρ1, as, h => by
    rw [evs] at h
    cases h1 : argOf pk e ρ (ev cs e ρ) with
    | ok a ρ2 =>
      rw [h1] at h
      have h : (evs cs pk es ρ2).bind (fun as ρ2 => R.ok (a :: as) ρ2) = .ok as ρ1 := h
      cases h2 : evs cs pk es ρ2 with
      | ok bs ρ3 =>
        rw [h2] at h
        cases h
        rw [List.length_cons, List.length_cons, evs_len h2]
      | ex _ _ => rw [h2] at h; cases h
      | no => rw [h2] at h; cases h
    | ex _ _ => rw [h1] at h; cases h
    | no => rw [h1] at h; cases h
/-- the arguments of a walk, all at once -/
theorem tI_args {kk : IK} {es : List E} {R : It → Hp → Prop} (h : tI U W kk es σ H R) : tDs U W true es σ H fun vs H1 => vs.length = es.length ∧ ∃ F ds xs, Same F H1 ∧ NRL U.K F H1 vs ds ∧ kk.sem ds = some xs ∧ ∀ J, ItD U.K J (fun F H => NRL U.K F H vs ds) xs → R J H1 := by
  obtain ⟨F, ρ, er, h⟩ := h
  refine ⟨F, ρ, er, h.mono fun as ρ1 F1 H1 hr e1 s1 q vs hv => ⟨by rw [hv.length, evs_len hr], ?_⟩⟩
  obtain ⟨ds, xs, h1, h2, h3⟩ := q vs hv
  exact ⟨F1, ds, xs, e1.sub, gets_nr e1 hv h1, h2, h3⟩
theorem len1 {α : Type} {vs : List α} (h : vs.length = 1) : ∃ v, vs = [v] := by
  match vs, h with
  | [v], _ => exact ⟨v, rfl⟩
theorem len2 {α : Type} {vs : List α} (h : vs.length = 2) : ∃ v u, vs = [v, u] := by
  match vs, h with
  | [v, u], _ => exact ⟨v, u, rfl⟩
theorem nst_two {a b : Expr} (h1 : nst a = true) (h2 : nst b = true) : starEach [a, b] X.env = [(false, eval a X.env), (false, eval b X.env)] := by
  rw [star_cons h1, star_cons h2]
  rfl
theorem isTup_of {x : Expr} (h : isTup x = true) : ∃ es kk p, x = .Tuple es kk p := by
  cases x <;> first | (cases h; done) | skip
  exact ⟨_, _, _, rfl⟩
theorem it_snd (C : Ctx U m k X W) {kk : IK} {x : Expr} {xs : List Expr} {es : List E} (h : ishp X.env.scope kk x = some xs) (hp : pairTg kk tg = true) (hs : PEs X U W xs es) : PI X tg x (tI U W kk es) := by
  unfold ishp at h
  split at h
  · split at h
    · cases h
      obtain ⟨e, rfl, h1⟩ := hs.one
      refine PI.imp (pi_seq h1) fun σ H R q => ?_
      have q := tDs_cons (tI_args q)
      refine tE_mono q fun v H1 q => ?_
      obtain ⟨_, F, ds, ys, s, n, hk, j⟩ := tDs_nil q
      obtain ⟨d, rfl, hd⟩ := n.one
      rw [C.K]
      cases d <;> first | (cases hk; done) | skip
      · cases hk
        cases hd.str
        exact .inr (.inr ⟨_, rfl, j _ itd_str⟩)
      · cases hk
        obtain ⟨a, vs, rfl, h2, r⟩ := hd.tup
        exact .inr (.inl ⟨a, rfl, ⟨vs, same_T s h2⟩, j _ itd_tup⟩)
      · cases hk
        obtain ⟨a, vs, rfl, h2, r⟩ := hd.lst s
        exact .inl ⟨a, rfl, ⟨vs, h2⟩, j _ itd_list⟩
      · cases hk
        obtain ⟨a, rfl, h2⟩ := hd.scr s
        exact .inl ⟨a, rfl, ⟨_, h2⟩, j _ itd_scr⟩
    · cases h
  · split at h
    · rename_i z
      cases h
      rw [Bool.and_eq_true] at z
      obtain ⟨rfl, g⟩ := blt_of z.1
      have hpa := pa_of (pk := true) hs (by simp [z.2])
      obtain ⟨e, rfl, _⟩ := hs.one
      refine PI.imp (pi_range1 g (bum C (by decide +kernel)) hpa (by rw [star_cons z.2]; rfl)) fun σ H R q => ?_
      refine tDs_mono (tI_args q) fun vs H1 q => ?_
      obtain ⟨l, F, ds, ys, s, n, hk, j⟩ := q
      obtain ⟨v, rfl⟩ := len1 l
      obtain ⟨d, rfl, hd⟩ := n.one
      cases d <;> first | (cases hk; done) | skip
      rename_i i
      have hk : (if i < 2 ^ 62 ∧ -(2 ^ 62) ≤ i then some ((List.range i.toNat).map fun i => D.int (Int.ofNat i)) else none) = some ys := hk
      split at hk
      · rename_i b
        cases hk
        refine ⟨i, by rw [hd.int], b.2, b.1, j _ (itd_range fun i => ?_)⟩
        rw [Int.zero_add]
        rfl
      · cases hk
    · cases h
  · split at h
    · rename_i z
      cases h
      simp only [Bool.and_eq_true] at z
      obtain ⟨⟨z1, z2⟩, z3⟩ := z
      obtain ⟨rfl, g⟩ := blt_of z1
      have hpa := pa_of (pk := true) hs (by simp [z2, z3])
      obtain ⟨e, f, rfl, _⟩ := hs.two
      refine PI.imp (pi_range2 g (bum C (by decide +kernel)) hpa (nst_two z2 z3) (by rw [star_cons z3]; rfl)) fun σ H R q => ?_
      refine tDs_mono (tI_args q) fun vs H1 q => ?_
      obtain ⟨l, F, ds, ys, s, n, hk, j⟩ := q
      obtain ⟨v, u, rfl⟩ := len2 l
      obtain ⟨d, d2, rfl, hd, hd2⟩ := n.two
      cases d <;> first | (cases hk; done) | skip
      cases d2 <;> first | (cases hk; done) | skip
      rename_i i i2
      have hk : (if -(2 ^ 62) ≤ i ∧ i < 2 ^ 62 ∧ i2 < 2 ^ 62 ∧ -(2 ^ 62) ≤ i2 then some ((List.range (i2 - i).toNat).map fun k => D.int (i + Int.ofNat k)) else none) = some ys := hk
      split at hk
      · rename_i b
        cases hk
        exact ⟨i, i2, by rw [hd.int, hd2.int], ⟨b.1, b.2.1, b.2.2.2, b.2.2.1⟩, j _ (itd_range fun i => rfl)⟩
      · cases hk
    · cases h
  · split at h
    · rename_i z
      cases h
      rw [Bool.and_eq_true] at z
      obtain ⟨rfl, g⟩ := blt_of z.1
      obtain ⟨te, tk, tp, rfl⟩ := isTup_of hp
      have hpa := pa_of (pk := true) hs (by simp [z.2])
      obtain ⟨e, rfl, _⟩ := hs.one
      refine PI.imp (RE.pi_enumA g (bum C (by decide +kernel)) hpa (by rw [star_cons z.2]; rfl)) fun σ H R q => ?_
      refine tDs_mono (tI_args q) fun vs H1 q => ?_
      obtain ⟨l, F, ds, ys, s, n, hk, j⟩ := q
      obtain ⟨v, rfl⟩ := len1 l
      obtain ⟨d, rfl, hd⟩ := n.one
      rw [C.K]
      cases d <;> first | (cases hk; done) | skip
      · cases hk
        obtain ⟨a, vs, rfl, h2, r⟩ := hd.tup
        exact ⟨a, vs, rfl, .inr ⟨same_T s h2, j _ itd_enumT⟩⟩
      · cases hk
        obtain ⟨a, vs, rfl, h2, r⟩ := hd.lst s
        exact ⟨a, vs, rfl, .inl ⟨h2, j _ itd_enum⟩⟩
    · cases h
  · split at h
    · rename_i z
      cases h
      simp only [Bool.and_eq_true] at z
      obtain ⟨⟨z1, z2⟩, z3⟩ := z
      obtain ⟨rfl, g⟩ := blt_of z1
      obtain ⟨te, tk, tp, rfl⟩ := isTup_of hp
      have hpa := pa_of (pk := true) hs (by simp [z2, z3])
      obtain ⟨e, f, rfl, _⟩ := hs.two
      refine PI.imp (RZ.pi_zipA g (bum C (by decide +kernel)) hpa (star_cons z2) (by rw [star_cons z3]; rfl)) fun σ H R q => ?_
      refine tDs_mono (tI_args q) fun vs H1 q => ?_
      obtain ⟨l, F, ds, ys, s, n, hk, j⟩ := q
      obtain ⟨v, u, rfl⟩ := len2 l
      obtain ⟨d, d2, rfl, hd, hd2⟩ := n.two
      rw [C.K]
      cases d <;> first | (cases hk; done) | skip
      · cases d2 <;> first | (cases hk; done) | skip
        cases hk
        obtain ⟨a, vs, rfl, h2, r⟩ := hd.tup
        obtain ⟨b, ws, rfl, h3, r3⟩ := hd2.tup
        exact ⟨a, b, vs, ws, rfl, .inr ⟨same_T s h2, same_T s h3, j _ itd_zipT⟩⟩
      · cases d2 <;> first | (cases hk; done) | skip
        cases hk
        obtain ⟨a, vs, rfl, h2, r⟩ := hd.lst s
        obtain ⟨b, ws, rfl, h3, r3⟩ := hd2.lst s
        exact ⟨a, b, vs, ws, rfl, .inl ⟨h2, h3, j _ itd_zip⟩⟩
    · cases h
  · cases h
end
end BV

/-! BvStar: a, .., *rest = a list or a tuple. -/
namespace BV
open PySem L2 PySem.Spec PyProof.Rows
section
variable {pr : Program} {wo : World} {Ar : Around} {Ex : Value → Shared → Prop} {st : Shared}
/-- what is left behind: the same objects, a list of the rest at the end -/
def StarEnd (st : Shared) (zs : Array Value) (n : Nat) (Q : List Value → Shared → Prop) : Prop :=
  ∀ (g : Heap) (tk : Nat), (∀ b o, st.heap.get? b = some o → g.get? b = some o) →
    Q (zs.toList.take n ++ [.ref g.objs.size]) { st with heap := g.push { cls := .type "list", data := .seq (zs.toList.drop n).toArray }, toks := tk }
theorem star_fin {B : Sem (List Value)} {zs : Array Value} {n : Nat} {Q : List Value → Shared → Prop} {g : Heap} {tk : Nat} (hn : n ≤ zs.size) (hz : zs.size ≤ 16384) (h : StarEnd st zs n Q) (hk : ∀ b o, st.heap.get? b = some o → g.get? b = some o) :
    wpAny (model pr wo) Ar (if (zs.toList.drop n).length < (n + 1) - 1 - n then B else
      (newList ((zs.toList.drop n).take ((zs.toList.drop n).length - ((n + 1) - 1 - n))) >>= fun d => pure (zs.toList.take n ++ [d] ++ (zs.toList.drop n).drop ((zs.toList.drop n).length - ((n + 1) - 1 - n))))) Q Ex { st with heap := g, toks := tk } := by
  have e0 : (n + 1) - 1 - n = 0 := by omega
  rw [e0, if_neg (Nat.not_lt_zero _), Nat.sub_zero, List.take_length, List.drop_length]
  refine wpAny_bind (wpAny_newList (wpAny_pure ?_) ?_)
  · rw [List.append_nil]
    exact h g tk hk
  · rw [List.length_drop, Array.length_toList, sizeLine_eq]
    omega
theorem star_list {l : Addr} {zs : Array Value} {n : Nat} {Q : List Value → Shared → Prop} (hl : st.heap.IsList l zs) (hh : Ar.handled = none) (hn : n ≤ zs.size) (hz : zs.size ≤ 16384) (h : StarEnd st zs n Q) :
    wpAny (model pr wo) Ar (unpackItems (.ref l) (n + 1) (some n)) Q Ex st := by
  have hll : l < st.heap.objs.size := let ⟨_, z, _⟩ := hl; Heap.lt_size z
  have hne : l ≠ st.heap.objs.size := Nat.ne_of_lt hll
  unfold unpackItems
  refine wpAny_bind (by
    unfold notIterableAtAll
    exact wpAny_bind (wpAny_specialOf hl.typeIs slot_list_iter.lookup (wpAny_pure (by
      simp only [Bool.false_eq_true, if_false]
      refine wpAny_bind (wpAny_holding (wpAny_pyIter_list hl (wpAny_bind (wpAny_holding (PySem.W.kun_draw hne n 0 _ _ ⟨_, Heap.get?_push_size _ rfl, rfl, rfl⟩ (hl.push _) (by omega) fun g1 it1 sm1 => ?_)))))
      have gl : g1.IsList l zs := (hl.push _).extBut sm1.extBut hne
      rw [Nat.zero_add] at it1
      have bi : st.heap.objs.size < g1.objs.size := let ⟨_, z, _⟩ := it1; Heap.lt_size z
      have bl : l < g1.objs.size := let ⟨_, z, _⟩ := gl; Heap.lt_size z
      have tl : (zs.toList.take n).length = n := by rw [List.length_take, Array.length_toList]; omega
      rw [List.drop_zero, if_neg (by rw [tl]; exact Nat.lt_irrefl _)]
      refine wpAny_bind (wpAny_holding (PySem.W.kun_collect (s := { st with heap := g1 }) (T := "list_iterator") (.inr (.inr (.inl rfl))) (Walks.list (A := Ar.in1) hh st.heap.objs.size l hne zs) (fun j u z => z.1.typeIs) (k := n) hn ⟨it1, gl⟩ bi bl (fun g2 tk hk => ?_) (by rw [sizeLine_eq]; omega)))
      have k2 : ∀ b o, st.heap.get? b = some o → g2.get? b = some o := fun b o z => by
        have hb : b ≠ st.heap.objs.size := Nat.ne_of_lt (Heap.lt_size z)
        exact hk b o hb (sm1.extBut b o hb (Heap.get?_push_of_some _ z))
      exact star_fin (st := st) hn hz h k2))))
theorem star_tup {l : Addr} {zs : Array Value} {n : Nat} {Q : List Value → Shared → Prop} (hl : IsTup st.heap l zs) (hh : Ar.handled = none) (hn : n ≤ zs.size) (hz : zs.size ≤ 16384) (h : StarEnd st zs n Q) :
    wpAny (model pr wo) Ar (unpackItems (.ref l) (n + 1) (some n)) Q Ex st := by
  have hll : l < st.heap.objs.size := let ⟨_, z, _⟩ := hl; Heap.lt_size z
  have hne : l ≠ st.heap.objs.size := Nat.ne_of_lt hll
  unfold unpackItems
  refine wpAny_bind (by
    unfold notIterableAtAll
    exact wpAny_bind (wpAny_specialOf hl.typeIs slot_tuple_iter.lookup (wpAny_pure (by
      simp only [Bool.false_eq_true, if_false]
      refine wpAny_bind (wpAny_holding (iter_tuple hl (wpAny_bind (wpAny_holding (draw_tuple hne n 0 _ _ ⟨_, Heap.get?_push_size _ rfl, rfl, rfl⟩ (hl.push _) (by omega) fun g1 it1 sm1 => ?_)))))
      have gl : IsTup g1 l zs := (hl.push _).extBut sm1.extBut hne
      rw [Nat.zero_add] at it1
      have bi : st.heap.objs.size < g1.objs.size := let ⟨_, z, _⟩ := it1; Heap.lt_size z
      have bl : l < g1.objs.size := let ⟨_, z, _⟩ := gl; Heap.lt_size z
      have tl : (zs.toList.take n).length = n := by rw [List.length_take, Array.length_toList]; omega
      rw [List.drop_zero, if_neg (by rw [tl]; exact Nat.lt_irrefl _)]
      refine wpAny_bind (wpAny_holding (PySem.W.kun_collect (s := { st with heap := g1 }) (T := "tuple_iterator") (.inr (.inr (.inr rfl))) (Walks.tuple (A := Ar.in1) hh st.heap.objs.size l hne zs) (fun j u z => z.1.typeIs) (k := n) hn ⟨it1, gl⟩ bi bl (fun g2 tk hk => ?_) (by rw [sizeLine_eq]; omega)))
      have k2 : ∀ b o, st.heap.get? b = some o → g2.get? b = some o := fun b o z => by
        have hb : b ≠ st.heap.objs.size := Nat.ne_of_lt (Heap.lt_size z)
        exact hk b o hb (sm1.extBut b o hb (Heap.get?_push_of_some _ z))
      exact star_fin (st := st) hn hz h k2))))
end
section
variable {X : Cx} {pos : Pos}
def gStar (K : PySem.W.Frag) (n : Nat) (t : TGs) : TG := fun v σ H Q => ∃ a xs, v = .ref a ∧ (SqT K H a xs ∨ SqL K H a xs) ∧ n ≤ xs.length ∧ xs.length ≤ 16384 ∧ ∀ p, H p = none → t (xs.take n ++ [.ref p]) σ (upd H p (.lst (xs.drop n))) Q
theorem vals_take {xs : List V} {us : List Value} (r : Vals xs us) : ∀ n : Nat, Vals (xs.take n) (us.take n) := by
  induction r with
  | nil => intro n; rw [List.take_nil, List.take_nil]; exact .nil
  | cons h t ih =>
    intro n
    cases n with
    | zero => exact .nil
    | succ n => exact .cons h (ih n)
theorem vals_drop {xs : List V} {us : List Value} (r : Vals xs us) : ∀ n : Nat, Vals (xs.drop n) (us.drop n) := by
  induction r with
  | nil => intro n; rw [List.drop_nil, List.drop_nil]; exact .nil
  | cons h t ih =>
    intro n
    cases n with
    | zero => exact .cons h t
    | succ n => exact ih n
theorem vals_app {xs ys : List V} {us ws : List Value} (r : Vals xs us) (q : Vals ys ws) : Vals (xs ++ ys) (us ++ ws) := by
  induction r with
  | nil => exact q
  | cons h t ih => exact .cons h ih
theorem pgs_starred {t : Expr} {p : Pos} {tg : TG} (h : PG X t tg) : PGs X [.Starred t p] (gCons tg gNil) := by
  refine ⟨fun pins s σ H vs us Q I r h0 => ?_⟩
  obtain ⟨v, vr, e1, h0⟩ := h0
  subst e1
  cases r with
  | cons r rr =>
    have e : (assignEach [.Starred t p] X.env).map (·.2) = [assign t X.env] := rfl
    rw [e]
    refine assignInOrder_cons (thn (h.run pins s σ H _ _ _ I r h0) fun _ s1 ⟨σ1, H1, I1, q1⟩ => ?_)
    exact pgs_nil.run pins s1 σ1 H1 _ _ Q I1 rr q1
theorem pg_star {es : List Expr} {k n : Nat} {t : TGs} (hc : X.calm = true) (h : PGs X es t) (hn : (assignEach es X.env).length = n + 1) (hst : (assignEach es X.env).findIdx? (·.1) = some n) : PG X (.Tuple es k pos) (gStar X.K n t) := by
  refine ⟨fun pins s σ H v u Q I r hw => ?_⟩
  obtain ⟨a, xs, e1, hq, hl, hz, hw⟩ := hw
  subst e1
  cases r
  rw [assign_Tuple]
  refine wpAny_bind (wpAny_standAt ?_)
  unfold unpack
  rw [hn, hst]
  refine wpAny_bind (wpAny_holding ?_)
  have fin : ∀ its : List Value, Vals xs its → StarEnd s its.toArray n fun items s' => wpAny (model X.prog X.w) X.A (assignInOrder ((assignEach es X.env).map (·.2)) items) (fun _ s' => ∃ σ' H', Inv X pins σ' H' s' ∧ Q σ' H') X.xe s' := fun its rv g tk hk => by
    have I1 : Inv X pins σ H { s with heap := g, toks := tk } := I.kept hk
    have hf := I1.hok.fresh (Nat.le_refl g.objs.size)
    have hlen : (xs.drop n).length ≤ sizeLine := by rw [List.length_drop, sizeLine_eq]; omega
    have I2 := I1.laid (a := g.objs.size) (o := .lst (xs.drop n)) (t' := tk) (fun b u z => Heap.get?_push_of_some _ z) (Nat.le_refl _) (h' := g.push { cls := .type "list", data := .seq (its.drop n).toArray }) ⟨hlen, its.drop n, 0, vals_drop rv n, Heap.get?_push_size _ rfl⟩
    exact h.run pins _ σ _ _ _ Q I2 (vals_app (vals_take rv n) (.cons (show RelV (V.ref g.objs.size) (Value.ref g.objs.size) from rfl) .nil)) (hw _ hf)
  rcases hq with hq | hq
  · obtain ⟨its, rv, ht, _⟩ := I.tuple hq
    exact star_tup ht (I.ok.hd hc) (by rw [List.size_toArray, ← rv.length]; exact hl) (by rw [List.size_toArray, ← rv.length]; exact hz) (fin its rv)
  · obtain ⟨its, rv, ht, _⟩ := I.list hq
    exact star_list ht.isList (I.ok.hd hc) (by rw [List.size_toArray, ← rv.length]; exact hl) (by rw [List.size_toArray, ← rv.length]; exact hz) (fin its rv)
end
end BV

/-! BvG: targets. -/
namespace BV
open PySem L2 PySem.Spec PyProof.Rows
/-- an answer, its origin at a base -/
def RsO (K : PySem.W.Frag) (H0 : Hp) (σ0 : Sg) (ρ0 : Rho) (F H : Hp) (σ : Sg) (ρ : Rho) (v : V) (d : D) (b : Bool) : Prop :=
  if b = true then ∃ a, v = .ref a ∧ F a = none ∧ ¬ OnA σ ρ a ∧ Top K F (H a) d ∧ Org H0 σ0 ρ0 a else Rep K F v d
structure Base where
  F : Hp
  H : Hp
  σ : Sg
  ρ : Rho
def keepOut (is : List Nat) (σ σ' : Sg) : Prop := σ'.length = σ.length ∧ ∀ i, i ∉ is → σ'[i]? = σ[i]?
def gD (U : Sur) (t : T) : TG := fun v σ H Q => ∃ (B : Base) (F : Hp) (ρ : Rho) (d : D) (b : Bool) (ρ' : Rho), EnvR U.K F H σ ρ ∧ Stp B.F B.H B.σ B.ρ F H σ ρ ∧ Same B.F B.H ∧ RsO U.K B.H B.σ B.ρ F H σ ρ v d b ∧ stt t d b ρ = some ρ' ∧
  ∀ σ' H', EnvR U.K F H' σ' ρ' → Stp B.F B.H B.σ B.ρ F H' σ' ρ' → keepOut (tsl t) σ σ' → Q σ' H'
def gDs (U : Sur) (ts : List T) : TGs := fun vs σ H Q => ∃ (B : Base) (F : Hp) (ρ : Rho) (ds : List D) (ρ' : Rho), EnvR U.K F H σ ρ ∧ Stp B.F B.H B.σ B.ρ F H σ ρ ∧ Same B.F B.H ∧ RepL U.K F vs ds ∧ stts ts ds ρ = some ρ' ∧
  ∀ σ' H', EnvR U.K F H' σ' ρ' → Stp B.F B.H B.σ B.ρ F H' σ' ρ' → keepOut (tsls ts) σ σ' → Q σ' H'
/-- .. with a new list at the end -/
def gDSt (U : Sur) (ts : List T) (i : Nat) : TGs := fun vs σ H Q => ∃ (B : Base) (F : Hp) (ρ : Rho) (ds : List D) (ρ' : Rho) (vr : List V) (a : Addr) (dl : List D) (dv : List V), EnvR U.K F H σ ρ ∧ Stp B.F B.H B.σ B.ρ F H σ ρ ∧ Same B.F B.H ∧ vs = vr ++ [.ref a] ∧ RepL U.K F vr ds ∧
  Held F H σ ρ a (.lst dv) ∧ RepL U.K F dv dl ∧ Org B.H B.σ B.ρ a ∧ ((stts ts ds ρ).bind fun ρ1 => stv ρ1 i (.lst dl) true) = some ρ' ∧ ∀ σ' H', EnvR U.K F H' σ' ρ' → Stp B.F B.H B.σ B.ρ F H' σ' ρ' → keepOut (tsls ts ++ [i]) σ σ' → Q σ' H'
section
variable {K : PySem.W.Frag} {F H : Hp} {σ : Sg} {ρ ρ' : Rho}
theorem Stp.allocG {F0 H0 : Hp} {σ0 : Sg} {ρ0 : Rho} (s : Stp F0 H0 σ0 ρ0 F H σ ρ) {p : Addr} {o : HO} (h : H p = none) : Stp F0 H0 σ0 ρ0 F (upd H p o) σ ρ :=
  ⟨s.ext, fun a u h1 h2 h3 => by
    obtain ⟨h4, h5⟩ := s.frm a u h1 h2 h3
    exact ⟨by rw [upd_ne (ne_of_none h4 h)]; exact h4, h5⟩, s.new, s.pin, s.ln⟩
theorem pin_of {c : Cell} {i : Nat} (h : ρ[i]? = some c) : ρ[i]?.getD .un = c := by rw [h]; rfl
theorem store_env (e : EnvR K F H σ ρ) {i : Nat} {v : V} {d : D} {b : Bool} {H0 F0 : Hp} {σ0 : Sg} {ρ0 : Rho} (s : Stp F0 H0 σ0 ρ0 F H σ ρ) (r : RsO K H0 σ0 ρ0 F H σ ρ v d b) (h : stv ρ i d b = some ρ') :
    EnvR K F H (σ.set i (some v)) ρ' ∧ Stp F0 H0 σ0 ρ0 F H (σ.set i (some v)) ρ' := by
  unfold stv at h
  split at h
  · cases h
  rename_i z
  simp only [Bool.or_eq_true, not_or, Bool.not_eq_true', Bool.not_eq_true, Bool.not_eq_false', decide_eq_true_eq] at z
  cases h
  obtain ⟨zp, zl⟩ := z
  have zl : i < ρ.length := by simpa using zl
  have zs : i < σ.length := by rw [← e.len]; exact zl
  -- the new cell
  have cf : ∀ d', (if b then Cell.ow d else Cell.fz d).fr = some d' → b = false ∧ d' = d := fun d' q => by
    cases b with
    | true => simp [Cell.fr] at q
    | false => simp [Cell.fr] at q; exact ⟨rfl, q.symm⟩
  have co : ∀ d', (if b then Cell.ow d else Cell.fz d).on = some d' → b = true ∧ d' = d := fun d' q => by
    cases b with
    | false => simp [Cell.on] at q
    | true => simp [Cell.on] at q; exact ⟨rfl, q.symm⟩
  have cp : (if b then Cell.ow d else Cell.fz d).pin = false := by cases b <;> rfl
  refine ⟨⟨e.sub, by rw [List.length_set, List.length_set]; exact e.len, fun j x d' h1 h2 => ?_, fun j x d' h1 h2 => ?_, fun j k x y a h1 h2 h3 h4 h5 h6 => ?_⟩, ⟨s.ext, s.frm, fun a q => ?_, fun j x h1 => ?_, by rw [List.length_set]; exact s.ln⟩⟩
  · rcases set_get h1 with ⟨rfl, rfl, _⟩ | ⟨hj, h1⟩
    · obtain ⟨rfl, rfl⟩ := cf d' h2
      unfold RsO at r
      exact ⟨v, by rw [List.getElem?_set_self zs], by simpa using r⟩
    · obtain ⟨u, q1, q2⟩ := e.fr j x d' h1 h2
      exact ⟨u, by rw [List.getElem?_set_ne (Ne.symm hj)]; exact q1, q2⟩
  · rcases set_get h1 with ⟨rfl, rfl, _⟩ | ⟨hj, h1⟩
    · obtain ⟨rfl, rfl⟩ := co d' h2
      unfold RsO at r
      rw [if_pos rfl] at r
      obtain ⟨a, rfl, n, q, t, og⟩ := r
      exact ⟨a, by rw [List.getElem?_set_self zs], n, t⟩
    · obtain ⟨u, q1, q2⟩ := e.on j x d' h1 h2
      exact ⟨u, by rw [List.getElem?_set_ne (Ne.symm hj)]; exact q1, q2⟩
  · -- no two names for an owned thing
    have key : ∀ {j : Nat} {x : Cell} {a : Addr}, j ≠ i → ρ[j]? = some x → x.on.isSome = true → σ[j]? = some (some (.ref a)) → (if b then Cell.ow d else Cell.fz d).on.isSome = true → some (some (.ref a)) = some (some v) → False := fun {j x a} hj q1 q2 q3 q4 q5 => by
      obtain ⟨d', q6⟩ := Option.isSome_iff_exists.mp q4
      obtain ⟨rfl, rfl⟩ := co d' q6
      unfold RsO at r
      rw [if_pos rfl] at r
      obtain ⟨a', rfl, n, q, t, og⟩ := r
      cases q5
      exact q ⟨j, x, q1, q2, q3⟩
    rcases set_get h1 with ⟨rfl, rfl, _⟩ | ⟨hj, h1⟩
    · rcases set_get h2 with ⟨rfl, rfl, _⟩ | ⟨hk, h2⟩
      · rfl
      · rw [List.getElem?_set_self zs] at h5
        rw [List.getElem?_set_ne (Ne.symm hk)] at h6
        exact (key hk h2 h4 h6 h3 h5.symm).elim
    · rw [List.getElem?_set_ne (Ne.symm hj)] at h5
      rcases set_get h2 with ⟨rfl, rfl, _⟩ | ⟨hk, h2⟩
      · rw [List.getElem?_set_self zs] at h6
        exact (key hj (by assumption) h3 h5 h4 h6.symm).elim
      · rw [List.getElem?_set_ne (Ne.symm hk)] at h6
        exact e.ap j k x y a h1 h2 h3 h4 h5 h6
  · obtain ⟨j, x, q1, q2, q3⟩ := q
    rcases set_get q1 with ⟨rfl, rfl, _⟩ | ⟨hj, q1⟩
    · obtain ⟨d', q6⟩ := Option.isSome_iff_exists.mp q2
      obtain ⟨rfl, rfl⟩ := co d' q6
      rw [List.getElem?_set_self zs] at q3
      cases q3
      unfold RsO at r
      rw [if_pos rfl] at r
      obtain ⟨a', e', n, q, t, og⟩ := r
      cases e'
      exact og
    · rw [List.getElem?_set_ne (Ne.symm hj)] at q3
      exact s.new a ⟨j, x, q1, q2, q3⟩
  · obtain ⟨y, h2, h3, h4⟩ := s.pin j x h1
    by_cases hj : j = i
    · subst hj
      have yp : y.pin = false := by rw [← pin_of h2]; simpa using zp
      have xp : x.pin = false := by
        cases hx : x.pin with
        | false => rfl
        | true => rw [h3.pinned hx] at yp; cases yp
      refine ⟨_, by rw [List.getElem?_set_self zl], ?_, fun q => by rw [xp] at q; cases q⟩
      cases x <;> first | exact cp | (exact absurd xp (by simp [Cell.pin]))
    · exact ⟨y, by rw [List.getElem?_set_ne (Ne.symm hj)]; exact h2, h3, fun q => by rw [List.getElem?_set_ne (Ne.symm hj)]; exact h4 q⟩
theorem tsl_len (t : T) : True := trivial
theorem keepOut.trans {is js : List Nat} {a b c : Sg} (h : keepOut is a b) (g : keepOut js b c) : keepOut (is ++ js) a c :=
  ⟨g.1.trans h.1, fun i hi => by
    rw [List.mem_append, not_or] at hi
    exact (g.2 i hi.2).trans (h.2 i hi.1)⟩
end
section
variable {X : Cx} {U : Sur} {W : WX} {m : Mk0} {k : Nat}
theorem loc_of {N : List Str} {sc : Scope} {i : Nat} {x : Str} (h : locB N sc i x = true) : N[i]? = some x ∧ Loc sc x := by
  unfold locB at h
  simp only [Bool.and_eq_true, decide_eq_true_eq] at h
  refine ⟨h.1, ?_⟩
  have h2 := h.2
  split at h2
  · exact .inl (by assumption)
  · exact .inr (by assumption)
  · cases h2
/-- a name that may be stored to here -/
def StOk (X : Cx) (SC : Scope) : Prop := ∀ x, Loc SC x → Loc X.env.scope x ∧ (X.fn x = true ∨ X.env.scope.names.lookup x = some .local)
theorem asg_each {e : Expr} {es : List Expr} {env : PySem.Env} (h : nst e = true) : assignEach (e :: es) env = (false, assign e env) :: assignEach es env := by
  cases e <;> first | rfl | cases h
theorem asg_none : ∀ {es : List Expr} {env : PySem.Env}, es.all nst = true → (assignEach es env).findIdx? (·.1) = none ∧ (assignEach es env).length = es.length
  | [], env, _ => ⟨rfl, rfl⟩
  | e :: es, env, h => by
    obtain ⟨h1, h2⟩ := ns_cons h
    obtain ⟨g1, g2⟩ := asg_none (env := env) h2
    rw [asg_each h1]
    refine ⟨?_, by rw [List.length_cons, List.length_cons, g2]⟩
    rw [List.findIdx?_cons, g1]
    rfl
theorem PG.imp {tg : Expr} {t u : TG} (h : PG X tg t) (q : ∀ v σ H Q, u v σ H Q → t v σ H Q) : PG X tg u := ⟨fun pins s σ H v w Q I r z => h.run pins s σ H v w Q I r (q v σ H Q z)⟩
theorem PG.or {tg : Expr} {t u : TG} (h : PG X tg t) (g : PG X tg u) : PG X tg fun v σ H Q => t v σ H Q ∨ u v σ H Q := ⟨fun pins s σ H v w Q I r z => z.elim (h.run pins s σ H v w Q I r) (g.run pins s σ H v w Q I r)⟩
theorem PGs.imp {tg : List Expr} {t u : TGs} (h : PGs X tg t) (q : ∀ v σ H Q, u v σ H Q → t v σ H Q) : PGs X tg u := ⟨fun pins s σ H v w Q I r z => h.run pins s σ H v w Q I r (q v σ H Q z)⟩
theorem mtgs_len {N : List Str} {sc : Scope} : ∀ {ts : List T} {es : List Expr}, mtgs N sc ts es = true → ts.length = es.length
  | [], [], _ => rfl
  | t :: ts, e :: es, h => by
    unfold mtgs at h
    rw [Bool.and_eq_true] at h
    rw [List.length_cons, List.length_cons, mtgs_len h.2]
  | [], _ :: _, h => by unfold mtgs at h; cases h
  | _ :: _, [], h => by unfold mtgs at h; cases h
theorem stts_len : ∀ {ts : List T} {ds : List D} {ρ ρ' : Rho}, stts ts ds ρ = some ρ' → ts.length = ds.length
  | [], [], _, _, _ => rfl
  | t :: ts, d :: ds, ρ, ρ', h => by
    unfold stts at h
    obtain ⟨ρ1, _, h2⟩ := Option.bind_eq_some_iff.mp h
    rw [List.length_cons, List.length_cons, stts_len h2]
  | [], _ :: _, _, _, h => by unfold stts at h; cases h
  | _ :: _, [], _, _, h => by unfold stts at h; cases h
theorem pg_snd1 (nd : X.N.Nodup) {SC : Scope} (so : StOk X SC) {i : Nat} {tg : Expr} (h : mtg X.N SC (.nm i) tg = true) : PG X tg (gD U (.nm i)) := by
  cases tg <;> first | (unfold mtg at h; cases h; done) | skip
  rename_i x p
  unfold mtg at h
  obtain ⟨h1, h2⟩ := loc_of h
  refine PG.imp (pg_name nd h1 (so x h2).1 (so x h2).2) fun v σ H Q ⟨B, F, ρ, d, b, ρ', e, s, sm, r, hs, q⟩ => ?_
  unfold stt at hs
  obtain ⟨e2, s2⟩ := store_env e s r hs
  refine q _ H e2 s2 ⟨by rw [List.length_set], fun j hj => ?_⟩
  rw [List.getElem?_set_ne]
  intro z
  exact hj (by unfold tsl; simp [z])
mutual
theorem pg_snd (hK : X.K = U.K) (hc : X.calm = true) (nd : X.N.Nodup) {SC : Scope} (so : StOk X SC) : ∀ (t : T) (tg : Expr), mtg X.N SC t tg = true → PG X tg (gD U t)
  | .nm i, tg, h => by
    cases tg <;> first | (unfold mtg at h; cases h; done) | skip
    rename_i x p
    unfold mtg at h
    obtain ⟨h1, h2⟩ := loc_of h
    refine PG.imp (pg_name nd h1 (so x h2).1 (so x h2).2) fun v σ H Q ⟨B, F, ρ, d, b, ρ', e, s, sm, r, hs, q⟩ => ?_
    unfold stt at hs
    obtain ⟨e2, s2⟩ := store_env e s r hs
    refine q _ H e2 s2 ⟨by rw [List.length_set], fun j hj => ?_⟩
    rw [List.getElem?_set_ne]
    intro z
    exact hj (by unfold tsl; simp [z])
  | .tp ts, tg, h => by
    cases tg <;> first | (unfold mtg at h; cases h; done) | skip
    rename_i es kk p
    unfold mtg at h
    rw [Bool.and_eq_true] at h
    obtain ⟨h1, h2⟩ := h
    obtain ⟨a1, a2⟩ := asg_none (env := X.env) h1
    have hp := pgs_snd hK hc nd so ts es h1 h2
    refine PG.imp (PG.or (pg_tup (k := kk) hc hp a2 a1) (pg_unl (k := kk) hc hp a2 a1)) fun v σ H Q ⟨B, F, ρ, d, b, ρ', e, s, sm, r, hs, q⟩ => ?_
    cases d <;> first | (unfold stt at hs; cases hs; done) | skip
    · rename_i ds
      refine .inl ?_
      unfold stt at hs
      have r' : Rep U.K F v (.tup ds) := by
        unfold RsO at r
        cases b with
        | false => simpa using r
        | true =>
          rw [if_pos rfl] at r
          obtain ⟨a, _, _, _, t, _⟩ := r
          exact t.elim
      cases r' with
      | tup h3 h4 =>
        rw [hK]
        refine ⟨_, _, rfl, same_T e.sub h3, by rw [h4.length, ← stts_len hs, mtgs_len h2], B, F, ρ, ds, ρ', e, s, sm, h4, hs, fun σ' H' e' s' k' => q σ' H' e' s' ?_⟩
        unfold tsl
        exact k'
    · rename_i ds
      refine .inr ?_
      unfold stt at hs
      have r' : ∃ a vs, v = .ref a ∧ H a = some (.lst vs) ∧ RepL U.K F vs ds := by
        unfold RsO at r
        cases b with
        | false =>
          have r : Rep U.K F v (.lst ds) := by simpa using r
          cases r with
          | lst h3 h4 => exact ⟨_, _, rfl, e.sub _ _ h3, h4⟩
        | true =>
          rw [if_pos rfl] at r
          obtain ⟨a, rfl, _, _, t, _⟩ := r
          obtain ⟨vs, h3, h4⟩ := top_lst t
          exact ⟨a, vs, rfl, h3, h4⟩
      obtain ⟨a, vs, rfl, h3, h4⟩ := r'
      refine ⟨_, _, rfl, SqL.of h3, by rw [h4.length, ← stts_len hs, mtgs_len h2], B, F, ρ, ds, ρ', e, s, sm, h4, hs, fun σ' H' e' s' k' => q σ' H' e' s' ?_⟩
      unfold tsl
      exact k'
  | .sp ts i, tg, h => by
    cases tg <;> first | (unfold mtg at h; cases h; done) | skip
    rename_i es kk p
    unfold mtg at h
    obtain ⟨p1, p2, p3⟩ := pgS_snd hK hc nd so ts i es h
    refine PG.imp (pg_star (k := kk) hc p1 p2 p3) fun v σ H Q ⟨B, F, ρ, d, b, ρ', e, s, sm, r, hs, q⟩ => ?_
    have go : ∀ (a : Addr) (vs : List V) (ds : List D), v = .ref a → (SqT X.K H a vs ∨ SqL X.K H a vs) → RepL U.K F vs ds → (if ts.length ≤ ds.length ∧ ds.length ≤ 16384 then (stts ts (ds.take ts.length) ρ).bind fun ρ' => stv ρ' i (.lst (ds.drop ts.length)) true else none) = some ρ' → gStar X.K ts.length (gDSt U ts i) v σ H Q := by
      intro a vs ds ev hq hr hs
      split at hs
      · rename_i z
        refine ⟨a, vs, ev, hq, by rw [hr.length]; exact z.1, by rw [hr.length]; exact z.2, fun p hp => ?_⟩
        refine ⟨B, F, ρ, ds.take ts.length, ρ', vs.take ts.length, p, ds.drop ts.length, vs.drop ts.length, e.alloc hp, s.allocG hp, sm, rfl, hr.take _, ⟨upd_same, e.noF hp, e.noOn hp⟩, hr.drop _, s.org e.sub (.inr hp), hs, fun σ' H' e' s' k' => q σ' H' e' s' ?_⟩
        unfold tsl
        exact k'
      · cases hs
    cases d <;> first | (unfold stt at hs; cases hs; done) | skip
    · rename_i ds
      unfold stt at hs
      have r' : Rep U.K F v (.tup ds) := by
        unfold RsO at r
        cases b with
        | false => simpa using r
        | true =>
          rw [if_pos rfl] at r
          obtain ⟨a, _, _, _, t, _⟩ := r
          exact t.elim
      cases r' with
      | tup h3 h4 => exact go _ _ ds rfl (.inl (by rw [hK]; exact same_T e.sub h3)) h4 hs
    · rename_i ds
      unfold stt at hs
      have r' : ∃ a vs, v = .ref a ∧ H a = some (.lst vs) ∧ RepL U.K F vs ds := by
        unfold RsO at r
        cases b with
        | false =>
          have r : Rep U.K F v (.lst ds) := by simpa using r
          cases r with
          | lst h3 h4 => exact ⟨_, _, rfl, e.sub _ _ h3, h4⟩
        | true =>
          rw [if_pos rfl] at r
          obtain ⟨a, rfl, _, _, t, _⟩ := r
          obtain ⟨vs, h3, h4⟩ := top_lst t
          exact ⟨a, vs, rfl, h3, h4⟩
      obtain ⟨a, vs, ev, h3, h4⟩ := r'
      exact go a vs ds ev (.inr (SqL.of h3)) h4 hs
theorem pgS_snd (hK : X.K = U.K) (hc : X.calm = true) (nd : X.N.Nodup) {SC : Scope} (so : StOk X SC) : ∀ (ts : List T) (i : Nat) (es : List Expr), mtgS X.N SC ts i es = true → PGs X es (gDSt U ts i) ∧ (assignEach es X.env).length = ts.length + 1 ∧ (assignEach es X.env).findIdx? (·.1) = some ts.length
  | [], i, es, h => by
    have hx : ∃ x p p2, es = [.Starred (.Name x p) p2] ∧ locB X.N SC i x = true := by
      unfold mtgS at h
      split at h
      · exact ⟨_, _, _, rfl, h⟩
      · rename_i q; cases q
      · cases h
    obtain ⟨x, p, p2, rfl, h⟩ := hx
    obtain ⟨h1, h2⟩ := loc_of h
    refine ⟨PGs.imp (pgs_starred (p := p2) (pg_name (pos := p) nd h1 (so x h2).1 (so x h2).2)) fun vs σ H Q ⟨B, F, ρ, ds, ρ', vr, a, dl, dv, e, s, sm, hv, r, hd, rl, og, hs, q⟩ => ?_, rfl, rfl⟩
    obtain ⟨ρ1, h3, h4⟩ := Option.bind_eq_some_iff.mp hs
    cases ds with
    | cons _ _ => unfold stts at h3; cases h3
    | nil =>
      unfold stts at h3
      cases h3
      cases r
      subst hv
      refine ⟨.ref a, [], rfl, ?_⟩
      obtain ⟨e2, s2⟩ := store_env (v := .ref a) (b := true) e s (by unfold RsO; rw [if_pos rfl]; exact ⟨a, rfl, hd.non, hd.off, by rw [hd.at_]; exact ⟨dv, rfl, rl⟩, og⟩) h4
      exact ⟨rfl, q _ H e2 s2 ⟨by rw [List.length_set], fun j hj => by
        rw [List.getElem?_set_ne]
        intro z
        exact hj (by unfold tsls; simp [z])⟩⟩
  | t :: ts, i, es, h => by
    have hx : ∃ e es', es = e :: es' ∧ nst e = true ∧ mtg X.N SC t e = true ∧ mtgS X.N SC ts i es' = true := by
      unfold mtgS at h
      split at h
      · rename_i q; cases q
      · rename_i q; cases q
        simp only [Bool.and_eq_true] at h
        exact ⟨_, _, rfl, h.1.1, h.1.2, h.2⟩
      · cases h
    obtain ⟨e, es', rfl, n1, h1, h2⟩ := hx
    obtain ⟨p1, p2, p3⟩ := pgS_snd hK hc nd so ts i es' h2
    refine ⟨PGs.imp (pgs_cons (pg_snd hK hc nd so t e h1) p1 (by rw [asg_each n1]; rfl)) fun vs σ H Q ⟨B, F, ρ, ds, ρ', vr, a, dl, dv, er, s, sm, hv, r, hd, rl, og, hs, q⟩ => ?_, by rw [asg_each n1, List.length_cons, List.length_cons, p2], by rw [asg_each n1, List.findIdx?_cons, p3]; rfl⟩
    obtain ⟨ρ1, h3, h4⟩ := Option.bind_eq_some_iff.mp hs
    subst hv
    cases r with
    | nil => unfold stts at h3; cases h3
    | @cons v1 vs1 d1 ds1 r1 r2 =>
      unfold stts at h3
      obtain ⟨ρ2, q1, q2⟩ := Option.bind_eq_some_iff.mp h3
      refine ⟨v1, vs1 ++ [.ref a], rfl, ⟨F, H, σ, ρ⟩, F, ρ, _, false, ρ2, er, Stp.refl .., er.sub, by unfold RsO; simpa using r1, q1, fun σ1 H1 e1 s1 k1 => ?_⟩
      refine ⟨B, F, ρ2, _, ρ', vs1, a, dl, dv, e1, s.trans s1 er.sub, sm, rfl, r2, hd.step s1, rl, og, by rw [q2]; exact h4, fun σ2 H2 e2 s2 k2 => q σ2 H2 e2 s2 ?_⟩
      unfold tsls
      rw [List.append_assoc]
      exact k1.trans k2
theorem pgs_snd (hK : X.K = U.K) (hc : X.calm = true) (nd : X.N.Nodup) {SC : Scope} (so : StOk X SC) : ∀ (ts : List T) (es : List Expr), es.all nst = true → mtgs X.N SC ts es = true → PGs X es (gDs U ts)
  | [], [], _, _ => PGs.imp pgs_nil fun vs σ H Q ⟨B, F, ρ, ds, ρ', e, s, sm, r, hs, q⟩ => by
    cases ds with
    | cons _ _ => unfold stts at hs; cases hs
    | nil =>
      unfold stts at hs
      cases hs
      cases r
      exact ⟨rfl, q σ H e s ⟨rfl, fun _ _ => rfl⟩⟩
  | t :: ts, e :: es, hn, h => by
    unfold mtgs at h
    rw [Bool.and_eq_true] at h
    obtain ⟨n1, n2⟩ := ns_cons hn
    refine PGs.imp (pgs_cons (pg_snd hK hc nd so t e h.1) (pgs_snd hK hc nd so ts es n2 h.2) (by rw [asg_each n1]; rfl)) fun vs σ H Q ⟨B, F, ρ, ds, ρ', e, s, sm, r, hs, q⟩ => ?_
    cases r with
    | nil => unfold stts at hs; cases hs
    | cons r1 r2 =>
      unfold stts at hs
      obtain ⟨ρ1, q1, q2⟩ := Option.bind_eq_some_iff.mp hs
      refine ⟨_, _, rfl, B, F, ρ, _, false, ρ1, e, s, sm, by unfold RsO; simpa using r1, q1, fun σ1 H1 e1 s1 k1 => ?_⟩
      refine ⟨B, F, ρ1, _, ρ', e1, s1, sm, r2, q2, fun σ2 H2 e2 s2 k2 => q σ2 H2 e2 s2 ?_⟩
      unfold tsls
      exact k1.trans k2
  | [], _ :: _, _, h => by unfold mtgs at h; cases h
  | _ :: _, [], _, h => by unfold mtgs at h; cases h
end
end
end BV

/-! BvL: locks, a block's own names, comprehensions. -/
namespace BV
open PySem L2 PySem.Spec PyProof.Rows
theorem set_map {ρ : Rho} {i j : Nat} {f : Cell → Cell} : (ρ.set j (f (ρ[j]?.getD .un)))[i]? = if i = j then (ρ[i]?).map f else ρ[i]? := by
  by_cases h : i = j
  · subst h
    rw [if_pos rfl]
    by_cases hl : i < ρ.length
    · rw [List.getElem?_set_self hl, List.getElem?_eq_getElem hl]
      rfl
    · rw [List.getElem?_eq_none (by simpa using hl), List.getElem?_eq_none (by simpa using hl)]
      rfl
  · rw [if_neg h, List.getElem?_set_ne (Ne.symm h)]
theorem lock_lock (c : Cell) : c.lock.lock = c.lock := by cases c <;> rfl
theorem unl_unl (c0 c : Cell) : unl c0 (unl c0 c) = unl c0 c := by
  cases c0 <;> first | rfl | skip
  all_goals (cases c <;> first | rfl | (rename_i b d; cases b <;> rfl))
theorem locks_get : ∀ {as : List Ag} {ρ : Rho} {i : Nat}, (locks ρ as)[i]? = if i ∈ pks as then (ρ[i]?).map Cell.lock else ρ[i]?
  | [], ρ, i => by simp [locks, pks]
  | .vl d :: r, ρ, i => by rw [locks, pks, locks_get]
  | .pk j :: r, ρ, i => by
    rw [locks, pks, locks_get, set_map]
    by_cases h1 : i ∈ pks r
    · rw [if_pos h1, if_pos (List.mem_cons_of_mem _ h1)]
      by_cases h2 : i = j
      · rw [if_pos h2, Option.map_map]
        congr 1
        funext c
        exact lock_lock c
      · rw [if_neg h2]
    · rw [if_neg h1]
      by_cases h2 : i = j
      · rw [if_pos h2, if_pos (by rw [h2]; exact List.mem_cons_self)]
      · rw [if_neg h2, if_neg (by simp [h1, h2])]
theorem unlocks_get {ρ0 : Rho} : ∀ {as : List Ag} {ρ : Rho} {i : Nat}, (unlocks ρ ρ0 as)[i]? = if i ∈ pks as then (ρ[i]?).map (unl (ρ0[i]?.getD .un)) else ρ[i]?
  | [], ρ, i => by simp [unlocks, pks]
  | .vl d :: r, ρ, i => by rw [unlocks, pks, unlocks_get]
  | .pk j :: r, ρ, i => by
    rw [unlocks, pks, unlocks_get, set_map]
    by_cases h1 : i ∈ pks r
    · rw [if_pos h1, if_pos (List.mem_cons_of_mem _ h1)]
      by_cases h2 : i = j
      · subst h2
        rw [if_pos rfl, Option.map_map]
        congr 1
        funext c
        exact unl_unl _ c
      · rw [if_neg h2]
    · rw [if_neg h1]
      by_cases h2 : i = j
      · subst h2
        rw [if_pos rfl, if_pos List.mem_cons_self]
      · rw [if_neg h2, if_neg (by simp [h1, h2])]
theorem wiped_get : ∀ {own : List Nat} {ρ : Rho} {i : Nat}, (wiped ρ own)[i]? = if i ∈ own then (ρ[i]?).map (fun _ => Cell.un) else ρ[i]?
  | [], ρ, i => by simp [wiped]
  | j :: r, ρ, i => by
    have e : wiped ρ (j :: r) = wiped (ρ.set j ((fun _ => Cell.un) (ρ[j]?.getD .un))) r := rfl
    rw [e, wiped_get, set_map (f := fun _ => Cell.un)]
    by_cases h1 : i ∈ r
    · rw [if_pos h1, if_pos (List.mem_cons_of_mem _ h1)]
      by_cases h2 : i = j
      · rw [if_pos h2, Option.map_map]; rfl
      · rw [if_neg h2]
    · rw [if_neg h1]
      by_cases h2 : i = j
      · rw [if_pos h2, if_pos (by rw [h2]; exact List.mem_cons_self)]
      · rw [if_neg h2, if_neg (by simp [h1, h2])]
theorem putsAt_get {ρ0 : Rho} : ∀ {own : List Nat} {ρ : Rho} {i : Nat}, (putsAt ρ ρ0 own)[i]? = if i ∈ own then (ρ[i]?).map (fun _ => ρ0[i]?.getD .un) else ρ[i]?
  | [], ρ, i => by simp [putsAt]
  | j :: r, ρ, i => by
    have e : putsAt ρ ρ0 (j :: r) = putsAt (ρ.set j ((fun _ => ρ0[j]?.getD .un) (ρ[j]?.getD .un))) ρ0 r := rfl
    rw [e, putsAt_get, set_map (f := fun _ => ρ0[j]?.getD Cell.un)]
    by_cases h1 : i ∈ r
    · rw [if_pos h1, if_pos (List.mem_cons_of_mem _ h1)]
      by_cases h2 : i = j
      · rw [if_pos h2, Option.map_map]; rfl
      · rw [if_neg h2]
    · rw [if_neg h1]
      by_cases h2 : i = j
      · subst h2
        rw [if_pos rfl, if_pos List.mem_cons_self]
      · rw [if_neg h2, if_neg (by simp [h1, h2])]
theorem len_get {α β : Type} {xs : List α} {ys : List β} (h : ∀ i : Nat, (xs[i]?).isSome = (ys[i]?).isSome) : xs.length = ys.length := by
  have h1 := h xs.length
  have h2 := h ys.length
  simp at h1 h2
  omega
theorem locks_len {ρ : Rho} {as : List Ag} : (locks ρ as).length = ρ.length := len_get fun i => by
  rw [locks_get]; split <;> simp
theorem unlocks_len {ρ ρ0 : Rho} {as : List Ag} : (unlocks ρ ρ0 as).length = ρ.length := len_get fun i => by
  rw [unlocks_get]; split <;> simp
theorem wiped_len {ρ : Rho} {own : List Nat} : (wiped ρ own).length = ρ.length := len_get fun i => by
  rw [wiped_get]; split <;> simp
theorem putsAt_len {ρ ρ0 : Rho} {own : List Nat} : (putsAt ρ ρ0 own).length = ρ.length := len_get fun i => by
  rw [putsAt_get]; split <;> simp
theorem noOwn_at {ρ : Rho} : ∀ {own : List Nat} {i : Nat} {c : Cell}, noOwn ρ own = true → i ∈ own → ρ[i]? = some c → c = .un ∨ ∃ d, c = .fz d
  | [], _, _, _, h, _ => nomatch h
  | j :: r, i, c, h, hm, hc => by
    unfold noOwn at h
    rw [Bool.and_eq_true] at h
    rcases List.mem_cons.mp hm with e | hm
    · subst e
      have h1 := h.1
      rw [hc] at h1
      cases c <;> first | exact .inl rfl | exact .inr ⟨_, rfl⟩ | cases h1
    · exact noOwn_at h.2 hm hc
section
variable {K : PySem.W.Frag} {F H F1 H1 : Hp} {σ σ1 σ2 : Sg} {ρ ρ1 : Rho} {as : List Ag} {own : List Nat}
theorem lock_fr (c : Cell) : c.lock.fr = c.fr := by cases c <;> rfl
theorem lock_on (c : Cell) : c.lock.on = c.on := by cases c <;> rfl
theorem unl_fr (c0 c : Cell) : (unl c0 c).fr = c.fr := by
  cases c0 <;> first | rfl | skip
  all_goals (cases c <;> first | rfl | (rename_i b d; cases b <;> rfl))
theorem unl_on (c0 c : Cell) : (unl c0 c).on = c.on := by
  cases c0 <;> first | rfl | skip
  all_goals (cases c <;> first | rfl | (rename_i b d; cases b <;> rfl))
/-- cells that hold the same -/
def Alike (ρ ρ' : Rho) : Prop := ρ'.length = ρ.length ∧ ∀ (i : Nat) (c' : Cell), ρ'[i]? = some c' → ∃ c, ρ[i]? = some c ∧ c'.fr = c.fr ∧ c'.on = c.on
theorem Alike.symm {ρ ρ' : Rho} (h : Alike ρ ρ') : Alike ρ' ρ := ⟨h.1.symm, fun i c hc => by
  have hl : i < ρ'.length := by rw [h.1]; exact (List.getElem?_eq_some_iff.mp hc).1
  obtain ⟨c2, h1, h2, h3⟩ := h.2 i _ (List.getElem?_eq_getElem hl)
  rw [hc] at h1; cases h1
  exact ⟨_, List.getElem?_eq_getElem hl, h2.symm, h3.symm⟩⟩
theorem Alike.onA {ρ ρ' : Rho} (h : Alike ρ ρ') {a : Addr} (q : OnA σ ρ' a) : OnA σ ρ a := by
  obtain ⟨i, c, h1, h2, h3⟩ := q
  obtain ⟨c2, q1, q2, q3⟩ := h.2 i c h1
  exact ⟨i, c2, q1, by rw [← q3]; exact h2, h3⟩
theorem EnvR.alike {ρ' : Rho} (e : EnvR K F H σ ρ) (h : Alike ρ ρ') : EnvR K F H σ ρ' := by
  refine ⟨e.sub, by rw [h.1]; exact e.len, fun i c d h1 h2 => ?_, fun i c d h1 h2 => ?_, fun i j c c' a h1 h2 h3 h4 h5 h6 => ?_⟩
  · obtain ⟨x, q1, q2, q3⟩ := h.2 i c h1
    exact e.fr i x d q1 (by rw [← q2]; exact h2)
  · obtain ⟨x, q1, q2, q3⟩ := h.2 i c h1
    exact e.on i x d q1 (by rw [← q3]; exact h2)
  · obtain ⟨x, q1, q2, q3⟩ := h.2 i c h1
    obtain ⟨y, p1, p2, p3⟩ := h.2 j c' h2
    exact e.ap i j x y a q1 p1 (by rw [← q3]; exact h3) (by rw [← p3]; exact h4) h5 h6
theorem alike_locks : Alike ρ (locks ρ as) := ⟨locks_len, fun i c h => by
  rw [locks_get] at h
  split at h
  · obtain ⟨x, h1, h2⟩ := Option.map_eq_some_iff.mp h
    exact ⟨x, h1, by rw [← h2, lock_fr], by rw [← h2, lock_on]⟩
  · exact ⟨c, h, rfl, rfl⟩⟩
theorem alike_unlocks : Alike ρ (unlocks ρ ρ1 as) := ⟨unlocks_len, fun i c h => by
  rw [unlocks_get] at h
  split at h
  · obtain ⟨x, h1, h2⟩ := Option.map_eq_some_iff.mp h
    exact ⟨x, h1, by rw [← h2, unl_fr], by rw [← h2, unl_on]⟩
  · exact ⟨c, h, rfl, rfl⟩⟩
theorem unl_evo {c x : Cell} (h : Evo c.lock x) : Evo c (unl c x) ∧ (c.pin = true → c.lock.pin = true) := by
  refine ⟨?_, fun q => by cases c <;> first | rfl | cases q⟩
  cases c with
  | un =>
    have h : x.pin = false := h
    show (x.unlock).pin = false
    cases x <;> first | exact h | (rename_i b d; exact absurd h (by simp [Cell.pin]))
  | fz d =>
    have h : x.pin = false := h
    show (x.unlock).pin = false
    cases x <;> first | exact h | (rename_i b d; exact absurd h (by simp [Cell.pin]))
  | ow d =>
    have h : x = .lk false d := h
    subst h
    rfl
  | pr d =>
    have h : x = .lk true d := h
    subst h
    exact ⟨d, .inl rfl⟩
  | pz d =>
    have h : x = .pz d := h
    subst h
    rfl
  | lk b d => exact h
theorem Stp.unlock (s : Stp F1 H1 σ1 (locks ρ1 as) F H σ2 ρ) : Stp F1 H1 σ1 ρ1 F H σ2 (unlocks ρ ρ1 as) := by
  refine ⟨s.ext, fun a o h n q => s.frm a o h n fun z => q (alike_locks.onA z), fun a q => ?_, fun i c h => ?_, by rw [unlocks_len, s.ln, locks_len]⟩
  · rcases s.new a (alike_unlocks.onA q) with z | z
    · exact .inl (alike_locks.onA z)
    · exact .inr z
  · by_cases hi : i ∈ pks as
    · obtain ⟨x, h1, h2, h3⟩ := s.pin i c.lock (by rw [locks_get, if_pos hi, h]; rfl)
      obtain ⟨g1, g2⟩ := unl_evo h2
      refine ⟨unl c x, ?_, g1, fun q => h3 (g2 q)⟩
      rw [unlocks_get, if_pos hi, h1, h]
      rfl
    · obtain ⟨x, h1, h2, h3⟩ := s.pin i c (by rw [locks_get, if_neg hi]; exact h)
      exact ⟨x, by rw [unlocks_get, if_neg hi]; exact h1, h2, h3⟩
theorem Stp.unlocked {c : Cell} : True := trivial
/-- what is walked over stays as it was -/
theorem walk_keep (e1 : EnvR K F1 H1 σ ρ1) (e : EnvR K F H σ2 ρ) : ∀ {vs : List V} {bs : List Ag} {ds : List D}, AgR K F1 σ vs bs → gets ρ1 bs = some ds → (∀ i ∈ pks bs, i ∈ pks as) → Stp F1 H1 σ (locks ρ1 as) F H σ2 ρ → NRL K F H vs ds
  | _, _, _, .nil, h, _, _ => by cases h; exact .nil
  | _, _, _, .vl (d := d) (as := as') r a, h, hm, s => by
    rw [gets] at h
    obtain ⟨d', h1, h2⟩ := Option.bind_eq_some_iff.mp h
    obtain ⟨ds', h3, h4⟩ := Option.map_eq_some_iff.mp h2
    subst h4
    have h1 : some d = some d' := h1
    cases h1
    exact .cons (.inl (r.mono s.ext)) (walk_keep e1 e a h3 hm s)
  | _, _, _, .pk (i := i) (v := v) hi a, h, hm, s => by
    rw [gets] at h
    obtain ⟨d', h1, h2⟩ := Option.bind_eq_some_iff.mp h
    obtain ⟨ds', h3, h4⟩ := Option.map_eq_some_iff.mp h2
    subst h4
    refine .cons ?_ (walk_keep e1 e a h3 (fun j hj => hm j (List.mem_cons_of_mem _ hj)) s)
    obtain ⟨c, g1, g2⟩ := getD_some rfl (show (ρ1[i]?.getD .un).val = some d' from h1)
    rcases val_cases g2 with g3 | g3
    · obtain ⟨u, q1, q2⟩ := e1.fr i c d' g1 g3
      rw [hi] at q1; cases q1
      exact .inl (q2.mono s.ext)
    · have hip := hm i List.mem_cons_self
      obtain ⟨x, q1, q2, q3⟩ := s.pin i c.lock (by rw [locks_get, if_pos hip, g1]; rfl)
      have key : c.lock.pin = true ∧ x.on = some d' := by
        cases c <;> first | (cases g3; done) | skip
        all_goals
          cases g3
          have q2 : x = .lk _ d' := q2
          subst q2
          exact ⟨rfl, rfl⟩
      obtain ⟨a', p1, p2, p3⟩ := e.on i x d' q1 key.2
      rw [q3 key.1, hi] at p1
      cases p1
      exact .inr ⟨a', rfl, p3⟩
/-! ### a block's own names -/
theorem wipe_get {i : Nat} {vs : List Nat} : (wipe σ vs)[i]? = if i ∈ vs then (σ[i]?).map (fun _ => none) else σ[i]? := by
  by_cases h : i ∈ vs
  · rw [if_pos h]
    have hl := wipe_length σ vs
    cases e : σ[i]? with
    | none =>
      rw [List.getElem?_eq_none_iff] at e
      exact List.getElem?_eq_none (by omega)
    | some x =>
      have hi := (List.getElem?_eq_some_iff.mp e).1
      have hi' : i < (wipe σ vs).length := by omega
      rw [List.getElem?_eq_getElem hi']
      cases q : (wipe σ vs)[i] with
      | none => rfl
      | some y => exact absurd h (wipe_some (vs := vs) (by rw [List.getElem?_eq_getElem hi', q])).2
  · rw [if_neg h, wipe_out h]
theorem wipe_eq {σ' : Sg} (h : keepOut own σ σ') : wipe σ' own = wipe σ own := by
  refine List.ext_getElem? fun i => ?_
  rw [wipe_get, wipe_get]
  by_cases hi : i ∈ own
  · rw [if_pos hi, if_pos hi]
    by_cases hl : i < σ.length
    · rw [List.getElem?_eq_getElem hl, List.getElem?_eq_getElem (by rw [h.1]; exact hl)]
      rfl
    · rw [List.getElem?_eq_none (by have := h.1; omega), List.getElem?_eq_none (by omega)]
  · rw [if_neg hi, if_neg hi, h.2 i hi]
theorem keep_wipe : keepOut own σ (wipe σ own) := ⟨wipe_length _ _, fun i hi => wipe_out hi⟩
theorem wiped_out {i : Nat} {c : Cell} (h : (wiped ρ own)[i]? = some c) (n : c ≠ .un) : i ∉ own ∧ ρ[i]? = some c := by
  rw [wiped_get] at h
  split at h
  · obtain ⟨x, h1, h2⟩ := Option.map_eq_some_iff.mp h
    exact absurd h2.symm n
  · exact ⟨by assumption, h⟩
theorem fr_un {c : Cell} {d : D} (h : c.fr = some d) : c ≠ .un := fun e => by subst e; cases h
theorem on_un {c : Cell} (h : c.on.isSome = true) : c ≠ .un := fun e => by subst e; cases h
/-- the own names forgotten -/
theorem EnvR.wiped (e : EnvR K F H σ2 ρ) (hk : keepOut own σ2 σ) : EnvR K F H σ (wiped ρ own) := by
  refine ⟨e.sub, by rw [wiped_len, e.len, hk.1], fun i c d h1 h2 => ?_, fun i c d h1 h2 => ?_, fun i j c c' a h1 h2 h3 h4 h5 h6 => ?_⟩
  · obtain ⟨q1, q2⟩ := wiped_out h1 (fr_un h2)
    rw [hk.2 i q1]
    exact e.fr i c d q2 h2
  · obtain ⟨q1, q2⟩ := wiped_out h1 (on_un (by rw [h2]; rfl))
    rw [hk.2 i q1]
    exact e.on i c d q2 h2
  · obtain ⟨q1, q2⟩ := wiped_out h1 (on_un h3)
    obtain ⟨p1, p2⟩ := wiped_out h2 (on_un h4)
    rw [hk.2 i q1] at h5
    rw [hk.2 j p1] at h6
    exact e.ap i j c c' a q2 p2 h3 h4 h5 h6
theorem wiped_onA (hk : keepOut own σ2 σ) {a : Addr} (h : OnA σ (wiped ρ own) a) : OnA σ2 ρ a := by
  obtain ⟨i, c, h1, h2, h3⟩ := h
  obtain ⟨q1, q2⟩ := wiped_out h1 (on_un h2)
  rw [hk.2 i q1] at h3
  exact ⟨i, c, q2, h2, h3⟩
theorem Stp.wiped (s : Stp F1 H1 σ (BV.wiped ρ1 own) F H σ2 ρ) (hk : keepOut own σ2 σ) : Stp F1 H1 σ (BV.wiped ρ1 own) F H σ (BV.wiped ρ own) := by
  refine ⟨s.ext, s.frm, fun a q => s.new a (wiped_onA hk q), fun i c h => ?_, by rw [wiped_len, s.ln]⟩
  obtain ⟨x, h1, h2, h3⟩ := s.pin i c h
  by_cases hi : i ∈ own
  · have hc : c = .un := by
      rw [wiped_get, if_pos hi] at h
      obtain ⟨_, _, h5⟩ := Option.map_eq_some_iff.mp h
      exact h5.symm
    subst hc
    exact ⟨.un, by rw [wiped_get, if_pos hi, h1]; rfl, rfl, fun q => by cases q⟩
  · refine ⟨x, by rw [wiped_get, if_neg hi]; exact h1, h2, fun q => ?_⟩
    rw [hk.2 i hi]
/-- .. and had again -/
theorem unwipe (e1 : EnvR K F1 H1 σ ρ1) (no : noOwn ρ1 own = true) (e : EnvR K F H (wipe σ own) (wiped ρ own)) (s : Stp F1 H1 (wipe σ own) (wiped ρ1 own) F H (wipe σ own) (wiped ρ own)) :
    EnvR K F H σ (putsAt ρ ρ1 own) ∧ Stp F1 H1 σ ρ1 F H σ (putsAt ρ ρ1 own) ∧ ∀ a, OnA σ (putsAt ρ ρ1 own) a → OnA (wipe σ own) (BV.wiped ρ own) a := by
  have hl : ρ.length = ρ1.length := by have := s.ln; rw [wiped_len, wiped_len] at this; exact this
  have at_own : ∀ {i : Nat} {c : Cell}, i ∈ own → (putsAt ρ ρ1 own)[i]? = some c → ρ1[i]? = some c := fun {i c} hi h => by
    rw [putsAt_get, if_pos hi] at h
    obtain ⟨x, h1, h2⟩ := Option.map_eq_some_iff.mp h
    have : i < ρ1.length := by rw [← hl]; exact (List.getElem?_eq_some_iff.mp h1).1
    rw [List.getElem?_eq_getElem this] at h2 ⊢
    exact congrArg some h2
  have at_out : ∀ {i : Nat} {c : Cell}, i ∉ own → (putsAt ρ ρ1 own)[i]? = some c → (wiped ρ own)[i]? = some c := fun {i c} hi h => by
    rw [putsAt_get, if_neg hi] at h
    rw [wiped_get, if_neg hi]
    exact h
  have no_on : ∀ {i : Nat} {c : Cell}, i ∈ own → (putsAt ρ ρ1 own)[i]? = some c → c.on = none := fun {i c} hi h => by
    rcases noOwn_at no hi (at_own hi h) with q | ⟨d, q⟩ <;> (subst q; rfl)
  have onI : ∀ {a : Addr}, OnA σ (putsAt ρ ρ1 own) a → OnA (wipe σ own) (wiped ρ own) a := fun {a} q => by
    obtain ⟨i, c, h1, h2, h3⟩ := q
    by_cases hi : i ∈ own
    · rw [no_on hi h1] at h2; cases h2
    · exact ⟨i, c, at_out hi h1, h2, by rw [wipe_out hi]; exact h3⟩
  refine ⟨⟨e.sub, by rw [putsAt_len, hl, e1.len], fun i c d h1 h2 => ?_, fun i c d h1 h2 => ?_, fun i j c c' a h1 h2 h3 h4 h5 h6 => ?_⟩, ⟨s.ext, fun a o h n q => s.frm a o h n fun z => q (wiped_onA keep_wipe z), fun a q => ?_, fun i c h => ?_, by rw [putsAt_len, hl]⟩, fun a => onI⟩
  · by_cases hi : i ∈ own
    · obtain ⟨v, q1, q2⟩ := e1.fr i c d (at_own hi h1) h2
      exact ⟨v, q1, q2.mono s.ext⟩
    · obtain ⟨v, q1, q2⟩ := e.fr i c d (at_out hi h1) h2
      exact ⟨v, by rw [← wipe_out hi]; exact q1, q2⟩
  · by_cases hi : i ∈ own
    · rw [no_on hi h1] at h2; cases h2
    · obtain ⟨v, q1, q2⟩ := e.on i c d (at_out hi h1) h2
      exact ⟨v, by rw [← wipe_out hi]; exact q1, q2⟩
  · by_cases hi : i ∈ own
    · rw [no_on hi h1] at h3; cases h3
    · by_cases hj : j ∈ own
      · rw [no_on hj h2] at h4; cases h4
      · exact e.ap i j c c' a (at_out hi h1) (at_out hj h2) h3 h4 (by rw [wipe_out hi]; exact h5) (by rw [wipe_out hj]; exact h6)
  · rcases s.new a (onI q) with z | z
    · exact .inl (wiped_onA keep_wipe z)
    · exact .inr z
  · by_cases hi : i ∈ own
    · have hlt : i < ρ.length := by rw [hl]; exact (List.getElem?_eq_some_iff.mp h).1
      exact ⟨c, by rw [putsAt_get, if_pos hi, List.getElem?_eq_getElem hlt, h]; rfl, Evo.refl c, fun _ => rfl⟩
    · obtain ⟨x, h1, h2, h3⟩ := s.pin i c (by rw [wiped_get, if_neg hi]; exact h)
      exact ⟨x, by rw [putsAt_get, if_neg hi]; rw [wiped_get, if_neg hi] at h1; exact h1, h2, fun _ => rfl⟩
/-- the item of a turn -/
theorem yd_step {d : D} {x : V} {H' : Hp} {H0 F0 : Hp} {ρ0 : Rho} (e : EnvR K F H σ ρ) (s : Stp F0 H0 σ ρ0 F H σ ρ) (y : YD K F d x H H') : ∃ F', EnvR K F' H' σ ρ ∧ Stp F0 H0 σ ρ0 F' H' σ ρ ∧ Rep K F' x d ∧ Same F F' := by
  rcases y with ⟨rfl, r⟩ | ⟨T, v1, v2, d1, d2, rfl, hT, rfl, rfl, r1, r2⟩
  · exact ⟨F, e, s, r, Same.refl _⟩
  · have sm := same_upd (o := .tup [v1, v2]) (e.noF hT)
    exact ⟨_, e.allocF hT, s.allocF (e.noF hT) hT, .tup (SqT.of upd_same) (.cons (r1.mono sm) (.cons (r2.mono sm) .nil)), sm⟩
end
end BV

/-! BvLc: comprehensions. -/
namespace BV
open PySem L2 PySem.Spec PyProof.Rows
def W0 : WX := fun _ _ _ _ => False
def tCl (U : Sur) (W : WX) (cns : List E) : TT := fun σ H Q => ∃ F ρ, EnvR U.K F H σ ρ ∧ Ans U W F H σ ρ (evc U.cs cns ρ) fun b _ _ H' => Q b H'
def lcStep (cs : CS) (own : List Nat) (t : T) (cns : List E) (elt : E) (x : D) (ρ2 : Rho) : R (Option D) := match stt t x false (wiped ρ2 own) with
  | some ρ3 => (evc cs cns ρ3).bind fun b ρ4 => if b then (ev cs elt ρ4).bind fun v ρ5 => .ok (some v.1) ρ5 else .ok none ρ4
  | none => .no
theorem lcStep_none {cs : CS} {own : List Nat} {t : T} {cns : List E} {elt : E} {x : D} {ρ2 : Rho} (h : stt t x false (wiped ρ2 own) = none) : lcStep cs own t cns elt x ρ2 = .no := by
  unfold lcStep
  rw [h]
theorem lcStep_some {cs : CS} {own : List Nat} {t : T} {cns : List E} {elt : E} {x : D} {ρ2 ρ3 : Rho} (h : stt t x false (wiped ρ2 own) = some ρ3) :
    lcStep cs own t cns elt x ρ2 = (evc cs cns ρ3).bind fun b ρ4 => if b then (ev cs elt ρ4).bind fun v ρ5 => .ok (some v.1) ρ5 else .ok none ρ4 := by
  unfold lcStep
  rw [h]
section
variable {X : Cx} {U : Sur} {W : WX} {m : Mk0} {k : Nat} {σ : Sg} {H : Hp}
theorem own_of {N : List Str} : ∀ {own : List Nat}, (ownOf N own).map (·.2) = own
  | [] => rfl
  | i :: r => by
    have := @own_of N r
    unfold ownOf at this ⊢
    rw [List.map_cons, List.map_cons, this]
theorem keep_sub {t own : List Nat} {σ σ' : Sg} (h : keepOut t σ σ') (hs : t.all own.contains = true) : keepOut own σ σ' :=
  ⟨h.1, fun i hi => h.2 i fun z => hi (List.contains_iff_mem.mp (List.all_eq_true.mp hs i z))⟩
theorem lc_tr {own : List Nat} {t : T} {kk : IK} {es cns : List E} {elt : E} {Q : VK} (hts : (tsl t).all own.contains = true) (h : tD U W (.lc own t kk es cns elt) σ H Q) :
    tLc (tI U W kk es) (gD U t) (tCl U W0 cns) (tD U W0 elt) own σ H Q := by
  obtain ⟨F, ρ, er, h⟩ := h
  rw [ev] at h
  refine ⟨F, ρ, er, h.bind2 fun as ρ1 F1 H1 hk e1 s1 vs hv => ?_⟩
  clear h
  cases h1 : (gets ρ1 as).bind kk.sem with
  | none => rw [h1] at hk; exact hk.elim
  | some xs =>
  cases no : noOwn (locks ρ1 as) own with
  | false => rw [h1, no] at hk; exact hk.elim
  | true =>
  rw [h1, no] at hk
  obtain ⟨ds, g1, g2⟩ := Option.bind_eq_some_iff.mp h1
  refine ⟨ds, xs, g1, g2, fun J hJ L hL => ?_⟩
  have hk : Ans U W F H σ ρ ((lcGo (lcStep U.cs own t cns elt) xs [] (locks ρ1 as)).only fun acc ρ6 => .ok (D.lst acc, true) (unlocks (putsAt ρ6 (locks ρ1 as) own) ρ1 as)) fun r ρ' F' H' => ∀ v, Res U.K H ρ F' H' σ ρ' v r.1 r.2 → Q v H' := hk
  generalize hR : lcGo (lcStep U.cs own t cns elt) xs [] (locks ρ1 as) = RES at hk
  have eL : EnvR U.K F1 H1 σ (locks ρ1 as) := e1.alike alike_locks
  have eB : EnvR U.K F1 H1 (wipe σ own) (wiped (locks ρ1 as) own) := eL.wiped keep_wipe
  -- what holds at each turn
  let Wv : Nat → Nat → Hp → Prop := fun i n H' => ∃ F' ρ' acc accV, n = xs.length - i ∧ i ≤ xs.length ∧ EnvR U.K F' H' (wipe σ own) (wiped ρ' own) ∧ Stp F1 H1 (wipe σ own) (wiped (locks ρ1 as) own) F' H' (wipe σ own) (wiped ρ' own) ∧
    Held F' H' (wipe σ own) (wiped ρ' own) L (.lst accV) ∧ RepL U.K F' accV acc ∧ lcGo (lcStep U.cs own t cns elt) (xs.drop i) acc ρ' = RES
  refine ⟨Wv, ⟨xs.length, F1, locks ρ1 as, [], [], by simp, Nat.zero_le _, eB.alloc hL, (Stp.refl ..).alloc hL, ⟨upd_same, eB.noF hL, eB.noOn hL⟩, .nil, by simpa using hR⟩, ?_⟩
  rintro i n H' ⟨F', ρ', acc, accV, rfl, hi, e', s', hd, ra, hgo⟩
  have nr : NRL U.K F' H' vs ds := by
    obtain ⟨eu, su, nu⟩ := unwipe eL no e' s'
    exact walk_keep e1 eu hv g1 (fun _ z => z) su
  by_cases hlt : i < xs.length
  · refine .inr ⟨hJ.go F' H' i hlt e'.sub nr, fun H2 => Wv (i + 1) (xs.length - (i + 1)) H2, fun H2 w => ⟨_, by omega, w⟩, fun x H2 y => ?_⟩
    obtain ⟨d, hd1, yd⟩ := hJ.yld F' H' i x H2 hlt e'.sub nr y
    obtain ⟨F2, e2, s2, rx, sm2⟩ := yd_step e' (Stp.refl ..) yd
    have hdr : xs.drop i = d :: xs.drop (i + 1) := by
      rw [List.drop_eq_getElem_cons hlt]
      rw [List.getElem?_eq_getElem hlt] at hd1
      cases hd1
      rfl
    rw [hdr] at hgo
    have hgo : (lcStep U.cs own t cns elt d ρ').bind (fun o ρ1 => match o with | some d => if acc.length < LIM then lcGo (lcStep U.cs own t cns elt) (xs.drop (i + 1)) (acc ++ [d]) ρ1 else .no | none => lcGo (lcStep U.cs own t cns elt) (xs.drop (i + 1)) acc ρ1) = RES := hgo
    cases hst : stt t d false (wiped ρ' own) with
    | none => rw [lcStep_none hst] at hgo; rw [← hgo] at hk; exact hk.elim
    | some ρ3 =>
      rw [lcStep_some hst] at hgo
      refine ⟨⟨F2, H2, wipe σ own, wiped ρ' own⟩, F2, wiped ρ' own, d, false, ρ3, e2, Stp.refl .., e2.sub, by unfold RsO; simpa using rx, hst, fun σ3 H3 e3 s3 k3 => ?_⟩
      have kO := keep_sub k3 hts
      refine ⟨by rw [wipe_eq kO]; exact wipe_eq keep_wipe, F2, ρ3, e3, ?_⟩
      have hd3 := (hd.step s2).step s3
      have sB3 := (s'.trans s2 e'.sub).trans s3 e2.sub
      -- the end of a turn
      have fin : ∀ {F5 H5 ρ5 acc' accV'}, EnvR U.K F5 H5 σ3 ρ5 → Stp F1 H1 (wipe σ own) (wiped (locks ρ1 as) own) F5 H5 σ3 ρ5 → Held F5 H5 σ3 ρ5 L (.lst accV') → RepL U.K F5 accV' acc' → lcGo (lcStep U.cs own t cns elt) (xs.drop (i + 1)) acc' ρ5 = RES → Wv (i + 1) (xs.length - (i + 1)) H5 := fun {F5 H5 ρ5 acc' accV'} e5 s5 h5 r5 g5 => by
        have kk : keepOut own σ3 (wipe σ own) := ⟨kO.1.symm, fun j hj => (kO.2 j hj).symm⟩
        exact ⟨F5, ρ5, acc', accV', rfl, hlt, e5.wiped kk, s5.wiped kk, ⟨h5.at_, h5.non, fun z => h5.off (wiped_onA kk z)⟩, r5, g5⟩
      cases hc : evc U.cs cns ρ3 with
      | no => rw [hc] at hgo; rw [← hgo] at hk; exact hk.elim
      | ex z _ => rw [hc] at hgo; rw [← hgo] at hk; exact hk.elim
      | ok b ρ4 =>
        rw [hc] at hgo
        intro F4 H4 e4 s4
        have hd4 := hd3.step s4
        have sB4 := sB3.trans s4 e3.sub
        cases b with
        | false =>
          have hgo : lcGo (lcStep U.cs own t cns elt) (xs.drop (i + 1)) acc ρ4 = RES := hgo
          show if false = true then _ else _
          rw [if_neg Bool.false_ne_true]
          exact fin e4 sB4 hd4 (((ra.mono sm2).mono s3.ext).mono s4.ext) hgo
        | true =>
          show if true = true then _ else _
          rw [if_pos rfl]
          refine ⟨F4, ρ4, e4, ?_⟩
          have hgo : ((ev U.cs elt ρ4).bind fun v ρ5 => R.ok (some v.1) ρ5).bind (fun o ρ1 => match o with | some d => if acc.length < LIM then lcGo (lcStep U.cs own t cns elt) (xs.drop (i + 1)) (acc ++ [d]) ρ1 else .no | none => lcGo (lcStep U.cs own t cns elt) (xs.drop (i + 1)) acc ρ1) = RES := hgo
          cases hv5 : ev U.cs elt ρ4 with
          | no => rw [hv5] at hgo; rw [← hgo] at hk; exact hk.elim
          | ex z _ => rw [hv5] at hgo; rw [← hgo] at hk; exact hk.elim
          | ok v5 ρ5 =>
            rw [hv5] at hgo
            have hgo : (if acc.length < LIM then lcGo (lcStep U.cs own t cns elt) (xs.drop (i + 1)) (acc ++ [v5.1]) ρ5 else .no) = RES := hgo
            intro F5 H5 e5 s5 y hy
            obtain ⟨F6, e6, s6, r6, sm6⟩ := hy.froze e5 s5
            have hd6 := hd4.step s6
            by_cases hl : acc.length < LIM
            · rw [if_pos hl] at hgo
              have rv := (((ra.mono sm2).mono s3.ext).mono s4.ext).mono s6.ext
              refine ⟨accV, hd6.at_, by rw [rv.length]; exact Nat.lt_of_lt_of_le hl (lim_line (Nat.le_refl _)), ?_⟩
              have n1 : H1 L = none := hL
              exact fin (e6.poke hd6) ((sB4.trans s6 e4.sub).poke n1) hd6.poke (rv.append (.cons r6 .nil)) hgo
            · rw [if_neg hl] at hgo; rw [← hgo] at hk; exact hk.elim
  · have ei : i = xs.length := by omega
    subst ei
    refine .inl ⟨hJ.stop F' H' e'.sub nr, ?_⟩
    rw [List.drop_length] at hgo
    have hgo : R.ok acc ρ' = RES := hgo
    rw [← hgo] at hk
    obtain ⟨eu, su, nu⟩ := unwipe eL no e' s'
    have e9 := eu.alike (alike_unlocks (ρ1 := ρ1) (as := as))
    have s9 := s1.trans su.unlock e1.sub
    refine hk F' H' e9 s9 (.ref L) ?_
    unfold Res
    rw [if_pos rfl]
    exact ⟨L, rfl, hd.non, fun z => hd.off (nu L (alike_unlocks.onA z)), by rw [hd.at_]; exact ⟨accV, rfl, ra⟩, s1.org e1.sub (.inr hL)⟩
end
end BV

/-! BvS: every expression. -/
namespace BV
open PySem L2 PySem.Spec PyProof.Rows
section
variable {U : Sur} {m : Mk0} {k : Nat}
theorem Ctx.blk {X : Cx} {W : WX} (C : Ctx U m k X W) {s : Shared} {H : Hp} {scope : Scope} {ce : PySem.Env} {fp : List Addr} : Ctx U m k (X.blk s H scope ce fp) W0 :=
  ⟨C.K, C.mg, C.gn, C.xsU, C.calm, C.hd, C.nd, takes0, C.room, C.glob, C.dcts, C.fns, C.bu, C.cl, C.mts, C.xmk⟩
theorem so_blk {X : Cx} {s : Shared} {H : Hp} {scope : Scope} {C : Addr} {cl : List (Str × Addr)} {fp : List Addr} : StOk (X.blk s H scope (compEnvC scope cl C X.env) fp) scope := fun x h => by
  rcases h with h | h
  · have q := lookup_relS_keep (sc := X.env.scope) (by decide) h
    exact ⟨.inl q, .inr q⟩
  · have q := lookup_relS_keep (sc := X.env.scope) (by decide) h
    exact ⟨.inr q, .inl (by show (scope.names.lookup x == some .cell) = true; rw [h]; rfl)⟩
theorem const_ok {X : Cx} {W : WX} {x : Expr} {e : E} {v : V} {d : D} (hx : PE X x (tC v)) (he : ∀ ρ, ev U.cs e ρ = .ok (d, false) ρ) (r : ∀ F, Rep U.K F v d) : PE X x (tD U W e) :=
  PE.imp hx fun σ H Q ⟨F, ρ, er, h⟩ => by
    rw [he] at h
    exact ok_here er h (r F)
theorem tE_of {X : Cx} {W : WX} {x : Expr} {e : E} (h : mt m X.N X.env.scope e x = true) (g : PE X x (tD U W e)) : PE X x (tE U W e) := by
  unfold tE
  cases hi : isVar e with
  | none => exact g
  | some i =>
    have e1 := isVar_eq hi
    subst e1
    cases x <;> first | (unfold mt at h; cases h; done) | skip
    unfold mt at h
    exact PE.or (pv_of i h) g
theorem set_ok {sc : Scope} {kk : IK} {x : Expr} {xs : List Expr} {env : PySem.Env} (h : ishp sc kk x = some xs) : ∀ v, foldedSetIterable x env v = pure v := by
  intro v
  unfold ishp at h
  split at h
  · split at h
    · rename_i z
      rw [Bool.and_eq_true] at z
      have z1 := z.1
      cases x <;> first | rfl | (simp [nset] at z1)
    · cases h
  all_goals first | rfl | (cases h; done)
theorem PTs.imp {X : Cx} {x : List Expr} {t u : TT} (h : PTs X x t) (q : ∀ σ H Q, u σ H Q → t σ H Q) : PTs X x u := ⟨fun pins s σ H Q I z => h.run pins s σ H Q I (q σ H Q z)⟩
theorem gdin_snd {X : Cx} {W : WX} (C : Ctx U m k X W) {n : Bool} {g : Nat} {x : Expr} {y : Str} {kx : Expr} {a : E} (hm : nshp n x = some (y, kx)) (h1 : y = m.gn g) (h2 : glB X.env.scope y = true) (h3 : m.isD g = true) (ha : PE X kx (tD U W a)) : PE X x (tD U W (.gdin n g a)) := by
  unfold nshp at hm
  split at hm
  · cases hm; exact (snd_gdin C h1 h2 h3 ha).1
  · cases hm; exact (snd_gdnotin C h1 h2 h3 ha).1
  · cases hm
theorem gdin_sndT {X : Cx} {W : WX} (C : Ctx U m k X W) {n : Bool} {g : Nat} {x : Expr} {y : Str} {kx : Expr} {a : E} (hm : nshp n x = some (y, kx)) (h1 : y = m.gn g) (h2 : glB X.env.scope y = true) (h3 : m.isD g = true) (ha : PE X kx (tD U W a)) : PT X x (tT U W (.gdin n g a)) := by
  unfold nshp at hm
  split at hm
  · cases hm; exact PT.imp (snd_gdin C h1 h2 h3 ha).2 fun σ H Q q => gdinT_core q
  · cases hm; exact PT.imp (snd_gdnotin C h1 h2 h3 ha).2 fun σ H Q q => gdinT_core q
  · cases hm
/-- a method's call -/
theorem meth_snd {X : Cx} {W : WX} (C : Ctx U m k X W) {p : P} {x o : Expr} {xs : List Expr} {a : E} {es : List E} (hm : mshp p x = some (o, xs)) (ho : PE X o (tE U W a)) (hs : PEs X U W xs es) : PE X x (tD U W (.meth p a es)) := by
  unfold mshp at hm
  split at hm
  · rename_i q n o' n' apos y cpos hq
    split at hm
    · rename_i z
      cases hm
      simp only [Bool.and_eq_true, beq_iff_eq] at z
      obtain ⟨⟨⟨h1, h2⟩, h3⟩, h4⟩ := z
      subst h1
      have ha := pa_of (pk := true) hs (by simp [h3])
      obtain ⟨e, rfl, _⟩ := hs.one
      have h4 : (apos.endLine == cpos.line) = true := by simpa using h4
      cases p <;> first | (cases hq; done) | skip
      · cases hq; exact snd_index C.K C.room ho ha h2 h3 h4
      · cases hq; exact snd_join C.K ho ha h2 h3 h4
      · cases hq; exact snd_split C.K ho ha h2 h3 h4
      · cases hq; exact snd_part C.K ho ha h2 h3 h4
      · cases hq; exact snd_count C.K C.room ho ha h2 h3 h4
    · cases hm
  · rename_i q n o' n' apos cpos hq
    split at hm
    · rename_i z
      cases hm
      simp only [Bool.and_eq_true, beq_iff_eq] at z
      obtain ⟨⟨h1, h2⟩, h4⟩ := z
      subst h1
      cases hs
      have h4 : (apos.endLine == cpos.line) = true := by simpa using h4
      cases p <;> first | (cases hq; done) | skip
      cases hq; exact snd_upper C.K ho h2 h4
    · cases hm
  · cases hm
/-- a written dict's pairs -/
theorem pps_of {X : Cx} {W : WX} {pos : Pos} : ∀ {keys : List (Option Expr)} {values : List Expr} {xs : List Expr} {es : List E}, dshp keys values = some xs → PEs X U W xs es → PPs X pos keys values (trsOf U W es) ∧ evenL es = true ∧ keys.all (·.isSome) = true ∧ keys.length = values.length
  | [], [], xs, es, h, hs => by
    cases h
    cases hs
    exact ⟨pps_nil, rfl, rfl, rfl⟩
  | some a :: ks, v :: vs, xs, es, h, hs => by
    unfold dshp at h
    obtain ⟨r, h1, h2⟩ := Option.map_eq_some_iff.mp h
    subst h2
    cases hs with
    | cons p1 hs =>
      cases hs with
      | cons p2 hs =>
        obtain ⟨q1, q2, q3, q4⟩ := pps_of h1 hs
        exact ⟨pps_cons p1 p2 q1, q2, by simp [q3], by rw [List.length_cons, List.length_cons, q4]⟩
  | [], _ :: _, _, _, h, _ => by cases h
  | none :: _, _, _, _, h, _ => by cases h
  | some _ :: _, [], _, _, h, _ => by cases h
mutual
theorem sndE {X : Cx} {W : WX} (C : Ctx U m k X W) : ∀ (e : E) (x : Expr), mt m X.N X.env.scope e x = true → PE X x (tD U W e)
  | .var i, x, h => by
    cases x <;> first | (unfold mt at h; cases h; done) | skip
    unfold mt at h
    exact snd_var h
  | .mv i, x, h => by
    cases x <;> first | (unfold mt at h; cases h; done) | skip
    unfold mt at h
    exact snd_mv h
  | .non, x, h => by
    unfold mt at h
    cases x <;> first | (cases h; done) | skip
    rename_i c j p
    cases c <;> first | (cases h; done) | skip
    exact const_ok pe_non (fun ρ => by rw [ev]) fun _ => .non
  | .bl b, x, h => by
    unfold mt at h
    cases x <;> first | (cases h; done) | skip
    rename_i c j p
    cases c <;> first | (cases h; done) | skip
    cases eq_of_beq h
    exact const_ok pe_bl (fun ρ => by rw [ev]) fun _ => .bl _
  | .int i, x, h => by
    unfold mt at h
    cases x <;> first | (cases h; done) | skip
    rename_i c j p
    cases c <;> first | (cases h; done) | skip
    cases eq_of_beq h
    exact const_ok pe_int (fun ρ => by rw [ev]) fun _ => .int _
  | .str s, x, h => by
    unfold mt at h
    cases x <;> first | (cases h; done) | skip
    rename_i c j p
    cases c <;> first | (cases h; done) | skip
    rename_i y
    have e := eq_of_beq h
    subst e
    exact const_ok pe_str (fun ρ => by rw [ev]) fun _ => .str _
  | .glob g, x, h => by
    cases x <;> first | (unfold mt at h; cases h; done) | skip
    unfold mt at h
    simp only [Bool.and_eq_true, beq_iff_eq] at h
    exact snd_glob C h.1.1 h.1.2 h.2
  | .prim p es, x, h => by
    unfold mt at h
    cases hs : shp X.env.scope p x with
    | none => rw [hs] at h; cases h
    | some xs =>
      rw [hs] at h
      simp only [Bool.and_eq_true] at h
      exact PE.imp (prim_snd C h.1.1 h.1.2 hs (sndL C es xs h.2)) fun σ H Q q => prim_core q
  | .meth p a es, x, h => by
    unfold mt at h
    cases hm : mshp p x with
    | none => rw [hm] at h; cases h
    | some ox =>
      obtain ⟨o, xs⟩ := ox
      rw [hm] at h
      simp only [Bool.and_eq_true] at h
      have hs := sndL C es xs h.2
      have ho := tE_of h.1 (sndE C a o h.1)
      exact meth_snd C hm ho hs
  | .call f es, x, h => by
    cases x <;> first | (unfold mt at h; cases h; done) | skip
    rename_i fn args kws pos
    cases fn <;> first | (unfold mt at h; cases h; done) | skip
    cases kws <;> first | (unfold mt at h; cases h; done) | skip
    unfold mt at h
    simp only [Bool.and_eq_true, beq_iff_eq] at h
    obtain ⟨⟨⟨⟨⟨h1, h2⟩, h3⟩, h4⟩, h4'⟩, h5⟩ := h
    exact snd_call C h1 h2 h4 h4' h3 (sndL C es args h5)
  | .mut q i es, x, h => by
    cases x <;> first | (unfold mt at h; cases h; done) | skip
    rename_i fn args kws pos
    cases fn <;> first | (unfold mt at h; cases h; done) | skip
    rename_i o n apos
    cases o <;> first | (unfold mt at h; cases h; done) | skip
    cases kws <;> first | (unfold mt at h; cases h; done) | skip
    unfold mt at h
    simp only [Bool.and_eq_true, beq_iff_eq, decide_eq_true_eq] at h
    obtain ⟨⟨⟨⟨⟨h1, h2⟩, h3⟩, h4⟩, h5⟩, h6⟩ := h
    exact snd_mutE C h1 h2 h3 h4 (by simpa using h5) (sndL C es args h6)
  | .nt a, x, h => by
    cases x <;> first | (unfold mt at h; cases h; done) | skip
    rename_i op y pos
    cases op <;> first | (unfold mt at h; cases h; done) | skip
    unfold mt at h
    exact snd_nt C (sndE C a y h)
  | .and a b, x, h => by
    cases x <;> first | (unfold mt at h; cases h; done) | skip
    rename_i op ys pos
    cases op <;> first | (unfold mt at h; cases h; done) | skip
    match ys, h with
    | [], h => unfold mt at h; cases h
    | [y], h => unfold mt at h; cases h
    | [y, z], h =>
      unfold mt at h
      rw [Bool.and_eq_true] at h
      exact snd_and C (sndE C a y h.1) (pe_one (sndE C b z h.2))
    | y :: z :: w :: r, h =>
      unfold mt at h
      rw [Bool.and_eq_true] at h
      exact snd_and C (sndE C a y h.1) (sndE C b _ h.2)
  | .or a b, x, h => by
    cases x <;> first | (unfold mt at h; cases h; done) | skip
    rename_i op ys pos
    cases op <;> first | (unfold mt at h; cases h; done) | skip
    match ys, h with
    | [], h => unfold mt at h; cases h
    | [y], h => unfold mt at h; cases h
    | [y, z], h =>
      unfold mt at h
      rw [Bool.and_eq_true] at h
      exact snd_or C (sndE C a y h.1) (pe_one (sndE C b z h.2))
    | y :: z :: w :: r, h =>
      unfold mt at h
      rw [Bool.and_eq_true] at h
      exact snd_or C (sndE C a y h.1) (sndE C b _ h.2)
  | .ite c a b, x, h => by
    cases x <;> first | (unfold mt at h; cases h; done) | skip
    unfold mt at h
    simp only [Bool.and_eq_true] at h
    exact snd_ite (sndT C c _ h.1.1) (sndE C a _ h.1.2) (sndE C b _ h.2)
  | .ch p q a b c, x, h => by
    unfold mt at h
    cases hm : cshp x with
    | none => rw [hm] at h; cases h
    | some z =>
      obtain ⟨o1, o2, x1, x2, x3⟩ := z
      rw [hm] at h
      simp only [Bool.and_eq_true] at h
      obtain ⟨⟨⟨⟨h1, h2⟩, h3⟩, h4⟩, h5⟩ := h
      have g1 := sndE C a x1 h3
      have g2 := sndE C b x2 h4
      have g3 := sndE C c x3 h5
      unfold cshp at hm
      split at hm <;> first | (cases hm; done) | skip
      cases hm
      exact snd_ch h1 h2 g1 g2 g3
  | .lc own t kk es cns elt, x, h => by
    unfold mt at h
    cases hm : lshp x with
    | none => rw [hm] at h; cases h
    | some q =>
      obtain ⟨y, tg, it, ifs, scope⟩ := q
      rw [hm] at h
      dsimp only at h
      cases hs : ishp X.env.scope kk it with
      | none => rw [hs] at h; cases h
      | some xs =>
        rw [hs] at h
        simp only [Bool.and_eq_true, decide_eq_true_eq] at h
        obtain ⟨⟨⟨⟨⟨⟨⟨⟨h0, h1⟩, h2⟩, h3⟩, h4⟩, h5⟩, h6⟩, h7⟩, h8⟩ := h
        have calm := C.calm (by simpa using h0)
        have hl := sndL C es xs h1
        have ht : ∀ (s : Shared) (H : Hp) (c : Addr) (cl : List (Str × Addr)) (fp : List Addr), PTs (X.blk s H scope (compEnvC scope cl c X.env) fp) ifs (tCl U W0 cns) := fun s H c cl fp => sndC (X := X.blk s H scope (compEnvC scope cl c X.env) fp) C.blk cns ifs h6
        have he : ∀ (s : Shared) (H : Hp) (c : Addr) (cl : List (Str × Addr)) (fp : List Addr), PE (X.blk s H scope (compEnvC scope cl c X.env) fp) y (tD U W0 elt) := fun s H c cl fp => sndE (X := X.blk s H scope (compEnvC scope cl c X.env) fp) C.blk elt y h8
        unfold lshp at hm
        split at hm <;> first | (cases hm; done) | skip
        split at hm <;> first | (cases hm; done) | skip
        rename_i z
        cases hm
        subst z
        have key := fun pos => pe_lc (pos := pos) calm C.nd (it_snd C hs h2 hl) (blkOk_by h3) (fun s H c cl fp => pg_snd (X := X.blk s H scope (compEnvC scope cl c X.env) fp) C.K calm C.nd so_blk t tg h5) ht he (set_ok hs)
        rw [own_of] at key
        exact PE.imp (key _) fun σ H Q q => lc_tr h4 q
  | .gdix g a, x, h => by
    unfold mt at h
    cases hm : gshp x with
    | none => rw [hm] at h; cases h
    | some q =>
      obtain ⟨y, kx⟩ := q
      rw [hm] at h
      simp only [Bool.and_eq_true, beq_iff_eq] at h
      obtain ⟨⟨⟨⟨h1, h2⟩, h3⟩, h4⟩, h5⟩ := h
      have ha := sndE C a kx h5
      unfold gshp at hm
      split at hm <;> first | (cases hm; done) | skip
      cases hm
      exact snd_gdix C h1 h2 h3 h4 ha
  | .gdin n g a, x, h => by
    unfold mt at h
    cases hm : nshp n x with
    | none => rw [hm] at h; cases h
    | some q =>
      obtain ⟨y, kx⟩ := q
      rw [hm] at h
      simp only [Bool.and_eq_true, beq_iff_eq] at h
      obtain ⟨⟨⟨h1, h2⟩, h3⟩, h5⟩ := h
      exact gdin_snd C hm h1 h2 h3 (sndE C a kx h5)
  | .new _ _ _, x, h => by unfold mt at h; cases h
  | .mcl _ _ _ _, x, h => by unfold mt at h; cases h
  | .dsp kk es, x, h => by
    unfold mt at h
    cases hm : dsh x with
    | none => rw [hm] at h; cases h
    | some q =>
      obtain ⟨xs, n⟩ := q
      rw [hm] at h
      simp only [Bool.and_eq_true, decide_eq_true_eq] at h
      have hs := sndL C es xs h.2
      unfold dsh at hm
      cases x <;> first | (cases hm; done) | skip
      rename_i keys values pos
      obtain ⟨r, h1, h2⟩ := Option.map_eq_some_iff.mp hm
      cases h2
      obtain ⟨q1, q2, q3, q4⟩ := pps_of (pos := pos) h1 hs
      cases keys with
      | nil =>
        cases values with
        | cons _ _ => cases q4
        | nil =>
          cases h1
          cases hs
          exact snd_dnew
      | cons k0 ks =>
        have hne : es ≠ [] := fun z => by
          subst z
          cases hs
          cases values with
          | nil => cases q4
          | cons v vs =>
            cases k0 with
            | none => cases h1
            | some k0 =>
              unfold dshp at h1
              obtain ⟨_, _, z⟩ := Option.map_eq_some_iff.mp h1
              cases z
        exact snd_dsp q2 hne q1 q3 q4 (by simp) h.1
theorem sndT {X : Cx} {W : WX} (C : Ctx U m k X W) : ∀ (e : E) (x : Expr), mt m X.N X.env.scope e x = true → PT X x (tT U W e)
  | .var i, x, h => by
    cases x <;> first | (unfold mt at h; cases h; done) | skip
    unfold mt at h
    exact sndT_var C h
  | .prim p es, x, h => by
    unfold mt at h
    cases hs : shp X.env.scope p x with
    | none => rw [hs] at h; cases h
    | some xs =>
      rw [hs] at h
      simp only [Bool.and_eq_true] at h
      exact sndT_prim C h.1.1 h.1.2 hs (sndL C es xs h.2)
  | .call f es, x, h => by
    cases x <;> first | (unfold mt at h; cases h; done) | skip
    rename_i fn args kws pos
    cases fn <;> first | (unfold mt at h; cases h; done) | skip
    cases kws <;> first | (unfold mt at h; cases h; done) | skip
    unfold mt at h
    simp only [Bool.and_eq_true, beq_iff_eq] at h
    obtain ⟨⟨⟨⟨⟨h1, h2⟩, h3⟩, h4⟩, h4'⟩, h5⟩ := h
    exact sndT_call C (plain_he rfl) (snd_call C h1 h2 h4 h4' h3 (sndL C es args h5))
  | .nt a, x, h => by
    cases x <;> first | (unfold mt at h; cases h; done) | skip
    rename_i op y pos
    cases op <;> first | (unfold mt at h; cases h; done) | skip
    unfold mt at h
    exact sndT_nt (sndT C a y h)
  | .and a b, x, h => by
    cases x <;> first | (unfold mt at h; cases h; done) | skip
    rename_i op ys pos
    cases op <;> first | (unfold mt at h; cases h; done) | skip
    match ys, h with
    | [], h => unfold mt at h; cases h
    | [y], h => unfold mt at h; cases h
    | [y, z], h =>
      unfold mt at h
      rw [Bool.and_eq_true] at h
      exact sndT_and (sndT C a y h.1) (sndT_and1 (sndT C b z h.2))
    | y :: z :: w :: r, h =>
      unfold mt at h
      rw [Bool.and_eq_true] at h
      exact sndT_and (sndT C a y h.1) (sndT C b _ h.2)
  | .or a b, x, h => by
    cases x <;> first | (unfold mt at h; cases h; done) | skip
    rename_i op ys pos
    cases op <;> first | (unfold mt at h; cases h; done) | skip
    match ys, h with
    | [], h => unfold mt at h; cases h
    | [y], h => unfold mt at h; cases h
    | [y, z], h =>
      unfold mt at h
      rw [Bool.and_eq_true] at h
      exact sndT_or (sndT C a y h.1) (sndT_or1 (sndT C b z h.2))
    | y :: z :: w :: r, h =>
      unfold mt at h
      rw [Bool.and_eq_true] at h
      exact sndT_or (sndT C a y h.1) (sndT C b _ h.2)
  | .mv i, x, h => ⟨fun pins s σ H Q I ⟨F, ρ, er, q⟩ => by rw [evt] at q; exact q.elim; all_goals (intros; contradiction)⟩
  | .non, x, h => ⟨fun pins s σ H Q I ⟨F, ρ, er, q⟩ => by rw [evt] at q; exact q.elim; all_goals (intros; contradiction)⟩
  | .bl b, x, h => ⟨fun pins s σ H Q I ⟨F, ρ, er, q⟩ => by rw [evt] at q; exact q.elim; all_goals (intros; contradiction)⟩
  | .int i, x, h => ⟨fun pins s σ H Q I ⟨F, ρ, er, q⟩ => by rw [evt] at q; exact q.elim; all_goals (intros; contradiction)⟩
  | .str i, x, h => ⟨fun pins s σ H Q I ⟨F, ρ, er, q⟩ => by rw [evt] at q; exact q.elim; all_goals (intros; contradiction)⟩
  | .glob i, x, h => ⟨fun pins s σ H Q I ⟨F, ρ, er, q⟩ => by rw [evt] at q; exact q.elim; all_goals (intros; contradiction)⟩
  | .meth p a es, x, h => ⟨fun pins s σ H Q I ⟨F, ρ, er, q⟩ => by rw [evt] at q; exact q.elim; all_goals (intros; contradiction)⟩
  | .mut q' i es, x, h => ⟨fun pins s σ H Q I ⟨F, ρ, er, q⟩ => by rw [evt] at q; exact q.elim; all_goals (intros; contradiction)⟩
  | .ite c a b, x, h => ⟨fun pins s σ H Q I ⟨F, ρ, er, q⟩ => by rw [evt] at q; exact q.elim; all_goals (intros; contradiction)⟩
  | .ch p q a b c, x, h => by
    unfold mt at h
    cases hm : cshp x with
    | none => rw [hm] at h; cases h
    | some z =>
      obtain ⟨o1, o2, x1, x2, x3⟩ := z
      rw [hm] at h
      simp only [Bool.and_eq_true] at h
      obtain ⟨⟨⟨⟨h1, h2⟩, h3⟩, h4⟩, h5⟩ := h
      have g1 := sndE C a x1 h3
      have g2 := sndE C b x2 h4
      have g3 := sndE C c x3 h5
      unfold cshp at hm
      split at hm <;> first | (cases hm; done) | skip
      cases hm
      exact sndT_ch h1 h2 g1 g2 g3
  | .lc own t kk es cns elt, x, h => ⟨fun pins s σ H Q I ⟨F, ρ, er, q⟩ => by rw [evt] at q; exact q.elim; all_goals (intros; contradiction)⟩
  | .new _ _ _, x, h => by unfold mt at h; cases h
  | .mcl _ _ _ _, x, h => by unfold mt at h; cases h
  | .gdix g a, x, h => ⟨fun pins s σ H Q I ⟨F, ρ, er, q⟩ => by rw [evt] at q; exact q.elim; all_goals (intros; contradiction)⟩
  | .dsp kk es, x, h => ⟨fun pins s σ H Q I ⟨F, ρ, er, q⟩ => by rw [evt] at q; exact q.elim; all_goals (intros; contradiction)⟩
  | .gdin n g a, x, h => by
    unfold mt at h
    cases hm : nshp n x with
    | none => rw [hm] at h; cases h
    | some q =>
      obtain ⟨y, kx⟩ := q
      rw [hm] at h
      simp only [Bool.and_eq_true, beq_iff_eq] at h
      obtain ⟨⟨⟨h1, h2⟩, h3⟩, h5⟩ := h
      exact gdin_sndT C hm h1 h2 h3 (sndE C a kx h5)
theorem sndC {X : Cx} {W : WX} (C : Ctx U m k X W) : ∀ (es : List E) (xs : List Expr), mts m X.N X.env.scope es xs = true → PTs X xs (tCl U W es)
  | [], [], _ => PTs.imp pts_nil fun σ H Q ⟨F, ρ, er, h⟩ => by
    rw [evc] at h
    exact h.here er
  | [e], [x], h => by
    unfold mts at h
    rw [Bool.and_eq_true] at h
    exact PTs.imp (pts_one (sndT C e x h.1)) fun σ H Q ⟨F, ρ, er, h⟩ => by
      rw [evc] at h
      exact ⟨F, ρ, er, h⟩
  | [], _ :: _, h => by unfold mts at h; cases h
  | _ :: _, [], h => by unfold mts at h; cases h
  | [_], _ :: _ :: _, h => by unfold mts at h; rw [Bool.and_eq_true] at h; have h2 := h.2; unfold mts at h2; cases h2
  | _ :: _ :: _, xs, h => ⟨fun pins s σ H Q I ⟨F, ρ, er, q⟩ => by rw [evc] at q; exact q.elim; all_goals (intros; contradiction)⟩
theorem sndL {X : Cx} {W : WX} (C : Ctx U m k X W) : ∀ (es : List E) (xs : List Expr), mts m X.N X.env.scope es xs = true → PEs X U W xs es
  | [], [], _ => .nil
  | e :: es, x :: xs, h => by
    unfold mts at h
    rw [Bool.and_eq_true] at h
    exact .cons (tE_of h.1 (sndE C e x h.1)) (sndL C es xs h.2)
  | [], _ :: _, h => by unfold mts at h; cases h
  | _ :: _, [], h => by unfold mts at h; cases h
end
end
end BV

/-! BvT: statements. -/
namespace BV
open PySem L2 PySem.Spec PyProof.Rows
def isTupX : Expr → Bool
  | .Tuple _ _ _ => true
  | .List _ _ => true
  | _ => false
def cst : Expr → Bool
  | .Constant _ _ _ => true
  | _ => false
def isNm : Expr → Bool
  | .Name _ _ => true
  | _ => false
/-- the stores of a written tuple go by the order: none of its names is moved ahead -/
def plainAsg (tg x : Expr) : Bool := match tg, x with
  | .Tuple ts _ _, .Tuple vs _ _ => vs.all (foldedForSure 8) || ts.any (fun t => !isNm t) || decide (3 < ts.length) || decide (vs.length ≠ ts.length)
  | .List _ _, _ => false
  | _, _ => true
/-- a, b = e1, e2 -/
def pshp : Expr → Expr → Option (Str × Pos × Str × Pos × Expr × Expr)
  | .Tuple [.Name x px, .Name y py] _ _, .Tuple [a, b] _ _ => some (x, px, y, py, a, b)
  | _, _ => none
def parB (N : List Str) (sc : Scope) (i j : Nat) (x : Str) (px : Pos) (y : Str) (py : Pos) (a b : Expr) : Bool :=
  (match sc.kind with | .function => true | _ => false) && decide (N[i]? = some x) && decide (N[j]? = some y) && decide (i ≠ j) && decide (x ≠ y) && (match sc.names.lookup x with | some .local => true | _ => false) && (match sc.names.lookup y with | some .local => true | _ => false) &&
  decide (px.line = py.line) && nst a && nst b && !([a, b].all (foldedForSure 8)) && !([a, b].all (constantsAlone 8))
def augOp : P → Operator → Bool
  | .add, .Add => true
  | .sub, .Sub => true
  | _, _ => false
def nlc : Expr → Bool
  | .ListComp _ _ _ _ => false
  | .SetComp _ _ _ _ => false
  | .DictComp _ _ _ _ _ => false
  | _ => true
def sshp : Expr → Option (Str × Expr)
  | .Subscript (.Name x _) kx _ => some (x, kx)
  | _ => none
def isLc : E → Bool
  | .lc _ _ _ _ _ _ => true
  | _ => false
def isNmT : T → Bool
  | .nm _ => true
  | _ => false
/-- a clause's name -/
def hdN (N : List Str) (sc : Scope) : Option Nat → Option Str → Bool
  | none, none => true
  | some i, some x => decide (N[i]? = some x) && decide (sc.names.lookup x = some .local)
  | _, _ => false
mutual
def mst (m : Mk0) (N : List Str) (sc : Scope) : S → Stmt → Bool
  | .asg t e, .Assign [tg] x _ => (!m.hot || isNmT t) && mtg N sc t tg && mt m N sc e x && plainAsg tg x && (nlc x || isLc e)
  | .par i j a b, .Assign [tg] vx _ => match pshp tg vx with
    | some (x, px, y, py, e1, e2) => !m.hot && parB N sc i j x px y py e1 e2 && mt m N sc a e1 && mt m N sc b e2
    | none => false
  | .setix i k v, .Assign [tg] vx _ => match sshp tg with
    | some (x, kx) => visB N sc i x && nsl kx && mt m N sc k kx && mt m N sc v vx
    | none => false
  | .aug i p e, .AugAssign (.Name x _) op ex _ => locB N sc i x && augOp p op && mt m N sc e ex
  | .ex e, .Expr x _ => mt m N sc e x && nlc x
  | .iff c a b, .If x p q _ => mt m N sc c x && msts m N sc a p && msts m N sc b q
  | .for t k es b, .For tg it body [] _ => match ishp sc k it with
    | some xs => !m.hot && mts m N sc es xs && pairTg k tg && mtg N sc t tg && msts m N sc b body
    | none => false
  | .while c b, .While x body [] _ => mt m N sc c x && msts m N sc b body
  | .tr b, .Try body (_ :: _) [] [] _ => !m.hot && msts m N sc b body
  | .tryH b hs, .Try body (h :: hds) [] [] _ => !m.hot && msts m N sc b body && mhd m N sc hs (h :: hds)
  | .raise c fs es, .Raise (some (.Call (.Name x _) xs [] _)) none _ => !m.hot && x == Str.ofString c && glB sc x && decide (m.xf.lookup c = some fs) && !xs.isEmpty && xs.all nst && mts m N sc es xs
  | .ret e, .Return (some x) _ => mt m N sc e x
  | .retN, .Return none _ => true
  | .brk, .Break _ => true
  | .cont, .Continue _ => true
  | .pass, .Pass _ => true
  | .pass, .Expr (.Constant (.str _) _ _) _ => true
  | .never, _ => true
  | _, _ => false
/-- the clauses of a try -/
def mhd (m : Mk0) (N : List Str) (sc : Scope) : List S → List ExceptHandler → Bool
  | [], [] => true
  | .hdl acc c o b :: r, .ExceptHandler (some (.Name x _)) n (b0 :: body) _ :: hds => x == Str.ofString c && glB sc x && decide (c ∈ m.xs.map (·.1)) && decide (acc = (m.xs.map (·.1)).filter fun y => m.subC y c) && hdN N sc o n &&
      msts { m with hot := true } N sc b (b0 :: body) && mhd m N sc r hds
  | _, _ => false
def msts (m : Mk0) (N : List Str) (sc : Scope) : List S → List Stmt → Bool
  | [], [] => true
  | s :: r, x :: xs => mst m N sc s x && msts m N sc r xs
  | _, _ => false
end
/-- the ways of a statement -/
def SAns (U : Sur) (W : WX) (F H : Hp) (σ : Sg) (ρ : Rho) (f : Fl) (D : Ends) : Prop := match f with
  | .nx ρ' => ∀ F' H' σ', EnvR U.K F' H' σ' ρ' → Stp F H σ ρ F' H' σ' ρ' → D.nx σ' H'
  | .rt d b ρ' => ∀ v F' H' σ', EnvR U.K F' H' σ' ρ' → Stp F H σ ρ F' H' σ' ρ' → RsO U.K H σ ρ F' H' σ' ρ' v d b → D.rt v H'
  | .bk ρ' => ∀ F' H' σ', EnvR U.K F' H' σ' ρ' → Stp F H σ ρ F' H' σ' ρ' → D.bk σ' H'
  | .ct ρ' => ∀ F' H' σ', EnvR U.K F' H' σ' ρ' → Stp F H σ ρ F' H' σ' ρ' → D.ct σ' H'
  | .ex x ρ' => ∀ cls dd F' H' σ', EnvR U.K F' H' σ' ρ' → Stp F H σ ρ F' H' σ' ρ' → ExR U F' H' cls dd x → W cls dd σ' H'
  | .no => False
def tS (U : Sur) (W : WX) (s : S) : TS := fun D σ H => ∃ F ρ, EnvR U.K F H σ ρ ∧ SAns U W F H σ ρ (ex U.cs s ρ) D
def tSs (U : Sur) (W : WX) (s : List S) : TS := fun D σ H => ∃ F ρ, EnvR U.K F H σ ρ ∧ SAns U W F H σ ρ (exs U.cs s ρ) D
theorem RsO.back {K : PySem.W.Frag} {F H F1 H1 F2 H2 : Hp} {σ σ1 σ2 : Sg} {ρ ρ1 ρ2 : Rho} {v : V} {d : D} {b : Bool} (s : Stp F H σ ρ F1 H1 σ1 ρ1) (sm : Same F1 H1) (r : RsO K H1 σ1 ρ1 F2 H2 σ2 ρ2 v d b) : RsO K H σ ρ F2 H2 σ2 ρ2 v d b := by
  unfold RsO at r ⊢
  cases b with
  | false => exact r
  | true =>
    rw [if_pos rfl] at r ⊢
    obtain ⟨a, h1, h2, h3, h4, h5⟩ := r
    exact ⟨a, h1, h2, h3, h4, s.org sm h5⟩
section
variable {U : Sur} {W : WX} {F H : Hp} {σ : Sg} {ρ : Rho}
theorem SAns.from {F1 H1 : Hp} {σ1 : Sg} {ρ1 : Rho} {f : Fl} {D : Ends} (h : SAns U W F H σ ρ f D) (e1 : EnvR U.K F1 H1 σ1 ρ1) (s1 : Stp F H σ ρ F1 H1 σ1 ρ1) : SAns U W F1 H1 σ1 ρ1 f D := by
  cases f with
  | nx ρ' => exact fun F' H' σ' e s => h F' H' σ' e (s1.trans s e1.sub)
  | rt d b ρ' => exact fun v F' H' σ' e s r => h v F' H' σ' e (s1.trans s e1.sub) (r.back s1 e1.sub)
  | bk ρ' => exact fun F' H' σ' e s => h F' H' σ' e (s1.trans s e1.sub)
  | ct ρ' => exact fun F' H' σ' e s => h F' H' σ' e (s1.trans s e1.sub)
  | ex x ρ' => exact fun c dd F' H' σ' e s r => h c dd F' H' σ' e (s1.trans s e1.sub) r
  | no => exact h
/-- an expression first -/
theorem SAns.fl {α : Type} {r : R α} {k : α → Rho → Fl} {D : Ends} {k' : α → Rho → Hp → Hp → Prop} (h : SAns U W F H σ ρ (r.fl k) D) (m : ∀ a ρ1 F1 H1, EnvR U.K F1 H1 σ ρ1 → Stp F H σ ρ F1 H1 σ ρ1 → SAns U W F H σ ρ (k a ρ1) D → k' a ρ1 F1 H1) : BV.Ans U W F H σ ρ r k' := by
  cases r with
  | ok a ρ1 => exact fun F1 H1 e s => m a ρ1 F1 H1 e s h
  | ex x ρ1 => exact fun c dd F1 H1 e s q => h c dd F1 H1 σ e s q
  | no => exact h
theorem sO {α : Type} {o : Option α} {k : α → Fl} {D : Ends} (h : SAns U W F H σ ρ (O.fl o k) D) : ∃ a, o = some a ∧ SAns U W F H σ ρ (k a) D := by
  cases o with
  | none => exact h.elim
  | some a => exact ⟨a, rfl, h⟩
end
section
variable {X : Cx} {U : Sur} {W : WX} {m : Mk0} {k : Nat} {σ : Sg} {H : Hp} {pos : Pos} {D : Ends}
theorem PS.imp {x : Stmt} {t u : TS} (h : PS X x t) (q : ∀ D σ H, u D σ H → t D σ H) : PS X x u := ⟨fun pins s σ H D I z => h.run pins s σ H D I (q D σ H z)⟩
theorem PSs.imp {x : List Stmt} {t u : TS} (h : PSs X x t) (q : ∀ D σ H, u D σ H → t D σ H) : PSs X x u := ⟨fun pins s σ H D I z => h.run pins s σ H D I (q D σ H z)⟩
theorem seq_core {s : S} {r : List S} (h : tSs U W (s :: r) D σ H) : tSeq (tS U W s) (tSs U W r) D σ H := by
  obtain ⟨F, ρ, er, h⟩ := h
  rw [exs] at h
  refine ⟨F, ρ, er, ?_⟩
  cases hs : ex U.cs s ρ with
  | nx ρ1 => rw [hs] at h; exact fun F' H' σ' e s => ⟨F', ρ1, e, SAns.from (show SAns U W F H σ ρ (exs U.cs r ρ1) D from h) e s⟩
  | rt d b ρ1 => rw [hs] at h; exact h
  | bk ρ1 => rw [hs] at h; exact h
  | ct ρ1 => rw [hs] at h; exact h
  | ex x ρ1 => rw [hs] at h; exact h
  | no => rw [hs] at h; exact h
theorem asg_core {t : T} {e : E} (h : tS U W (.asg t e) D σ H) : tAsg (tD U W e) (gD U t) D σ H := by
  obtain ⟨F, ρ, er, h⟩ := h
  rw [ex] at h
  refine ⟨F, ρ, er, h.fl fun r ρ1 F1 H1 e1 s1 hk v hv => ?_⟩
  obtain ⟨ρ', q1, q2⟩ := sO hk
  exact ⟨⟨F, H, σ, ρ⟩, F1, ρ1, r.1, r.2, ρ', e1, s1, er.sub, hv, q1, fun σ' H' e' s' _ => q2 F1 H' σ' e' s'⟩
theorem gN_core {i : Nat} {v : V} {Q : L2.St → Hp → Prop} (h : gD U (.nm i) v σ H Q) : gName i v σ H Q := by
  obtain ⟨B, F, ρ, d, b, ρ', e, s, sm, r, hs, q⟩ := h
  unfold stt at hs
  obtain ⟨e2, s2⟩ := store_env e s r hs
  refine q _ H e2 s2 ⟨by rw [List.length_set], fun j hj => ?_⟩
  rw [List.getElem?_set_ne]
  intro z
  exact hj (by unfold tsl; simp [z])
theorem nm_fold {f : Expr → Option Str} (hf : ∀ e, isNm e = false → f e = none) : ∀ {ts : List Expr}, ts.any (fun t => !isNm t) = true → (ts.filterMap f).length < ts.length
  | [], h => by cases h
  | e :: ts, h => by
    rw [List.any_cons, Bool.or_eq_true] at h
    cases he : isNm e with
    | false =>
      rw [List.filterMap_cons_none (hf e he), List.length_cons]
      exact Nat.lt_succ_of_le (List.length_filterMap_le _ _)
    | true =>
      have h := h.resolve_left (by rw [he]; decide)
      have ih := nm_fold hf h
      rw [List.filterMap_cons, List.length_cons]
      split
      · omega
      · rw [List.length_cons]; omega
theorem asg_none_sw {tg x : Expr} {env : PySem.Env} (h : plainAsg tg x = true) : swappedStores [tg] x env = pure none := by
  unfold plainAsg at h
  split at h
  · rename_i ts k1 p1 vs k2 p2
    unfold swappedStores
    simp only [Bool.or_eq_true, decide_eq_true_eq] at h
    show (if (!(ts.length == 2 || ts.length == 3) || vs.length != ts.length || env.blockKind != .function) = true then pure none else _) = _
    split
    · rfl
    · rename_i z
      simp only [Bool.or_eq_true, not_or, Bool.not_eq_true', Bool.not_eq_true, bne_iff_ne, ne_eq, Decidable.not_not, Bool.not_eq_false'] at z
      obtain ⟨⟨z1, z2⟩, z3⟩ := z
      split
      · rfl
      · dsimp only
        split
        · rfl
        · rename_i w
          rcases h with ((h | h) | h) | h
          · rw [if_pos h]
          · exfalso
            simp only [Bool.or_eq_true, not_or, bne_iff_ne, ne_eq, Decidable.not_not] at w
            refine absurd w.1 (Nat.ne_of_lt (nm_fold (fun e he => ?_) h))
            cases e <;> first | rfl | cases he
          · exfalso
            simp at z1
            omega
          · exact absurd z2 h
  · cases h
  · rename_i n1 n2
    cases tg <;> first | rfl | (simp at n2; done) | (cases x <;> first | rfl | (exact (n2 _ _ _ _ _ _ rfl rfl).elim) | (exact (n1 _ _ rfl).elim) | (simp at n1; done))
theorem sw_par {x y : Str} {px py pt pt2 : Pos} {kt k2 : Nat} {a b : Expr} {N : List Str} {i j : Nat} {env : PySem.Env} (h : parB N env.scope i j x px y py a b = true) : swappedStores [.Tuple [.Name x px, .Name y py] kt pt] (.Tuple [a, b] k2 pt2) env = pure (some [x, y]) := by
  unfold parB at h
  simp only [Bool.and_eq_true, Bool.not_eq_true', decide_eq_true_eq] at h
  obtain ⟨⟨⟨⟨⟨⟨⟨⟨⟨⟨⟨h1, h2⟩, h3⟩, h4⟩, h5⟩, h6⟩, h7⟩, h8⟩, h9⟩, h10⟩, h11⟩, h12⟩ := h
  have hk : env.blockKind = .function := by
    split at h1
    · rename_i q
      unfold Env.blockKind
      rw [q]
      rfl
    · cases h1
  have hx : env.kindOf x = some .local := by
    unfold Env.kindOf
    split at h6
    · assumption
    · cases h6
  have hy : env.kindOf y = some .local := by
    unfold Env.kindOf
    split at h7
    · assumption
    · cases h7
  have hs : ([a, b].any fun | .Starred .. => true | _ => false) = false := by
    have : ∀ e, nst e = true → (match e with | Expr.Starred _ _ => true | _ => false) = false := fun e he => by cases e <;> first | rfl | cases he
    simp only [List.any_cons, List.any_nil, Bool.or_false, Bool.or_eq_false_iff]
    exact ⟨this a h9, this b h10⟩
  unfold swappedStores
  have hd : ([x, y] : List Str).eraseDups.length = 2 := by
    have : (y == x) = false := by simpa using fun e : y = x => h5 e.symm
    simp [List.eraseDups_cons, this]
  simp [hk, hx, hy, h8, h11, h12, hs, Expr.pos, hd]
  intro z
  exfalso
  clear hs hd h12 h11
  rcases z with z | z
  · cases a <;> first | (cases z; done) | (cases h9; done)
  · cases b <;> first | (cases z; done) | (cases h10; done)
theorem nsw_sw {x : Expr} {tg : Expr} {l : Nat} {env : PySem.Env} (h : nlc x = true) : swapsWithSole [tg] x l env = pure false := by
  cases x <;> first | rfl | (simp [nlc] at h)
theorem tup_sw {x : Expr} {tg : Expr} {l : Nat} {env : PySem.Env} (h : ∀ y p, tg ≠ .Name y p) : swapsWithSole [tg] x l env = pure false := by
  cases tg <;> first | (exact absurd rfl (h _ _)) | (cases x <;> rfl)
theorem one_asg {t : T} {tg : Expr} {N : List Str} {sc : Scope} {env : PySem.Env} (h : mtg N sc t tg = true) : (assignEach [tg] env).map (·.2) = [assign tg env] := by
  cases tg <;> first | rfl | (cases t <;> (unfold mtg at h; cases h))
end
end BV

/-! BvTs: raise; a try and its clauses. -/
namespace BV
open PySem L2 PySem.Spec PyProof.Rows
section
variable {X : Cx} {U : Sur} {W : WX} {m : Mk0} {k : Nat} {σ : Sg} {F H : Hp} {ρ : Rho} {pos : Pos} {D : Ends}
theorem SAns.fl3 {α : Type} {r : R α} {k : α → Rho → Fl} {D : Ends} {k' : α → Rho → Hp → Hp → Prop} (h : SAns U W F H σ ρ (r.fl k) D) (m : ∀ a ρ1 F1 H1, r = .ok a ρ1 → EnvR U.K F1 H1 σ ρ1 → Stp F H σ ρ F1 H1 σ ρ1 → SAns U W F H σ ρ (k a ρ1) D → k' a ρ1 F1 H1) : BV.Ans U W F H σ ρ r k' := by
  cases r with
  | ok a ρ1 => exact fun F1 H1 e s => m a ρ1 F1 H1 rfl e s h
  | ex x ρ1 => exact fun c dd F1 H1 e s q => h c dd F1 H1 σ e s q
  | no => exact h
theorem RepL.reverse {K : PySem.W.Frag} {F : Hp} : ∀ {vs : List V} {ds : List BV.D}, RepL K F vs ds → RepL K F vs.reverse ds.reverse
  | _, _, .nil => .nil
  | _, _, .cons h r => by
    rw [List.reverse_cons, List.reverse_cons]
    exact (RepL.reverse r).append (.cons h .nil)
/-! ### raise -/
theorem raise_core {c : String} {fs : List String} {es : List E} (T : OexC U.K (clA U.K c)) (hl : fs.length < 100) (hx : c ∈ U.xs.map (·.1)) (h : tS U W (.raise c fs es) D σ H) :
    tMkO (clA U.K c) (spXi U.K (clA U.K c) fs) [] (tDs U W false es) σ H fun cls d H' => W cls d σ H' := by
  obtain ⟨F, ρ, er, h⟩ := h
  rw [ex] at h
  refine ⟨F, ρ, er, h.fl3 fun as ρ1 F1 H1 heq e1 s1 hk vs hv => ?_⟩
  obtain ⟨ds, hg, hk⟩ := sO hk
  have rl := vl_rep hv (evs_vl heq) hg
  by_cases hn : ds.length = fs.length
  · rw [if_pos hn] at hk
    refine ⟨by rw [rl.length, hn]; omega, fun a na => ⟨a, vs, by rw [List.append_nil], by rw [rl.length, hn], T, upd_same, fun dx H' kvs nd ne q1 q2 q3 k1 k2 => ⟨rfl, dx, kvs, q1, q2, ?_, ?_⟩⟩⟩
    · rw [upd_ne ne] at nd; exact nd
    · have nd1 : H1 dx = none := by rw [upd_ne ne] at nd; exact nd
      have eq : upd (L2.del H' a) dx (.xd kvs) = upd H1 dx (.xd kvs) := by
        funext b
        by_cases hb : b = dx
        · subst hb; rw [upd_same, upd_same]
        · rw [upd_ne hb, upd_ne hb]
          by_cases ha : b = a
          · subst ha; rw [L2.del_same, na]
          · rw [L2.del_ne ha, q3 b ha hb, upd_ne ha]
      rw [eq]
      refine hk _ _ (upd F1 dx (.xd kvs)) (upd H1 dx (.xd kvs)) σ (e1.allocF nd1) (s1.allocF (e1.noF nd1) nd1) ⟨rfl, hx, .inr ⟨dx, kvs, rfl, upd_same, ?_, ?_⟩⟩
      · rw [k1]; simp [nmsD]
      · rw [k2]
        exact (rl.mono fun b u q => by rw [upd_ne (ne_of_none q (e1.noF nd1))]; exact q).reverse
  · rw [if_neg hn] at hk; exact hk.elim
theorem snd_raise (C : Ctx U m k X W) (h0 : (!m.hot) = true) {c : String} {fs : List String} {x : Str} {px : Pos} {xs : List Expr} {pc pos : Pos} {es : List E} (h1 : x = Str.ofString c) (h2 : glB X.env.scope x = true) (h3 : m.xf.lookup c = some fs) (h4 : xs ≠ []) (h5 : xs.all nst = true) (hs : PEs X U W xs es) :
    PS X (.Raise (some (.Call (.Name x px) xs [] pc)) none pos) (tS U W (.raise c fs es)) := by
  have hot : m.hot = false := by simpa using h0
  obtain ⟨g1, g2, g3⟩ := gl_of h2
  obtain ⟨fd, ps, b, F1⟩ := C.xmk c fs h3
  obtain ⟨T, iC, tI⟩ := C.cl.oex c fs h3
  obtain ⟨hx, hl, _⟩ := C.cl.noX c fs h3
  cases xs with
  | nil => exact absurd rfl h4
  | cons x0 xs =>
    obtain ⟨n1, n2⟩ := ns_cons h5
    have hm : X.mg x = some (.ref (clA X.K c)) := by
      rw [h1]
      exact C.cl.mgc c (by unfold Mk0.known; exact List.mem_append_left _ hx)
    have room : Room (1 + 1) X.A := ⟨C.hd hot, by have := C.room.dp; omega, by have := C.room.un; omega⟩
    refine PS.imp (ps_raise (C.calm hot) C.tk (pmk_oex T iC tI F1 room b .nil passL g1 hm (pa_of (pk := false) hs h5) g2 (star_cons n1) (star_any n2))) fun D σ H q => ?_
    have e := C.K
    rw [e] at T ⊢
    exact raise_core T hl (by rw [C.xsU]; exact hx) q
/-! ### a name goes -/
theorem unset_env {i : Nat} {K : PySem.W.Frag} (e : EnvR K F H σ ρ) : EnvR K F H (σ.set i none) (ρ.set i .un) := by
  refine ⟨e.sub, by rw [List.length_set, List.length_set]; exact e.len, fun j c d h1 h2 => ?_, fun j c d h1 h2 => ?_, fun j j' c c' a h1 h2 h3 h4 h5 h6 => ?_⟩
  · rcases set_get h1 with ⟨rfl, rfl, _⟩ | ⟨hj, h1⟩
    · cases h2
    · rw [List.getElem?_set_ne (Ne.symm hj)]
      exact e.fr j c d h1 h2
  · rcases set_get h1 with ⟨rfl, rfl, _⟩ | ⟨hj, h1⟩
    · cases h2
    · rw [List.getElem?_set_ne (Ne.symm hj)]
      exact e.on j c d h1 h2
  · rcases set_get h1 with ⟨rfl, rfl, _⟩ | ⟨hj, h1⟩
    · cases h3
    rcases set_get h2 with ⟨rfl, rfl, _⟩ | ⟨hj', h2⟩
    · cases h4
    rw [List.getElem?_set_ne (Ne.symm hj)] at h5
    rw [List.getElem?_set_ne (Ne.symm hj')] at h6
    exact e.ap j j' c c' a h1 h2 h3 h4 h5 h6
theorem unset_on {i : Nat} {a : Addr} (q : OnA (σ.set i none) (ρ.set i .un) a) : OnA σ ρ a := by
  obtain ⟨j, c, h1, h2, h3⟩ := q
  rcases set_get h1 with ⟨rfl, rfl, _⟩ | ⟨hj, h1⟩
  · cases h2
  · rw [List.getElem?_set_ne (Ne.symm hj)] at h3
    exact ⟨j, c, h1, h2, h3⟩
theorem unset_stp {i : Nat} {F0 H0 : Hp} {σ0 : Sg} {ρ0 : Rho} (s : Stp F0 H0 σ0 ρ0 F H σ ρ) (np : ∀ c, ρ[i]? = some c → c.pin = false) : Stp F0 H0 σ0 ρ0 F H (σ.set i none) (ρ.set i .un) := by
  refine ⟨s.ext, s.frm, fun a q => s.new a (unset_on q), fun j c hj => ?_, by rw [List.length_set]; exact s.ln⟩
  obtain ⟨c', h1, h2, h3⟩ := s.pin j c hj
  by_cases e : j = i
  · subst e
    have hp := np c' h1
    have hcp : c.pin = false := by
      cases hc : c.pin with
      | false => rfl
      | true =>
        have := h2.pinned hc
        rw [hp] at this; cases this
    refine ⟨.un, by rw [List.getElem?_set_self (List.getElem?_eq_some_iff.mp h1).1], ?_, fun z => by rw [hcp] at z; cases z⟩
    cases c <;> first | rfl | (cases hcp)
  · exact ⟨c', by rw [List.getElem?_set_ne (Ne.symm e)]; exact h1, h2, fun z => by rw [List.getElem?_set_ne (Ne.symm e)]; exact h3 z⟩
theorem Stp.allocFG {F0 H0 : Hp} {σ0 : Sg} {ρ0 : Rho} (s : Stp F0 H0 σ0 ρ0 F H σ ρ) {p : Addr} (n : F p = none) {o : HO} (h : H p = none) : Stp F0 H0 σ0 ρ0 (upd F p o) (upd H p o) σ ρ :=
  ⟨s.ext.trans (same_upd n), fun a u h1 h2 h3 => by
    obtain ⟨h4, h5⟩ := s.frm a u h1 h2 h3
    have ne := ne_of_none h4 h
    exact ⟨by rw [upd_ne ne]; exact h4, by rw [upd_ne ne]; exact h5⟩, s.new, s.pin, s.ln⟩
/-! ### the clauses -/
def hcOf (U : Sur) : List S → List HC
  | .hdl _ c o b :: r => (.ref (clA U.K c), o, tSs U W0 b) :: hcOf U r
  | _ => []
theorem hand_ok (cl : ClsOk U.K U.mg m) (xsU : U.xs = m.xs) {x : Exn} {ρ1 : Rho} : ∀ {hs : List S}, (hs.all fun s => match s with | .hdl acc c _ _ => decide (c ∈ m.xs.map (·.1)) && decide (acc = (m.xs.map (·.1)).filter fun y => m.subC y c) | _ => false) = true →
    SAns U W F H σ ρ (hand U.cs hs x ρ1) D → ∀ cls dd F' H' σ', EnvR U.K F' H' σ' ρ1 → Stp F H σ ρ F' H' σ' ρ1 → ExR U F' H' cls dd x → wG U.K W D (hcOf U hs) cls dd σ' H'
  | [], _, h, cls, dd, F', H', σ', e, s, r => by
    rw [hand] at h
    exact h cls dd F' H' σ' e s r
  | hd :: hs, hw, h, cls, dd, F', H', σ', e, s, r => by
    rw [List.all_cons, Bool.and_eq_true] at hw
    cases hd with
    | hdl acc c o b =>
      obtain ⟨hw1, hw2⟩ := hw
      simp only [Bool.and_eq_true, decide_eq_true_eq] at hw1
      obtain ⟨hc, rfl⟩ := hw1
      have ih := hand_ok cl xsU (x := x) (ρ1 := ρ1) (hs := hs) hw2
      obtain ⟨rfl, hx, hdd⟩ := r
      rw [xsU] at hx
      have hex := cl.exm _ hx _ hc
      have hacc : ((m.xs.map (·.1)).filter fun y => m.subC y c).contains x.c = m.subC x.c c := by
        cases z : m.subC x.c c with
        | true => exact List.contains_iff_mem.mpr (List.mem_filter.mpr ⟨hx, z⟩)
        | false =>
          refine Bool.eq_false_iff.mpr fun w => ?_
          have := (List.mem_filter.mp (List.contains_iff_mem.mp w)).2
          rw [z] at this; cases this
      refine ⟨m.subC x.c c, hex, fun hy a oe xs na hcls hdct hdat => ?_, fun hno => ?_⟩
      · -- the suite
        have XO := cl.xok _ hx
        have e2 := e.allocF (o := exF oe) na
        have s2 := s.allocFG (e.noF na) (o := exF oe) na
        have rx : Rep U.K (upd F' a (exF oe)) (.ref a) (.ins x.c x.fs x.vs) := by
          have sm : Same F' (upd F' a (exF oe)) := fun b u q => by rw [upd_ne (ne_of_none q (e.noF na))]; exact q
          rcases hdd with ⟨f1, f2, f3⟩ | ⟨dx, kvs, f1, f2, f3, f4⟩
          · rw [f1, f2]
            exact .exc0 XO upd_same hcls hdat (by rw [hdct, f3])
          · exact .exc XO upd_same hcls hdat (by rw [hdct, f1]) (sm _ _ f2) f3 (f4.mono sm)
        cases o with
        | none =>
          rw [hand, hacc, hy, if_pos rfl] at h
          refine ⟨_, ρ1, e2, ?_⟩
          cases hb : exs U.cs b ρ1 <;> rw [hb] at h
          · exact fun F3 H3 σ3 e3 s3 => h F3 H3 σ3 e3 (s2.trans s3 e2.sub)
          · exact fun v F3 H3 σ3 e3 s3 r3 => h v F3 H3 σ3 e3 (s2.trans s3 e2.sub) (r3.back s2 e2.sub)
          · exact fun F3 H3 σ3 e3 s3 => h F3 H3 σ3 e3 (s2.trans s3 e2.sub)
          · exact fun F3 H3 σ3 e3 s3 => h F3 H3 σ3 e3 (s2.trans s3 e2.sub)
          · exact h.elim
          · exact h.elim
        | some i =>
          rw [hand, hacc, hy, if_pos rfl] at h
          obtain ⟨ρ2, h1, h⟩ := sO h
          have e2' := e2
          obtain ⟨e3, s3⟩ := store_env (b := false) e2 s2 (v := .ref a) (by unfold RsO; simpa using rx) h1
          have np : ∀ c, ρ2[i]? = some c → c.pin = false := fun c q => by
            unfold stv at h1
            split at h1
            · cases h1
            · cases h1
              rcases set_get q with ⟨_, rfl, _⟩ | ⟨z, _⟩
              · rfl
              · exact absurd rfl z
          refine ⟨_, ρ2, e3, ?_⟩
          have np' : ∀ {F4 H4 σ4 ρ4}, Stp (upd F' a (exF oe)) (upd H' a (exF oe)) (nmS (some i) σ' a) ρ2 F4 H4 σ4 ρ4 → ∀ c, ρ4[i]? = some c → c.pin = false := fun {F4 H4 σ4 ρ4} s4 c q => by
            have hl : i < ρ2.length := by rw [← s4.ln]; exact (List.getElem?_eq_some_iff.mp q).1
            obtain ⟨c', p1, p2, _⟩ := s4.pin i _ (List.getElem?_eq_getElem hl)
            rw [q] at p1; cases p1
            have hp0 := np _ (List.getElem?_eq_getElem hl)
            cases hz : ρ2[i] <;> rw [hz] at p2 hp0 <;> first | (cases hp0; done) | exact p2
          cases hb : exs U.cs b ρ2 <;> rw [hb] at h
          · exact fun F4 H4 σ4 e4 s4 => h F4 H4 _ (unset_env e4) (unset_stp (s3.trans s4 e3.sub) (np' s4))
          · exact fun v F4 H4 σ4 e4 s4 r4 => h v F4 H4 _ (unset_env e4) (unset_stp (s3.trans s4 e3.sub) (np' s4)) (by
              have r5 := r4.back s3 e3.sub
              unfold RsO at r5 ⊢
              split
              · rename_i z
                rw [if_pos z] at r5
                obtain ⟨a', q1, q2, q3, q4, q5⟩ := r5
                exact ⟨a', q1, q2, fun w => q3 (unset_on w), q4, q5⟩
              · rename_i z
                rw [if_neg z] at r5
                exact r5)
          · exact fun F4 H4 σ4 e4 s4 => h F4 H4 _ (unset_env e4) (unset_stp (s3.trans s4 e3.sub) (np' s4))
          · exact fun F4 H4 σ4 e4 s4 => h F4 H4 _ (unset_env e4) (unset_stp (s3.trans s4 e3.sub) (np' s4))
          · exact h.elim
          · exact h.elim
      · have h' : SAns U W F H σ ρ (hand U.cs hs x ρ1) D := by
          cases o <;> (rw [hand, hacc, hno, if_neg Bool.false_ne_true] at h; exact h)
        exact ih h' _ dd F' H' σ' e s ⟨rfl, by rw [xsU]; exact hx, hdd⟩
    | _ => cases hw.1
end
end BV

/-! BvU: every statement. -/
namespace BV
open PySem L2 PySem.Spec PyProof.Rows
section
variable {X : Cx} {U : Sur} {W : WX} {m : Mk0} {k : Nat} {σ : Sg} {H : Hp} {pos : Pos} {DD : Ends}
theorem snd_setLc (C : Ctx U m k X W) (so : StOk X X.env.scope) {i : Nat} {e : E} {y : Str} {py : Pos} {x : Expr} {sp lp : Pos} {yy : Expr} {gens : List Comprehension} {scope : Scope} (hx : x = .ListComp yy gens scope lp)
    (hi : X.N[i]? = some y) (hyl : X.env.scope.names.lookup y = some .local) (hsw : swapsWith x (some (.Name y py)) sp.line X.env = pure true) (he : isLc e = true) (h : mt m X.N X.env.scope e x = true) :
    PS X (.Assign [.Name y py] x sp) (tS U W (.asg (.nm i) e)) := by
  cases e <;> first | (cases he; done) | skip
  rename_i own t kk es cns elt
  unfold mt at h
  cases hm : lshp x with
  | none => rw [hm] at h; cases h
  | some q =>
    obtain ⟨y1, tg, it, ifs, sc1⟩ := q
    rw [hm] at h
    dsimp only at h
    cases hs : ishp X.env.scope kk it with
    | none => rw [hs] at h; cases h
    | some xs =>
      rw [hs] at h
      simp only [Bool.and_eq_true, decide_eq_true_eq] at h
      obtain ⟨⟨⟨⟨⟨⟨⟨⟨h0, h1⟩, h2⟩, h3⟩, h4⟩, h5⟩, h6⟩, h7⟩, h8⟩ := h
      have calm := C.calm (by simpa using h0)
      have hl := sndL C es xs h1
      have ht : ∀ (s : Shared) (H : Hp) (c : Addr) (cl : List (Str × Addr)) (fp : List Addr), PTs (X.blk s H sc1 (compEnvC sc1 cl c X.env) fp) ifs (tCl U W0 cns) := fun s H c cl fp => sndC (X := X.blk s H sc1 (compEnvC sc1 cl c X.env) fp) C.blk cns ifs h6
      have he : ∀ (s : Shared) (H : Hp) (c : Addr) (cl : List (Str × Addr)) (fp : List Addr), PE (X.blk s H sc1 (compEnvC sc1 cl c X.env) fp) y1 (tD U W0 elt) := fun s H c cl fp => sndE (X := X.blk s H sc1 (compEnvC sc1 cl c X.env) fp) C.blk elt y1 h8
      unfold lshp at hm
      split at hm <;> first | (cases hm; done) | skip
      split at hm <;> first | (cases hm; done) | skip
      rename_i z
      cases hm
      subst z
      have key := ps_setLc (i := i) calm C.nd hi hyl hsw (it_snd C hs h2 hl) (blkOk_by h3) (fun s H c cl fp => pg_snd (X := X.blk s H sc1 (compEnvC sc1 cl c X.env) fp) C.K calm C.nd so_blk t tg h5) ht he (set_ok hs)
      rw [own_of] at key
      refine PS.imp key fun D σ H q => ?_
      exact lc_tr h4 (tD_mono (show tD U W _ σ H _ from asg_core q) fun v H1 g => gN_core g)
theorem snd_asg (C : Ctx U m k X W) (so : StOk X X.env.scope) {t : T} {e : E} {tg x : Expr} (h0 : (!m.hot || isNmT t) = true) (h1 : mtg X.N X.env.scope t tg = true) (h2 : mt m X.N X.env.scope e x = true) (h3 : plainAsg tg x = true) (h4 : (nlc x || isLc e) = true) :
    PS X (.Assign [tg] x pos) (tS U W (.asg t e)) := by
  have hg : PG X tg (gD U t) := by
    rw [Bool.or_eq_true] at h0
    rcases h0 with h0 | h0
    · exact pg_snd C.K (C.calm (by simpa using h0)) C.nd so t tg h1
    · cases t <;> first | (cases h0; done) | exact pg_snd1 C.nd so h1
  have he := sndE C e x h2
  by_cases hs : swapsWithSole [tg] x pos.line X.env = pure false
  · exact PS.imp (ps_asg he hg hs (asg_none_sw h3) (one_asg h1)) fun D σ H q => asg_core q
  · have hn : nlc x = false := by
      cases q : nlc x with
      | false => rfl
      | true => exact absurd (nsw_sw q) hs
    rw [hn, Bool.false_or] at h4
    have hx : ∃ yy gens scope lp, x = .ListComp yy gens scope lp := by
      cases e <;> first | (cases h4; done) | skip
      unfold mt at h2
      cases hm : lshp x with
      | none => rw [hm] at h2; cases h2
      | some q =>
        unfold lshp at hm
        split at hm <;> first | (cases hm; done) | skip
        exact ⟨_, _, _, _, rfl⟩
    obtain ⟨yy, gens, scope, lp, rfl⟩ := hx
    cases tg <;> first | (refine absurd (tup_sw ?_) hs; intro _ _ z; cases z; done) | skip
    rename_i y py
    cases t with
    | tp ts => unfold mtg at h1; cases h1
    | sp ts i => unfold mtg at h1; cases h1
    | nm i =>
      have e1 : swapsWithSole [.Name y py] (.ListComp yy gens scope lp) pos.line X.env = pure (X.env.blockKind == .function && X.env.kindOf y == some .local && py.line == lp.line && !(scope.names.any fun (n, k) => n == y && (k == .local || k == .cell))) := rfl
      cases hc : (X.env.blockKind == .function && X.env.kindOf y == some .local && py.line == lp.line && !(scope.names.any fun (n, k) => n == y && (k == .local || k == .cell))) with
      | false => rw [hc] at e1; exact absurd e1 hs
      | true =>
        rw [hc] at e1
        simp only [Bool.and_eq_true] at hc
        have hyl : X.env.scope.names.lookup y = some .local := eq_of_beq hc.1.1.2
        unfold mtg at h1
        exact snd_setLc C so rfl (loc_of h1).1 hyl e1 h4 h2
/-! ### o[i] = .. -/
theorem snd_setix (C : Ctx U m k X W) {i : Nat} {ek ev' : E} {x : Str} {p0 p1 : Pos} {kx vx : Expr} (h1 : visB X.N X.env.scope i x = true) (h2 : nsl kx = true) (h3 : mt m X.N X.env.scope ek kx = true) (h4 : mt m X.N X.env.scope ev' vx = true) :
    PS X (.Assign [.Subscript (.Name x p0) kx p1] vx pos) (tS U W (.setix i ek ev')) := by
  have hg : PG X (.Subscript (.Name x p0) kx p1) (gSub (tVar i) (tD U W ek) rSetL) := pg_sub (pv_of i h1) (sndE C ek kx h3) set_list (by intro v; cases kx <;> first | rfl | (simp [nsl] at h2))
  refine PS.imp (ps_asg (sndE C ev' vx h4) hg (tup_sw fun _ _ z => by cases z) rfl rfl) fun D σ H q => ?_
  obtain ⟨F, ρ, er, h⟩ := q
  rw [ex] at h
  refine ⟨F, ρ, er, h.fl fun r ρ1 F1 H1 e1 s1 hk v hv => ?_⟩
  obtain ⟨d0, q1, hk⟩ := sO hk
  obtain ⟨c1, c2, c3⟩ := getD_some (f := Cell.mt) rfl q1
  obtain ⟨a, ha, hF, hT⟩ := e1.on i c1 d0 c2 (mt_on c3)
  obtain ⟨F2, e2, s2, rv, _⟩ := hv.froze e1 s1
  refine ⟨_, ha, F2, ρ1, e2, (hk.from e2 s2).fl fun y ρ2 F3 H3 e3 s3 hk3 kv hkv => ?_⟩
  obtain ⟨d', q3, hk4⟩ := sO hk3
  obtain ⟨d, q4, q5⟩ := Option.bind_eq_some_iff.mp q3
  obtain ⟨c, g1, g2⟩ := getD_some (f := Cell.mt) rfl q4
  obtain ⟨a', ha', hF', hT'⟩ := e3.on i c d g1 (mt_on g2)
  rw [ha] at ha'
  cases ha'
  cases d <;> first | (simp [setIx] at q5; done) | skip
  rename_i xs
  obtain ⟨yk, yb⟩ := y
  cases yk <;> first | (simp [setIx] at q5; done) | skip
  rename_i n
  have q5 : (ixd xs.length n).map (fun j => BV.D.lst (xs.set j r.1)) = some d' := q5
  obtain ⟨j, g3, g4⟩ := Option.map_eq_some_iff.mp q5
  obtain ⟨F4, e4, s4, rk, sm4⟩ := hkv.froze e3 s3
  obtain ⟨vs, o1, o2⟩ := top_lst hT'
  cases rk
  refine ⟨a, vs, n, j, rfl, rfl, o1, by rw [o2.length, ← ixd_eq]; exact g3, ?_⟩
  have hT4 : Top U.K F4 (some (.lst (vs.set j v))) d' := by
    rw [← g4]
    exact ⟨_, rfl, ((o2.mono sm4).set ((rv.mono s3.ext).mono sm4) j)⟩
  have hF4 : ρ2[i]?.getD .un = c := by rw [g1]; rfl
  rw [hF4] at hk4
  exact hk4 F4 _ σ (e4.write g1 g2 ha hT4) (s4.write e4 g1 g2 ha)
/-! ### name op= .. -/
def tipA : TIp := fun x y H Q => (∃ i j, x = .int i ∧ y = .int j ∧ Q (.int (i + j)) H) ∨ ∃ i j, x = .str i ∧ y = .str j ∧ i.length + j.length ≤ sizeLine ∧ Q (.str (i ++ j)) H
theorem ip_addA : PIp X .Add tipA := by
  intro pins s σ H x y v u Q I r1 r2 h
  rcases h with h | h
  · exact ip_add pins s σ H x y v u Q I r1 r2 h
  · exact in_addS pins s σ H x y v u Q I r1 r2 h
theorem aug_core {i : Nat} {p : P} {e : E} {ti : TIp} (hti : ∀ d r z x y H Q, augS p d r = some z → (∀ F : Hp, Rep U.K F x d → Rep U.K F y r → ∃ v, Rep U.K F v z ∧ (Q v H → ti x y H Q))) (h : tS U W (.aug i p e) DD σ H) : tAug i (tD U W e) ti DD σ H := by
  obtain ⟨F, ρ, er, h⟩ := h
  rw [ex] at h
  cases hc : ρ[i]?.getD .un <;> rw [hc] at h <;> first | (exact h.elim) | skip
  rename_i d
  obtain ⟨x, hx, rx⟩ := er.fr i _ d (cell_of hc (by simp)) rfl
  refine ⟨x, hx, F, ρ, er, h.fl fun r ρ1 F1 H1 e1 s1 hk v hv => ?_⟩
  obtain ⟨ρ', q1, q2⟩ := sO hk
  obtain ⟨z, q3, q4⟩ := Option.bind_eq_some_iff.mp q1
  obtain ⟨F2, e2, s2, rv, sm⟩ := hv.froze e1 s1
  obtain ⟨w, rw', q5⟩ := hti d r.1 z x v H1 (fun z H2 => DD.nx (σ.set i (some z)) H2) q3 F2 ((rx.mono s1.ext).mono sm) rv
  refine q5 ?_
  obtain ⟨e3, s3⟩ := store_env (b := false) e2 s2 (v := w) (by unfold RsO; simpa using rw') q4
  exact q2 F2 H1 _ e3 s3
theorem snd_aug (C : Ctx U m k X W) (so : StOk X X.env.scope) {i : Nat} {p : P} {e : E} {x : Str} {p0 : Pos} {op : Operator} {ex' : Expr} (h1 : locB X.N X.env.scope i x = true) (h2 : augOp p op = true) (h3 : mt m X.N X.env.scope e ex' = true) :
    PS X (.AugAssign (.Name x p0) op ex' pos) (tS U W (.aug i p e)) := by
  obtain ⟨l1, l2⟩ := loc_of h1
  have he := sndE C e ex' h3
  cases p <;> first | (simp [augOp] at h2; done) | skip
  · cases op <;> first | (simp [augOp] at h2; done) | skip
    refine PS.imp (ps_aug C.nd l1 l2 he ip_addA (so x l2).2) fun D σ H q => aug_core (fun d r z x y H Q hz F rx ry => ?_) q
    cases d <;> first | (simp [augS] at hz; done) | skip
    · cases r <;> first | (simp [augS] at hz; done) | skip
      cases rx; cases ry
      cases hz
      exact ⟨_, .int _, fun q => .inl ⟨_, _, rfl, rfl, q⟩⟩
    · cases r <;> first | (simp [augS] at hz; done) | skip
      cases rx; cases ry
      rename_i s t
      have hz : (if s.length + t.length ≤ LIM then some (BV.D.str (s ++ t)) else none) = some z := hz
      split at hz
      · rename_i hl
        cases hz
        refine ⟨.str (toS (s ++ t)), .str _, fun q => .inr ⟨_, _, rfl, rfl, ?_, ?_⟩⟩
        · rw [toS_len, toS_len]; exact lim_line hl
        · rw [toS_app]; exact q
      · cases hz
  · cases op <;> first | (simp [augOp] at h2; done) | skip
    refine PS.imp (ps_aug C.nd l1 l2 he ip_sub (so x l2).2) fun D σ H q => aug_core (fun d r z x y H Q hz F rx ry => ?_) q
    cases d <;> first | (simp [augS] at hz; done) | skip
    cases r <;> first | (simp [augS] at hz; done) | skip
    cases rx; cases ry
    cases hz
    exact ⟨_, .int _, fun q => ⟨_, _, rfl, rfl, q⟩⟩
/-! ### loops -/
theorem RsO.alike {K : PySem.W.Frag} {H0 F4 H4 : Hp} {σ0 σ4 : Sg} {ρ0 ρ0' ρ4 ρ4' : Rho} {v : V} {d : D} {b : Bool} (r : RsO K H0 σ0 ρ0 F4 H4 σ4 ρ4 v d b) (h1 : ∀ a, OnA σ0 ρ0 a → OnA σ0 ρ0' a) (h2 : ∀ a, OnA σ4 ρ4' a → OnA σ4 ρ4 a) : RsO K H0 σ0 ρ0' F4 H4 σ4 ρ4' v d b := by
  unfold RsO at r ⊢
  cases b with
  | false => exact r
  | true =>
    rw [if_pos rfl] at r ⊢
    obtain ⟨a, q1, q2, q3, q4, q5⟩ := r
    exact ⟨a, q1, q2, fun z => q3 (h2 a z), q4, q5.imp (h1 a) id⟩
def fStep (cs : CS) (t : T) (b : List S) (x : D) (ρ2 : Rho) : Fl := O.fl (stt t x false ρ2) fun ρ3 => exs cs b ρ3
theorem for_core {t : T} {kk : IK} {es : List E} {b : List S} (h : tS U W (.for t kk es b) DD σ H) : tFor (tI U W kk es) (gD U t) (tSs U W b) DD σ H := by
  obtain ⟨F, ρ, er, h⟩ := h
  rw [ex] at h
  refine ⟨F, ρ, er, h.fl fun as ρ1 F1 H1 e1 s1 hk vs hv => ?_⟩
  obtain ⟨xs, hx, hk⟩ := sO hk
  obtain ⟨ds, g1, g2⟩ := Option.bind_eq_some_iff.mp hx
  refine ⟨ds, xs, g1, g2, fun J hJ => ?_⟩
  have hk : SAns U W F H σ ρ (unbrk (forGo (fStep U.cs t b) xs (locks ρ1 as)) fun ρ4 => unlocks ρ4 ρ1 as) DD := hk
  generalize hR : forGo (fStep U.cs t b) xs (locks ρ1 as) = RES at hk
  have eL : EnvR U.K F1 H1 σ (locks ρ1 as) := e1.alike alike_locks
  let Wv : Nat → Nat → L2.St → Hp → Prop := fun i n σ' H' => ∃ F' ρ', n = xs.length - i ∧ i ≤ xs.length ∧ EnvR U.K F' H' σ' ρ' ∧ Stp F1 H1 σ (locks ρ1 as) F' H' σ' ρ' ∧ forGo (fStep U.cs t b) (xs.drop i) ρ' = RES
  refine ⟨Wv, ⟨xs.length, F1, locks ρ1 as, by simp, Nat.zero_le _, eL, Stp.refl .., by simpa using hR⟩, ?_⟩
  rintro i n σ' H' ⟨F', ρ', rfl, hi, e', s', hgo⟩
  have nr : NRL U.K F' H' vs ds := walk_keep e1 e' hv g1 (fun _ z => z) s'
  by_cases hlt : i < xs.length
  · refine .inr ⟨hJ.go F' H' i hlt e'.sub nr, fun σ2 H2 => Wv (i + 1) (xs.length - (i + 1)) σ2 H2, fun σ2 H2 w => ⟨_, by omega, w⟩, fun x H2 y => ?_⟩
    obtain ⟨d, hd1, yd⟩ := hJ.yld F' H' i x H2 hlt e'.sub nr y
    obtain ⟨F2, e2, s2, rx, sm2⟩ := yd_step e' (Stp.refl ..) yd
    have hdr : xs.drop i = d :: xs.drop (i + 1) := by
      rw [List.drop_eq_getElem_cons hlt]
      rw [List.getElem?_eq_getElem hlt] at hd1
      cases hd1
      rfl
    rw [hdr] at hgo
    have hgo : (match fStep U.cs t b d ρ' with | .nx ρ1 => forGo (fStep U.cs t b) (xs.drop (i + 1)) ρ1 | .ct ρ1 => forGo (fStep U.cs t b) (xs.drop (i + 1)) ρ1 | .bk ρ1 => .bk ρ1 | f => f) = RES := hgo
    cases hst : stt t d false ρ' with
    | none =>
      have : fStep U.cs t b d ρ' = .no := by unfold fStep; rw [hst]; rfl
      rw [this] at hgo; rw [← hgo] at hk; exact hk.elim
    | some ρ3 =>
      have hf : fStep U.cs t b d ρ' = exs U.cs b ρ3 := by unfold fStep; rw [hst]; rfl
      rw [hf] at hgo
      refine ⟨⟨F2, H2, σ', ρ'⟩, F2, ρ', d, false, ρ3, e2, Stp.refl .., e2.sub, by unfold RsO; simpa using rx, hst, fun σ3 H3 e3 s3 k3 => ⟨F2, ρ3, e3, ?_⟩⟩
      have sB3 := (s'.trans s2 e'.sub).trans s3 e2.sub
      -- to the outside
      have out : ∀ {F4 H4 σ4 ρ4}, Stp F2 H3 σ3 ρ3 F4 H4 σ4 ρ4 → Stp F H σ ρ F4 H4 σ4 (unlocks ρ4 ρ1 as) := fun {F4 H4 σ4 ρ4} s4 => s1.trans (sB3.trans s4 e3.sub).unlock e1.sub
      cases hb : exs U.cs b ρ3 with
      | nx ρ4 =>
        rw [hb] at hgo
        exact fun F4 H4 σ4 e4 s4 => ⟨F4, ρ4, rfl, hlt, e4, sB3.trans s4 e3.sub, hgo⟩
      | ct ρ4 =>
        rw [hb] at hgo
        exact fun F4 H4 σ4 e4 s4 => ⟨F4, ρ4, rfl, hlt, e4, sB3.trans s4 e3.sub, hgo⟩
      | bk ρ4 =>
        rw [hb] at hgo
        rw [← hgo] at hk
        exact fun F4 H4 σ4 e4 s4 => hk F4 H4 σ4 (e4.alike alike_unlocks) (out s4)
      | rt d4 b4 ρ4 =>
        rw [hb] at hgo
        rw [← hgo] at hk
        intro v F4 H4 σ4 e4 s4 r4
        exact hk v F4 H4 σ4 (e4.alike alike_unlocks) (out s4) ((((r4.back sB3 e3.sub).alike (fun _ z => alike_locks.onA z) fun _ z => alike_unlocks.onA z)).back s1 e1.sub)
      | ex z ρ4 =>
        rw [hb] at hgo
        rw [← hgo] at hk
        exact fun cls dd F4 H4 σ4 e4 s4 q => hk cls dd F4 H4 σ4 (e4.alike alike_unlocks) (out s4) q
      | no => rw [hb] at hgo; rw [← hgo] at hk; exact hk.elim
  · have ei : i = xs.length := by omega
    subst ei
    refine .inl ⟨hJ.stop F' H' e'.sub nr, ?_⟩
    rw [List.drop_length] at hgo
    have hgo : Fl.nx ρ' = RES := hgo
    rw [← hgo] at hk
    exact hk F' H' σ' (e'.alike alike_unlocks) (s1.trans s'.unlock e1.sub)
theorem while_core {c : E} {b : List S} (h : tS U W (.while c b) DD σ H) : tWhile (tT U W c) (tSs U W b) DD σ H := by
  obtain ⟨F, ρ, er, h⟩ := h
  rw [ex] at h
  generalize hR : whGo (fun ρ => evt U.cs c ρ) (fun ρ => exs U.cs b ρ) WH ρ = RES at h
  refine ⟨fun n σ' H' => ∃ F' ρ', EnvR U.K F' H' σ' ρ' ∧ Stp F H σ ρ F' H' σ' ρ' ∧ whGo (fun ρ => evt U.cs c ρ) (fun ρ => exs U.cs b ρ) n ρ' = RES, ⟨WH, F, ρ, er, Stp.refl .., hR⟩, ?_⟩
  rintro n σ' H' ⟨F', ρ', e', s', hgo⟩
  cases n with
  | zero =>
    have hgo : Fl.no = RES := hgo
    rw [← hgo] at h
    exact h.elim
  | succ n =>
    have hgo : (evt U.cs c ρ').fl (fun b' ρ1 => if b' then (match exs U.cs b ρ1 with | .nx ρ2 => whGo (fun ρ => evt U.cs c ρ) (fun ρ => exs U.cs b ρ) n ρ2 | .ct ρ2 => whGo (fun ρ => evt U.cs c ρ) (fun ρ => exs U.cs b ρ) n ρ2 | .bk ρ2 => .nx ρ2 | f => f) else .nx ρ1) = RES := hgo
    refine ⟨F', ρ', e', ?_⟩
    cases ht : evt U.cs c ρ' with
    | no =>
      rw [ht] at hgo
      rw [← hgo] at h
      exact h.elim
    | ex x ρ1 =>
      rw [ht] at hgo
      rw [← hgo] at h
      exact fun cls dd F1 H1 e1 s1 q => h cls dd F1 H1 σ' e1 (s'.trans s1 e'.sub) q
    | ok t ρ1 =>
      rw [ht] at hgo
      intro F1 H1 e1 s1
      have s2 := s'.trans s1 e'.sub
      cases t with
      | false =>
        have hgo : Fl.nx ρ1 = RES := hgo
        rw [← hgo] at h
        refine iteF ?_
        exact h F1 H1 σ' e1 s2
      | true =>
        refine iteT ?_
        have hgo : (match exs U.cs b ρ1 with | .nx ρ2 => whGo (fun ρ => evt U.cs c ρ) (fun ρ => exs U.cs b ρ) n ρ2 | .ct ρ2 => whGo (fun ρ => evt U.cs c ρ) (fun ρ => exs U.cs b ρ) n ρ2 | .bk ρ2 => .nx ρ2 | f => f) = RES := hgo
        refine ⟨fun σ2 H2 => ∃ F' ρ', EnvR U.K F' H2 σ2 ρ' ∧ Stp F H σ ρ F' H2 σ2 ρ' ∧ whGo (fun ρ => evt U.cs c ρ) (fun ρ => exs U.cs b ρ) n ρ' = RES, fun σ2 H2 w => ⟨n, Nat.lt_succ_self n, w⟩, F1, ρ1, e1, ?_⟩
        cases hb : exs U.cs b ρ1 with
        | nx ρ4 =>
          rw [hb] at hgo
          exact fun F4 H4 σ4 e4 s4 => ⟨F4, ρ4, e4, s2.trans s4 e1.sub, hgo⟩
        | ct ρ4 =>
          rw [hb] at hgo
          exact fun F4 H4 σ4 e4 s4 => ⟨F4, ρ4, e4, s2.trans s4 e1.sub, hgo⟩
        | bk ρ4 =>
          rw [hb] at hgo
          rw [← hgo] at h
          exact fun F4 H4 σ4 e4 s4 => h F4 H4 σ4 e4 (s2.trans s4 e1.sub)
        | rt d4 b4 ρ4 =>
          rw [hb] at hgo
          rw [← hgo] at h
          exact fun v F4 H4 σ4 e4 s4 r4 => h v F4 H4 σ4 e4 (s2.trans s4 e1.sub) (r4.back s2 e1.sub)
        | ex z ρ4 =>
          rw [hb] at hgo
          rw [← hgo] at h
          exact fun cls dd F4 H4 σ4 e4 s4 q => h cls dd F4 H4 σ4 e4 (s2.trans s4 e1.sub) q
        | no => rw [hb] at hgo; rw [← hgo] at h; exact h.elim
/-! ### a, b = e1, e2 -/
theorem par_core {i j : Nat} {a b : E} (h : tS U W (.par i j a b) DD σ H) : tPar i j (tCons (tD U W a) (tCons (tD U W b) tNil)) DD σ H := by
  obtain ⟨F, ρ, er, h⟩ := h
  rw [ex] at h
  refine ⟨F, ρ, er, h.fl fun v ρ1 F1 H1 e1 s1 hk x hx => ?_⟩
  refine ⟨F1, ρ1, e1, ?_⟩
  cases hb : ev U.cs b ρ1 with
  | no => rw [hb] at hk; exact hk.elim
  | ex z ρ2 =>
    rw [hb] at hk
    exact fun cls dd F2 H2 e2 s2 q => hk cls dd F2 H2 σ e2 (s1.trans s2 e1.sub) q
  | ok w ρ2 =>
    rw [hb] at hk
    intro F2 H2 e2 s2 y hy
    obtain ⟨ρ3, q1, hk⟩ := sO (show SAns U W F H σ ρ (O.fl (stv ρ2 i v.1 v.2) fun ρ3 => O.fl (stv ρ3 j w.1 w.2) .nx) DD from hk)
    obtain ⟨ρ4, q2, hk⟩ := sO hk
    have s12 := s1.trans s2 e1.sub
    have rx : RsO U.K H σ ρ F2 H2 σ ρ2 x v.1 v.2 := by
      unfold Res at hx
      unfold RsO
      cases hv : v.2 with
      | false => rw [hv] at hx; exact Rep.mono s2.ext (by simpa using hx)
      | true =>
        rw [hv, if_pos rfl] at hx
        rw [if_pos rfl]
        obtain ⟨a1, g1, g2, g3, g4, g5⟩ := hx
        obtain ⟨o, ho⟩ := g4.some
        have hd : Held F2 H2 σ ρ2 a1 o := Held.step ⟨ho, g2, g3⟩ s2
        exact ⟨a1, g1, hd.non, hd.off, by rw [hd.at_, ← ho]; exact g4.mono s2.ext, g5⟩
    obtain ⟨e3, s3⟩ := store_env e2 s12 rx q1
    have ry : RsO U.K H σ ρ F2 H2 (σ.set i (some x)) ρ3 y w.1 w.2 := by
      unfold Res at hy
      unfold RsO
      cases hw : w.2 with
      | false => rw [hw] at hy; simpa using hy
      | true =>
        rw [hw, if_pos rfl] at hy
        rw [if_pos rfl]
        obtain ⟨a2, g1, g2, g3, g4, g5⟩ := hy
        refine ⟨a2, g1, g2, fun z => ?_, g4, s1.org e1.sub g5⟩
        obtain ⟨k, c, z1, z2, z3⟩ := z
        unfold stv at q1
        split at q1
        · cases q1
        cases q1
        rcases set_get z1 with ⟨rfl, rfl, hl⟩ | ⟨hk', z1⟩
        · have hi : k < σ.length := by rw [← e2.len]; exact hl
          rw [List.getElem?_set_self hi] at z3
          cases z3
          unfold Res at hx
          cases hv : v.2 with
          | false => rw [hv] at z2; cases z2
          | true =>
            rw [hv, if_pos rfl] at hx
            obtain ⟨a1, f1, f2, f3, f4, f5⟩ := hx
            cases f1
            obtain ⟨o, ho⟩ := f4.some
            rcases g5 with g5 | g5
            · exact f3 g5
            · rw [ho] at g5; cases g5
        · rw [List.getElem?_set_ne (Ne.symm hk')] at z3
          exact g3 ⟨k, c, z1, z2, z3⟩
    obtain ⟨e4, s4⟩ := store_env e3 s3 ry q2
    exact ⟨x, y, rfl, hk F2 H2 _ e4 s4⟩
theorem snd_par (C : Ctx U m k X W) (h0 : (!m.hot) = true) {i j : Nat} {a b : E} {x y : Str} {px py pt pt2 : Pos} {kt k2 : Nat} {e1 e2 : Expr} (h : parB X.N X.env.scope i j x px y py e1 e2 = true) (h1 : mt m X.N X.env.scope a e1 = true) (h2 : mt m X.N X.env.scope b e2 = true) :
    PS X (.Assign [.Tuple [.Name x px, .Name y py] kt pt] (.Tuple [e1, e2] k2 pt2) pos) (tS U W (.par i j a b)) := by
  have hsw := sw_par (pt := pt) (pt2 := pt2) (kt := kt) (k2 := k2) h
  unfold parB at h
  simp only [Bool.and_eq_true, Bool.not_eq_true', decide_eq_true_eq] at h
  obtain ⟨⟨⟨⟨⟨⟨⟨⟨⟨⟨⟨g1, g2⟩, g3⟩, g4⟩, g5⟩, g6⟩, g7⟩, g8⟩, g9⟩, g10⟩, g11⟩, g12⟩ := h
  have lk : ∀ {z : Str}, (match X.env.scope.names.lookup z with | some .local => true | _ => false) = true → X.env.scope.names.lookup z = some .local := fun {z} q => by
    split at q
    · assumption
    · cases q
  exact PS.imp (ps_par (C.calm (by simpa using h0)) C.nd g2 g3 g4 (lk g6) (lk g7) (pa_cons (sndE C a e1 h1) (pa_cons (sndE C b e2 h2) pa_nil (star_cons g10)) (star_cons g9)) hsw (tup_sw fun _ _ z => by cases z)) fun D σ H q => par_core q
/-! ### every statement -/
/-- a def's own frame -/
structure Stm (X : Cx) : Prop where
  hs : X.stack = X.env :: X.outer
  hf : X.env.frame = some X.env.locals
  hex : X.ex = []
def Mk0.heat (m : Mk0) : Mk0 := { m with hot := true }
theorem Ctx.tr' {X : Cx} {W W' : WX} (C : Ctx U m k X W) {pn : List (Addr × Obj)} {xe : Value → Shared → Prop} (tk : Takes (X.tr pn xe) W') : Ctx U m k (X.tr pn xe) W' :=
  ⟨C.K, C.mg, C.gn, C.xsU, C.calm, C.hd, C.nd, tk, C.room, C.glob, C.dcts, C.fns, C.bu, C.cl, C.mts, C.xmk⟩
theorem Ctx.suf {X : Cx} {W : WX} (C : Ctx U m k X W) (a : Addr) : Ctx U m.heat k (sufX X a) W0 :=
  ⟨C.K, C.mg, C.gn, C.xsU, (fun z => by cases z), (fun z => by cases z), C.nd, takes0, ⟨C.room.dp, C.room.un⟩, C.glob, C.dcts, C.fns, C.bu, ⟨C.cl.gc, C.cl.xok, C.cl.iok, C.cl.mgc, C.cl.kit, C.cl.kit0, C.cl.exm, C.cl.noX, C.cl.noI, C.cl.oex, C.cl.meth, C.cl.mkr⟩, C.mts, C.xmk⟩
theorem mhd_all {N : List Str} {sc : Scope} : ∀ {hs : List S} {hds : List ExceptHandler}, mhd m N sc hs hds = true → (hs.all fun s => match s with | .hdl acc c _ _ => decide (c ∈ m.xs.map (·.1)) && decide (acc = (m.xs.map (·.1)).filter fun y => m.subC y c) | _ => false) = true
  | [], _, _ => rfl
  | s :: r, hds, h => by
    cases s with
    | hdl acc c o b =>
      cases hds with
      | nil => unfold mhd at h; cases h
      | cons hd hds =>
        cases hd with
        | ExceptHandler tp nm body pos =>
          cases tp <;> first | (unfold mhd at h; cases h; done) | skip
          rename_i tp
          cases tp <;> first | (unfold mhd at h; cases h; done) | skip
          rename_i x np
          cases body <;> first | (unfold mhd at h; cases h; done) | skip
          rename_i b0 body
          unfold mhd at h
          simp only [Bool.and_eq_true] at h
          obtain ⟨⟨⟨⟨⟨⟨h1, h2⟩, h3⟩, h4⟩, h5⟩, h6⟩, h7⟩ := h
          rw [List.all_cons, Bool.and_eq_true]
          exact ⟨by simp only [Bool.and_eq_true]; exact ⟨h3, h4⟩, mhd_all h7⟩
    | _ => unfold mhd at h; cases h
theorem tryH_core {b hs : List S} (cl : ClsOk U.K U.mg m) (xsU : U.xs = m.xs) (hw : (hs.all fun s => match s with | .hdl acc c _ _ => decide (c ∈ m.xs.map (·.1)) && decide (acc = (m.xs.map (·.1)).filter fun y => m.subC y c) | _ => false) = true) (h : tS U W (.tryH b hs) DD σ H) :
    tSs U (wG U.K W DD (hcOf U hs)) b DD σ H := by
  obtain ⟨F, ρ, er, h⟩ := h
  rw [ex] at h
  refine ⟨F, ρ, er, ?_⟩
  cases hb : exs U.cs b ρ <;> rw [hb] at h <;> first | exact h | skip
  rename_i x ρ1
  exact fun cls dd F' H' σ' e s r => hand_ok cl xsU hw h cls dd F' H' σ' e s r
theorem Ctx.nox {X : Cx} {W : WX} (C : Ctx U m k X W) : Ctx U m k X.nox W0 :=
  ⟨C.K, C.mg, C.gn, C.xsU, C.calm, C.hd, C.nd, takes0, C.room, C.glob, C.dcts, C.fns, C.bu, C.cl, C.mts, C.xmk⟩
mutual
theorem sndS {m : Mk0} {X : Cx} {W : WX} (C : Ctx U m k X W) (so : StOk X X.env.scope) (hp : PassesOwn (model X.prog X.w) X.A X.env X.xe) (sm : Stm X) : ∀ (s : S) (x : Stmt), mst m X.N X.env.scope s x = true → PS X x (tS U W s)
  | .asg t e, x, h => by
    cases x <;> first | (unfold mst at h; cases h; done) | skip
    rename_i tgs v pos
    match tgs, h with
    | [], h => unfold mst at h; cases h
    | _ :: _ :: _, h => unfold mst at h; cases h
    | [tg], h =>
      unfold mst at h
      simp only [Bool.and_eq_true] at h
      exact snd_asg C so h.1.1.1.1 h.1.1.1.2 h.1.1.2 h.1.2 h.2
  | .par i j a b, x, h => by
    cases x <;> first | (unfold mst at h; cases h; done) | skip
    rename_i tgs v pos
    match tgs, h with
    | [], h => unfold mst at h; cases h
    | _ :: _ :: _, h => unfold mst at h; cases h
    | [tg], h' =>
      clear h
      unfold mst at h'
      cases hs : pshp tg v with
      | none => rw [hs] at h'; cases h'
      | some q =>
        obtain ⟨x, px, y, py, e1, e2⟩ := q
        rw [hs] at h'
        simp only [Bool.and_eq_true] at h'
        have k0 := h'.1.1.1
        have k1 := h'.1.1.2
        have k2 := h'.1.2
        have k3 := h'.2
        unfold pshp at hs
        split at hs <;> first | (cases hs; done) | skip
        cases hs
        exact snd_par C k0 k1 k2 k3
  | .setix i ek e, x, h => by
    cases x <;> first | (unfold mst at h; cases h; done) | skip
    rename_i tgs v pos
    match tgs, h with
    | [], h => unfold mst at h; cases h
    | _ :: _ :: _, h => unfold mst at h; cases h
    | [tg], h =>
      unfold mst at h
      cases hs : sshp tg with
      | none => rw [hs] at h; cases h
      | some q =>
        obtain ⟨y, kx⟩ := q
        rw [hs] at h
        simp only [Bool.and_eq_true] at h
        unfold sshp at hs
        split at hs <;> first | (cases hs; done) | skip
        cases hs
        exact snd_setix C h.1.1.1 h.1.1.2 h.1.2 h.2
  | .aug i p e, x, h => by
    cases x <;> first | (unfold mst at h; cases h; done) | skip
    rename_i tg op v pos
    cases tg <;> first | (unfold mst at h; cases h; done) | skip
    unfold mst at h
    simp only [Bool.and_eq_true] at h
    exact snd_aug C so h.1.1 h.1.2 h.2
  | .augix i k' p e, x, h => by unfold mst at h; cases h
  | .ex e, x, h => by
    cases x <;> first | (unfold mst at h; cases h; done) | skip
    rename_i v pos
    unfold mst at h
    rw [Bool.and_eq_true] at h
    refine PS.imp (ps_expr (sndE C e v h.1) ?_) fun D σ H ⟨F, ρ, er, q⟩ => ?_
    · have h2 := h.2
      cases v <;> first | rfl | (simp [nlc] at h2)
    · rw [ex] at q
      exact ⟨F, ρ, er, q.fl fun a ρ1 F1 H1 e1 s1 hk v hv => hk F1 H1 σ e1 s1⟩
  | .iff c a b, x, h => by
    cases x <;> first | (unfold mst at h; cases h; done) | skip
    unfold mst at h
    simp only [Bool.and_eq_true] at h
    refine PS.imp (ps_if (sndT C c _ h.1.1) (sndSs C so hp sm a _ h.1.2) (sndSs C so hp sm b _ h.2)) fun D σ H ⟨F, ρ, er, q⟩ => ?_
    rw [ex] at q
    refine ⟨F, ρ, er, q.fl fun t ρ1 F1 H1 e1 s1 hk => ?_⟩
    have hk := hk.from e1 s1
    cases t with
    | true => exact iteT ⟨F1, ρ1, e1, by simpa using hk⟩
    | false => exact iteF ⟨F1, ρ1, e1, by simpa using hk⟩
  | .for t kk es b, x, h => by
    cases x <;> first | (unfold mst at h; cases h; done) | skip
    rename_i tg it body els pos
    cases els <;> first | (unfold mst at h; cases h; done) | skip
    unfold mst at h
    cases hs : ishp X.env.scope kk it with
    | none => rw [hs] at h; cases h
    | some xs =>
      rw [hs] at h
      simp only [Bool.and_eq_true] at h
      obtain ⟨⟨⟨⟨h0, h1⟩, h2⟩, h3⟩, h4⟩ := h
      have calm := C.calm (by simpa using h0)
      exact PS.imp (ps_for hp calm (it_snd C hs h2 (sndL C es xs h1)) (pg_snd C.K calm C.nd so t tg h3) (sndSs C so hp sm b body h4) (set_ok hs)) fun D σ H q => for_core q
  | .while c b, x, h => by
    cases x <;> first | (unfold mst at h; cases h; done) | skip
    rename_i tg body els pos
    cases els <;> first | (unfold mst at h; cases h; done) | skip
    unfold mst at h
    simp only [Bool.and_eq_true] at h
    exact PS.imp (ps_while hp (sndT C c _ h.1) (sndSs C so hp sm b body h.2)) fun D σ H q => while_core q
  | .tr b, x, h => by
    cases x <;> first | (unfold mst at h; cases h; done) | skip
    rename_i body hs els fin pos
    cases hs <;> first | (unfold mst at h; cases h; done) | skip
    cases els <;> first | (unfold mst at h; cases h; done) | skip
    cases fin <;> first | (unfold mst at h; cases h; done) | skip
    unfold mst at h
    rw [Bool.and_eq_true] at h
    refine PS.imp (ps_try_thru0 (sndSs (X := X.nox) (W := W0) C.nox so PassesOwn.never ⟨sm.hs, sm.hf, sm.hex⟩ b body h.2)) fun D σ H ⟨F, ρ, er, q⟩ => ⟨F, ρ, er, ?_⟩
    rw [ex] at q
    cases hx : exs U.cs b ρ <;> rw [hx] at q <;> first | exact q | exact q.elim
  | .ret e, x, h => by
    cases x <;> first | (unfold mst at h; cases h; done) | skip
    rename_i v pos
    cases v <;> first | (unfold mst at h; cases h; done) | skip
    unfold mst at h
    refine PS.imp (ps_ret (sndE C e _ h)) fun D σ H ⟨F, ρ, er, q⟩ => ?_
    rw [ex] at q
    exact ⟨F, ρ, er, q.fl fun a ρ1 F1 H1 e1 s1 hk v hv => hk v F1 H1 σ e1 s1 hv⟩
  | .retN, x, h => by
    cases x <;> first | (unfold mst at h; cases h; done) | skip
    rename_i v pos
    cases v <;> first | (unfold mst at h; cases h; done) | skip
    refine PS.imp ps_retN fun D σ H ⟨F, ρ, er, q⟩ => ?_
    rw [ex] at q
    exact q .non F H σ er (Stp.refl ..) (by unfold RsO; simpa using Rep.non)
  | .brk, x, h => by
    cases x <;> first | (unfold mst at h; cases h; done) | skip
    refine PS.imp ps_break fun D σ H ⟨F, ρ, er, q⟩ => ?_
    rw [ex] at q
    exact q F H σ er (Stp.refl ..)
  | .cont, x, h => by
    cases x <;> first | (unfold mst at h; cases h; done) | skip
    refine PS.imp ps_continue fun D σ H ⟨F, ρ, er, q⟩ => ?_
    rw [ex] at q
    exact q F H σ er (Stp.refl ..)
  | .pass, x, h => by
    have nx : ∀ {D σ H}, tS U W .pass D σ H → D.nx σ H := fun {D σ H} ⟨F, ρ, er, q⟩ => by
      rw [ex] at q
      exact q F H σ er (Stp.refl ..)
    cases x <;> first | (unfold mst at h; cases h; done) | skip
    · rename_i v pos
      cases v <;> first | (unfold mst at h; cases h; done) | skip
      rename_i c j p
      cases c <;> first | (unfold mst at h; cases h; done) | skip
      exact PS.imp ps_doc fun D σ H q => nx q
    · exact PS.imp ps_pass fun D σ H q => nx q
  | .raise c fs es, x, h => by
    unfold mst at h
    split at h <;> first | (cases h; done) | skip
    all_goals first | (rename_i z; cases z; done) | skip
    rename_i c' fs' es' y py xs pc pos z
    cases z
    simp only [Bool.and_eq_true, beq_iff_eq, decide_eq_true_eq] at h
    obtain ⟨⟨⟨⟨⟨⟨h0, h1⟩, h2⟩, h3⟩, h4⟩, h5⟩, h6⟩ := h
    exact snd_raise C h0 h1 h2 h3 (by intro q; rw [q] at h4; cases h4) h5 (sndL C _ xs h6)
  | .tryH b hs, x, h => by
    cases x <;> first | (unfold mst at h; cases h; done) | skip
    rename_i body hds els fin pos
    cases hds <;> first | (unfold mst at h; cases h; done) | skip
    cases els <;> first | (unfold mst at h; cases h; done) | skip
    cases fin <;> first | (unfold mst at h; cases h; done) | skip
    unfold mst at h
    simp only [Bool.and_eq_true] at h
    obtain ⟨⟨h0, h1⟩, h2⟩ := h
    have key := ps_tryG (l := hcOf U hs) (pos := pos) sm.hs sm.hf sm.hex C.nd C.tk (fun W' pn xe tk hp' => sndSs (X := X.tr pn xe) (W := W') (C.tr' tk) so hp' ⟨sm.hs, sm.hf, sm.hex⟩ b body h1) (sndH C so sm hs _ h2)
    refine PS.imp key fun D σ H q => ?_
    rw [C.K]
    have cl := C.cl
    rw [C.K, C.mg] at cl
    exact tryH_core cl C.xsU (mhd_all h2) q
  | .hdl _ _ _ _, x, h => by unfold mst at h; cases h
  | .tryR _ _ _ _ _ _ _ _, x, h => by unfold mst at h; cases h
  | .setf _ _ _, x, h => by unfold mst at h; cases h
  | .never, x, h => PS.imp ps_never fun D σ H ⟨F, ρ, er, q⟩ => by
    rw [ex] at q
    exact q.elim
theorem sndH {m : Mk0} {X : Cx} {W : WX} (C : Ctx U m k X W) (so : StOk X X.env.scope) (sm : Stm X) : ∀ (hs : List S) (hds : List ExceptHandler), mhd m X.N X.env.scope hs hds = true → HdsG X hds (hcOf U hs)
  | [], [], _ => .nil
  | [], _ :: _, h => by unfold mhd at h; cases h
  | .hdl acc c o b :: r, hds, h => by
    cases hds with
    | nil => unfold mhd at h; cases h
    | cons hd hds =>
      cases hd with
      | ExceptHandler tp nm body pos =>
        cases tp <;> first | (unfold mhd at h; cases h; done) | skip
        rename_i tp
        cases tp <;> first | (unfold mhd at h; cases h; done) | skip
        rename_i x np
        cases body <;> first | (unfold mhd at h; cases h; done) | skip
        rename_i b0 body
        unfold mhd at h
        simp only [Bool.and_eq_true, beq_iff_eq, decide_eq_true_eq] at h
        obtain ⟨⟨⟨⟨⟨⟨h1, h2⟩, h3⟩, h4⟩, h5⟩, h6⟩, h7⟩ := h
        obtain ⟨g1, g2, g3⟩ := gl_of h2
        have hn : Names X x (.ref (clA U.K c)) := by
          refine ⟨g1, g2, .inl ?_⟩
          rw [h1, ← C.K]
          exact C.cl.mgc c (by unfold Mk0.known; exact List.mem_append_left _ h3)
        have hsu : ∀ a : Addr, PSs (sufX X a) (b0 :: body) (tSs U W0 b) := fun a => sndSs (X := sufX X a) (C.suf a) so PassesOwn.never ⟨sm.hs, sm.hf, sm.hex⟩ b (b0 :: body) h6
        have ih := sndH C so sm r hds h7
        cases o with
        | none =>
          cases nm with
          | none => exact .cons hn hsu ih
          | some y => unfold hdN at h5; cases h5
        | some i =>
          cases nm with
          | none => unfold hdN at h5; cases h5
          | some y =>
            unfold hdN at h5
            simp only [Bool.and_eq_true, decide_eq_true_eq] at h5
            exact .consA hn h5.1 h5.2 hsu ih
  | .asg _ _ :: _, _, h => by unfold mhd at h; cases h
  | .par _ _ _ _ :: _, _, h => by unfold mhd at h; cases h
  | .setix _ _ _ :: _, _, h => by unfold mhd at h; cases h
  | .aug _ _ _ :: _, _, h => by unfold mhd at h; cases h
  | .augix _ _ _ _ :: _, _, h => by unfold mhd at h; cases h
  | .ex _ :: _, _, h => by unfold mhd at h; cases h
  | .iff _ _ _ :: _, _, h => by unfold mhd at h; cases h
  | .for _ _ _ _ :: _, _, h => by unfold mhd at h; cases h
  | .while _ _ :: _, _, h => by unfold mhd at h; cases h
  | .ret _ :: _, _, h => by unfold mhd at h; cases h
  | .retN :: _, _, h => by unfold mhd at h; cases h
  | .brk :: _, _, h => by unfold mhd at h; cases h
  | .cont :: _, _, h => by unfold mhd at h; cases h
  | .pass :: _, _, h => by unfold mhd at h; cases h
  | .never :: _, _, h => by unfold mhd at h; cases h
  | .tr _ :: _, _, h => by unfold mhd at h; cases h
  | .raise _ _ _ :: _, _, h => by unfold mhd at h; cases h
  | .tryH _ _ :: _, _, h => by unfold mhd at h; cases h
  | .tryR _ _ _ _ _ _ _ _ :: _, _, h => by unfold mhd at h; cases h
  | .setf _ _ _ :: _, _, h => by unfold mhd at h; cases h
theorem sndSs {m : Mk0} {X : Cx} {W : WX} (C : Ctx U m k X W) (so : StOk X X.env.scope) (hp : PassesOwn (model X.prog X.w) X.A X.env X.xe) (sm : Stm X) : ∀ (s : List S) (x : List Stmt), msts m X.N X.env.scope s x = true → PSs X x (tSs U W s)
  | [], [], _ => PSs.imp pss_nil fun D σ H ⟨F, ρ, er, q⟩ => by
    rw [exs] at q
    exact q F H σ er (Stp.refl ..)
  | s :: r, x :: xs, h => by
    unfold msts at h
    rw [Bool.and_eq_true] at h
    exact PSs.imp (pss_cons (sndS C so hp sm s x h.1) (sndSs C so hp sm r xs h.2)) fun D σ H q => seq_core q
  | [], _ :: _, h => by unfold msts at h; cases h
  | _ :: _, [], h => by unfold msts at h; cases h
end
end
end BV

/-! BvD: defs, by their level; the facts of a text. -/
namespace BV
open PySem L2 PySem.Spec PyProof.Rows
structure Dfn where
  g : Nat
  x : Str
  at_ : Str × Option Str
  name : Str
  qual : Str
  params : Arguments
  body : List Stmt
  scope : Scope
  ps : List Str
  N : List Str
  hot : Bool
  f : Fn
def defName (s : Stmt) : Str := match s with
  | .FunctionDef n _ _ _ _ _ _ _ _ _ => n
  | _ => Str.empty
def Dfn.mk' (st : Stmt) (g : Nat) (ps N : List Str) (hot : Bool) (f : Fn) : Dfn := ⟨g, defName st, (defName st, none), defName st, defName st, defArgs st, defBody st, defScope st, ps, N, hot, f⟩
/-- the statements of a class; a def of it -/
def clsBody (s : Stmt) : List Stmt := match s with
  | .ClassDef _ _ _ body _ _ _ _ _ _ _ => body
  | _ => []
def clsDef (s : Stmt) (n : String) : Stmt := match (clsBody s).find? (fun x => defName x == Str.ofString n) with
  | some x => x
  | none => .Pass ⟨0, 0, 0, 0⟩
/-- a method -/
def Dfn.mkM (st : Stmt) (c n : String) (g : Nat) (ps N : List Str) (hot : Bool) (f : Fn) : Dfn := ⟨g, Str.ofString (c ++ "." ++ n), (Str.ofString c, some (Str.ofString n)), Str.ofString n, Str.ofString (c ++ "." ++ n), defArgs (clsDef st n), defBody (clsDef st n), defScope (clsDef st n), ps, N, hot, f⟩
def Dfn.dd (d : Dfn) : He.DefD := ⟨d.at_, d.name, d.qual, d.params, d.body, d.scope, [], []⟩
def Dfn.ad (K : PySem.W.Frag) (d : Dfn) : Addr := He.fAd K d.at_
def Dfn.ent (d : Dfn) : Ent := match d.at_.2 with
  | none => if d.hot = true then .fnh d.f else .fn d.f
  | some _ => .mt d.hot d.f
/-- an exception class's own __init__ -/
structure Xin where
  c : String
  bx : String
  fs : List String
  qual : Str
  params : Arguments
  body : List Stmt
  scope : Scope
  ps : List Str
def Xin.mk' (st : Stmt) (c bx : String) (fs : List String) (ps : List Str) : Xin := ⟨c, bx, fs, Str.ofString (c ++ ".__init__"), defArgs (clsDef st "__init__"), defBody (clsDef st "__init__"), defScope (clsDef st "__init__"), ps⟩
def Xin.dd (d : Xin) : He.DefD := ⟨(Str.ofString d.c, some "__init__"), "__init__", d.qual, d.params, d.body, d.scope, [], []⟩
abbrev Ents := List (Str × Ent)
def gnE (es : Ents) (g : Nat) : Str := match es[g]? with
  | some p => p.1
  | none => Str.empty
def tbE (es : Ents) : Tb := fun g => match es[g]? with
  | some p => some p.2
  | none => none
def isDct : D → Bool
  | .dct _ _ _ => true
  | _ => false
def mkE (es : Ents) : Mk0 where
  gn := gnE es
  isV := fun g => match es[g]? with
    | some (_, .val d) => !isDct d
    | _ => false
  isD := fun g => match es[g]? with
    | some (_, .val (.dct 0 _ _)) => true
    | _ => false
  isF := fun g => match es[g]? with
    | some (_, .fn _) => true
    | some (_, .fnh _) => true
    | _ => false
  hot := false
  isH := fun g => match es[g]? with
    | some (_, .fnh _) => true
    | some (_, .mt h _) => h
    | _ => false
  xs := es.filterMap fun p => match p.2 with
    | .xc c sup _ => some (c, sup)
    | _ => none
  xf := es.filterMap fun p => match p.2 with
    | .xc c _ (some fs) => some (c, fs)
    | _ => none
  ics := es.filterMap fun p => match p.2 with
    | .ic c fs _ => some (c, fs)
    | _ => none
  mth := es.flatMap fun p => match p.2 with
    | .ic c _ ms => ms.map fun q => (c, q.1, q.2)
    | _ => []
def scopeB (N ps : List Str) (sc : Scope) : Bool := (match sc.kind with | .function => true | _ => false) && !sc.isCoroutine && !sc.isGenerator && decide N.Nodup && decide (N.take ps.length = ps) &&
  (ps.all fun x => match sc.names.lookup x with | some .local => true | some .cell => true | _ => false) && (sc.names.all fun y => match y.2 with | .free => false | _ => true)
theorem scope_ok {N ps : List Str} {sc : Scope} (h : scopeB N ps sc = true) : FnScope N ps sc := by
  unfold scopeB at h
  simp only [Bool.and_eq_true, Bool.not_eq_true', decide_eq_true_eq, List.all_eq_true] at h
  obtain ⟨⟨⟨⟨⟨⟨h1, h2⟩, h3⟩, h4⟩, h5⟩, h6⟩, h7⟩ := h
  refine ⟨?_, h2, h3, h4, h5, fun x hx => ?_, fun y hy e => ?_⟩
  · split at h1
    · assumption
    · cases h1
  · have q := h6 x hx
    split at q
    · exact .inl (by assumption)
    · exact .inr (by assumption)
    · cases q
  · have q := h7 y hy
    rw [e] at q
    cases q
def mkH (es : Ents) (hot : Bool) : Mk0 := { mkE es with hot := hot }
def Dfn.chk (es : Ents) (d : Dfn) : Bool := scopeB d.N d.ps d.scope && msts (mkH es d.hot) d.N d.scope d.f.body d.body && decide (d.f.np = d.ps.length) && decide (d.f.nn = d.N.length) && decide (gnE es d.g = d.x) && (d.at_.2.isSome || (decide (d.at_.1 = d.x)))
def Xin.chk (es : Ents) (d : Xin) : Bool := scopeB d.ps d.ps d.scope && xiB d.ps d.scope (Str.ofString d.bx) d.fs d.body && decide (d.ps.length = 1 + d.fs.length) && !d.fs.isEmpty && decide (d.bx ∈ (mkE es).xs.map (·.1)) && decide ((mkE es).xf.lookup d.bx = none) && decide ((mkE es).xf.lookup d.c = some d.fs)
/-! ### a def's end -/
theorem RsO.res {K : PySem.W.Frag} {H0 F4 H4 : Hp} {σ0 σ4 σ : Sg} {ρ0 ρ0' ρ4 ρ4' : Rho} {v : V} {d : D} {b : Bool} (r : RsO K H0 σ0 ρ0 F4 H4 σ4 ρ4 v d b) (h1 : ∀ a, OnA σ0 ρ0 a → OnA σ ρ0' a) (h2 : ∀ a, OnA σ ρ4' a → OnA σ4 ρ4 a) : Res K H0 ρ0' F4 H4 σ ρ4' v d b := by
  unfold RsO at r
  unfold Res
  cases b with
  | false => exact r
  | true =>
    rw [if_pos rfl] at r ⊢
    obtain ⟨a, q1, q2, q3, q4, q5⟩ := r
    exact ⟨a, q1, q2, fun z => q3 (h2 a z), q4, q5.imp (h1 a) id⟩
section
variable {K : PySem.W.Frag} {F H F' H' : Hp} {σ' : Sg} {cells : List Cell} {vs : List V} {ρ' : Rho} {nn : Nat}
theorem keep_on {c : Cell} {d : D} (h : c.keep.on = some d) : c.keep = c ∧ c.pin = true := by
  unfold Cell.keep at h ⊢
  split
  · exact ⟨rfl, by assumption⟩
  · rename_i z
    rw [if_neg z] at h
    cases h
theorem keep_fr {c : Cell} {d : D} (h : c.keep.fr = some d) : c.keep = c ∧ c.pin = true := by
  unfold Cell.keep at h ⊢
  split
  · exact ⟨rfl, by assumption⟩
  · rename_i z
    rw [if_neg z] at h
    cases h
theorem fin_get {ρ : Rho} {n i : Nat} {c : Cell} (h : (finOf ρ n)[i]? = some c) : i < n ∧ ∃ c1, ρ[i]? = some c1 ∧ c = c1.keep := by
  unfold finOf at h
  rw [List.getElem?_map] at h
  obtain ⟨c1, h1, h2⟩ := Option.map_eq_some_iff.mp h
  rw [List.getElem?_take] at h1
  split at h1
  · exact ⟨by assumption, c1, h1, h2.symm⟩
  · cases h1
theorem start_get {N : List Str} {i : Nat} (h : i < vs.length) : (L2.start N vs)[i]? = (vs.map some)[i]? := by
  unfold L2.start
  rw [List.getElem?_append_left (by simpa using h)]
theorem cells_env (e : EnvR K F H (vs.map some) cells) {N : List Str} {np : Nat} (h1 : cells.length = np) (h2 : np ≤ nn) (hN : nn = N.length) : EnvR K F H (L2.start N vs) (cells ++ List.replicate (nn - np) .un) := by
  have hl : cells.length = vs.length := by have := e.len; rwa [List.length_map] at this
  have get : ∀ {i : Nat} {c : Cell}, (cells ++ List.replicate (nn - np) Cell.un)[i]? = some c → c ≠ .un → cells[i]? = some c ∧ i < vs.length := fun {i c} h n => by
    rw [List.getElem?_append] at h
    split at h
    · exact ⟨h, by omega⟩
    · rw [List.getElem?_replicate] at h
      split at h
      · exact absurd (Option.some.inj h).symm n
      · cases h
  refine ⟨e.sub, ?_, fun i c d h3 h4 => ?_, fun i c d h3 h4 => ?_, fun i j c c' a h3 h4 h5 h6 h7 h8 => ?_⟩
  · unfold L2.start
    simp only [List.length_append, List.length_replicate, List.length_map]
    omega
  · obtain ⟨q1, q2⟩ := get h3 (fr_un h4)
    rw [start_get q2]
    exact e.fr i c d q1 h4
  · obtain ⟨q1, q2⟩ := get h3 (on_un (by rw [h4]; rfl))
    rw [start_get q2]
    exact e.on i c d q1 h4
  · obtain ⟨q1, q2⟩ := get h3 (on_un h5)
    obtain ⟨p1, p2⟩ := get h4 (on_un h6)
    rw [start_get q2] at h7
    rw [start_get p2] at h8
    exact e.ap i j c c' a q1 p1 h5 h6 h7 h8
theorem ret_env (e : EnvR K F H (vs.map some) cells) (cz : ∀ c ∈ cells, (∃ d, c = .fz d) ∨ ∃ d, c = .pr d) {N : List Str} {np : Nat} (h1 : cells.length = np) (h2 : np ≤ nn) (hN : nn = N.length)
    (e' : EnvR K F' H' σ' ρ') (s : Stp F H (L2.start N vs) (cells ++ List.replicate (nn - np) .un) F' H' σ' ρ') :
    EnvR K F' H' (vs.map some) (finOf ρ' np) ∧ Stp F H (vs.map some) cells F' H' (vs.map some) (finOf ρ' np) ∧ (∀ a, OnA (vs.map some) (finOf ρ' np) a → OnA σ' ρ' a) ∧ ∀ a, OnA (L2.start N vs) (cells ++ List.replicate (nn - np) .un) a → OnA (vs.map some) cells a := by
  have hl : cells.length = vs.length := by have := e.len; rwa [List.length_map] at this
  have hl2 : ρ'.length = nn := by rw [s.ln, List.length_append, List.length_replicate]; omega
  have base : ∀ {i : Nat}, i < np → (cells ++ List.replicate (nn - np) Cell.un)[i]? = cells[i]? := fun {i} hi => List.getElem?_append_left (by omega)
  -- what stands behind a pinned cell
  have pinned : ∀ {i : Nat} {c1 : Cell}, i < np → ρ'[i]? = some c1 → c1.pin = true → σ'[i]? = (vs.map some)[i]? ∧ ∃ d, cells[i]? = some (.pr d) := fun {i c1} hi q1 q2 => by
    have hi' : i < cells.length := by omega
    obtain ⟨c2, p1, p2, p3⟩ := s.pin i cells[i] (by rw [base hi]; exact List.getElem?_eq_getElem hi')
    rw [q1] at p1; cases p1
    rcases cz cells[i] (List.getElem_mem hi') with ⟨d, q⟩ | ⟨d, q⟩
    · rw [q] at p2
      have p2 : c1.pin = false := p2
      rw [p2] at q2; cases q2
    · refine ⟨?_, d, by rw [List.getElem?_eq_getElem hi', q]⟩
      rw [p3 (by rw [q]; rfl)]
      exact start_get (by omega)
  have onF : ∀ a, OnA (vs.map some) (finOf ρ' np) a → OnA σ' ρ' a := fun a ⟨i, c, q1, q2, q3⟩ => by
    obtain ⟨hi, c1, g1, g2⟩ := fin_get q1
    subst g2
    obtain ⟨d, hd⟩ := Option.isSome_iff_exists.mp q2
    obtain ⟨k1, k2⟩ := keep_on hd
    rw [k1] at q2
    exact ⟨i, c1, g1, q2, by rw [(pinned hi g1 k2).1]; exact q3⟩
  have onB : ∀ a, OnA (L2.start N vs) (cells ++ List.replicate (nn - np) .un) a → OnA (vs.map some) cells a := fun a ⟨i, c, q1, q2, q3⟩ => by
    rw [List.getElem?_append] at q1
    split at q1
    · rename_i hi
      rw [start_get (by omega)] at q3
      exact ⟨i, c, q1, q2, q3⟩
    · rw [List.getElem?_replicate] at q1
      split at q1
      · cases q1; cases q2
      · cases q1
  have onB' : ∀ a, OnA (vs.map some) cells a → OnA (L2.start N vs) (cells ++ List.replicate (nn - np) .un) a := fun a ⟨i, c, q1, q2, q3⟩ => by
    have hi := (List.getElem?_eq_some_iff.mp q1).1
    exact ⟨i, c, by rw [base (by omega)]; exact q1, q2, by rw [start_get (by omega)]; exact q3⟩
  have hfl : (finOf ρ' np).length = np := by
    unfold finOf
    rw [List.length_map, List.length_take]
    omega
  refine ⟨⟨e'.sub, by rw [hfl, List.length_map]; omega, fun i c d q1 q2 => ?_, fun i c d q1 q2 => ?_, fun i j c c' a q1 q2 q3 q4 q5 q6 => ?_⟩, ⟨s.ext, fun a o q1 q2 q3 => s.frm a o q1 q2 fun z => q3 (onB a z), fun a q => ?_, fun i c q1 => ?_, by rw [hfl]; omega⟩, onF, onB⟩
  · obtain ⟨hi, c1, g1, g2⟩ := fin_get q1
    subst g2
    obtain ⟨k1, k2⟩ := keep_fr q2
    rw [← (pinned hi g1 k2).1]
    exact e'.fr i c1 d g1 (by rw [← k1]; exact q2)
  · obtain ⟨hi, c1, g1, g2⟩ := fin_get q1
    subst g2
    obtain ⟨k1, k2⟩ := keep_on q2
    rw [← (pinned hi g1 k2).1]
    exact e'.on i c1 d g1 (by rw [← k1]; exact q2)
  · obtain ⟨hi, c1, g1, g2⟩ := fin_get q1
    obtain ⟨hj, c2, g3, g4⟩ := fin_get q2
    subst g2; subst g4
    obtain ⟨d, hd⟩ := Option.isSome_iff_exists.mp q3
    obtain ⟨d', hd'⟩ := Option.isSome_iff_exists.mp q4
    obtain ⟨k1, k2⟩ := keep_on hd
    obtain ⟨k3, k4⟩ := keep_on hd'
    rw [k1] at q3
    rw [k3] at q4
    exact e'.ap i j c1 c2 a g1 g3 q3 q4 (by rw [(pinned hi g1 k2).1]; exact q5) (by rw [(pinned hj g3 k4).1]; exact q6)
  · rcases s.new a (onF a q) with z | z
    · exact .inl (onB a z)
    · exact .inr z
  · have hi := (List.getElem?_eq_some_iff.mp q1).1
    obtain ⟨c1, p1, p2, p3⟩ := s.pin i c (by rw [base (by omega)]; exact q1)
    have g : (finOf ρ' np)[i]? = some c1.keep := by
      unfold finOf
      rw [List.getElem?_map, List.getElem?_take, if_pos (by omega), p1]
      rfl
    refine ⟨c1.keep, g, ?_, fun _ => rfl⟩
    rcases cz c (List.mem_of_getElem? q1) with ⟨d, rfl⟩ | ⟨d, rfl⟩
    · have p2 : c1.pin = false := p2
      show c1.keep.pin = false
      unfold Cell.keep
      rw [if_neg (by rw [p2]; exact Bool.false_ne_true)]
      rfl
    · obtain ⟨d', p2 | p2⟩ := p2
      · subst p2; exact ⟨d', .inl rfl⟩
      · subst p2; exact ⟨d', .inr rfl⟩
end
section
variable {P : Program} {w : World} {K : PySem.W.Frag} {mg : Str → Option Value} {base : Heap} {es : Ents} {ds : List Dfn}
def surE (K : PySem.W.Frag) (mg : Str → Option Value) (es : Ents) (k : Nat) : Sur := ⟨K, mg, gnE es, run (tbE es) k, (mkE es).xs⟩
/-- what is known of the text -/
structure TxtOk (K : PySem.W.Frag) (w : World) (mg : Str → Option Value) (es : Ents) (ds : List Dfn) (xi : List Xin) : Prop where
  all : ∀ (g : Nat) (x : Str) (f : Fn), (es[g]? = some (x, .fn f) ∨ es[g]? = some (x, .fnh f) ∨ ∃ h, es[g]? = some (x, .mt h f)) → ∃ d ∈ ds, d.g = g ∧ d.f = f
  chk : ∀ d ∈ ds, d.chk es = true ∧ es[d.g]? = some (d.x, d.ent)
  fn : ∀ d ∈ ds, ∃ fd, FunD K d.name d.qual d.params d.body d.scope [] [] (d.ad K) fd
  bnd : ∀ d ∈ ds, ∀ (kV doc pm : Value) (an : Option Addr) (cdv ct : Value) (us : List Value), us.length = d.ps.length → bindArgs (PySem.W.fnOf d.name d.qual d.params d.body d.scope .none kV doc pm an cdv ct) ⟨us, []⟩ = pure (d.ps.zip us)
  glo : ∀ d ∈ ds, d.at_.2 = none → mg d.at_.1 = some (.ref (d.ad K))
  dct : ∀ (g : Nat) (x : Str) (ks vs : List D), es[g]? = some (x, .val (.dct 0 ks vs)) → mg x = some (.ref (He.ga K x)) ∧ DctOk K w (He.ga K x) ks vs
  val : ∀ (g : Nat) (x : Str) (d : D), es[g]? = some (x, .val d) → isDct d = false → ∃ u v, mg x = some u ∧ RelV v u ∧ ∀ F : Hp, Rep K F v d
  bu : ∀ x ∈ bnames, mg x = none
  cl : ClsOk K mg (mkE es)
  mth : ∀ c n g, (c, n, g) ∈ (mkE es).mth → ∃ d ∈ ds, d.g = g ∧ d.at_ = (Str.ofString c, some (Str.ofString n))
  xin : ∀ c fs, (mkE es).xf.lookup c = some fs → ∃ d ∈ xi, d.c = c ∧ d.fs = fs
  xchk : ∀ d ∈ xi, d.chk es = true ∧ BiOk K (clA K d.bx) ∧ mg (Str.ofString d.bx) = some (.ref (clA K d.bx))
  xfn : ∀ d ∈ xi, ∃ fd, FunD K "__init__" d.qual d.params d.body d.scope [] [] (He.ma K (clA K d.c) "__init__") fd
  xbnd : ∀ d ∈ xi, ∀ (kV doc pm : Value) (an : Option Addr) (cdv ct : Value) (us : List Value), us.length = d.ps.length → bindArgs (PySem.W.fnOf "__init__" d.qual d.params d.body d.scope .none kV doc pm an cdv ct) ⟨us, []⟩ = pure (d.ps.zip us)
variable {xi : List Xin}
theorem xmk_ok (T : TxtOk K w mg es ds xi) {c : String} {fs : List String} (h : (mkE es).xf.lookup c = some fs) : ∃ fd ps, Binds K fd ps [] ∧ FnOk P w K mg base (L2.CX P w) 1 (He.ma K (clA K c) "__init__") fd ps (spXi K (clA K c) fs) := by
  obtain ⟨d, hd, rfl, rfl⟩ := T.xin c fs h
  obtain ⟨fd, F⟩ := T.xfn d hd
  obtain ⟨ck, B, hm⟩ := T.xchk d hd
  unfold Xin.chk at ck
  simp only [Bool.and_eq_true, decide_eq_true_eq, Bool.not_eq_true'] at ck
  obtain ⟨⟨⟨⟨⟨⟨c1, c2⟩, c3⟩, c4⟩, c5⟩, c6⟩, c7⟩ := ck
  obtain ⟨n1, n2, n3⟩ := T.cl.noX _ _ h
  exact ⟨fd, d.ps, F.bindsN (T.xbnd d hd), xi_ok F (scope_ok c1) c2 hm B c3 rfl n3 n2 (by intro q; rw [q] at c4; cases c4)⟩
theorem cl_heat {m : Mk0} {b : Bool} (cl : ClsOk K mg m) : ClsOk K mg { m with hot := b } := ⟨cl.gc, cl.xok, cl.iok, cl.mgc, cl.kit, cl.kit0, cl.exm, cl.noX, cl.noI, cl.oex, cl.meth, cl.mkr⟩
theorem run_at {g : Nat} {x : Str} {k : Nat} {f : Fn} (h : es[g]? = some (x, .fn f) ∨ es[g]? = some (x, .fnh f) ∨ ∃ h, es[g]? = some (x, .mt h f)) (cells : List Cell) : run (tbE es) (k + 1) g cells = runFn (run (tbE es) k) f cells := by
  unfold run tbE
  rcases h with h | h | ⟨z, h⟩ <;> rw [h]
theorem ent_cases (d : Dfn) : (d.ent = .fn d.f ∧ d.hot = false) ∨ (d.ent = .fnh d.f ∧ d.hot = true) ∨ d.ent = .mt d.hot d.f := by
  unfold Dfn.ent
  cases d.at_.2 <;> cases d.hot <;> simp
theorem def_ok {d : Dfn} {fd : FuncData} {k : Nat} (hd : d.chk es = true) (he : es[d.g]? = some (d.x, d.ent)) (Fd : FunD K d.name d.qual d.params d.body d.scope [] [] (d.ad K) fd) (T : TxtOk K w mg es ds xi)
    (ih : ∀ d ∈ ds, ∃ fd, FunD K d.name d.qual d.params d.body d.scope [] [] (d.ad K) fd ∧ Binds K fd d.ps [] ∧ FnB d.hot P w K mg base (L2.CX P w) (k + 4) (d.ad K) fd d.ps (spF (surE K mg es k) d.g)) :
    FnB d.hot P w K mg base (L2.CX P w) (k + 1 + 4) (d.ad K) fd d.ps (spF (surE K mg es (k + 1)) d.g) := by
  unfold Dfn.chk at hd
  simp only [Bool.and_eq_true, decide_eq_true_eq] at hd
  obtain ⟨⟨⟨⟨⟨hd1, hd2⟩, hd3⟩, hd4⟩, hd5⟩, hd6⟩ := hd
  have S := scope_ok hd1
  have hrun : ∀ cells, run (tbE es) (k + 1) d.g cells = runFn (run (tbE es) k) d.f cells := fun cells => run_at ((ent_cases d).imp (fun e => by rw [he, e.1]) fun e => e.imp (fun e => by rw [he, e.1]) fun e => ⟨_, by rw [he, e]⟩) cells
  refine funD_okB (k := k + 4) Fd S (fun vs H Q E h => ?_) (fun cdv A outer s H vs Q E hh hr h => ?_)
  · obtain ⟨F, cells, rs, fin, e, cz, hrn, _⟩ := h
    have hl : cells.length = vs.length := by have := e.len; rwa [List.length_map] at this
    have hrn : run (tbE es) (k + 1) d.g cells = some (rs, fin) := hrn
    rw [hrun] at hrn
    unfold runFn at hrn
    split at hrn
    · rename_i z
      rw [← hl, z.1, hd3]
    · cases hrn
  · obtain ⟨F, cells, rs, fin, e, cz, hrn, hk⟩ := h
    have hrn : run (tbE es) (k + 1) d.g cells = some (rs, fin) := hrn
    rw [hrun] at hrn
    unfold runFn at hrn
    split at hrn
    · rename_i z
      obtain ⟨z1, z2⟩ := z
      have eS := cells_env e (N := d.N) z1 z2 hd4
      let U : Sur := surE K mg es k
      let Wd : WX := fun cls d _ H => E cls d H
      have so : StOk (cxB d.hot (L2.CX P w) P w K mg base d.N d.qual d.scope (d.ad K) cdv A outer s H E) d.scope := fun x h => ⟨h, .inl rfl⟩
      have C : Ctx U (mkH es d.hot) k (cxB d.hot (L2.CX P w) P w K mg base d.N d.qual d.scope (d.ad K) cdv A outer s H E) Wd := by
        refine ⟨rfl, rfl, rfl, rfl, fun z => ?_, hh, S.nd, takes_of rfl rfl rfl rfl, hr, fun g hg => ?_, fun g hg => ?_, fun g hg => ?_, T.bu, cl_heat T.cl, fun c n g hm => ?_, fun c fs hf => xmk_ok T hf⟩
        · have z : d.hot = false := z
          show (!d.hot) = true
          rw [z]; rfl
        · have hg : (mkE es).isV g = true := hg
          cases q : es[g]? with
          | none => simp [mkE, q] at hg
          | some p =>
            obtain ⟨x, en⟩ := p
            cases en <;> first | (simp [mkE, q] at hg; done) | skip
            rename_i dv
            obtain ⟨u, v, h1, h2, h3⟩ := T.val g x dv q (by simpa [mkE, q] using hg)
            refine ⟨u, v, dv, ?_, h2, h3 _, fun cells => ?_⟩
            · show mg (gnE es g) = some u
              unfold gnE
              rw [q]
              exact h1
            · show run (tbE es) k g cells = _
              cases k with
              | zero =>
                unfold run tbE
                rw [q]
              | succ k =>
                unfold run tbE
                rw [q]
        · have hg : (mkE es).isD g = true := hg
          cases q : es[g]? with
          | none => simp [mkE, q] at hg
          | some p =>
            obtain ⟨x, en⟩ := p
            cases en <;> first | (simp [mkE, q] at hg; done) | skip
            rename_i dv
            cases dv <;> first | (simp [mkE, q] at hg; done) | skip
            rename_i kd ks vs
            cases kd with
            | succ _ => simp [mkE, q] at hg
            | zero =>
              obtain ⟨h1, h2⟩ := T.dct g x ks vs q
              refine ⟨He.ga K x, ks, vs, ?_, fun cells => ?_, h2⟩
              · show mg (gnE es g) = _
                unfold gnE
                rw [q]
                exact h1
              · show run (tbE es) k g cells = _
                cases k with
                | zero =>
                  unfold run tbE
                  rw [q]
                | succ k =>
                  unfold run tbE
                  rw [q]
        · have hg : (mkE es).isF g = true := hg
          cases q : es[g]? with
          | none => simp [mkE, q] at hg
          | some p =>
            obtain ⟨x, en⟩ := p
            have hfe : ∃ f, en = .fn f ∨ en = .fnh f := by
              cases en <;> first | (simp [mkE, q] at hg; done) | exact ⟨_, .inl rfl⟩ | exact ⟨_, .inr rfl⟩
            obtain ⟨f, hfe⟩ := hfe
            obtain ⟨d', hm, e1, e2⟩ := T.all g x f (hfe.imp (fun z => by rw [q, z]) fun z => .inl (by rw [q, z]))
            subst e1
            obtain ⟨fd', F1, F2, F3⟩ := ih d' hm
            have e3 := (T.chk d' hm).2
            rw [q] at e3
            have e4 : x = d'.x ∧ en = d'.ent := by simpa using e3
            have e5 : d'.at_.2 = none := by
              have := e4.2
              unfold Dfn.ent at this
              cases z : d'.at_.2 with
              | none => rfl
              | some _ => rw [z] at this; rcases hfe with w | w <;> (rw [w] at this; cases this)
            have ck := (T.chk d' hm).1
            unfold Dfn.chk at ck
            simp only [Bool.and_eq_true, decide_eq_true_eq] at ck
            have e6 : d'.at_.1 = d'.x := by
              have := ck.2
              rw [e5] at this
              simpa using this
            refine ⟨_, fd', d'.ps, ?_, F1.kp, F2, ?_⟩
            · show mg (gnE es d'.g) = _
              unfold gnE
              rw [q, e4.1, ← e6]
              exact T.glo d' hm e5
            · have hH : (mkH es d.hot).isH d'.g = d'.hot := by
                show (mkE es).isH d'.g = _
                rcases ent_cases d' with ⟨z, z2⟩ | ⟨z, z2⟩ | z <;> simp_all [mkE]
              rw [hH]
              exact F3
        · obtain ⟨d', hm', e1, e2⟩ := T.mth c n g hm
          subst e1
          obtain ⟨fd', F1, F2, F3⟩ := ih d' hm'
          have e3 := (T.chk d' hm').2
          have hH : (mkH es d.hot).isH d'.g = d'.hot := by
            show (mkE es).isH d'.g = _
            rcases ent_cases d' with ⟨z, z2⟩ | ⟨z, z2⟩ | z <;> simp_all [mkE]
          have had : d'.ad K = He.ma K (clA K c) (Str.ofString n) := by
            unfold Dfn.ad
            rw [e2]
            rfl
          rw [hH]
          rw [had] at F3
          exact ⟨fd', d'.ps, F2, F3⟩
      refine ⟨tSs U Wd d.f.body, sndSs C so (passes_of rfl) ⟨rfl, rfl, rfl⟩ d.f.body d.body hd2, F, _, eS, ?_⟩
      have fin_ok : ∀ {F' H' σ' ρ'}, EnvR K F' H' σ' ρ' → Stp F H (L2.start d.N vs) (cells ++ List.replicate (d.f.nn - d.f.np) .un) F' H' σ' ρ' → _ := fun {F' H' σ' ρ'} e' s' => ret_env (K := K) e cz (N := d.N) z1 z2 hd4 e' s'
      have hrn : (match exs U.cs d.f.body (cells ++ List.replicate (d.f.nn - d.f.np) Cell.un) with
        | .nx ρ => some (Rs.ok .non false, finOf ρ d.f.np)
        | .rt d1 b ρ => some (Rs.ok d1 b, finOf ρ d.f.np)
        | .ex x ρ => some (Rs.ex x, finOf ρ d.f.np)
        | _ => none) = some (rs, fin) := hrn
      cases hb : exs U.cs d.f.body (cells ++ List.replicate (d.f.nn - d.f.np) Cell.un) with
      | nx ρ =>
        rw [hb] at hrn
        cases hrn
        intro F' H' σ' e' s'
        obtain ⟨g1, g2, g3, g4⟩ := fin_ok e' s'
        exact hk .non F' H' g1 g2 (by unfold Res; simpa using Rep.non)
      | rt d1 b ρ =>
        rw [hb] at hrn
        cases hrn
        intro v F' H' σ' e' s' r
        obtain ⟨g1, g2, g3, g4⟩ := fin_ok e' s'
        exact hk v F' H' g1 g2 (r.res g4 g3)
      | ex x ρ =>
        rw [hb] at hrn
        cases hrn
        intro cls dd F' H' σ' e' s' r
        obtain ⟨g1, g2, g3, g4⟩ := fin_ok e' s'
        exact hk cls dd F' H' g1 g2 r
      | bk ρ => rw [hb] at hrn; cases hrn
      | ct ρ => rw [hb] at hrn; cases hrn
      | no => rw [hb] at hrn; cases hrn
    · cases hrn
/-- every def, at every level -/
theorem defs_ok (T : TxtOk K w mg es ds xi) : ∀ k, ∀ d ∈ ds, ∃ fd, FunD K d.name d.qual d.params d.body d.scope [] [] (d.ad K) fd ∧ Binds K fd d.ps [] ∧ FnB d.hot P w K mg base (L2.CX P w) (k + 4) (d.ad K) fd d.ps (spF (surE K mg es k) d.g)
  | 0, d, hd => by
    obtain ⟨fd, F⟩ := T.fn d hd
    have no : ∀ vs H Q E, ¬ spF (surE K mg es 0) d.g vs H Q E := fun vs H Q E ⟨F, cells, rs, fin, _, _, h, _⟩ => by
      have h : run (tbE es) 0 d.g cells = some (rs, fin) := h
      unfold run tbE at h
      rw [(T.chk d hd).2] at h
      rcases ent_cases d with ⟨z, _⟩ | ⟨z, _⟩ | z <;> (rw [z] at h; cases h)
    exact ⟨fd, F, F.bindsN (T.bnd d hd), ⟨fun vs H Q E h => (no vs H Q E h).elim, fun A outer s H args us vs Q E _ _ _ _ _ h => (no vs H Q E h).elim⟩⟩
  | k + 1, d, hd => by
    obtain ⟨fd, F⟩ := T.fn d hd
    exact ⟨fd, F, F.bindsN (T.bnd d hd), def_ok (T.chk d hd).1 (T.chk d hd).2 F T (defs_ok T k)⟩
end
/-! ### constants of the text -/
mutual
def dK (K : PySem.W.Frag) : D → Value → Bool
  | .non, .none => true
  | .bl b, .bool c => b == c
  | .int i, .int j _ => decide (i = j)
  | .str s, .str y _ => decide (toS s = y)
  | .tup ds, .ref a => (match K.lookup a with
    | some o => (match o.cls, o.data with
      | .type c, .seq its _ => c == "tuple" && decide (its.size ≤ sizeLine) && dKs K ds its.toList
      | _, _ => false)
    | none => false)
  | _, _ => false
def dKs (K : PySem.W.Frag) : List D → List Value → Bool
  | [], [] => true
  | d :: ds, u :: us => dK K d u && dKs K ds us
  | _, _ => false
end
mutual
theorem dK_ok {K : PySem.W.Frag} : ∀ (d : D) (u : Value), dK K d u = true → ∃ v, RelV v u ∧ ∀ F : Hp, Rep K F v d
  | .non, u, h => by
    cases u <;> first | (unfold dK at h; cases h; done) | skip
    exact ⟨.non, rfl, fun _ => .non⟩
  | .bl b, u, h => by
    cases u <;> first | (unfold dK at h; cases h; done) | skip
    unfold dK at h
    cases eq_of_beq h
    exact ⟨.bl _, rfl, fun _ => .bl _⟩
  | .int i, u, h => by
    cases u <;> first | (unfold dK at h; cases h; done) | skip
    unfold dK at h
    cases of_decide_eq_true h
    exact ⟨.int _, ⟨_, rfl⟩, fun _ => .int _⟩
  | .str s, u, h => by
    cases u <;> first | (unfold dK at h; cases h; done) | skip
    unfold dK at h
    have e := of_decide_eq_true h
    subst e
    exact ⟨.str _, ⟨_, rfl⟩, fun _ => .str _⟩
  | .tup ds, u, h => by
    cases u <;> first | (unfold dK at h; cases h; done) | skip
    rename_i a
    unfold dK at h
    split at h
    · rename_i o ho
      split at h
      · rename_i c its n hc hdt
        simp only [Bool.and_eq_true, beq_iff_eq, decide_eq_true_eq] at h
        obtain ⟨⟨h1, h2⟩, h3⟩ := h
        obtain ⟨vs, r, q⟩ := dKs_ok ds _ h3
        exact ⟨.ref a, rfl, fun F => .tup (.inr ⟨o, its, n, ho, by rw [hc, h1], hdt, h2, r⟩) (q F)⟩
      · cases h
    · cases h
  | .lst _, u, h => by unfold dK at h; cases h
  | .dct _ _ _, u, h => by unfold dK at h; cases h
  | .ins _ _ _, u, h => by unfold dK at h; cases h
  | .scr _, u, h => by unfold dK at h; cases h
theorem dKs_ok {K : PySem.W.Frag} : ∀ (ds : List D) (us : List Value), dKs K ds us = true → ∃ vs, Vals vs us ∧ ∀ F : Hp, RepL K F vs ds
  | [], [], _ => ⟨[], .nil, fun _ => .nil⟩
  | d :: ds, u :: us, h => by
    unfold dKs at h
    rw [Bool.and_eq_true] at h
    obtain ⟨v, r, q⟩ := dK_ok d u h.1
    obtain ⟨vs, rs, qs⟩ := dKs_ok ds us h.2
    exact ⟨v :: vs, .cons r rs, fun F => .cons (q F) (qs F)⟩
  | [], _ :: _, h => by unfold dKs at h; cases h
  | _ :: _, [], h => by unfold dKs at h; cases h
end
/-! ### the facts of the head -/
/-- a dict's entries by keys and values -/
def dctL (K : PySem.W.Frag) : List DictEntry → List D → List D → Bool
  | [], [], [] => true
  | e :: es, .str s :: ks, v :: vs => e.key.isStr (toS s) && dK K v e.val && dctL K es ks vs
  | _, _, _ => false
def dctB (K : PySem.W.Frag) (a : Addr) (ks vs : List D) : Bool := match K.lookup a with
  | some o => (match o.data with
    | .dict es _ => dctL K es.toList ks vs
    | _ => false)
  | none => false
theorem isStr_eq {v : Value} {x : Str} (h : v.isStr x = true) : ∃ t, v = .str x t := by
  cases v <;> first | (cases h; done) | skip
  rename_i s t
  have h : (s == x) = true := h
  exact ⟨t, by rw [eq_of_beq h]⟩
theorem dctL_ok {K : PySem.W.Frag} : ∀ {es : List DictEntry} {ks vs : List D}, dctL K es ks vs = true → ∀ s : List Nat, (∀ j, findD (.str s) ks = some j → ∃ e v d, es.find? (·.key.isStr (toS s)) = some e ∧ RelV v e.val ∧ vs[j]? = some d ∧ ∀ F : Hp, Rep K F v d) ∧
    (findD (.str s) ks = none → es.find? (·.key.isStr (toS s)) = none ∧ es.any (·.refKey) = false)
  | [], [], [], _, s => ⟨fun j h => (nomatch h), fun _ => ⟨rfl, rfl⟩⟩
  | e :: es, .str z :: ks, v :: vs, h, s => by
    unfold dctL at h
    simp only [Bool.and_eq_true] at h
    obtain ⟨⟨h1, h2⟩, h3⟩ := h
    obtain ⟨t, hk⟩ := isStr_eq h1
    have ih := dctL_ok h3 s
    have hs : e.key.isStr (toS s) = (z == s) := by
      rw [hk]
      exact toS_eq z s
    have hr : e.refKey = false := by unfold DictEntry.refKey; rw [hk]
    unfold findD
    show (∀ j, (if (z == s) = true then some 0 else (findD (.str s) ks).map (· + 1)) = some j → _) ∧ ((if (z == s) = true then some 0 else (findD (.str s) ks).map (· + 1)) = none → _)
    rw [List.find?_cons, hs, List.any_cons, hr, Bool.false_or]
    cases hz : (z == s) with
    | true =>
      refine ⟨fun j hj => ?_, fun hj => by cases hj⟩
      cases hj
      obtain ⟨w, r, q⟩ := dK_ok v e.val h2
      exact ⟨e, w, v, rfl, r, rfl, q⟩
    | false =>
      refine ⟨fun j hj => ?_, fun hj => ?_⟩
      · have hj : (findD (.str s) ks).map (· + 1) = some j := hj
        obtain ⟨i, g1, g2⟩ := Option.map_eq_some_iff.mp hj
        subst g2
        obtain ⟨e', w, d, q1, q2, q3, q4⟩ := ih.1 i g1
        exact ⟨e', w, d, q1, q2, by simpa using q3, q4⟩
      · have hj : (findD (.str s) ks).map (· + 1) = none := hj
        exact ih.2 (Option.map_eq_none_iff.mp hj)
theorem dctB_ok {K : PySem.W.Frag} {w : World} {a : Addr} {ks vs : List D} (h : dctB K a ks vs = true) (kd : ∃ es n, KDict K w a es n) : DctOk K w a ks vs := by
  refine ⟨kd, fun s => ?_⟩
  obtain ⟨es, n, kd⟩ := kd
  unfold dctB at h
  rw [kd.at_] at h
  have h : dctL K es.toList ks vs = true := h
  have e : PySem.W.nsIn K a (toS s) = (match es.toList.find? (·.key.isStr (toS s)) with
    | some e => some (some e.val)
    | none => if es.toList.any (·.refKey) then none else some none) := by
    unfold PySem.W.nsIn
    rw [kd.at_]
    rfl
  obtain ⟨g1, g2⟩ := dctL_ok h s
  refine ⟨fun j hj => ?_, fun hj => ?_⟩
  · obtain ⟨e', v, d, q1, q2, q3, q4⟩ := g1 j hj
    exact ⟨e'.val, v, d, by rw [e, q1], q2, q3, q4⟩
  · obtain ⟨q1, q2⟩ := g2 hj
    rw [e, q1, q2]
    rfl
def strOf : D → Str
  | .str s => toS s
  | _ => Str.empty
def tabOf1 (p : Str × Ent) : List He.Tab := match p.2 with
  | .val (.dct 0 ks _) => [(fun K => He.ga K p.1, ks.map strOf)]
  | _ => []
def tabsOf (es : Ents) : List He.Tab := es.flatMap tabOf1
def exE1 (K : PySem.W.Frag) (p : Str × Ent) : Bool := match p.2 with
  | .val (.dct 0 ks vs) => He.eqO (PySem.W.nsIn K mainGlobals p.1) (some (some (.ref (He.ga K p.1)))) && dctB K (He.ga K p.1) ks vs
  | .val d => (match PySem.W.nsIn K mainGlobals p.1 with
    | some (some u) => dK K d u
    | _ => false)
  | .fn _ => He.eqO (PySem.W.nsIn K mainGlobals p.1) (some (some (.ref (He.ga K p.1))))
  | .fnh _ => He.eqO (PySem.W.nsIn K mainGlobals p.1) (some (some (.ref (He.ga K p.1))))
  | .xc c _ none => biB K (clA K c)
  | _ => true
def exE (es : Ents) (K : PySem.W.Frag) : Bool := (es.all fun p => exE1 K p) && clsB K (mkE es)
def faB : List He.Fa := bnames.map He.Fa.free
def BndAt (d : Dfn) : Prop := ∀ (kV doc pm : Value) (an : Option Addr) (cdv ct : Value) (us : List Value), us.length = d.ps.length → bindArgs (PySem.W.fnOf d.name d.qual d.params d.body d.scope .none kV doc pm an cdv ct) ⟨us, []⟩ = pure (d.ps.zip us)
def BndXi (d : Xin) : Prop := ∀ (kV doc pm : Value) (an : Option Addr) (cdv ct : Value) (us : List Value), us.length = d.ps.length → bindArgs (PySem.W.fnOf "__init__" d.qual d.params d.body d.scope .none kV doc pm an cdv ct) ⟨us, []⟩ = pure (d.ps.zip us)
def BndOk (ds : List Dfn) : Prop := ∀ d ∈ ds, BndAt d
def BndOkX (xi : List Xin) : Prop := ∀ d ∈ xi, BndXi d
/-- all defs of a text -/
def fnsOf (ds : List Dfn) (xi : List Xin) : List He.DefD := ds.map Dfn.dd ++ xi.map Xin.dd
/-- the methods' table fits the defs -/
def mthB (es : Ents) (ds : List Dfn) : Bool := (mkE es).mth.all fun p => ds.any fun d => d.g == p.2.2 && decide (d.at_ = (Str.ofString p.1, some (Str.ofString p.2.1)))
def xinB (es : Ents) (xi : List Xin) : Bool := (mkE es).xf.all fun p => xi.any fun d => d.c == p.1 && decide (d.fs = p.2)
theorem txt_ok {K : PySem.W.Frag} {h : Heap} {mg : Str → Option Value} {es : Ents} {ds : List Dfn} {xi : List Xin} {w : World} (X : K.In h) (G : h.Ns mainGlobals mg) (c : He.SaysX faB (fnsOf ds xi) (tabsOf es) [] (exE es) w h K)
    (all : ∀ (g : Nat) (x : Str) (f : Fn), (es[g]? = some (x, .fn f) ∨ es[g]? = some (x, .fnh f) ∨ ∃ h, es[g]? = some (x, .mt h f)) → ∃ d ∈ ds, d.g = g ∧ d.f = f) (chk : ∀ d ∈ ds, d.chk es = true ∧ es[d.g]? = some (d.x, d.ent)) (bnd : BndOk ds)
    (mth : mthB es ds = true) (xin : xinB es xi = true) (xck : ∀ d ∈ xi, d.chk es = true) (xbnd : BndOkX xi) : TxtOk K w mg es ds xi := by
  have c1 : He.SaysD faB (fnsOf ds xi) K := congrArg (fun z : He.AlT => z.1) c.t
  have cm := c.more
  unfold exE at cm
  rw [Bool.and_eq_true] at cm
  have gl : ∀ p ∈ es, exE1 K p = true := List.all_eq_true.mp cm.1
  have cl := clsB_ok X G cm.2
  refine ⟨all, chk, fun d hd => ?_, bnd, fun d hd hn => ?_, fun g x ks vs q => ?_, fun g x d q hd => ?_, fun x hx => ?_, cl, fun c n g hm => ?_, fun c fs e => ?_, fun d hd => ⟨xck d hd, ?_, ?_⟩, fun d hd => ?_, xbnd⟩
  · obtain ⟨fd, F⟩ := c1.defs (d := d.dd) (List.mem_append_left _ (List.mem_map_of_mem hd))
    exact ⟨fd, F⟩
  · have e := (chk d hd).2
    have he : d.ent = .fn d.f ∨ d.ent = .fnh d.f := by unfold Dfn.ent; rw [hn]; cases d.hot <;> simp
    have ck := (chk d hd).1
    unfold Dfn.chk at ck
    simp only [Bool.and_eq_true, decide_eq_true_eq] at ck
    have e6 : d.at_.1 = d.x := by
      have := ck.2
      rw [hn] at this
      simpa using this
    have q := gl _ (List.mem_of_getElem? e)
    have q : He.eqO (PySem.W.nsIn K mainGlobals d.x) (some (some (.ref (He.ga K d.x)))) = true := by
      rcases he with he | he <;> (rw [he] at q; exact q)
    have had : d.ad K = He.ga K d.x := by
      unfold Dfn.ad He.fAd
      rw [hn, e6]
    rw [had, e6]
    exact PySem.W.mg_of X G (He.eqO_ok q)
  · have hm := List.mem_of_getElem? q
    have q2 : (He.eqO (PySem.W.nsIn K mainGlobals x) (some (some (.ref (He.ga K x)))) && dctB K (He.ga K x) ks vs) = true := gl _ hm
    rw [Bool.and_eq_true] at q2
    refine ⟨PySem.W.mg_of X G (He.eqO_ok q2.1), dctB_ok q2.2 ?_⟩
    have ht : ((fun K => He.ga K x, ks.map strOf) : He.Tab) ∈ tabsOf es := List.mem_flatMap.mpr ⟨_, hm, List.mem_singleton.mpr rfl⟩
    obtain ⟨i, hi, e⟩ := List.mem_iff_getElem.mp ht
    exact c.t.tab i (t := (fun K => He.ga K x, ks.map strOf)) (by rw [List.getElem?_eq_getElem hi, e])
  · have q := gl _ (List.mem_of_getElem? q)
    have q : (match PySem.W.nsIn K mainGlobals x with | some (some u) => dK K d u | _ => false) = true := by
      cases d <;> first | exact q | (simp [isDct] at hd)
    split at q
    · rename_i u hu
      obtain ⟨v, r1, r2⟩ := dK_ok d u q
      exact ⟨u, v, PySem.W.mg_of X G hu, r1, r2⟩
    · cases q
  · exact He.free_ok X G (c1.facts (f := .free x) (List.mem_map_of_mem hx))
  · have q := List.all_eq_true.mp mth _ hm
    obtain ⟨d, h1, h2⟩ := List.any_eq_true.mp q
    simp only [Bool.and_eq_true, beq_iff_eq, decide_eq_true_eq] at h2
    exact ⟨d, h1, h2.1, h2.2⟩
  · have q := List.all_eq_true.mp xin _ (lk_mem e)
    obtain ⟨d, h1, h2⟩ := List.any_eq_true.mp q
    simp only [Bool.and_eq_true, beq_iff_eq, decide_eq_true_eq] at h2
    exact ⟨d, h1, h2.1, h2.2⟩
  · have ck := xck d hd
    unfold Xin.chk at ck
    simp only [Bool.and_eq_true, decide_eq_true_eq] at ck
    obtain ⟨⟨_, hb⟩, hn⟩ := ck.1
    obtain ⟨p, hp, e⟩ := List.mem_map.mp hb
    obtain ⟨r, hr, e2⟩ := List.mem_filterMap.mp hp
    obtain ⟨x, en⟩ := r
    cases en <;> first | (cases e2; done) | skip
    rename_i c' sup fs
    have e2 : some (c', sup) = some p := e2
    cases e2
    have e : c' = d.bx := e
    cases fs with
    | none => rw [← e]; exact biB_ok (gl _ hr)
    | some fs =>
      exfalso
      have hm : (c', fs) ∈ (mkE es).xf := List.mem_filterMap.mpr ⟨_, hr, rfl⟩
      rw [e] at hm
      have : ∀ {l : List (String × List String)}, (d.bx, fs) ∈ l → l.lookup d.bx ≠ none := by
        intro l
        induction l with
        | nil => intro h; cases h
        | cons p l ih =>
          intro h
          obtain ⟨k, v⟩ := p
          unfold List.lookup
          split
          · intro z; cases z
          · rename_i z
            rcases List.mem_cons.mp h with h | h
            · cases h
              simp at z
            · exact ih h
      exact this hm hn
  · have ck := xck d hd
    unfold Xin.chk at ck
    simp only [Bool.and_eq_true, decide_eq_true_eq] at ck
    exact cl.mgc _ (List.mem_append_left _ ck.1.1.2)
  · obtain ⟨fd, F⟩ := c1.defs (d := d.dd) (List.mem_append_right _ (List.mem_map_of_mem hd))
    exact ⟨fd, F⟩
/-- a law's end: what its def answers -/
theorem law_sp {K : PySem.W.Frag} {mg : Str → Option Value} {es : Ents} {k g : Nat} {H : Hp} {a : Addr} {ns : List Int} (hS : SqL K H a (ns.map V.int)) (h : ∃ b fin, run (tbE es) k g [.fz (.scr ns)] = some (.ok (.bl true) b, fin)) :
    spF (surE K mg es k) g [.ref a] H (fun v _ => v = .bl true) fun _ _ _ => False := by
  obtain ⟨b, fin, h⟩ := h
  refine ⟨H, [.fz (.scr ns)], .ok (.bl true) b, fin, ⟨Same.refl _, rfl, fun i c d h1 h2 => ?_, fun i c d h1 h2 => ?_, fun i j c c' a' h1 h2 h3 h4 h5 h6 => ?_⟩, fun c hc => ?_, h, fun v F' H' e s r => ?_⟩
  · match i, h1 with
    | 0, h1 =>
      cases h1
      cases h2
      exact ⟨_, rfl, .scr hS⟩
    | i + 1, h1 => simp at h1
  · match i, h1 with
    | 0, h1 => cases h1; cases h2
    | i + 1, h1 => simp at h1
  · match i, h1 with
    | 0, h1 => cases h1; cases h3
    | i + 1, h1 => simp at h1
  · have e : c = .fz (.scr ns) := by simpa using hc
    exact .inl ⟨_, e⟩
  · unfold Res at r
    cases b with
    | false =>
      have r : Rep K F' v (.bl true) := r
      cases r
      rfl
    | true =>
      rw [if_pos rfl] at r
      obtain ⟨_, _, _, _, t, _⟩ := r
      exact t.elim
theorem cx_end {P : Program} {w : World} (H : Hp) (s : Shared) (e : Value) (s' : Shared) (h : L2.CX P w [] H s (fun _ _ _ => False) e s') : False := by
  obtain ⟨_, _, _, _, _, _, _, _, _, _, _, _, z⟩ := h
  exact z.elim
/-! ### tables by lists -/
def esOf (ds : List Dfn) (cs : List (Str × D)) (ys : List (Str × Ent)) : Ents := ds.map (fun d => (d.x, d.ent)) ++ (cs.map (fun c => (c.1, Ent.val c.2)) ++ ys)
def ixB (ds : List Dfn) (ys : List (Str × Ent)) : Bool := ((List.range ds.length).all fun i => match ds[i]? with
  | some d => d.g == i
  | none => false) && ys.all fun y => match y.2 with
  | .fn _ => false
  | .fnh _ => false
  | .mt _ _ => false
  | _ => true
theorem ix_at {ds : List Dfn} {ys : List (Str × Ent)} (h : ixB ds ys = true) {i : Nat} {d : Dfn} (e : ds[i]? = some d) : d.g = i := by
  unfold ixB at h
  rw [Bool.and_eq_true] at h
  have hi := (List.getElem?_eq_some_iff.mp e).1
  have q := List.all_eq_true.mp h.1 i (List.mem_range.mpr hi)
  rw [e] at q
  exact eq_of_beq q
theorem txt_okE {K : PySem.W.Frag} {h : Heap} {mg : Str → Option Value} {cs : List (Str × D)} {ds : List Dfn} {ys : List (Str × Ent)} {xi : List Xin} {w : World} (X : K.In h) (G : h.Ns mainGlobals mg) (c : He.SaysX faB (fnsOf ds xi) (tabsOf (esOf ds cs ys)) [] (exE (esOf ds cs ys)) w h K)
    (ix : ixB ds ys = true) (chk : ∀ d ∈ ds, d.chk (esOf ds cs ys) = true) (bnd : BndOk ds) (mth : mthB (esOf ds cs ys) ds = true) (xin : xinB (esOf ds cs ys) xi = true) (xck : ∀ d ∈ xi, d.chk (esOf ds cs ys) = true) (xbnd : BndOkX xi) : TxtOk K w mg (esOf ds cs ys) ds xi := by
  have key : ∀ (g : Nat) (x : Str) (en : Ent), (esOf ds cs ys)[g]? = some (x, en) → (∃ f, en = .fn f ∨ en = .fnh f ∨ ∃ h, en = .mt h f) → ∃ d ∈ ds, d.g = g ∧ d.ent = en := fun g x en q hf => by
    unfold esOf at q
    rw [List.getElem?_append] at q
    split at q
    · rw [List.getElem?_map] at q
      obtain ⟨d, h1, h2⟩ := Option.map_eq_some_iff.mp q
      cases h2
      exact ⟨d, List.mem_of_getElem? h1, ix_at ix h1, rfl⟩
    · exfalso
      rcases List.mem_append.mp (List.mem_of_getElem? q) with hm | hm
      · obtain ⟨p, _, e⟩ := List.mem_map.mp hm
        cases e
        obtain ⟨f, z | z | ⟨_, z⟩⟩ := hf <;> cases z
      · have ix2 := ix
        unfold ixB at ix2
        rw [Bool.and_eq_true] at ix2
        have z := List.all_eq_true.mp ix2.2 _ hm
        obtain ⟨f, e | e | ⟨_, e⟩⟩ := hf <;> (subst e; cases z)
  refine txt_ok X G c (fun g x f q => ?_) (fun d hd => ⟨chk d hd, ?_⟩) bnd mth xin xck xbnd
  · have fin : ∀ {en : Ent}, (∃ d ∈ ds, d.g = g ∧ d.ent = en) → (en = .fn f ∨ en = .fnh f ∨ ∃ h, en = .mt h f) → ∃ d ∈ ds, d.g = g ∧ d.f = f := fun ⟨d, h1, h2, h3⟩ hf => by
      refine ⟨d, h1, h2, ?_⟩
      subst h3
      rcases ent_cases d with ⟨z, _⟩ | ⟨z, _⟩ | z <;> rw [z] at hf <;> obtain w | w | ⟨_, w⟩ := hf <;> cases w <;> rfl
    rcases q with q | q | ⟨h, q⟩
    · exact fin (key g x _ q ⟨f, .inl rfl⟩) (.inl rfl)
    · exact fin (key g x _ q ⟨f, .inr (.inl rfl)⟩) (.inr (.inl rfl))
    · exact fin (key g x _ q ⟨f, .inr (.inr ⟨h, rfl⟩)⟩) (.inr (.inr ⟨h, rfl⟩))
  · obtain ⟨i, h1⟩ := List.mem_iff_getElem?.mp hd
    have e := ix_at ix h1
    have hi := (List.getElem?_eq_some_iff.mp h1).1
    unfold esOf
    rw [List.getElem?_append_left (by rw [List.length_map, e]; exact hi), List.getElem?_map, e, h1]
    rfl
/-- what any world's CX lets by -/
abbrev CXA (P : Program) : CXT := fun outer H s E e s' => ∃ w, L2.CX P w outer H s E e s'
theorem FnOk.any {P : Program} {w : World} {K : PySem.W.Frag} {mg : Str → Option Value} {base : Heap} {k : Nat} {f : Addr} {fd : FuncData} {ps : List Str} {sp : Sp} (F : FnOk P w K mg base (L2.CX P w) k f fd ps sp) : FnOk P w K mg base (CXA P) k f fd ps sp :=
  ⟨F.len, fun A outer s H args us vs Q E hr he hb hv hs => codeAny_mono (F.run A outer s H args us vs Q E hr he hb hv hs) fun r s' q => by
    cases r with
    | error e => exact ⟨w, q⟩
    | ok r => cases r <;> exact q⟩
theorem law_fact {P : Program} {w : World} {K : PySem.W.Frag} {mg : Str → Option Value} {es : Ents} {ds : List Dfn} {xi : List Xin} {d : Dfn} {x : Str} {k : Nat} (T : TxtOk K w mg es ds xi) (hd : d ∈ ds) (hx : d.ps = [x]) :
    ∃ fd : FuncData, (∀ (s : Shared) (v : Value), BindsTo s fd ⟨[v], []⟩ [(x, v)]) ∧ ∀ base : Heap, FnOk P w K mg base (CXA P) (k + 1 + 4) (d.ad K) fd [x] (spF (surE K mg es (k + 1)) d.g) := by
  obtain ⟨fd, F⟩ := T.fn d hd
  refine ⟨fd, fun s v => ?_, fun base => ?_⟩
  · have b := F.bindsA (ps := d.ps) (T.bnd d hd) s [v] (by rw [hx]; rfl)
    rw [hx] at b
    exact b
  · rw [← hx]
    exact FnOk.any (def_ok (T.chk d hd).1 (T.chk d hd).2 F T (defs_ok T k)).cool.ok
theorem cxa_end {P : Program} (H : Hp) (s : Shared) (e : Value) (s' : Shared) (h : CXA P [] H s (fun _ _ _ => False) e s') : False := by
  obtain ⟨w, h⟩ := h
  exact cx_end H s e s' h
end BV

/-! BvW: the laws' own helpers, by their answers. -/
namespace BV
open PySem L2
section
variable {cs : CS} {ρ : Rho}
@[simp] theorem w_var (i : Nat) : ev cs (.var i) ρ = giv ρ i := by first | (rw [ev]; done) | (rw [ev]; rfl)
@[simp] theorem w_non : ev cs .non ρ = .ok (.non, false) ρ := by first | (rw [ev]; done) | (rw [ev]; rfl)
@[simp] theorem w_bl (b : Bool) : ev cs (.bl b) ρ = .ok (.bl b, false) ρ := by first | (rw [ev]; done) | (rw [ev]; rfl)
@[simp] theorem w_int (b : Int) : ev cs (.int b) ρ = .ok (.int b, false) ρ := by first | (rw [ev]; done) | (rw [ev]; rfl)
@[simp] theorem w_str (b : List Nat) : ev cs (.str b) ρ = .ok (.str b, false) ρ := by first | (rw [ev]; done) | (rw [ev]; rfl)
@[simp] theorem w_mv (i : Nat) : ev cs (.mv i) ρ = (match ρ[i]?.getD .un with
    | .ow d => .ok (d, true) (ρ.set i .un)
    | _ => giv ρ i) := by first | (rw [ev]; done) | (rw [ev]; rfl)
@[simp] theorem w_prim (p : P) (es : List E) : ev cs (.prim p es) ρ = (evs cs p.pk es ρ).bind fun as ρ1 => ofO ((gets ρ1 as).bind p.sem) ρ1 := by first | (rw [ev]; done) | (rw [ev]; rfl)
@[simp] theorem w_call (f : Nat) (es : List E) : ev cs (.call f es) ρ = (evs cs true es ρ).bind (callK cs f) := by first | (rw [ev]; done) | (rw [ev]; rfl)
@[simp] theorem w_nt (a : E) : ev cs (.nt a) ρ = ((ev cs a ρ).bind fun v ρ1 => match tru v.1 with
    | some t => .ok (.bl (!t), false) ρ1
    | none => .no) := by first | (rw [ev]; done) | (rw [ev]; rfl)
@[simp] theorem w_and (a b : E) : ev cs (.and a b) ρ = ((ev cs a ρ).bind fun v ρ1 => match tru v.1 with
    | some t => if t then ev cs b ρ1 else .ok (v.1, false) ρ1
    | none => .no) := by first | (rw [ev]; done) | (rw [ev]; rfl)
@[simp] theorem w_or (a b : E) : ev cs (.or a b) ρ = ((ev cs a ρ).bind fun v ρ1 => match tru v.1 with
    | some t => if t then .ok (v.1, false) ρ1 else ev cs b ρ1
    | none => .no) := by first | (rw [ev]; done) | (rw [ev]; rfl)
@[simp] theorem w_ite (c a b : E) : ev cs (.ite c a b) ρ = (evt cs c ρ).bind fun t ρ1 => if t then ev cs a ρ1 else ev cs b ρ1 := by first | (rw [ev]; done) | (rw [ev]; rfl)
@[simp] theorem w_nil (pk : Bool) : evs cs pk [] ρ = .ok [] ρ := by first | (rw [evs]; done) | (rw [evs]; rfl)
@[simp] theorem w_cons (pk : Bool) (e : E) (es : List E) : evs cs pk (e :: es) ρ = (argOf pk e ρ (ev cs e ρ)).bind fun a ρ1 => (evs cs pk es ρ1).bind fun as ρ2 => .ok (a :: as) ρ2 := by first | (rw [evs]; done) | (rw [evs]; rfl)
@[simp] theorem w_mut (m : M) (i : Nat) (es : List E) : ev cs (.mut m i es) ρ = (match (ρ[i]?.getD .un).mt with
    | some d0 => if m.rcv d0 then (evs cs m.pk es ρ).bind fun as ρ1 => (match (ρ1[i]?.getD .un).mt, gets ρ1 as with
      | some d, some ds => (match m.sem d ds with
        | some (d', r) => .ok (r, false) (ρ1.set i ((ρ1[i]?.getD .un).put d'))
        | none => .no)
      | _, _ => .no) else .no
    | none => .no) := by first | (rw [ev]; done) | (rw [ev]; rfl)
@[simp] theorem wt_nt (a : E) : evt cs (.nt a) ρ = (evt cs a ρ).bind fun b ρ1 => .ok (!b) ρ1 := by first | (rw [evt]; done) | (rw [evt]; rfl)
@[simp] theorem wt_and (a b : E) : evt cs (.and a b) ρ = (evt cs a ρ).bind fun t ρ1 => if t then evt cs b ρ1 else .ok false ρ1 := by first | (rw [evt]; done) | (rw [evt]; rfl)
@[simp] theorem wt_or (a b : E) : evt cs (.or a b) ρ = (evt cs a ρ).bind fun t ρ1 => if t then .ok true ρ1 else evt cs b ρ1 := by first | (rw [evt]; done) | (rw [evt]; rfl)
@[simp] theorem wt_var (i : Nat) : evt cs (.var i) ρ = ofO ((ρ[i]?.getD .un).val.bind tru) ρ := by first | (rw [evt]; done) | (rw [evt]; rfl)
@[simp] theorem wt_prim (p : P) (es : List E) : evt cs (.prim p es) ρ = (evs cs p.pk es ρ).bind fun as ρ1 => match (gets ρ1 as).bind p.sem with
    | some (d, _) => ofO (tru d) ρ1
    | none => .no := by first | (rw [evt]; done) | (rw [evt]; rfl)
@[simp] theorem wt_call (f : Nat) (es : List E) : evt cs (.call f es) ρ = ((evs cs true es ρ).bind (callK cs f)).bind fun v ρ1 => ofO (tru v.1) ρ1 := by first | (rw [evt]; done) | (rw [evt]; rfl)
@[simp] theorem wx_asg (t : T) (e : E) : ex cs (.asg t e) ρ = (ev cs e ρ).fl fun v ρ1 => O.fl (stt t v.1 v.2 ρ1) .nx := by first | (rw [ex]; done) | (rw [ex]; rfl)
@[simp] theorem wx_setix (i : Nat) (k v : E) : ex cs (.setix i k v) ρ = (ev cs v ρ).fl fun x ρ1 => O.fl (ρ1[i]?.getD .un).mt fun _ => (ev cs k ρ1).fl fun y ρ2 => O.fl ((ρ2[i]?.getD .un).mt.bind fun d => setIx d y.1 x.1) fun d' => .nx (ρ2.set i ((ρ2[i]?.getD .un).put d')) := by first | (rw [ex]; done) | (rw [ex]; rfl)
@[simp] theorem wx_ex (e : E) : ex cs (.ex e) ρ = (ev cs e ρ).fl fun _ ρ1 => .nx ρ1 := by first | (rw [ex]; done) | (rw [ex]; rfl)
@[simp] theorem wx_iff (c : E) (a b : List S) : ex cs (.iff c a b) ρ = (evt cs c ρ).fl fun t ρ1 => if t then exs cs a ρ1 else exs cs b ρ1 := by first | (rw [ex]; done) | (rw [ex]; rfl)
@[simp] theorem wx_ret (e : E) : ex cs (.ret e) ρ = (ev cs e ρ).fl fun v ρ1 => .rt v.1 v.2 ρ1 := by first | (rw [ex]; done) | (rw [ex]; rfl)
@[simp] theorem wx_pass : ex cs .pass ρ = .nx ρ := by first | (rw [ex]; done) | (rw [ex]; rfl)
@[simp] theorem wx_never : ex cs .never ρ = .no := by first | (rw [ex]; done) | (rw [ex]; rfl)
@[simp] theorem ws_nil : exs cs [] ρ = .nx ρ := by first | (rw [exs]; done) | (rw [exs]; rfl)
@[simp] theorem ws_cons (s : S) (r : List S) : exs cs (s :: r) ρ = (ex cs s ρ).then fun ρ1 => exs cs r ρ1 := by first | (rw [exs]; done) | (rw [exs]; rfl)
@[simp] theorem r_ok {α β : Type} (a : α) (f : α → Rho → R β) : R.bind (.ok a ρ) f = f a ρ := rfl
@[simp] theorem r_no {α β : Type} (f : α → Rho → R β) : R.bind .no f = .no := rfl
@[simp] theorem f_ok {α : Type} (a : α) (f : α → Rho → Fl) : R.fl (.ok a ρ) f = f a ρ := rfl
@[simp] theorem f_no {α : Type} (f : α → Rho → Fl) : R.fl .no f = .no := rfl
@[simp] theorem o_some {α : Type} (a : α) (f : α → Fl) : O.fl (some a) f = f a := rfl
@[simp] theorem o_none {α : Type} (f : α → Fl) : O.fl none f = .no := rfl
@[simp] theorem of_some {α : Type} (a : α) : ofO (some a) ρ = .ok a ρ := rfl
@[simp] theorem of_none {α : Type} : ofO (none : Option α) ρ = .no := rfl
@[simp] theorem t_nx (k : Rho → Fl) : Fl.then (.nx ρ) k = k ρ := rfl
@[simp] theorem t_rt (d : D) (b : Bool) (k : Rho → Fl) : Fl.then (.rt d b ρ) k = .rt d b ρ := rfl
@[simp] theorem t_no (k : Rho → Fl) : Fl.then .no k = .no := rfl
@[simp] theorem s_nm (i : Nat) (d : D) (b : Bool) : stt (.nm i) d b ρ = stv ρ i d b := by first | (rw [stt]; done) | (rw [stt]; rfl)
end
/-! ### _law_take -/
def bTake : List S :=
   [.iff (.prim .gt [(.prim .ix [(.var 0), (.int 0)]), (.int 0)])
      [.asg (.nm 5) (.prim .mod [(.prim .ix [(.var 0), (.int 0)]), (.var 1)]),
       .setix 0 (.int 0) (.prim .fdiv [(.prim .ix [(.var 0), (.int 0)]), (.var 1)]),
       .ret (.mv 5)]
      [],
    .setix 0 (.int 3) (.prim .add [(.prim .ix [(.var 0), (.int 3)]), (.int 1)]),
    .asg (.nm 2) (.prim .lst [(.int 2147483629), (.int 2147483587), (.int 2147483579), (.int 2147483563), (.int 2147483549), (.int 2147483543), (.int 2147483497), (.int 2147483489)]),
    .asg (.nm 3) (.prim .mod [(.prim .add [(.prim .add [(.prim .add [(.prim .ix [(.var 0), (.int 1)]), (.prim .mul [(.int 7919), (.prim .ix [(.var 0), (.int 2)])])]), (.prim .mul [(.int 104729), (.prim .ix [(.var 0), (.int 3)])])]), (.int 13)]), (.int 2147483647)]),
    .asg (.nm 3) (.prim .mod [(.prim .pow [(.var 3), (.int 5)]), (.prim .ix [(.var 2), (.prim .mod [(.prim .ix [(.var 0), (.int 3)]), (.int 8)])])]),
    .asg (.nm 4) (.prim .mod [(.prim .add [(.prim .add [(.var 3), (.prim .mul [(.int 40692), (.prim .ix [(.var 0), (.int 2)])])]), (.prim .ix [(.var 0), (.int 3)])]), (.int 2147483647)]),
    .ret (.prim .mod [(.prim .add [(.prim .mul [(.prim .mod [(.prim .pow [(.var 4), (.int 5)]), (.int 2147483647)]), (.int 1000000007)]), (.var 3)]), (.var 1)])]
def fTake : Fn := ⟨2, 6, bTake⟩
/-- the pool's data -/
def isPool (d : D) : Prop := ∃ a b c e : Int, d = .lst [.int a, .int b, .int c, .int e]
@[simp] theorem at_0 {α : Type} (a : α) (r : List α) : atd (a :: r) 0 = some a := by unfold atd ixd; simp
@[simp] theorem at_1 {α : Type} (a b : α) (r : List α) : atd (a :: b :: r) 1 = some b := by unfold atd ixd; rw [if_pos (by decide), if_pos (by simp only [List.length_cons]; omega)]; rfl
@[simp] theorem at_2 {α : Type} (a b c : α) (r : List α) : atd (a :: b :: c :: r) 2 = some c := by unfold atd ixd; rw [if_pos (by decide), if_pos (by simp only [List.length_cons]; omega)]; rfl
@[simp] theorem at_3 {α : Type} (a b c d : α) (r : List α) : atd (a :: b :: c :: d :: r) 3 = some d := by unfold atd ixd; rw [if_pos (by decide), if_pos (by simp only [List.length_cons]; omega)]; rfl
@[simp] theorem si_0 (a b c d x : D) : setIx (.lst [a, b, c, d]) (.int 0) x = some (.lst [x, b, c, d]) := rfl
@[simp] theorem si_3 (a b c d x : D) : setIx (.lst [a, b, c, d]) (.int 3) x = some (.lst [a, b, c, x]) := rfl
theorem mod_c {x n : Int} (h : 0 < n) : modI x n = some (x % n) := by unfold modI; rw [if_pos h]
theorem fdiv_c {x n : Int} (h : 0 < n) (hb : n < 2 ^ 64) : fdivI x n = some (x / n) := by
  unfold fdivI
  rw [if_pos ⟨h, Nat.lt_of_lt_of_le (show n.natAbs < 2 ^ 64 by omega) (Nat.pow_le_pow_right (by decide) (by decide))⟩]
theorem pow_c (x : Int) : powI (x % 2147483647) 5 = some ((x % 2147483647) ^ 5) := by
  unfold powI
  have h1 : 0 ≤ x % 2147483647 := Int.emod_nonneg _ (by omega)
  have h2 : x % 2147483647 < 2147483647 := Int.emod_lt_of_pos _ (by omega)
  rw [if_pos ⟨by omega, by omega, by omega⟩]
  rfl
theorem pow_q {x q : Int} (h : 0 < q) (h2 : q ≤ 2147483647) : powI (x % q) 5 = some ((x % q) ^ 5) := by
  unfold powI
  have h1 : 0 ≤ x % q := Int.emod_nonneg _ (by omega)
  have h2 : x % q < q := Int.emod_lt_of_pos _ (by omega)
  rw [if_pos ⟨by omega, by omega, by omega⟩]
  rfl
theorem mul_l {x c : Int} (h : bits64 c = true) : mulI c x = some (c * x) := by unfold mulI; rw [if_pos (.inl h)]
theorem mul_r {x c : Int} (h : bits64 c = true) : mulI x c = some (x * c) := by unfold mulI; rw [if_pos (.inr h)]
def primes : List D := [.int 2147483629, .int 2147483587, .int 2147483579, .int 2147483563, .int 2147483549, .int 2147483543, .int 2147483497, .int 2147483489]
theorem prime_at (e : Int) : ∃ q, atd primes (e % 8) = some (.int q) ∧ 0 < q ∧ q ≤ 2147483647 := by
  have h : e % 8 = 0 ∨ e % 8 = 1 ∨ e % 8 = 2 ∨ e % 8 = 3 ∨ e % 8 = 4 ∨ e % 8 = 5 ∨ e % 8 = 6 ∨ e % 8 = 7 := by omega
  rcases h with h | h | h | h | h | h | h | h <;> rw [h] <;> exact ⟨_, rfl, by decide, by decide⟩
theorem take_ok {cs : CS} {p : D} {n : Int} (hp : isPool p) (hn : 0 < n) (hb : n < 2 ^ 64) : ∃ (r : Int) (p' : D), runFn cs fTake [.pr p, .fz (.int n)] = some (.ok (.int r) false, [.pr p', .un]) ∧ 0 ≤ r ∧ r < n ∧ isPool p' := by
  obtain ⟨a, b, c, e, rfl⟩ := hp
  have hm : ∀ x : Int, 0 ≤ x % n ∧ x % n < n := fun x => ⟨Int.emod_nonneg _ (by omega), Int.emod_lt_of_pos _ hn⟩
  have b1 : bits64 7919 = true := by decide
  have b2 : bits64 104729 = true := by decide
  have b3 : bits64 40692 = true := by decide
  have b4 : bits64 1000000007 = true := by decide
  have m0 : ∀ x, modI x n = some (x % n) := fun x => mod_c hn
  have m1 : ∀ x, modI x 2147483647 = some (x % 2147483647) := fun x => mod_c (by decide)
  have m8 : ∀ x, modI x 8 = some (x % 8) := fun x => mod_c (by decide)
  by_cases h : 0 < a
  · refine ⟨a % n, .lst [.int (a / n), .int b, .int c, .int e], ?_, (hm a).1, (hm a).2, ⟨_, _, _, _, rfl⟩⟩
    simp [runFn, fTake, bTake, argOf, onVar, isVar, Cell.on, gets, Ag.get, Cell.val, P.pk, P.sem, ixS, cmpS, tru, h, intS, m0, fdiv_c hn hb, stv, Cell.pin, Cell.mt, Cell.put, giv, finOf, Cell.keep]
  · obtain ⟨q, q1, q2, q3⟩ := prime_at (e + 1)
    unfold primes at q1
    have mq : ∀ x, modI x q = some (x % q) := fun x => mod_c q2
    have h' : a ≤ 0 := by omega
    refine ⟨_, .lst [.int a, .int b, .int c, .int (e + 1)], ?_, (hm (((((b + 7919 * c + 104729 * (e + 1) + 13) % 2147483647) ^ 5 % q + 40692 * c + (e + 1)) % 2147483647) ^ 5 % 2147483647 * 1000000007 + ((b + 7919 * c + 104729 * (e + 1) + 13) % 2147483647) ^ 5 % q)).1, (hm _).2, ⟨_, _, _, _, rfl⟩⟩
    simp [runFn, fTake, bTake, argOf, onVar, isVar, Cell.on, gets, Ag.get, Cell.val, P.pk, P.sem, ixS, cmpS, tru, h, h', intS, m0, m1, m8, mq, q1, addS, mul_l b1, mul_l b2, mul_l b3, mul_r b4, pow_c, LIM, stv, Cell.pin, Cell.mt, Cell.put, giv, finOf, Cell.keep]
/-! ### _law_mix -/
def bMix (t : Nat) : List S :=
   [.asg (.nm 2) (.prim .lst []),
    .for (.nm 3) .seq [(.var 1)]
      [.ex (.mut .insert 2 [(.call t [(.var 0), (.prim .add [(.prim .len [(.var 2)]), (.int 1)])]), (.var 3)])],
    .ret (.mv 2)]
def fMix (t : Nat) : Fn := ⟨2, 4, bMix t⟩
/-- a draw below n -/
def Takes1 (cs : CS) (t : Nat) : Prop := ∀ (p : D) (n : Int), isPool p → 0 < n → n < 2 ^ 64 → ∃ (r : Int) (p' : D), cs t [.pr p, .fz (.int n)] = some (.ok (.int r) false, [.pr p', .un]) ∧ 0 ≤ r ∧ r < n ∧ isPool p'
theorem insAt_perm {α : Type} (xs : List α) (i : Nat) (x : α) : (insAt xs i x).Perm (x :: xs) := by
  unfold insAt
  have h := List.perm_middle (a := x) (l₁ := xs.take i) (l₂ := xs.drop i)
  rwa [List.take_append_drop] at h
@[simp] theorem s_seq (xs : List D) : IK.seq.sem [.lst xs] = some xs := rfl
theorem wx_for {cs : CS} {ρ : Rho} (t : T) (k : IK) (es : List E) (b : List S) : ex cs (.for t k es b) ρ = (evs cs true es ρ).fl fun as ρ1 => O.fl ((gets ρ1 as).bind k.sem) fun xs =>
      unbrk (forGo (fStep cs t b) xs (locks ρ1 as)) fun ρ4 => unlocks ρ4 ρ1 as := by rw [ex]; rfl
/-- a loop whose body always goes on: an invariant by what is left -/
theorem for_inv {step : D → Rho → Fl} (P : List D → Rho → Prop) : ∀ (xs : List D) (ρ : Rho), P xs ρ → (∀ x r ρ, P (x :: r) ρ → ∃ ρ', step x ρ = .nx ρ' ∧ P r ρ') → ∃ ρ', forGo step xs ρ = .nx ρ' ∧ P [] ρ'
  | [], ρ, h, _ => ⟨ρ, rfl, h⟩
  | x :: xs, ρ, h, hs => by
    obtain ⟨ρ1, h1, h2⟩ := hs x xs ρ h
    obtain ⟨ρ2, h3, h4⟩ := for_inv P xs ρ1 h2 hs
    refine ⟨ρ2, ?_, h4⟩
    unfold forGo
    rw [h1]
    exact h3
theorem mix_ok {cs : CS} {t : Nat} {p : D} {xs : List D} (ht : Takes1 cs t) (hp : isPool p) (hl : xs.length < 1000) (c : D → Cell) (hc : c = .pr ∨ c = .fz) : ∃ (ys : List D) (p' : D) (c' : Cell), runFn cs (fMix t) [.pr p, c (.lst xs)] = some (.ok (.lst ys) true, [.pr p', c']) ∧ ys.Perm xs ∧ isPool p' ∧ (c = .pr → c' = .pr (.lst xs)) := by
  let lk : Cell := (c (.lst xs)).lock
  -- what holds in the loop: the pool, the things, those put so far, the last one's name
  have step : ∃ ρ', forGo (fStep cs (.nm 3) [.ex (.mut .insert 2 [(.call t [(.var 0), (.prim .add [(.prim .len [(.var 2)]), (.int 1)])]), (.var 3)])]) xs [.pr p, lk, .ow (.lst []), .un] = .nx ρ' ∧
      ∃ p' ys z, isPool p' ∧ ys.Perm xs ∧ ρ' = [.pr p', lk, .ow (.lst ys), z] := by
    have key := for_inv (step := fStep cs (.nm 3) [.ex (.mut .insert 2 [(.call t [(.var 0), (.prim .add [(.prim .len [(.var 2)]), (.int 1)])]), (.var 3)])])
      (fun r ρ => ∃ p' ys z, isPool p' ∧ (ys ++ r).Perm xs ∧ (z = .un ∨ ∃ d, z = .fz d) ∧ ρ = [.pr p', lk, .ow (.lst ys), z]) xs [.pr p, lk, .ow (.lst []), .un] ⟨p, [], .un, hp, by simp, .inl rfl, rfl⟩ ?_
    · obtain ⟨ρ', h1, p', ys, z, h2, h3, _, h4⟩ := key
      exact ⟨ρ', h1, p', ys, z, h2, by simpa using h3, h4⟩
    · rintro x r ρ ⟨p1, ys, z, hp1, hy, hz, rfl⟩
      have hyl : ys.length < 1000 := by
        have := hy.length_eq
        simp at this
        omega
      obtain ⟨d, p2, h1, h2, h3, h4⟩ := ht p1 (ys.length + 1) hp1 (by omega) (by omega)
      have hzp : z.pin = false := by rcases hz with rfl | ⟨_, rfl⟩ <;> rfl
      have hpool1 : ∃ a, p1 = .lst a := by obtain ⟨a, b, c, e, rfl⟩ := hp1; exact ⟨_, rfl⟩
      refine ⟨[.pr p2, lk, .ow (.lst (insAt ys (min d.toNat ys.length) x)), .fz x], ?_, p2, _, _, h4, ?_, .inr ⟨x, rfl⟩, rfl⟩
      · have hv1 : ys.length < LIM := by unfold LIM; omega
        have hv2 : d < 4611686018427387904 := by omega
        simp [fStep, stv, hzp, argOf, onVar, isVar, Cell.on, gets, Ag.get, Cell.val, P.pk, P.sem, lenS, addS, Cell.mt, M.rcv, M.pk, callK, pks, nodupB, agCells, agCell, h1, backs, back, giv, M.sem, hv1, hv2, h2, Cell.put]
      · refine List.Perm.trans ?_ hy
        refine List.Perm.trans ((insAt_perm ys _ x).append_right r) ?_
        exact (List.perm_middle (a := x) (l₁ := ys) (l₂ := r)).symm
  obtain ⟨ρ', h1, p', ys, z, h2, h3, h4⟩ := step
  subst h4
  rcases hc with rfl | rfl
  · refine ⟨ys, p', .pr (.lst xs), ?_, h3, h2, fun _ => rfl⟩
    have h1 : forGo _ xs [.pr p, .lk true (.lst xs), .ow (.lst []), .un] = _ := h1
    simp [runFn, fMix, bMix, wx_for, stv, argOf, onVar, isVar, Cell.on, Cell.pin, gets, Ag.get, Cell.val, P.pk, P.sem, LIM, locks, Cell.lock]
    rw [h1]
    simp [unbrk, unlocks, unl, Cell.unlock, lk, Cell.lock, finOf, Cell.keep, Cell.pin]
  · refine ⟨ys, p', .un, ?_, h3, h2, fun e => ?_⟩
    · have h1 : forGo _ xs [.pr p, .fz (.lst xs), .ow (.lst []), .un] = _ := h1
      simp [runFn, fMix, bMix, wx_for, stv, argOf, onVar, isVar, Cell.on, Cell.pin, gets, Ag.get, Cell.val, P.pk, P.sem, LIM, locks, Cell.lock, giv]
      rw [h1]
      simp [unbrk, unlocks, unl, Cell.unlock, lk, Cell.lock, finOf, Cell.keep, Cell.pin]
    · have := congrFun e .non
      cases this
/-! ### _law_pool -/
def bPool : List S :=
   [.asg (.nm 2) (.int 0),
    .iff (.prim .gt [(.prim .len [(.var 0)]), (.int 0)])
      [.asg (.nm 2) (.prim .ix [(.var 0), (.prim .mod [(.var 1), (.prim .len [(.var 0)])])])]
      [],
    .asg (.nm 3) (.int 0),
    .iff (.and (.prim .lt [(.var 1), (.prim .len [(.var 0)])]) (.prim .ge [(.prim .abs [(.var 2)]), (.prim .pow [(.int 10), (.int 18)])]))
      [.asg (.nm 3) (.prim .abs [(.var 2)])]
      [],
    .ret (.prim .lst [(.var 3), (.var 2), (.var 1), (.int 0)])]
def fPool : Fn := ⟨2, 4, bPool⟩
theorem atd_ok {α : Type} {xs : List α} {i : Int} (h0 : 0 ≤ i) (h1 : i < xs.length) : ∃ x, atd xs i = some x ∧ x ∈ xs := by
  unfold atd ixd
  rw [if_pos h0, if_pos h1]
  have h : i.toNat < xs.length := by omega
  exact ⟨xs[i.toNat], by simp [h], List.getElem_mem h⟩
theorem pow_18 : powI 10 18 = some 1000000000000000000 := by unfold powI; rw [if_pos (by decide)]; rfl
theorem pool_ok {cs : CS} (ns : List Int) (k : Int) : ∃ p, runFn cs fPool [.fz (.scr ns), .fz (.int k)] = some (.ok p true, [.un, .un]) ∧ isPool p := by
  by_cases h0 : ns = []
  · subst h0
    refine ⟨.lst [.int 0, .int 0, .int k, .int 0], ?_, ⟨_, _, _, _, rfl⟩⟩
    by_cases hk : k < 0
    · simp [runFn, fPool, bPool, argOf, onVar, isVar, Cell.on, gets, Ag.get, Cell.val, P.pk, P.sem, lenS, cmpS, absS, tru, hk, intS, pow_18, LIM, stv, Cell.pin, giv, finOf, Cell.keep]
    · simp [runFn, fPool, bPool, argOf, onVar, isVar, Cell.on, gets, Ag.get, Cell.val, P.pk, P.sem, lenS, cmpS, tru, hk, intS, LIM, stv, Cell.pin, giv, finOf, Cell.keep]
  · have hl : 0 < ns.length := List.length_pos_iff.mpr h0
    have hl' : (0 : Int) < (ns.length : Int) := by omega
    obtain ⟨c, hc, _⟩ := atd_ok (xs := ns) (i := k % (ns.length : Int)) (Int.emod_nonneg _ (by omega)) (Int.emod_lt_of_pos _ hl')
    have m0 : modI k (ns.length : Int) = some (k % (ns.length : Int)) := mod_c hl'
    by_cases hk : k < (ns.length : Int)
    · by_cases hx : 1000000000000000000 ≤ (if c < 0 then -c else c)
      · refine ⟨.lst [.int (if c < 0 then -c else c), .int c, .int k, .int 0], ?_, ⟨_, _, _, _, rfl⟩⟩
        simp [runFn, fPool, bPool, argOf, onVar, isVar, Cell.on, gets, Ag.get, Cell.val, P.pk, P.sem, lenS, cmpS, absS, ixS, tru, hk, hl, hl', h0, hc, m0, hx, intS, pow_18, LIM, stv, Cell.pin, giv, finOf, Cell.keep]
      · refine ⟨.lst [.int 0, .int c, .int k, .int 0], ?_, ⟨_, _, _, _, rfl⟩⟩
        simp [runFn, fPool, bPool, argOf, onVar, isVar, Cell.on, gets, Ag.get, Cell.val, P.pk, P.sem, lenS, cmpS, absS, ixS, tru, hk, hl, hl', h0, hc, m0, hx, intS, pow_18, LIM, stv, Cell.pin, giv, finOf, Cell.keep]
    · refine ⟨.lst [.int 0, .int c, .int k, .int 0], ?_, ⟨_, _, _, _, rfl⟩⟩
      simp [runFn, fPool, bPool, argOf, onVar, isVar, Cell.on, gets, Ag.get, Cell.val, P.pk, P.sem, lenS, cmpS, absS, ixS, tru, hk, hl, hl', h0, hc, m0, intS, pow_18, LIM, stv, Cell.pin, giv, finOf, Cell.keep]
theorem add_lst {a b : List D} (h : a.length + b.length ≤ LIM) : addS (.lst a) (.lst b) = some (.lst (a ++ b), true) := by
  show (if a.length + b.length ≤ LIM then some (D.lst (a ++ b), true) else none) = _
  rw [if_pos h]
theorem add_str {a b : List Nat} (h : a.length + b.length ≤ LIM) : addS (.str a) (.str b) = some (.str (a ++ b), false) := by
  show (if a.length + b.length ≤ LIM then some (D.str (a ++ b), false) else none) = _
  rw [if_pos h]
theorem add_tup {a b : List D} (h : a.length + b.length ≤ LIM) : addS (.tup a) (.tup b) = some (.tup (a ++ b), false) := by
  show (if a.length + b.length ≤ LIM then some (D.tup (a ++ b), false) else none) = _
  rw [if_pos h]
end BV

/-! BvN: more calls answered, no answer changed. -/
namespace BV
open PySem L2
def RLe {α : Type} (a b : R α) : Prop := a = .no ∨ b = a
def FLe (a b : Fl) : Prop := a = .no ∨ b = a
def CLe (c1 c2 : CS) : Prop := ∀ g cells r, c1 g cells = some r → c2 g cells = some r
theorem noEx_le {f g : Fl} (h : FLe f g) : FLe (noEx f) (noEx g) := by
  rcases h with h | h
  · subst h; exact .inl rfl
  · subst h; exact .inr rfl
theorem RLe.refl {α : Type} (a : R α) : RLe a a := .inr rfl
theorem FLe.refl (a : Fl) : FLe a a := .inr rfl
theorem RLe.bind {α β : Type} {a b : R α} {f g : α → Rho → R β} (h : RLe a b) (k : ∀ x ρ, RLe (f x ρ) (g x ρ)) : RLe (a.bind f) (b.bind g) := by
  rcases h with h | h
  · subst h; exact .inl rfl
  · subst h
    cases b with
    | ok x ρ => exact k x ρ
    | ex x ρ => exact .inr rfl
    | no => exact .inl rfl
theorem RLe.only {α β : Type} {a b : R α} {f g : α → Rho → R β} (h : RLe a b) (k : ∀ x ρ, RLe (f x ρ) (g x ρ)) : RLe (a.only f) (b.only g) := by
  rcases h with h | h
  · subst h; exact .inl rfl
  · subst h
    cases b with
    | ok x ρ => exact k x ρ
    | ex x ρ => exact .inl rfl
    | no => exact .inl rfl
theorem RLe.fl {α : Type} {a b : R α} {f g : α → Rho → Fl} (h : RLe a b) (k : ∀ x ρ, FLe (f x ρ) (g x ρ)) : FLe (a.fl f) (b.fl g) := by
  rcases h with h | h
  · subst h; exact .inl rfl
  · subst h
    cases b with
    | ok x ρ => exact k x ρ
    | ex x ρ => exact .inr rfl
    | no => exact .inl rfl
theorem OLe.fl {α : Type} {o : Option α} {f g : α → Fl} (k : ∀ x, FLe (f x) (g x)) : FLe (O.fl o f) (O.fl o g) := by
  cases o with
  | none => exact .inl rfl
  | some a => exact k a
theorem argOf_le {pk : Bool} {e : E} {ρ : Rho} {a b : R (D × Bool)} (h : RLe a b) : RLe (argOf pk e ρ a) (argOf pk e ρ b) := by
  unfold argOf
  split
  · exact RLe.refl _
  · exact h.bind fun _ _ => RLe.refl _
theorem callK_le {c1 c2 : CS} (h : CLe c1 c2) (f : Nat) (as : List Ag) (ρ : Rho) : RLe (callK c1 f as ρ) (callK c2 f as ρ) := by
  unfold callK
  split
  · rename_i cells _ _
    cases q : c1 f cells with
    | none => exact .inl rfl
    | some r => rw [h f cells r q]; exact RLe.refl _
  · exact RLe.refl _
theorem newK_le {c1 c2 : CS} (h : CLe c1 c2) (c : String) (g : Nat) (as : List Ag) (ρ : Rho) : RLe (newK c1 c g as ρ) (newK c2 c g as ρ) := by
  unfold newK
  split
  · rename_i cells _ _
    cases q : c1 g (.pr (.ins c [] []) :: cells) with
    | none => exact .inl rfl
    | some r => rw [h g _ r q]; exact RLe.refl _
  · exact RLe.refl _
theorem unname_le {i : Nat} {f g : Fl} (h : FLe f g) : FLe (unname i f) (unname i g) := by
  rcases h with h | h
  · subst h; exact .inl rfl
  · subst h; exact .inr rfl
theorem lcGo_le {s1 s2 : D → Rho → R (Option D)} (h : ∀ x ρ, RLe (s1 x ρ) (s2 x ρ)) : ∀ (xs acc : List D) (ρ : Rho), RLe (lcGo s1 xs acc ρ) (lcGo s2 xs acc ρ)
  | [], acc, ρ => RLe.refl _
  | x :: xs, acc, ρ => by
    unfold lcGo
    refine (h x ρ).bind fun o ρ1 => ?_
    cases o with
    | none => exact lcGo_le h xs acc ρ1
    | some d =>
      dsimp only
      split
      · exact lcGo_le h xs _ ρ1
      · exact RLe.refl _
theorem forGo_le {s1 s2 : D → Rho → Fl} (h : ∀ x ρ, FLe (s1 x ρ) (s2 x ρ)) : ∀ (xs : List D) (ρ : Rho), FLe (forGo s1 xs ρ) (forGo s2 xs ρ)
  | [], ρ => FLe.refl _
  | x :: xs, ρ => by
    unfold forGo
    rcases h x ρ with q | q
    · rw [q]; exact .inl rfl
    · rw [q]
      cases s1 x ρ with
      | nx ρ1 => exact forGo_le h xs ρ1
      | ct ρ1 => exact forGo_le h xs ρ1
      | bk ρ1 => exact FLe.refl _
      | rt _ _ _ => exact FLe.refl _
      | ex _ _ => exact FLe.refl _
      | no => exact FLe.refl _
theorem whGo_le {t1 t2 : Rho → R Bool} {b1 b2 : Rho → Fl} (ht : ∀ ρ, RLe (t1 ρ) (t2 ρ)) (hb : ∀ ρ, FLe (b1 ρ) (b2 ρ)) : ∀ (n : Nat) (ρ : Rho), FLe (whGo t1 b1 n ρ) (whGo t2 b2 n ρ)
  | 0, ρ => FLe.refl _
  | n + 1, ρ => by
    unfold whGo
    refine (ht ρ).fl fun b ρ1 => ?_
    cases b with
    | false => exact FLe.refl _
    | true =>
      rw [if_pos rfl, if_pos rfl]
      rcases hb ρ1 with q | q
      · rw [q]; exact .inl rfl
      · rw [q]
        cases b1 ρ1 with
        | nx ρ2 => exact whGo_le ht hb n ρ2
        | ct ρ2 => exact whGo_le ht hb n ρ2
        | bk ρ2 => exact FLe.refl _
        | rt _ _ _ => exact FLe.refl _
        | ex _ _ => exact FLe.refl _
        | no => exact FLe.refl _
theorem unbrk_le {a b : Fl} {k : Rho → Rho} (h : FLe a b) : FLe (unbrk a k) (unbrk b k) := by
  rcases h with h | h
  · subst h; exact .inl rfl
  · subst h; exact FLe.refl _
section
variable {c1 c2 : CS}
mutual
theorem evM (h : CLe c1 c2) : ∀ (e : E) (ρ : Rho), RLe (ev c1 e ρ) (ev c2 e ρ)
  | .var i, ρ => by rw [ev, ev]; exact RLe.refl _
  | .mv i, ρ => by rw [ev, ev]; exact RLe.refl _
  | .non, ρ => by rw [ev, ev]; exact RLe.refl _
  | .bl b, ρ => by rw [ev, ev]; exact RLe.refl _
  | .int i, ρ => by rw [ev, ev]; exact RLe.refl _
  | .str s, ρ => by rw [ev, ev]; exact RLe.refl _
  | .glob g, ρ => by
    rw [ev, ev]
    cases q : c1 g [] with
    | none => exact .inl rfl
    | some r => rw [h g [] r q]; exact RLe.refl _
  | .prim p es, ρ => by rw [ev, ev]; exact (evsM h p.pk es ρ).bind fun _ _ => RLe.refl _
  | .meth p a es, ρ => by
    rw [ev, ev]
    refine (argOf_le (evM h a ρ)).bind fun a0 ρ1 => ?_
    split
    · split
      · exact (evsM h p.pk es ρ1).bind fun _ _ => RLe.refl _
      · exact RLe.refl _
    · exact RLe.refl _
  | .call f es, ρ => by rw [ev, ev]; exact (evsM h true es ρ).bind fun as ρ1 => callK_le h f as ρ1
  | .mut m i es, ρ => by
    rw [ev, ev]
    split
    · split
      · exact (evsM h m.pk es ρ).bind fun _ _ => RLe.refl _
      · exact RLe.refl _
    · exact RLe.refl _
  | .nt a, ρ => by rw [ev, ev]; exact (evM h a ρ).bind fun _ _ => RLe.refl _
  | .and a b, ρ => by
    rw [ev, ev]
    refine (evM h a ρ).bind fun v ρ1 => ?_
    split
    · split
      · exact evM h b ρ1
      · exact RLe.refl _
    · exact RLe.refl _
  | .or a b, ρ => by
    rw [ev, ev]
    refine (evM h a ρ).bind fun v ρ1 => ?_
    split
    · split
      · exact RLe.refl _
      · exact evM h b ρ1
    · exact RLe.refl _
  | .ite c a b, ρ => by
    rw [ev, ev]
    refine (evtM h c ρ).bind fun t ρ1 => ?_
    split
    · exact evM h a ρ1
    · exact evM h b ρ1
  | .ch p q a b c, ρ => by
    rw [ev, ev]
    refine (evM h a ρ).bind fun x ρ1 => (evM h b ρ1).bind fun y ρ2 => ?_
    split
    · exact (evM h c ρ2).bind fun _ _ => RLe.refl _
    · exact RLe.refl _
    · exact RLe.refl _
  | .lc own t k es cns elt, ρ => by
    rw [ev, ev]
    refine (evsM h true es ρ).bind fun as ρ1 => ?_
    split
    · refine RLe.only (lcGo_le (fun x ρ2 => ?_) _ _ _) fun _ _ => RLe.refl _
      split
      · refine (evcM h cns _).bind fun b ρ4 => ?_
        split
        · exact (evM h elt ρ4).bind fun _ _ => RLe.refl _
        · exact RLe.refl _
      · exact RLe.refl _
    · exact RLe.refl _
  | .dsp k es, ρ => by rw [ev, ev]; exact (evsM h false es ρ).bind fun _ _ => RLe.refl _
  | .new c g es, ρ => by rw [ev, ev]; exact (evsM h true es ρ).bind fun as ρ1 => newK_le h c g as ρ1
  | .mcl _ tbl a es, ρ => by
    rw [ev, ev]
    refine (argOf_le (evM h a ρ)).bind fun a0 ρ1 => ?_
    split
    · exact (evsM h true es ρ1).bind fun as ρ2 => callK_le h _ _ ρ2
    · exact RLe.refl _
  | .gdix g a, ρ => by
    rw [ev, ev]
    refine (evM h a ρ).bind fun v ρ1 => ?_
    cases q : c1 g [] with
    | none => exact .inl rfl
    | some r => rw [h g [] r q]; exact RLe.refl _
  | .gdin n g a, ρ => by
    rw [ev, ev]
    refine (evM h a ρ).bind fun v ρ1 => ?_
    cases q : c1 g [] with
    | none => exact .inl rfl
    | some r => rw [h g [] r q]; exact RLe.refl _
theorem evtM (h : CLe c1 c2) : ∀ (e : E) (ρ : Rho), RLe (evt c1 e ρ) (evt c2 e ρ)
  | .nt a, ρ => by rw [evt, evt]; exact (evtM h a ρ).bind fun _ _ => RLe.refl _
  | .and a b, ρ => by
    rw [evt, evt]
    refine (evtM h a ρ).bind fun v ρ1 => ?_
    split
    · exact evtM h b ρ1
    · exact RLe.refl _
  | .or a b, ρ => by
    rw [evt, evt]
    refine (evtM h a ρ).bind fun v ρ1 => ?_
    split
    · exact RLe.refl _
    · exact evtM h b ρ1
  | .var i, ρ => by rw [evt, evt]; exact RLe.refl _
  | .prim p es, ρ => by rw [evt, evt]; exact (evsM h p.pk es ρ).bind fun _ _ => RLe.refl _
  | .ch p q a b c, ρ => by
    rw [evt, evt]
    refine (evM h a ρ).bind fun x ρ1 => (evM h b ρ1).bind fun y ρ2 => ?_
    split
    · exact (evM h c ρ2).bind fun _ _ => RLe.refl _
    · exact RLe.refl _
    · exact RLe.refl _
  | .call f es, ρ => by rw [evt, evt]; exact ((evsM h true es ρ).bind fun as ρ1 => callK_le h f as ρ1).bind fun _ _ => RLe.refl _
  | .mv i, ρ => by left; rw [evt] <;> (intros; contradiction)
  | .non, ρ => by left; rw [evt] <;> (intros; contradiction)
  | .bl i, ρ => by left; rw [evt] <;> (intros; contradiction)
  | .int i, ρ => by left; rw [evt] <;> (intros; contradiction)
  | .str i, ρ => by left; rw [evt] <;> (intros; contradiction)
  | .glob i, ρ => by left; rw [evt] <;> (intros; contradiction)
  | .meth p a es, ρ => by left; rw [evt] <;> (intros; contradiction)
  | .mut m i es, ρ => by left; rw [evt] <;> (intros; contradiction)
  | .ite c a b, ρ => by left; rw [evt] <;> (intros; contradiction)
  | .lc own t k es cns elt, ρ => by left; rw [evt] <;> (intros; contradiction)
  | .gdix g a, ρ => by left; rw [evt] <;> (intros; contradiction)
  | .dsp k es, ρ => by left; rw [evt] <;> (intros; contradiction)
  | .new _ _ _, ρ => by left; rw [evt] <;> (intros; contradiction)
  | .mcl _ tbl a es, ρ => by
    rw [evt, evt]
    refine ((argOf_le (evM h a ρ)).bind fun a0 ρ1 => ?_).bind fun _ _ => RLe.refl _
    split
    · exact (evsM h true es ρ1).bind fun as ρ2 => callK_le h _ _ ρ2
    · exact RLe.refl _
  | .gdin n g a, ρ => by
    rw [evt, evt]
    refine (evM h a ρ).bind fun v ρ1 => ?_
    cases q : c1 g [] with
    | none => exact .inl rfl
    | some r => rw [h g [] r q]; exact RLe.refl _
theorem evcM (h : CLe c1 c2) : ∀ (es : List E) (ρ : Rho), RLe (evc c1 es ρ) (evc c2 es ρ)
  | [], ρ => by rw [evc, evc]; exact RLe.refl _
  | [c], ρ => by rw [evc, evc]; exact evtM h c ρ
  | _ :: _ :: _, ρ => by left; rw [evc] <;> (intros; first | contradiction | (rename_i z; simp at z))
theorem evsM (h : CLe c1 c2) (pk : Bool) : ∀ (es : List E) (ρ : Rho), RLe (evs c1 pk es ρ) (evs c2 pk es ρ)
  | [], ρ => by rw [evs, evs]; exact RLe.refl _
  | e :: es, ρ => by
    rw [evs, evs]
    exact (argOf_le (evM h e ρ)).bind fun a ρ1 => (evsM h pk es ρ1).bind fun _ _ => RLe.refl _
end
theorem then_le {a b : Fl} {f g : Rho → Fl} (h : FLe a b) (k : ∀ ρ, FLe (f ρ) (g ρ)) : FLe (a.then f) (b.then g) := by
  rcases h with h | h
  · subst h; exact .inl rfl
  · subst h
    cases b with
    | nx ρ => exact k ρ
    | _ => exact FLe.refl _
mutual
theorem exM (h : CLe c1 c2) : ∀ (s : S) (ρ : Rho), FLe (ex c1 s ρ) (ex c2 s ρ)
  | .asg t e, ρ => by rw [ex, ex]; exact (evM h e ρ).fl fun _ _ => FLe.refl _
  | .par i j a b, ρ => by rw [ex, ex]; exact (evM h a ρ).fl fun _ ρ1 => (evM h b ρ1).fl fun _ _ => FLe.refl _
  | .setix i k v, ρ => by rw [ex, ex]; exact (evM h v ρ).fl fun x ρ1 => OLe.fl fun _ => (evM h k ρ1).fl fun _ _ => FLe.refl _
  | .aug i p e, ρ => by
    rw [ex, ex]
    split
    · exact (evM h e ρ).fl fun _ _ => FLe.refl _
    · exact FLe.refl _
  | .augix i k p e, ρ => by rw [ex, ex]; exact (evM h k ρ).fl fun y ρ1 => OLe.fl fun x => (evM h e ρ1).fl fun _ _ => FLe.refl _
  | .ex e, ρ => by rw [ex, ex]; exact (evM h e ρ).fl fun _ _ => FLe.refl _
  | .iff c a b, ρ => by
    rw [ex, ex]
    refine (evtM h c ρ).fl fun t ρ1 => ?_
    split
    · exact exsM h a ρ1
    · exact exsM h b ρ1
  | .for t k es b, ρ => by
    rw [ex, ex]
    exact (evsM h true es ρ).fl fun as ρ1 => OLe.fl fun xs => unbrk_le (forGo_le (fun x ρ2 => OLe.fl fun ρ3 => exsM h b ρ3) _ _)
  | .while c b, ρ => by rw [ex, ex]; exact whGo_le (fun ρ => evtM h c ρ) (fun ρ => exsM h b ρ) _ _
  | .tr b, ρ => by rw [ex, ex]; exact noEx_le (exsM h b ρ)
  | .ret e, ρ => by rw [ex, ex]; exact (evM h e ρ).fl fun _ _ => FLe.refl _
  | .retN, ρ => by rw [ex, ex]; exact FLe.refl _
  | .brk, ρ => by rw [ex, ex]; exact FLe.refl _
  | .cont, ρ => by rw [ex, ex]; exact FLe.refl _
  | .pass, ρ => by rw [ex, ex]; exact FLe.refl _
  | .never, ρ => by rw [ex, ex]; exact FLe.refl _
  | .raise c fs es, ρ => by rw [ex, ex]; exact (evsM h false es ρ).fl fun _ _ => FLe.refl _
  | .hdl _ _ _ _, ρ => by rw [ex, ex]; exact FLe.refl _
  | .tryH b hs, ρ => by
    rw [ex, ex]
    rcases exsM h b ρ with q | q
    · rw [q]; exact .inl rfl
    · rw [q]
      split
      · exact handM h hs _ _
      · exact FLe.refl _
  | .tryR b acc c i cl f c2 f2, ρ => by
    rw [ex, ex]
    rcases exsM h b ρ with q | q
    · rw [q]; exact .inl rfl
    · rw [q]; exact FLe.refl _
  | .setf i f e, ρ => by rw [ex, ex]; exact (evM h e ρ).fl fun _ _ => FLe.refl _
theorem handM (h : CLe c1 c2) : ∀ (hs : List S) (x : Exn) (ρ : Rho), FLe (hand c1 hs x ρ) (hand c2 hs x ρ)
  | [], x, ρ => by rw [hand, hand]; exact FLe.refl _
  | .hdl acc c none b :: r, x, ρ => by
    rw [hand, hand]
    split
    · exact noEx_le (exsM h b ρ)
    · exact handM h r x ρ
  | .hdl acc c (some i) b :: r, x, ρ => by
    rw [hand, hand]
    split
    · exact OLe.fl fun ρ1 => unname_le (noEx_le (exsM h b ρ1))
    · exact handM h r x ρ
  | .asg _ _ :: _, _, _ => by left; rw [hand] <;> (intros; contradiction)
  | .par _ _ _ _ :: _, _, _ => by left; rw [hand] <;> (intros; contradiction)
  | .setix _ _ _ :: _, _, _ => by left; rw [hand] <;> (intros; contradiction)
  | .aug _ _ _ :: _, _, _ => by left; rw [hand] <;> (intros; contradiction)
  | .augix _ _ _ _ :: _, _, _ => by left; rw [hand] <;> (intros; contradiction)
  | .ex _ :: _, _, _ => by left; rw [hand] <;> (intros; contradiction)
  | .iff _ _ _ :: _, _, _ => by left; rw [hand] <;> (intros; contradiction)
  | .for _ _ _ _ :: _, _, _ => by left; rw [hand] <;> (intros; contradiction)
  | .while _ _ :: _, _, _ => by left; rw [hand] <;> (intros; contradiction)
  | .ret _ :: _, _, _ => by left; rw [hand] <;> (intros; contradiction)
  | .retN :: _, _, _ => by left; rw [hand] <;> (intros; contradiction)
  | .brk :: _, _, _ => by left; rw [hand] <;> (intros; contradiction)
  | .cont :: _, _, _ => by left; rw [hand] <;> (intros; contradiction)
  | .pass :: _, _, _ => by left; rw [hand] <;> (intros; contradiction)
  | .never :: _, _, _ => by left; rw [hand] <;> (intros; contradiction)
  | .tr _ :: _, _, _ => by left; rw [hand] <;> (intros; contradiction)
  | .raise _ _ _ :: _, _, _ => by left; rw [hand] <;> (intros; contradiction)
  | .tryH _ _ :: _, _, _ => by left; rw [hand] <;> (intros; contradiction)
  | .tryR _ _ _ _ _ _ _ _ :: _, _, _ => by left; rw [hand] <;> (intros; contradiction)
  | .setf _ _ _ :: _, _, _ => by left; rw [hand] <;> (intros; contradiction)
theorem exsM (h : CLe c1 c2) : ∀ (s : List S) (ρ : Rho), FLe (exs c1 s ρ) (exs c2 s ρ)
  | [], ρ => by rw [exs, exs]; exact FLe.refl _
  | s :: r, ρ => by rw [exs, exs]; exact then_le (exM h s ρ) fun ρ1 => exsM h r ρ1
end
theorem runFn_le (h : CLe c1 c2) {f : Fn} {cells : List Cell} {r : Rs × List Cell} (e : runFn c1 f cells = some r) : runFn c2 f cells = some r := by
  unfold runFn at e ⊢
  split at e
  · rename_i z
    rw [if_pos z]
    rcases exsM h f.body (cells ++ List.replicate (f.nn - f.np) .un) with q | q
    · rw [q] at e; cases e
    · rw [q]; exact e
  · cases e
end
theorem run_up {tb : Tb} : ∀ k, CLe (run tb k) (run tb (k + 1))
  | 0 => fun g cells r h => by
    unfold run at h ⊢
    split at h
    · rename_i d hd
      rw [hd]
      exact h
    · cases h
  | k + 1 => fun g cells r h => by
    unfold run at h ⊢
    split at h
    · exact h
    · exact runFn_le (run_up k) h
    · exact runFn_le (run_up k) h
    · exact runFn_le (run_up k) h
    · cases h
theorem run_le {tb : Tb} {j k : Nat} (h : j ≤ k) : CLe (run tb j) (run tb k) := by
  induction h with
  | refl => exact fun _ _ _ h => h
  | step _ ih => exact fun g c r h => run_up _ g c r (ih g c r h)
/-! ### the Hook, with the interpreter's own statics -/
def asY (g : Addr → Option Obj) (n : Nat) : List Addr := He.asD g n ++ [cStatics]
def obsY (n : Nat) (fa : List He.Fa) (fn : List He.DefD) (ts : List He.Tab) (ex : PySem.W.Frag → Bool) (g : Addr → Option Obj) : He.AlX := (He.obsT fa fn ts (He.frT g (asY g n)), ex (He.frT g (asY g n)))
def hookY (n : Nat) (fa : List He.Fa) (fn : List He.DefD) (ts : List He.Tab) (ex : PySem.W.Frag → Bool) : PySem.W.Hook where
  α := He.AlX
  obs := fun s => obsY n fa fn ts ex s.heap.get?
  val := fun w => He.valX fn ts w
  says := fun w h => ∃ K : PySem.W.Frag, K.In h ∧ He.SaysX fa fn ts [] ex w h K
  of := fun _ _ e => ⟨_, He.frT_in, ⟨congrArg (fun z : He.AlX => z.1) e, congrArg (fun z : He.AlX => z.2) e, fun _ h => (List.not_mem_nil h).elim, fun _ h => (List.not_mem_nil h).elim, fun _ h => (List.not_mem_nil h).elim⟩⟩
  keeps := fun _ _ _ ⟨K, hK, c⟩ k => ⟨K, PySem.W.Frag.In.keeps hK k, ⟨c.t, c.more, c.hd, c.out, fun p hp => k _ _ (c.empty p hp)⟩⟩
theorem obsY_eq {n : Nat} {fa : List He.Fa} {fn : List He.DefD} {ts : List He.Tab} {ex : PySem.W.Frag → Bool} {g : Addr → Option Obj} {s : Shared} (h : ∀ a, g a = s.heap.get? a) : obsY n fa fn ts ex g = (hookY n fa fn ts ex).obs s := by
  have e : g = s.heap.get? := funext h
  rw [e] <;> rfl
end BV

/-! BvV: more of the laws' helpers, by their answers. -/
namespace BV
open PySem L2
theorem run_fn {es : Ents} (k g : Nat) (f : Fn) (h : tbE es g = some (.fn f)) (cells : List Cell) : run (tbE es) (k + 1) g cells = runFn (run (tbE es) k) f cells := by
  unfold run
  rw [h]
theorem run_val {es : Ents} (k g : Nat) (d : D) (h : tbE es g = some (.val d)) (cells : List Cell) : run (tbE es) k g cells = some (.ok d false, []) := by
  cases k with
  | zero => unfold run; rw [h]
  | succ k => unfold run; rw [h]
theorem pin_un : Cell.un.pin = false := rfl
theorem pin_fz (d : D) : (Cell.fz d).pin = false := rfl
theorem pin_ow (d : D) : (Cell.ow d).pin = false := rfl
theorem pin_pr (d : D) : (Cell.pr d).pin = true := rfl
theorem pin_pz (d : D) : (Cell.pz d).pin = true := rfl
theorem pin_lk (b : Bool) (d : D) : (Cell.lk b d).pin = true := rfl
section
variable {cs : CS} {ρ : Rho}
theorem w_lc (own : List Nat) (t : T) (k : IK) (es cns : List E) (elt : E) : ev cs (.lc own t k es cns elt) ρ = (evs cs true es ρ).bind fun as ρ1 => match (gets ρ1 as).bind k.sem, noOwn (locks ρ1 as) own with
    | some xs, true => (lcGo (lcStep cs own t cns elt) xs [] (locks ρ1 as)).only fun acc ρ6 => .ok (.lst acc, true) (unlocks (putsAt ρ6 (locks ρ1 as) own) ρ1 as)
    | _, _ => .no := by first | (rw [ev]; done) | (rw [ev]; rfl)
theorem w_meth (p : P) (a : E) (es : List E) : ev cs (.meth p a es) ρ = (argOf true a ρ (ev cs a ρ)).bind fun a0 ρ1 => match a0.get ρ1 with
    | some d0 => if p.rcv d0 then (evs cs p.pk es ρ1).bind fun as ρ2 => ofO ((gets ρ2 (a0 :: as)).bind (semAt (tyn d0) p)) ρ2 else .no
    | none => .no := by first | (rw [ev]; done) | (rw [ev]; rfl)
theorem w_glob (g : Nat) : ev cs (.glob g) ρ = (match cs g [] with
    | some (.ok d _, _) => .ok (d, false) ρ
    | _ => .no) := by first | (rw [ev]; done) | (rw [ev]; rfl)
theorem w_dsp (k : Nat) (es : List E) : ev cs (.dsp k es) ρ = (evs cs false es ρ).bind fun as ρ1 => ofO ((gets ρ1 as).bind (dspS k)) ρ1 := by first | (rw [ev]; done) | (rw [ev]; rfl)
theorem w_gdix (g : Nat) (a : E) : ev cs (.gdix g a) ρ = ((ev cs a ρ).bind fun v ρ1 => match cs g [] with
    | some (.ok (.dct _ ks vs) _, _) => ofO (dgetS ks vs v.1) ρ1
    | _ => .no) := by first | (rw [ev]; done) | (rw [ev]; rfl)
theorem w_gdin (n : Bool) (g : Nat) (a : E) : ev cs (.gdin n g a) ρ = ((ev cs a ρ).bind fun v ρ1 => match cs g [] with
    | some (.ok (.dct _ ks _) _, _) => ofO (dinS n ks v.1) ρ1
    | _ => .no) := by first | (rw [ev]; done) | (rw [ev]; rfl)
theorem wt_gdin (n : Bool) (g : Nat) (a : E) : evt cs (.gdin n g a) ρ = ((ev cs a ρ).bind fun v ρ1 => match cs g [] with
    | some (.ok (.dct _ ks _) _, _) => (match dinS n ks v.1 with
      | some (d, _) => ofO (tru d) ρ1
      | none => .no)
    | _ => .no) := by first | (rw [evt]; done) | (rw [evt]; rfl)
theorem w_ch (p q : P) (a b c : E) : ev cs (.ch p q a b c) ρ = (ev cs a ρ).bind fun x ρ1 => (ev cs b ρ1).bind fun y ρ2 => match cmpI p x.1 y.1 with
    | some true => (ev cs c ρ2).bind fun z ρ3 => (match cmpI q y.1 z.1 with | some t => .ok (.bl t, false) ρ3 | none => .no)
    | some false => .ok (.bl false, false) ρ2
    | none => .no := by first | (rw [ev]; done) | (rw [ev]; rfl)
theorem wt_ch (p q : P) (a b c : E) : evt cs (.ch p q a b c) ρ = (ev cs a ρ).bind fun x ρ1 => (ev cs b ρ1).bind fun y ρ2 => match cmpI p x.1 y.1 with
    | some true => (ev cs c ρ2).bind fun z ρ3 => (match cmpI q y.1 z.1 with | some t => .ok t ρ3 | none => .no)
    | some false => .ok false ρ2
    | none => .no := by first | (rw [evt]; done) | (rw [evt]; rfl)
theorem wx_par (i j : Nat) (a b : E) : ex cs (.par i j a b) ρ = (ev cs a ρ).fl fun v ρ1 => (ev cs b ρ1).fl fun w ρ2 => O.fl (stv ρ2 i v.1 v.2) fun ρ3 => O.fl (stv ρ3 j w.1 w.2) .nx := by first | (rw [ex]; done) | (rw [ex]; rfl)
theorem wx_aug (i : Nat) (p : P) (e : E) : ex cs (.aug i p e) ρ = (match (ρ[i]?.getD .un) with
    | .fz d => (ev cs e ρ).fl fun v ρ1 => O.fl ((augS p d v.1).bind fun r => stv ρ1 i r false) .nx
    | _ => .no) := by first | (rw [ex]; done) | (rw [ex]; rfl)
@[simp] theorem r_ex {α β : Type} (x : Exn) (f : α → Rho → R β) : R.bind (.ex x ρ) f = .ex x ρ := rfl
@[simp] theorem f_ex {α : Type} (x : Exn) (f : α → Rho → Fl) : R.fl (.ex x ρ) f = .ex x ρ := rfl
@[simp] theorem t_ex (x : Exn) (k : Rho → Fl) : Fl.then (.ex x ρ) k = .ex x ρ := rfl
@[simp] theorem t_bk (k : Rho → Fl) : Fl.then (.bk ρ) k = .bk ρ := rfl
@[simp] theorem t_ct (k : Rho → Fl) : Fl.then (.ct ρ) k = .ct ρ := rfl
theorem wx_raise (c : String) (fs : List String) (es : List E) : ex cs (.raise c fs es) ρ = (evs cs false es ρ).fl fun as ρ1 => O.fl (gets ρ1 as) fun ds => if ds.length = fs.length then .ex ⟨c, fs.reverse, ds.reverse⟩ ρ1 else .no := by first | (rw [ex]; done) | (rw [ex]; rfl)
theorem wx_tryH (b hs : List S) : ex cs (.tryH b hs) ρ = (match exs cs b ρ with
    | .ex x ρ1 => hand cs hs x ρ1
    | f => f) := by first | (rw [ex]; done) | (rw [ex]; rfl)
theorem hd_0 (x : Exn) : hand cs [] x ρ = .ex x ρ := by first | (rw [hand]; done) | (rw [hand]; rfl)
theorem hd_n (acc : List String) (c : String) (b r : List S) (x : Exn) : hand cs (.hdl acc c none b :: r) x ρ = if acc.contains x.c = true then noEx (exs cs b ρ) else hand cs r x ρ := by first | (rw [hand]; done) | (rw [hand]; rfl)
theorem hd_s (acc : List String) (c : String) (i : Nat) (b r : List S) (x : Exn) : hand cs (.hdl acc c (some i) b :: r) x ρ = if acc.contains x.c = true then O.fl (stv ρ i (.ins x.c x.fs x.vs) false) fun ρ1 => unname i (noEx (exs cs b ρ1)) else hand cs r x ρ := by first | (rw [hand]; done) | (rw [hand]; rfl)
theorem wx_tr (b : List S) : ex cs (.tr b) ρ = noEx (exs cs b ρ) := by first | (rw [ex]; done) | (rw [ex]; rfl)
theorem wx_retN : ex cs .retN ρ = .rt .non false ρ := by first | (rw [ex]; done) | (rw [ex]; rfl)
theorem wx_brk : ex cs .brk ρ = .bk ρ := by first | (rw [ex]; done) | (rw [ex]; rfl)
theorem wx_cont : ex cs .cont ρ = .ct ρ := by first | (rw [ex]; done) | (rw [ex]; rfl)
theorem st_tl (ts : List T) (ds : List D) (b : Bool) : stt (.tp ts) (.lst ds) b ρ = stts ts ds ρ := by first | (rw [stt]; done) | (rw [stt]; rfl)
theorem st_tt (ts : List T) (ds : List D) (b : Bool) : stt (.tp ts) (.tup ds) b ρ = stts ts ds ρ := by first | (rw [stt]; done) | (rw [stt]; rfl)
theorem st_0 : stts [] [] ρ = some ρ := by first | (rw [stts]; done) | (rw [stts]; rfl)
theorem st_1 (t : T) (ts : List T) (d : D) (ds : List D) : stts (t :: ts) (d :: ds) ρ = (stt t d false ρ).bind fun ρ' => stts ts ds ρ' := by first | (rw [stts]; done) | (rw [stts]; rfl)
theorem st_st (ts : List T) (i : Nat) (ds : List D) (b : Bool) : stt (.sp ts i) (.tup ds) b ρ = if ts.length ≤ ds.length ∧ ds.length ≤ 16384 then (stts ts (ds.take ts.length) ρ).bind fun ρ' => stv ρ' i (.lst (ds.drop ts.length)) true else none := by first | (rw [stt]; done) | (rw [stt]; rfl)
theorem st_sl (ts : List T) (i : Nat) (ds : List D) (b : Bool) : stt (.sp ts i) (.lst ds) b ρ = if ts.length ≤ ds.length ∧ ds.length ≤ 16384 then (stts ts (ds.take ts.length) ρ).bind fun ρ' => stv ρ' i (.lst (ds.drop ts.length)) true else none := by first | (rw [stt]; done) | (rw [stt]; rfl)
theorem evc_0 : evc cs [] ρ = .ok true ρ := by first | (rw [evc]; done) | (rw [evc]; rfl)
theorem evc_1 (c : E) : evc cs [c] ρ = evt cs c ρ := by first | (rw [evc]; done) | (rw [evc]; rfl)
theorem lcGo_0 (step : D → Rho → R (Option D)) (acc : List D) : lcGo step [] acc ρ = .ok acc ρ := rfl
end
theorem lcGo_1 {ρ : Rho} (step : D → Rho → R (Option D)) (x : D) (xs acc : List D) : lcGo step (x :: xs) acc ρ = (step x ρ).bind fun o ρ1 => match o with
    | some d => if acc.length < LIM then lcGo step xs (acc ++ [d]) ρ1 else .no
    | none => lcGo step xs acc ρ1 := rfl
theorem add_ii (i j : Int) : addS (.int i) (.int j) = some (.int (i + j), false) := rfl
theorem add_tt {a b : List D} (h : a.length + b.length ≤ LIM) : addS (.tup a) (.tup b) = some (.tup (a ++ b), false) := by
  show (if a.length + b.length ≤ LIM then some (D.tup (a ++ b), false) else none) = _
  rw [if_pos h]
theorem mul_1 (j : Int) : mulI 1 j = some j := by rw [mul_l (by decide), Int.one_mul]
theorem mul_r1 (j : Int) : mulI j 1 = some j := by rw [mul_r (by decide), Int.mul_one]
theorem mul_r0 (j : Int) : mulI j 0 = some 0 := by rw [mul_r (by decide), Int.mul_zero]
theorem mul_rm (j : Int) : mulI j (-1) = some (-j) := by rw [mul_r (by decide), Int.mul_neg, Int.mul_one]
/-- the numbers from 0 on -/
def rng (n : Nat) : List D := (List.range n).map fun i => .int (Int.ofNat i)
theorem s_rng {i : Int} (h : i < 2 ^ 62) (h2 : -(2 ^ 62) ≤ i) : IK.range.sem [.int i] = some (rng i.toNat) := by
  show (if i < 2 ^ 62 ∧ -(2 ^ 62) ≤ i then some (rng i.toNat) else none) = _
  rw [if_pos ⟨h, h2⟩]
theorem rng_len (n : Nat) : (rng n).length = n := by unfold rng; rw [List.length_map, List.length_range]
/-- a list's items with their numbers -/
def enumD (xs : List D) : List D := xs.mapIdx fun i d => .tup [.int (Int.ofNat i), d]
theorem s_enum (xs : List D) : IK.enum.sem [.lst xs] = some (enumD xs) := rfl
theorem enum_mem {xs : List D} {x : D} (h : x ∈ enumD xs) : ∃ (i : Int) (d : D), d ∈ xs ∧ x = .tup [.int i, d] := by
  unfold enumD at h
  rw [List.mem_mapIdx] at h
  obtain ⟨i, hi, rfl⟩ := h
  exact ⟨_, _, List.getElem_mem hi, rfl⟩
theorem eq_self {n : Nat} {d : D} (h : okd 64 d = true) (h2 : eqd d d = true) (b : Bool) : eqS b d d = some (.bl (!b), false) := by
  unfold eqS
  rw [if_pos ⟨h, h⟩, h2]
  cases b <;> rfl
theorem eq_int (i j : Int) (b : Bool) : eqS b (.int i) (.int j) = some (.bl (if b then !(i == j) else i == j), false) := by
  unfold eqS
  rw [if_pos (by simp [okd])]
  simp [eqd]
/-! ### comprehensions -/
/-- its turns by an invariant: what is left, what is made so far -/
theorem lc_inv {step : D → Rho → R (Option D)} (P : List D → List D → Rho → Prop) : ∀ (xs acc : List D) (ρ : Rho), P xs acc ρ → (∀ x r acc ρ, P (x :: r) acc ρ → acc.length < LIM ∧ ∃ o ρ', step x ρ = .ok o ρ' ∧ P r (match o with | some d => acc ++ [d] | none => acc) ρ') → ∃ acc' ρ', lcGo step xs acc ρ = .ok acc' ρ' ∧ P [] acc' ρ'
  | [], acc, ρ, h, _ => ⟨acc, ρ, rfl, h⟩
  | x :: xs, acc, ρ, h, hs => by
    obtain ⟨hl, o, ρ1, h1, h2⟩ := hs x xs acc ρ h
    obtain ⟨acc', ρ2, h3, h4⟩ := lc_inv P xs _ ρ1 h2 hs
    refine ⟨acc', ρ2, ?_, h4⟩
    unfold lcGo
    rw [h1]
    cases o with
    | none => exact h3
    | some d =>
      show (if acc.length < LIM then lcGo step xs (acc ++ [d]) ρ1 else .no) = _
      rw [if_pos hl]
      exact h3
/-- every turn gives one item -/
theorem lc_map {step : D → Rho → R (Option D)} {g : D → D} {xs : List D} (P : Rho → Prop) {ρ : Rho} (h : P ρ) (hl : xs.length ≤ LIM) (hs : ∀ x ∈ xs, ∀ ρ, P ρ → ∃ ρ', step x ρ = .ok (some (g x)) ρ' ∧ P ρ') : ∃ ρ', lcGo step xs [] ρ = .ok (xs.map g) ρ' ∧ P ρ' := by
  obtain ⟨acc, ρ', h1, h2, h3, h4⟩ := lc_inv (step := step) (fun r acc ρ => acc ++ r.map g = xs.map g ∧ (∀ x ∈ r, x ∈ xs) ∧ P ρ) xs [] ρ ⟨rfl, fun _ z => z, h⟩ fun x r acc ρ ⟨q1, q2, q3⟩ => by
    obtain ⟨ρ', e, q⟩ := hs x (q2 x List.mem_cons_self) ρ q3
    have hlen := congrArg List.length q1
    rw [List.length_append, List.length_map, List.length_map, List.length_cons] at hlen
    refine ⟨by omega, some (g x), ρ', e, ?_, fun y hy => q2 y (List.mem_cons_of_mem _ hy), q⟩
    show acc ++ [g x] ++ r.map g = _
    rw [← q1, List.map_cons, List.append_assoc]
    rfl
  refine ⟨ρ', ?_, h4⟩
  rw [h1, ← h2, List.map_nil, List.append_nil]
/-! ### _law_same -/
def fWhole : Fn := ⟨1, 1, [.ret (.and (.prim (.isi ["int"]) [(.var 0)]) (.nt (.prim (.isi ["bool"]) [(.var 0)])))]⟩
def fSame (s w : Nat) : Fn := ⟨2, 4, [.iff (.prim (.isi ["tuple"]) [(.var 1)])
      [.iff (.or (.nt (.prim (.isi ["tuple"]) [(.var 0)])) (.prim .ne [(.prim .len [(.var 0)]), (.prim .len [(.var 1)])]))
         [.ret (.bl false)]
         [],
       .ret (.prim .all [(.lc [2, 3] (.tp [.nm 2, .nm 3]) .zip [(.var 0), (.var 1)] [] (.call s [(.var 2), (.var 3)]))])]
      [],
    .iff (.prim .isN [(.var 1)])
      [.ret (.prim .isN [(.var 0)])]
      [],
    .iff (.prim (.isi ["bool"]) [(.var 1)])
      [.ret (.and (.prim (.isi ["bool"]) [(.var 0)]) (.prim .eq [(.var 0), (.var 1)]))]
      [],
    .iff (.prim (.isi ["str"]) [(.var 1)])
      [.ret (.and (.prim (.isi ["str"]) [(.var 0)]) (.prim .eq [(.var 0), (.var 1)]))]
      [],
    .ret (.and (.call w [(.var 0)]) (.prim .eq [(.var 0), (.var 1)]))]⟩
mutual
/-- plain data: nothing that can be changed -/
def plain : Nat → D → Bool
  | _, .non => true
  | _, .bl _ => true
  | _, .int _ => true
  | _, .str s => s.all fun c => decide (c < 1114112)
  | n + 1, .tup xs => decide (xs.length ≤ LIM) && plains n xs
  | _, _ => false
def plains : Nat → List D → Bool
  | _, [] => true
  | n, x :: xs => plain n x && plains n xs
end
theorem plains_mem {n : Nat} {x : D} : ∀ {xs : List D}, plains n xs = true → x ∈ xs → plain n x = true
  | y :: ys, h, hx => by
    rw [plains, Bool.and_eq_true] at h
    rcases List.mem_cons.mp hx with rfl | hx
    · exact h.1
    · exact plains_mem h.2 hx
theorem allBl_true : ∀ xs : List D, allBl (xs.map fun _ => D.bl true) = some (xs.map fun _ => true)
  | [] => rfl
  | x :: xs => by
    rw [List.map_cons, List.map_cons, allBl, allBl_true xs]
    rfl
theorem zip_self (xs : List D) : List.zipWith (fun a b => D.tup [a, b]) xs xs = xs.map fun x => .tup [x, x] := by
  induction xs with
  | nil => rfl
  | cons x xs ih => rw [List.zipWith_cons_cons, List.map_cons, ih]
theorem same_self {es : Ents} {s w : Nat} (hs : tbE es s = some (.fn (fSame s w))) (hw : tbE es w = some (.fn fWhole)) : ∀ (n : Nat) (d : D), plain n d = true → run (tbE es) (n + 2) s [.fz d, .fz d] = some (.ok (.bl true) false, [.un, .un])
  | n, .non, _ => by rw [run_fn (n + 1) s _ hs]; rfl
  | n, .bl b, _ => by rw [run_fn (n + 1) s _ hs]; cases b <;> rfl
  | n, .int i, _ => by
    rw [run_fn (n + 1) s _ hs]
    have h1 : run (tbE es) (n + 1) w [.fz (.int i)] = some (.ok (.bl true) false, [.un]) := by rw [run_fn n w _ hw]; rfl
    simp [runFn, fSame, argOf, onVar, isVar, Cell.on, gets, Ag.get, Cell.val, P.pk, P.sem, isiS, isiOne, tyn, tyNames, tru, isN, callK, pks, nodupB, agCells, agCell, giv, h1, backs, eqS, okd, eqd, finOf, Cell.keep, Cell.pin]
  | n, .str z, h => by
    have hz : (z.all fun c => decide (c < 1114112)) = true := by cases n <;> (rw [plain] at h; exact h)
    rw [run_fn (n + 1) s _ hs]
    have ho : okd 64 (.str z) = true := by rw [okd]; exact hz
    simp [runFn, fSame, argOf, onVar, isVar, Cell.on, gets, Ag.get, Cell.val, P.pk, P.sem, isiS, isiOne, tyn, tyNames, tru, isN, giv, eqS, ho, eqd, finOf, Cell.keep, Cell.pin]
  | n + 1, .tup xs, h => by
    rw [plain, Bool.and_eq_true, decide_eq_true_eq] at h
    obtain ⟨hl, hp⟩ := h
    have ih := same_self hs hw n
    obtain ⟨ρ', h1, h2⟩ := lc_map (step := lcStep (run (tbE es) (n + 2)) [2, 3] (.tp [.nm 2, .nm 3]) [] (.call s [(.var 2), (.var 3)])) (g := fun _ => .bl true) (xs := xs.map fun x => .tup [x, x]) (ρ := [.fz (.tup xs), .fz (.tup xs), .un, .un])
      (fun ρ => ∃ c d, ρ = [.fz (.tup xs), .fz (.tup xs), c, d]) ⟨_, _, rfl⟩ (by rw [List.length_map]; exact hl) (fun x hx ρ ⟨c, d, e⟩ => by
        subst e
        obtain ⟨y, hy, rfl⟩ := List.mem_map.mp hx
        have e := ih y (plains_mem hp hy)
        refine ⟨[.fz (.tup xs), .fz (.tup xs), .fz y, .fz y], ?_, _, _, rfl⟩
        simp [lcStep, wiped, st_tt, st_1, st_0, stv, Cell.pin, evc_0, argOf, onVar, isVar, Cell.on, giv, callK, pks, nodupB, agCells, agCell, e, backs])
    obtain ⟨c, d, rfl⟩ := h2
    rw [run_fn (n + 2) s _ hs]
    have hz : IK.zip.sem [.tup xs, .tup xs] = some (xs.map fun x => .tup [x, x]) := by
      show some (List.zipWith (fun a b => D.tup [a, b]) xs xs) = _
      rw [zip_self]
    have ha : allS (fun bs => bs.all id) (.lst ((xs.map fun x => D.tup [x, x]).map fun _ => .bl true)) = some (.bl true, false) := by
      show (allBl _).map _ = _
      rw [allBl_true]
      simp
    have hq : eqS true (.int xs.length) (.int xs.length) = some (.bl false, false) := by
      unfold eqS
      rw [if_pos (by simp [okd])]
      simp [eqd]
    simp only [List.map_map] at h1 ha
    simp [runFn, fSame, w_lc, argOf, onVar, isVar, Cell.on, gets, Ag.get, Cell.val, P.pk, P.sem, isiS, isiOne, tyn, tyNames, tru, giv, lenS, hq, hz, locks, noOwn, h1, R.only, putsAt, unlocks, ha, finOf, Cell.keep, Cell.pin]
  | 0, .tup _, h => by simp [plain] at h
  | n, .lst _, h => by cases n <;> simp [plain] at h
  | n, .dct _ _ _, h => by cases n <;> simp [plain] at h
  | n, .ins _ _ _, h => by cases n <;> simp [plain] at h
  | n, .scr _, h => by cases n <;> simp [plain] at h
/-! ### _law_far -/
def fFar (t : Nat) : Fn := ⟨2, 3, [.iff (.prim .lt [(.var 1), (.prim .pow [(.int 10), (.int 9)])])
      [.ret (.prim .sub [(.call t [(.var 0), (.prim .add [(.prim .mul [(.int 2), (.var 1)]), (.int 1)])]), (.var 1)])]
      [],
    .asg (.nm 2) (.prim .lst [(.int 0), (.int 1), (.prim .neg [(.int 1)]), (.var 1), (.prim .sub [(.int 0), (.var 1)]), (.prim .sub [(.call t [(.var 0), (.int 19)]), (.int 9)])]),
    .ex (.mut .append 2 [(.prim .mul [(.prim .fdiv [(.var 1), (.prim .pow [(.int 10), (.int 9)])]), (.prim .sub [(.call t [(.var 0), (.prim .mul [(.int 2), (.prim .pow [(.int 10), (.int 9)])])]), (.prim .pow [(.int 10), (.int 9)])])])]),
    .ret (.prim .ix [(.var 2), (.call t [(.var 0), (.int 7)])])]⟩
theorem pow_9 : powI 10 9 = some 1000000000 := by unfold powI; rw [if_pos (by decide)]; rfl
theorem at_7 {α : Type} (a b c d e f g : α) {r : Int} (h0 : 0 ≤ r) (h1 : r < 7) : ∃ x, atd [a, b, c, d, e, f, g] r = some x ∧ x ∈ [a, b, c, d, e, f, g] := atd_ok h0 (by simpa using h1)
theorem far_ok {cs : CS} {t : Nat} {p : D} {w : Int} (ht : Takes1 cs t) (hp : isPool p) (hw : 0 ≤ w) : ∃ (i : Int) (p' : D), runFn cs (fFar t) [.pr p, .fz (.int w)] = some (.ok (.int i) false, [.pr p', .un]) ∧ isPool p' := by
  have m2 : mulI 2 w = some (2 * w) := mul_l (by decide)
  by_cases h : w < 1000000000
  · obtain ⟨r, p', e, h1, h2, h3⟩ := ht p (2 * w + 1) hp (by omega) (by omega)
    refine ⟨r - w, p', ?_, h3⟩
    simp [runFn, wx_for, w_lc, w_meth, w_glob, w_dsp, w_gdix, w_gdin, wt_gdin, w_ch, wt_ch, wx_par, wx_aug, wx_retN, wx_raise, wx_tryH, hd_0, hd_n, hd_s, wx_tr, noEx, unname, isxS, fldS, lookF, wx_brk, wx_cont, st_tl, st_tt, st_0, st_1, evc_0, evc_1, lcStep, fStep, argOf, onVar, isVar, Cell.on, gets, Ag.get, Cell.val, P.pk, P.sem, P.rcv, M.rcv, M.pk, semAt, tyn, isiS, isiOne, tyNames, tru, isN, callK, pks, nodupB, agCells, agCell, giv, backs, back, locks, unlocks, unl, noOwn, wiped, putsAt, R.only, unbrk, stv, finOf, Cell.keep, pin_un, pin_fz, pin_ow, pin_pr, pin_pz, pin_lk, Cell.mt, Cell.put, Cell.lock, Cell.unlock, intS, cmpS, cmpI, ixS, lenS, fFar, pow_9, h, m2, addS, e]
  · obtain ⟨r, p1, e1, a1, a2, i1⟩ := ht p 19 hp (by decide) (by decide)
    obtain ⟨q, p2, e2, b1, b2, i2⟩ := ht p1 2000000000 i1 (by decide) (by decide)
    obtain ⟨z, p3, e3, c1, c2, i3⟩ := ht p2 7 i2 (by decide) (by decide)
    have hb : bits64 (q - 1000000000) = true := by unfold bits64; simp; omega
    have m3 : mulI (w / 1000000000) (q - 1000000000) = some (w / 1000000000 * (q - 1000000000)) := mul_r hb
    have m4 : mulI 2 1000000000 = some 2000000000 := by rw [mul_l (by decide)]; rfl
    have f1 : fdivI w 1000000000 = some (w / 1000000000) := fdiv_c (by decide) (by decide)
    obtain ⟨x, g1, g2⟩ := at_7 (D.int 0) (.int 1) (.int (-1)) (.int w) (.int (-w)) (.int (r - 9)) (.int (w / 1000000000 * (q - 1000000000))) c1 c2
    have hx : ∃ i, x = .int i := by
      simp only [List.mem_cons, List.not_mem_nil, or_false] at g2
      rcases g2 with rfl | rfl | rfl | rfl | rfl | rfl | rfl <;> exact ⟨_, rfl⟩
    obtain ⟨i, rfl⟩ := hx
    refine ⟨i, p3, ?_, i3⟩
    simp [runFn, wx_for, w_lc, w_meth, w_glob, w_dsp, w_gdix, w_gdin, wt_gdin, w_ch, wt_ch, wx_par, wx_aug, wx_retN, wx_raise, wx_tryH, hd_0, hd_n, hd_s, wx_tr, noEx, unname, isxS, fldS, lookF, wx_brk, wx_cont, st_tl, st_tt, st_0, st_1, evc_0, evc_1, lcStep, fStep, argOf, onVar, isVar, Cell.on, gets, Ag.get, Cell.val, P.pk, P.sem, P.rcv, M.rcv, M.pk, semAt, tyn, isiS, isiOne, tyNames, tru, isN, callK, pks, nodupB, agCells, agCell, giv, backs, back, locks, unlocks, unl, noOwn, wiped, putsAt, R.only, unbrk, stv, finOf, Cell.keep, pin_un, pin_fz, pin_ow, pin_pr, pin_pz, pin_lk, Cell.mt, Cell.put, Cell.lock, Cell.unlock, intS, cmpS, cmpI, ixS, lenS, fFar, pow_9, h, negS, LIM, M.sem, e1, e2, e3, m3, m4, f1, g1]
/-! ### _law_mix of what stays -/
theorem mixF_ok {cs : CS} {t : Nat} {p d : D} {xs : List D} (ht : Takes1 cs t) (hp : isPool p) (hl : xs.length < 1000) (hd : IK.seq.sem [d] = some xs) : ∃ (ys : List D) (p' : D), runFn cs (fMix t) [.pr p, .fz d] = some (.ok (.lst ys) true, [.pr p', .un]) ∧ ys.Perm xs ∧ isPool p' := by
  obtain ⟨ρ', h1, p', ys, z, h2, h3, _, h4⟩ := for_inv (step := fStep cs (.nm 3) [.ex (.mut .insert 2 [(.call t [(.var 0), (.prim .add [(.prim .len [(.var 2)]), (.int 1)])]), (.var 3)])])
      (fun r ρ => ∃ p' ys z, isPool p' ∧ (ys ++ r).Perm xs ∧ (z = .un ∨ ∃ d, z = .fz d) ∧ ρ = [.pr p', .fz d, .ow (.lst ys), z]) xs [.pr p, .fz d, .ow (.lst []), .un] ⟨p, [], .un, hp, by simp, .inl rfl, rfl⟩ (by
    rintro x r ρ ⟨p1, ys, z, hp1, hy, hz, rfl⟩
    have hyl : ys.length < 1000 := by
      have := hy.length_eq
      simp at this
      omega
    obtain ⟨q, p2, h1, h2, h3, h4⟩ := ht p1 (ys.length + 1) hp1 (by omega) (by omega)
    have hzp : z.pin = false := by rcases hz with rfl | ⟨_, rfl⟩ <;> rfl
    refine ⟨[.pr p2, .fz d, .ow (.lst (insAt ys (min q.toNat ys.length) x)), .fz x], ?_, p2, _, _, h4, ?_, .inr ⟨x, rfl⟩, rfl⟩
    · have hv1 : ys.length < LIM := by unfold LIM; omega
      have hv2 : q < 4611686018427387904 := by omega
      simp [fStep, stv, hzp, argOf, onVar, isVar, Cell.on, gets, Ag.get, Cell.val, P.pk, P.sem, lenS, addS, Cell.mt, M.rcv, M.pk, callK, pks, nodupB, agCells, agCell, h1, backs, back, giv, M.sem, hv1, hv2, h2, Cell.put]
    · refine List.Perm.trans ?_ hy
      refine List.Perm.trans ((insAt_perm ys _ x).append_right r) ?_
      exact (List.perm_middle (a := x) (l₁ := ys) (l₂ := r)).symm)
  subst h4
  refine ⟨ys, p', ?_, by simpa using h3, h2⟩
  simp [runFn, fMix, bMix, wx_for, stv, argOf, onVar, isVar, Cell.on, Cell.pin, gets, Ag.get, Cell.val, P.pk, P.sem, LIM, locks, giv, hd]
  rw [h1]
  simp [unbrk, unlocks, finOf, Cell.keep, Cell.pin]
/-- draws at a level -/
theorem takes_at {es : Ents} {t : Nat} (h : tbE es t = some (.fn fTake)) (k : Nat) : Takes1 (run (tbE es) (k + 1)) t := fun q n h1 h2 h3 => by
  obtain ⟨r, q', e, z⟩ := take_ok (cs := run (tbE es) k) h1 h2 h3
  exact ⟨r, q', (run_fn k t _ h _).trans e, z⟩
end BV

/-! BvY: names, signs, entries. -/
namespace BV
open PySem L2
/-! ### one sign in a text -/
theorem subs_one (c : Nat) (t : List Nat) : subs [c] t = decide (c ∈ t) := by
  unfold subs
  have h := PySem.StrLaws.found_one (toS t) c
  simpa using h
theorem in_one {c : Nat} {t : List Nat} (n : Bool) (h : t.length ≤ LIM) : inS n (.str [c]) (.str t) = some (.bl (if n then !decide (c ∈ t) else decide (c ∈ t)), false) := by
  show (if [c].length ≤ LIM ∧ t.length ≤ LIM then some (D.bl (if n then !subs [c] t else subs [c] t), false) else none) = _
  rw [if_pos ⟨by simp [LIM], h⟩, subs_one]
def SMALL : List Nat := [97, 98, 99, 100, 101, 102, 103, 104, 105, 106, 107, 108, 109, 110, 111, 112, 113, 114, 115, 116, 117, 118, 119, 120, 121, 122]
def GREAT : List Nat := [65, 66, 67, 68, 69, 70, 71, 72, 73, 74, 75, 76, 77, 78, 79, 80, 81, 82, 83, 84, 85, 86, 87, 88, 89, 90]
theorem in_small {c : Nat} : c ∈ SMALL ↔ 97 ≤ c ∧ c ≤ 122 := by
  unfold SMALL
  simp only [List.mem_cons, List.not_mem_nil, or_false]
  omega
theorem in_great {c : Nat} : c ∈ GREAT ↔ 65 ≤ c ∧ c ≤ 90 := by
  unfold GREAT
  simp only [List.mem_cons, List.not_mem_nil, or_false]
  omega
/-! ### is_name -/
def isNameB (s : List Nat) : Bool := decide (0 < s.length) && decide (s.length ≤ 8) && s.all fun c => decide (c ∈ SMALL)
def fIsName (L S : Nat) : Fn := ⟨1, 2, [.ret (.and (.prim (.isi ["str"]) [(.var 0)]) (.and (.ch .lt .le (.int 0) (.prim .len [(.var 0)]) (.glob L)) (.prim .all [(.lc [1] (.nm 1) .seq [(.var 0)] [] (.prim .isin [(.var 1), (.glob S)]))])))]⟩
/-- the module's constants -/
structure NmOk (cs : CS) (L S : Nat) : Prop where
  long : cs L [] = some (.ok (.int 8) false, [])
  small : cs S [] = some (.ok (.str SMALL) false, [])
theorem allBl_map {α : Type} (f : α → Bool) : ∀ xs : List α, allBl (xs.map fun x => D.bl (f x)) = some (xs.map f)
  | [] => rfl
  | x :: xs => by
    rw [List.map_cons, List.map_cons, allBl, allBl_map f xs]
    rfl
theorem lc_small {cs : CS} {L S : Nat} (h : NmOk cs L S) (s : List Nat) (hl : s.length ≤ LIM) (c0 : Cell) : ∃ c1, lcGo (lcStep cs [1] (.nm 1) [] (.prim .isin [(.var 1), (.glob S)])) (s.map fun c => D.str [c]) [] [c0, .un] = .ok (s.map fun c => D.bl (decide (c ∈ SMALL))) [c0, c1] := by
  obtain ⟨ρ', h1, c1, h2⟩ := lc_map (step := lcStep cs [1] (.nm 1) [] (.prim .isin [(.var 1), (.glob S)])) (g := fun d => match d with | .str [c] => D.bl (decide (c ∈ SMALL)) | _ => .non) (xs := s.map fun c => D.str [c]) (ρ := [c0, .un])
    (fun ρ => ∃ c1, ρ = [c0, c1]) ⟨_, rfl⟩ (by rw [List.length_map]; exact hl) (fun x hx ρ ⟨c1, e⟩ => by
      subst e
      obtain ⟨c, hc, rfl⟩ := List.mem_map.mp hx
      refine ⟨[c0, .fz (.str [c])], ?_, _, rfl⟩
      have hi := in_one (c := c) (t := SMALL) false (by decide)
      simp [runFn, wx_for, w_lc, w_meth, w_glob, w_dsp, w_gdix, w_gdin, wt_gdin, w_ch, wt_ch, wx_par, wx_aug, wx_retN, wx_raise, wx_tryH, hd_0, hd_n, hd_s, wx_tr, noEx, unname, isxS, fldS, lookF, wx_brk, wx_cont, st_tl, st_tt, st_0, st_1, evc_0, evc_1, lcStep, fStep, argOf, onVar, isVar, Cell.on, gets, Ag.get, Cell.val, P.pk, P.sem, P.rcv, M.rcv, M.pk, semAt, tyn, isiS, isiOne, tyNames, tru, isN, callK, pks, nodupB, agCells, agCell, giv, backs, back, locks, unlocks, unl, noOwn, wiped, putsAt, R.only, unbrk, stv, finOf, Cell.keep, pin_un, pin_fz, pin_ow, pin_pr, pin_pz, pin_lk, Cell.mt, Cell.put, Cell.lock, Cell.unlock, intS, cmpS, cmpI, ixS, lenS, h.small, hi])
  subst h2
  refine ⟨c1, ?_⟩
  rw [h1, List.map_map]
  rfl
theorem isname_str {cs : CS} {L S : Nat} (h : NmOk cs L S) (s : List Nat) (hl : s.length ≤ LIM) : runFn cs (fIsName L S) [.fz (.str s)] = some (.ok (.bl (isNameB s)) false, [.un]) := by
  obtain ⟨c1, h1⟩ := lc_small h s hl (.fz (.str s))
  have hq : IK.seq.sem [.str s] = some (s.map fun c => D.str [c]) := rfl
  have ha : allS (fun bs => bs.all id) (.lst (s.map fun c => D.bl (decide (c ∈ SMALL)))) = some (.bl (s.all fun c => decide (c ∈ SMALL)), false) := by
    show (allBl _).map _ = _
    rw [allBl_map]
    simp [List.all_map, Function.comp_def]
  by_cases h0 : 0 < s.length
  · by_cases h8 : s.length ≤ 8
    · have h8' : (s.length : Int) ≤ 8 := by omega
      have e : isNameB s = s.all fun c => decide (c ∈ SMALL) := by unfold isNameB; simp [h0, h8]
      rw [e]
      simp [runFn, wx_for, w_lc, w_meth, w_glob, w_dsp, w_gdix, w_gdin, wt_gdin, w_ch, wt_ch, wx_par, wx_aug, wx_retN, wx_raise, wx_tryH, hd_0, hd_n, hd_s, wx_tr, noEx, unname, isxS, fldS, lookF, wx_brk, wx_cont, st_tl, st_tt, st_0, st_1, evc_0, evc_1, lcStep, fStep, argOf, onVar, isVar, Cell.on, gets, Ag.get, Cell.val, P.pk, P.sem, P.rcv, M.rcv, M.pk, semAt, tyn, isiS, isiOne, tyNames, tru, isN, callK, pks, nodupB, agCells, agCell, giv, backs, back, locks, unlocks, unl, noOwn, wiped, putsAt, R.only, unbrk, stv, finOf, Cell.keep, pin_un, pin_fz, pin_ow, pin_pr, pin_pz, pin_lk, Cell.mt, Cell.put, Cell.lock, Cell.unlock, intS, cmpS, cmpI, ixS, lenS, fIsName, h.long, h0, h8, h8', hl, hq, h1, ha]
    · have h8' : ¬ (s.length : Int) ≤ 8 := by omega
      have e : isNameB s = false := by unfold isNameB; simp [h0, h8]
      rw [e]
      simp [runFn, wx_for, w_lc, w_meth, w_glob, w_dsp, w_gdix, w_gdin, wt_gdin, w_ch, wt_ch, wx_par, wx_aug, wx_retN, wx_raise, wx_tryH, hd_0, hd_n, hd_s, wx_tr, noEx, unname, isxS, fldS, lookF, wx_brk, wx_cont, st_tl, st_tt, st_0, st_1, evc_0, evc_1, lcStep, fStep, argOf, onVar, isVar, Cell.on, gets, Ag.get, Cell.val, P.pk, P.sem, P.rcv, M.rcv, M.pk, semAt, tyn, isiS, isiOne, tyNames, tru, isN, callK, pks, nodupB, agCells, agCell, giv, backs, back, locks, unlocks, unl, noOwn, wiped, putsAt, R.only, unbrk, stv, finOf, Cell.keep, pin_un, pin_fz, pin_ow, pin_pr, pin_pz, pin_lk, Cell.mt, Cell.put, Cell.lock, Cell.unlock, intS, cmpS, cmpI, ixS, lenS, fIsName, h.long, h0, h8, h8', hl]
  · have e : isNameB s = false := by unfold isNameB; simp [h0]
    have hz : s = [] := List.length_eq_zero_iff.mp (by omega)
    rw [e]
    subst hz
    simp [runFn, wx_for, w_lc, w_meth, w_glob, w_dsp, w_gdix, w_gdin, wt_gdin, w_ch, wt_ch, wx_par, wx_aug, wx_retN, wx_raise, wx_tryH, hd_0, hd_n, hd_s, wx_tr, noEx, unname, isxS, fldS, lookF, wx_brk, wx_cont, st_tl, st_tt, st_0, st_1, evc_0, evc_1, lcStep, fStep, argOf, onVar, isVar, Cell.on, gets, Ag.get, Cell.val, P.pk, P.sem, P.rcv, M.rcv, M.pk, semAt, tyn, isiS, isiOne, tyNames, tru, isN, callK, pks, nodupB, agCells, agCell, giv, backs, back, locks, unlocks, unl, noOwn, wiped, putsAt, R.only, unbrk, stv, finOf, Cell.keep, pin_un, pin_fz, pin_ow, pin_pr, pin_pz, pin_lk, Cell.mt, Cell.put, Cell.lock, Cell.unlock, intS, cmpS, cmpI, ixS, lenS, fIsName, LIM]
/-- no text -/
def notStr : D → Bool
  | .non => true
  | .bl _ => true
  | .int _ => true
  | .tup _ => true
  | .lst _ => true
  | _ => false
theorem isi_str_no {d : D} (h : notStr d = true) : isiS ["str"] d = some (.bl false, false) := by
  cases d <;> first | (simp [notStr] at h; done) | rfl
theorem isname_no {cs : CS} {L S : Nat} {d : D} (h : notStr d = true) : runFn cs (fIsName L S) [.fz d] = some (.ok (.bl false) false, [.un]) := by
  have hi := isi_str_no h
  simp [runFn, fIsName, argOf, onVar, isVar, Cell.on, gets, Ag.get, Cell.val, giv, P.pk, P.sem, hi, tru, finOf, Cell.keep, Cell.pin]
/-! ### is_lone -/
def isLoneB : List Nat → Bool
  | [] => false
  | c :: r => decide (c ∈ GREAT) && (decide (r = []) || (isNameB r && decide (r.length ≤ 7)))
def fIsLone (n L S : Nat) : Fn := ⟨1, 1, [.iff (.or (.nt (.prim (.isi ["str"]) [(.var 0)])) (.or (.prim .eq [(.var 0), (.str [])]) (.prim .notin [(.prim .ix [(.var 0), (.int 0)]), (.meth .upper (.glob S) [])])))
      [.ret (.bl false)]
      [],
    .ret (.or (.prim .eq [(.prim .len [(.var 0)]), (.int 1)]) (.and (.call n [(.prim (.sl true false) [(.var 0), (.int 1)])]) (.prim .le [(.prim .len [(.var 0)]), (.glob L)])))]⟩
theorem up_small : upperS (.str SMALL) = some (.str GREAT, false) := by kernel_rfl
def okS (s : List Nat) : Bool := s.all fun c => decide (c < 1114112)
theorem ok_str {s : List Nat} (h : okS s = true) : okd 64 (.str s) = true := by rw [okd]; exact h
theorem cut_1 {c : Nat} {r : List Nat} : cut (c :: r) (some 1) none = r := by
  unfold cut
  have h1 : slp (c :: r).length 0 (some 1) = 1 := by
    unfold slp
    simp
  rw [h1]
  simp [slp]
theorem islone_str {cs : CS} {n L S : Nat} (h : NmOk cs L S) (hn : ∀ s, s.length ≤ LIM → cs n [.fz (.str s)] = some (.ok (.bl (isNameB s)) false, [.un])) (s : List Nat) (hl : s.length ≤ LIM) (ho : okS s = true) : runFn cs (fIsLone n L S) [.fz (.str s)] = some (.ok (.bl (isLoneB s)) false, [.un]) := by
  cases s with
  | nil =>
    have he : eqS false (.str []) (.str []) = some (.bl true, false) := by kernel_rfl
    simp [runFn, wx_for, w_lc, w_meth, w_glob, w_dsp, w_gdix, w_gdin, wt_gdin, w_ch, wt_ch, wx_par, wx_aug, wx_retN, wx_raise, wx_tryH, hd_0, hd_n, hd_s, wx_tr, noEx, unname, isxS, fldS, lookF, wx_brk, wx_cont, st_tl, st_tt, st_0, st_1, evc_0, evc_1, lcStep, fStep, argOf, onVar, isVar, Cell.on, gets, Ag.get, Cell.val, P.pk, P.sem, P.rcv, M.rcv, M.pk, semAt, tyn, isiS, isiOne, tyNames, tru, isN, callK, pks, nodupB, agCells, agCell, giv, backs, back, locks, unlocks, unl, noOwn, wiped, putsAt, R.only, unbrk, stv, finOf, Cell.keep, pin_un, pin_fz, pin_ow, pin_pr, pin_pz, pin_lk, Cell.mt, Cell.put, Cell.lock, Cell.unlock, intS, cmpS, cmpI, ixS, lenS, fIsLone, he, isLoneB]
  | cons c r =>
    have he : eqS false (.str (c :: r)) (.str []) = some (.bl false, false) := by
      unfold eqS
      rw [if_pos ⟨ok_str ho, by simp [okd]⟩]
      simp [eqd]
    have hx : atd (c :: r) 0 = some c := at_0 c r
    have hi := in_one (c := c) (t := GREAT) true (by decide)
    have hu : P.upper.sem [.str SMALL] = some (.str GREAT, false) := up_small
    have hu' := up_small
    rw [List.length_cons] at hl
    have hl' : r.length < LIM := by omega
    by_cases hc : c ∈ GREAT
    · have hlen := eq_int ((r.length : Int) + 1) 1 false
      have hc1 : cut (c :: r) (some 1) none = r := cut_1
      have hnr := hn r (by omega)
      by_cases hr : r = []
      · subst hr
        have e : isLoneB [c] = true := by simp [isLoneB, hc]
        rw [e]
        have hlen : eqS false (.int 1) (.int 1) = some (.bl true, false) := by kernel_rfl
        simp [runFn, wx_for, w_lc, w_meth, w_glob, w_dsp, w_gdix, w_gdin, wt_gdin, w_ch, wt_ch, wx_par, wx_aug, wx_retN, wx_raise, wx_tryH, hd_0, hd_n, hd_s, wx_tr, noEx, unname, isxS, fldS, lookF, wx_brk, wx_cont, st_tl, st_tt, st_0, st_1, evc_0, evc_1, lcStep, fStep, argOf, onVar, isVar, Cell.on, gets, Ag.get, Cell.val, P.pk, P.sem, P.rcv, M.rcv, M.pk, semAt, tyn, isiS, isiOne, tyNames, tru, isN, callK, pks, nodupB, agCells, agCell, giv, backs, back, locks, unlocks, unl, noOwn, wiped, putsAt, R.only, unbrk, stv, finOf, Cell.keep, pin_un, pin_fz, pin_ow, pin_pr, pin_pz, pin_lk, Cell.mt, Cell.put, Cell.lock, Cell.unlock, intS, cmpS, cmpI, ixS, lenS, fIsLone, he, hx, h.small, hu', hi, hc, hlen, LIM]
      · have hr0 : r.length ≠ 0 := fun z => hr (List.length_eq_zero_iff.mp z)
        have hlf : ((r.length : Int) + 1 == 1) = false := by
          rw [beq_eq_false_iff_ne]
          omega
        rw [hlf] at hlen
        by_cases hb : isNameB r = true
        · rw [hb] at hnr
          have h7 : r.length ≤ 7 ↔ (r.length : Int) + 1 ≤ 8 := by omega
          have e : isLoneB (c :: r) = decide ((r.length : Int) + 1 ≤ 8) := by
            simp only [isLoneB, hc, hr, hb, decide_true, decide_false, Bool.true_and, Bool.false_or]
            exact decide_eq_decide.mpr h7
          rw [e]
          simp [runFn, wx_for, w_lc, w_meth, w_glob, w_dsp, w_gdix, w_gdin, wt_gdin, w_ch, wt_ch, wx_par, wx_aug, wx_retN, wx_raise, wx_tryH, hd_0, hd_n, hd_s, wx_tr, noEx, unname, isxS, fldS, lookF, wx_brk, wx_cont, st_tl, st_tt, st_0, st_1, evc_0, evc_1, lcStep, fStep, argOf, onVar, isVar, Cell.on, gets, Ag.get, Cell.val, P.pk, P.sem, P.rcv, M.rcv, M.pk, semAt, tyn, isiS, isiOne, tyNames, tru, isN, callK, pks, nodupB, agCells, agCell, giv, backs, back, locks, unlocks, unl, noOwn, wiped, putsAt, R.only, unbrk, stv, finOf, Cell.keep, pin_un, pin_fz, pin_ow, pin_pr, pin_pz, pin_lk, Cell.mt, Cell.put, Cell.lock, Cell.unlock, intS, cmpS, cmpI, ixS, lenS, fIsLone, he, hx, h.small, h.long, hu', hi, hc, hlen, hl, hl', slS, hc1, hnr]
        · have hb : isNameB r = false := by simpa using hb
          rw [hb] at hnr
          have e : isLoneB (c :: r) = false := by simp [isLoneB, hr, hb]
          rw [e]
          simp [runFn, wx_for, w_lc, w_meth, w_glob, w_dsp, w_gdix, w_gdin, wt_gdin, w_ch, wt_ch, wx_par, wx_aug, wx_retN, wx_raise, wx_tryH, hd_0, hd_n, hd_s, wx_tr, noEx, unname, isxS, fldS, lookF, wx_brk, wx_cont, st_tl, st_tt, st_0, st_1, evc_0, evc_1, lcStep, fStep, argOf, onVar, isVar, Cell.on, gets, Ag.get, Cell.val, P.pk, P.sem, P.rcv, M.rcv, M.pk, semAt, tyn, isiS, isiOne, tyNames, tru, isN, callK, pks, nodupB, agCells, agCell, giv, backs, back, locks, unlocks, unl, noOwn, wiped, putsAt, R.only, unbrk, stv, finOf, Cell.keep, pin_un, pin_fz, pin_ow, pin_pr, pin_pz, pin_lk, Cell.mt, Cell.put, Cell.lock, Cell.unlock, intS, cmpS, cmpI, ixS, lenS, fIsLone, he, hx, h.small, h.long, hu', hi, hc, hlen, hl, hl', slS, hc1, hnr]
    · have e : isLoneB (c :: r) = false := by simp [isLoneB, hc]
      rw [e]
      simp [runFn, wx_for, w_lc, w_meth, w_glob, w_dsp, w_gdix, w_gdin, wt_gdin, w_ch, wt_ch, wx_par, wx_aug, wx_retN, wx_raise, wx_tryH, hd_0, hd_n, hd_s, wx_tr, noEx, unname, isxS, fldS, lookF, wx_brk, wx_cont, st_tl, st_tt, st_0, st_1, evc_0, evc_1, lcStep, fStep, argOf, onVar, isVar, Cell.on, gets, Ag.get, Cell.val, P.pk, P.sem, P.rcv, M.rcv, M.pk, semAt, tyn, isiS, isiOne, tyNames, tru, isN, callK, pks, nodupB, agCells, agCell, giv, backs, back, locks, unlocks, unl, noOwn, wiped, putsAt, R.only, unbrk, stv, finOf, Cell.keep, pin_un, pin_fz, pin_ow, pin_pr, pin_pz, pin_lk, Cell.mt, Cell.put, Cell.lock, Cell.unlock, intS, cmpS, cmpI, ixS, lenS, fIsLone, he, hx, h.small, hu', hi, hc, hl, hl']
theorem islone_no {cs : CS} {n L S : Nat} {d : D} (h : notStr d = true) : runFn cs (fIsLone n L S) [.fz d] = some (.ok (.bl false) false, [.un]) := by
  have hi := isi_str_no h
  simp [runFn, fIsLone, argOf, onVar, isVar, Cell.on, gets, Ag.get, Cell.val, giv, P.pk, P.sem, hi, tru, finOf, Cell.keep, Cell.pin]
/-! ### is_sign -/
def isSignB (s : List Nat) : Bool := isNameB s || isLoneB s
def fIsSign (n l : Nat) : Fn := ⟨1, 1, [.iff (.or (.nt (.prim (.isi ["str"]) [(.var 0)])) (.prim .eq [(.var 0), (.str [])]))
      [.ret (.bl false)]
      [],
    .ret (.or (.call n [(.var 0)]) (.call l [(.var 0)]))]⟩
theorem issign_str {cs : CS} {n l : Nat} (hn : ∀ s, s.length ≤ LIM → cs n [.fz (.str s)] = some (.ok (.bl (isNameB s)) false, [.un])) (hl : ∀ s, s.length ≤ LIM → okS s = true → cs l [.fz (.str s)] = some (.ok (.bl (isLoneB s)) false, [.un])) (s : List Nat) (hs : s.length ≤ LIM) (ho : okS s = true) :
    runFn cs (fIsSign n l) [.fz (.str s)] = some (.ok (.bl (isSignB s)) false, [.un]) := by
  cases s with
  | nil =>
    have he : eqS false (.str []) (.str []) = some (.bl true, false) := by kernel_rfl
    have e : isSignB [] = false := rfl
    rw [e]
    simp [runFn, wx_for, w_lc, w_meth, w_glob, w_dsp, w_gdix, w_gdin, wt_gdin, w_ch, wt_ch, wx_par, wx_aug, wx_retN, wx_raise, wx_tryH, hd_0, hd_n, hd_s, wx_tr, noEx, unname, isxS, fldS, lookF, wx_brk, wx_cont, st_tl, st_tt, st_0, st_1, evc_0, evc_1, lcStep, fStep, argOf, onVar, isVar, Cell.on, gets, Ag.get, Cell.val, P.pk, P.sem, P.rcv, M.rcv, M.pk, semAt, tyn, isiS, isiOne, tyNames, tru, isN, callK, pks, nodupB, agCells, agCell, giv, backs, back, locks, unlocks, unl, noOwn, wiped, putsAt, R.only, unbrk, stv, finOf, Cell.keep, pin_un, pin_fz, pin_ow, pin_pr, pin_pz, pin_lk, Cell.mt, Cell.put, Cell.lock, Cell.unlock, intS, cmpS, cmpI, ixS, lenS, fIsSign, he]
  | cons c r =>
    have he : eqS false (.str (c :: r)) (.str []) = some (.bl false, false) := by
      unfold eqS
      rw [if_pos ⟨ok_str ho, by simp [okd]⟩]
      simp [eqd]
    have h1 := hn _ hs
    have h2 := hl _ hs ho
    unfold isSignB
    by_cases hb : isNameB (c :: r) = true
    · rw [hb] at h1 ⊢
      simp [runFn, wx_for, w_lc, w_meth, w_glob, w_dsp, w_gdix, w_gdin, wt_gdin, w_ch, wt_ch, wx_par, wx_aug, wx_retN, wx_raise, wx_tryH, hd_0, hd_n, hd_s, wx_tr, noEx, unname, isxS, fldS, lookF, wx_brk, wx_cont, st_tl, st_tt, st_0, st_1, evc_0, evc_1, lcStep, fStep, argOf, onVar, isVar, Cell.on, gets, Ag.get, Cell.val, P.pk, P.sem, P.rcv, M.rcv, M.pk, semAt, tyn, isiS, isiOne, tyNames, tru, isN, callK, pks, nodupB, agCells, agCell, giv, backs, back, locks, unlocks, unl, noOwn, wiped, putsAt, R.only, unbrk, stv, finOf, Cell.keep, pin_un, pin_fz, pin_ow, pin_pr, pin_pz, pin_lk, Cell.mt, Cell.put, Cell.lock, Cell.unlock, intS, cmpS, cmpI, ixS, lenS, fIsSign, he, h1]
    · have hb : isNameB (c :: r) = false := by simpa using hb
      rw [hb] at h1 ⊢
      simp [runFn, wx_for, w_lc, w_meth, w_glob, w_dsp, w_gdix, w_gdin, wt_gdin, w_ch, wt_ch, wx_par, wx_aug, wx_retN, wx_raise, wx_tryH, hd_0, hd_n, hd_s, wx_tr, noEx, unname, isxS, fldS, lookF, wx_brk, wx_cont, st_tl, st_tt, st_0, st_1, evc_0, evc_1, lcStep, fStep, argOf, onVar, isVar, Cell.on, gets, Ag.get, Cell.val, P.pk, P.sem, P.rcv, M.rcv, M.pk, semAt, tyn, isiS, isiOne, tyNames, tru, isN, callK, pks, nodupB, agCells, agCell, giv, backs, back, locks, unlocks, unl, noOwn, wiped, putsAt, R.only, unbrk, stv, finOf, Cell.keep, pin_un, pin_fz, pin_ow, pin_pr, pin_pz, pin_lk, Cell.mt, Cell.put, Cell.lock, Cell.unlock, intS, cmpS, cmpI, ixS, lenS, fIsSign, he, h1, h2]
theorem issign_no {cs : CS} {n l : Nat} {d : D} (h : notStr d = true) : runFn cs (fIsSign n l) [.fz d] = some (.ok (.bl false) false, [.un]) := by
  have hi := isi_str_no h
  simp [runFn, fIsSign, argOf, onVar, isVar, Cell.on, gets, Ag.get, Cell.val, giv, P.pk, P.sem, hi, tru, finOf, Cell.keep, Cell.pin]
end BV

/-! BvZ: drawn names, signs, entries. -/
namespace BV
open PySem L2
theorem strs_map (ys : List (List Nat)) : strsD (ys.map D.str) = some ys := by
  induction ys with
  | nil => rfl
  | cons y ys ih => rw [List.map_cons, strsD, ih]; rfl
theorem joinL_nil : ∀ ys : List (List Nat), TL.joinL [] ys = ys.flatten
  | [] => rfl
  | [y] => by simp [TL.joinL]
  | y :: z :: r => by rw [TL.joinL, joinL_nil (z :: r)]; simp
theorem flat_one : ∀ s : List Nat, (s.map fun c => [c]).flatten = s
  | [] => rfl
  | c :: s => by rw [List.map_cons, List.flatten_cons, flat_one s]; rfl
theorem lens_one : ∀ s : List Nat, ((s.map fun c => [c]).map List.length).sum = s.length
  | [] => rfl
  | c :: s => by
    rw [List.map_cons, List.map_cons, List.sum_cons, lens_one s]
    simp
    omega
theorem join_one {s : List Nat} (h : s.length ≤ LIM) : joinS (.str []) (.lst (s.map fun c => D.str [c])) = some (.str s, false) := by
  show joinG [] _ = _
  have e : (s.map fun c => D.str [c]) = (s.map fun c => [c]).map D.str := by rw [List.map_map]; rfl
  unfold joinG
  rw [e, strs_map, Option.bind_some, if_pos]
  · rw [joinL_nil, flat_one]
  · rw [lens_one]
    simpa using h
/-! ### _law_name -/
def fName (t : Nat) : Fn := ⟨1, 3, [.asg (.nm 1) (.str [97, 98, 99, 100, 101, 102, 103, 104, 105, 106, 107, 108, 109, 110, 111, 112, 113, 114, 115, 116, 117, 118, 119, 120, 121, 122]),
    .ret (.meth .join (.str []) [(.lc [2] (.nm 2) .range [(.prim .add [(.int 1), (.call t [(.var 0), (.int 8)])])] [] (.prim .ix [(.var 1), (.call t [(.var 0), (.int 26)])]))])]⟩
theorem at_small {r : Int} (h0 : 0 ≤ r) (h1 : r < 26) : ∃ c, atd SMALL r = some c ∧ c ∈ SMALL := atd_ok h0 (by show r < (26 : Int); exact h1)
theorem name_ok {cs : CS} {t : Nat} {p : D} (ht : Takes1 cs t) (hp : isPool p) : ∃ (s : List Nat) (p' : D), runFn cs (fName t) [.pr p] = some (.ok (.str s) false, [.pr p']) ∧ isNameB s = true ∧ isPool p' := by
  obtain ⟨m, p1, e1, m1, m2, i1⟩ := ht p 8 hp (by decide) (by decide)
  have hr : IK.range.sem [.int (1 + m)] = some (rng (1 + m).toNat) := s_rng (by omega) (by omega)
  obtain ⟨acc, ρ', g1, q, s, c2, g2, g3, g4, g5, g6⟩ := lc_inv (step := lcStep cs [2] (.nm 2) [] (.prim .ix [(.var 1), (.call t [(.var 0), (.int 26)])]))
    (fun r acc ρ => ∃ p s c2, isPool p ∧ acc = (s.map fun c => D.str [c]) ∧ (∀ c ∈ s, c ∈ SMALL) ∧ s.length + r.length = (1 + m).toNat ∧ ρ = [.pr p, .fz (.str SMALL), c2]) (rng (1 + m).toNat) [] [.pr p1, .fz (.str SMALL), .un] ⟨p1, [], .un, i1, rfl, by simp, by simp [rng_len], rfl⟩
    (fun y r acc ρ ⟨p, s, c2, q1, q2, q3, q4, e⟩ => by
      subst e q2
      obtain ⟨z, p', e, t1, t2, i'⟩ := ht p 26 q1 (by decide) (by decide)
      obtain ⟨c, a1, a2⟩ := at_small t1 t2
      rw [List.length_cons] at q4
      refine ⟨by rw [List.length_map]; unfold LIM; omega, some (.str [c]), [.pr p', .fz (.str SMALL), .fz y], ?_, p', s ++ [c], _, i', ?_, ?_, ?_, rfl⟩
      · have hl : SMALL.length ≤ 1000000 := by decide
        have hl2 : SMALL.length ≤ LIM := by decide
        simp [runFn, wx_for, w_lc, w_meth, w_glob, w_dsp, w_gdix, w_gdin, wt_gdin, w_ch, wt_ch, wx_par, wx_aug, wx_retN, wx_raise, wx_tryH, hd_0, hd_n, hd_s, wx_tr, noEx, unname, isxS, fldS, lookF, wx_brk, wx_cont, st_tl, st_tt, st_0, st_1, evc_0, evc_1, lcStep, fStep, argOf, onVar, isVar, Cell.on, gets, Ag.get, Cell.val, P.pk, P.sem, P.rcv, M.rcv, M.pk, semAt, tyn, isiS, isiOne, tyNames, tru, isN, callK, pks, nodupB, agCells, agCell, giv, backs, back, locks, unlocks, unl, noOwn, wiped, putsAt, R.only, unbrk, stv, finOf, Cell.keep, pin_un, pin_fz, pin_ow, pin_pr, pin_pz, pin_lk, Cell.mt, Cell.put, Cell.lock, Cell.unlock, intS, cmpS, cmpI, ixS, lenS, e, a1, hl, hl2]
      · simp
      · intro n hn
        rcases List.mem_append.mp hn with hn | hn
        · exact q3 n hn
        · rw [List.mem_singleton] at hn; subst hn; exact a2
      · rw [List.length_append]; simp; omega)
  subst g6 g3
  have hl : s.length = (1 + m).toNat := by simpa using g5
  have hj := join_one (s := s) (by unfold LIM; omega)
  refine ⟨s, q, ?_, ?_, g2⟩
  · have e0 : fName t = ⟨1, 3, [.asg (.nm 1) (.str SMALL), .ret (.meth .join (.str []) [(.lc [2] (.nm 2) .range [(.prim .add [(.int 1), (.call t [(.var 0), (.int 8)])])] [] (.prim .ix [(.var 1), (.call t [(.var 0), (.int 26)])]))])]⟩ := rfl
    rw [e0]
    simp [runFn, wx_for, w_lc, w_meth, w_glob, w_dsp, w_gdix, w_gdin, wt_gdin, w_ch, wt_ch, wx_par, wx_aug, wx_retN, wx_raise, wx_tryH, hd_0, hd_n, hd_s, wx_tr, noEx, unname, isxS, fldS, lookF, wx_brk, wx_cont, st_tl, st_tt, st_0, st_1, evc_0, evc_1, lcStep, fStep, argOf, onVar, isVar, Cell.on, gets, Ag.get, Cell.val, P.pk, P.sem, P.rcv, M.rcv, M.pk, semAt, tyn, isiS, isiOne, tyNames, tru, isN, callK, pks, nodupB, agCells, agCell, giv, backs, back, locks, unlocks, unl, noOwn, wiped, putsAt, R.only, unbrk, stv, finOf, Cell.keep, pin_un, pin_fz, pin_ow, pin_pr, pin_pz, pin_lk, Cell.mt, Cell.put, Cell.lock, Cell.unlock, intS, cmpS, cmpI, ixS, lenS, e1, add_ii, hr, g1, hj]
  · unfold isNameB
    rw [Bool.and_eq_true, Bool.and_eq_true]
    refine ⟨⟨decide_eq_true (by omega), decide_eq_true (by omega)⟩, List.all_eq_true.mpr fun c hc => decide_eq_true (g4 c hc)⟩
theorem name_all {s : List Nat} (h : isNameB s = true) : 0 < s.length ∧ s.length ≤ 8 ∧ ∀ c ∈ s, c ∈ SMALL := by
  unfold isNameB at h
  simp only [Bool.and_eq_true, decide_eq_true_eq, List.all_eq_true] at h
  exact ⟨h.1.1, h.1.2, h.2⟩
theorem all_name {s : List Nat} (h0 : 0 < s.length) (h1 : s.length ≤ 8) (h2 : ∀ c ∈ s, c ∈ SMALL) : isNameB s = true := by
  unfold isNameB
  simp only [Bool.and_eq_true, decide_eq_true_eq, List.all_eq_true]
  exact ⟨⟨h0, h1⟩, h2⟩
/-! ### _law_sign -/
theorem up_one {c : Nat} (h : c ∈ SMALL) : upperS (.str [c]) = some (.str [c - 32], false) := by
  unfold SMALL at h
  simp only [List.mem_cons, List.not_mem_nil, or_false] at h
  rcases h with rfl | rfl | rfl | rfl | rfl | rfl | rfl | rfl | rfl | rfl | rfl | rfl | rfl | rfl | rfl | rfl | rfl | rfl | rfl | rfl | rfl | rfl | rfl | rfl | rfl | rfl <;> kernel_rfl
def fSign (n : Nat) : Fn := ⟨2, 3, [.asg (.nm 2) (.call n [(.var 0)]),
    .iff (.var 1)
      [.ret (.prim .add [(.meth .upper (.prim .ix [(.var 2), (.int 0)]) []), (.prim (.sl true false) [(.var 2), (.int 1)])])]
      [],
    .ret (.mv 2)]⟩
/-- names are drawn there -/
def Names1 (cs : CS) (n : Nat) : Prop := ∀ p, isPool p → ∃ (s : List Nat) (p' : D), cs n [.pr p] = some (.ok (.str s) false, [.pr p']) ∧ isNameB s = true ∧ isPool p'
theorem sign_ok {cs : CS} {n : Nat} {p : D} (hn : Names1 cs n) (hp : isPool p) (b : Bool) : ∃ (s : List Nat) (p' : D), runFn cs (fSign n) [.pr p, .fz (.bl b)] = some (.ok (.str s) false, [.pr p', .un]) ∧ (if b then isLoneB s else isNameB s) = true ∧ isPool p' := by
  obtain ⟨s, p', e, h, i⟩ := hn p hp
  cases b with
  | false =>
    refine ⟨s, p', ?_, by simpa using h, i⟩
    simp [runFn, wx_for, w_lc, w_meth, w_glob, w_dsp, w_gdix, w_gdin, wt_gdin, w_ch, wt_ch, wx_par, wx_aug, wx_retN, wx_raise, wx_tryH, hd_0, hd_n, hd_s, wx_tr, noEx, unname, isxS, fldS, lookF, wx_brk, wx_cont, st_tl, st_tt, st_0, st_1, evc_0, evc_1, lcStep, fStep, argOf, onVar, isVar, Cell.on, gets, Ag.get, Cell.val, P.pk, P.sem, P.rcv, M.rcv, M.pk, semAt, tyn, isiS, isiOne, tyNames, tru, isN, callK, pks, nodupB, agCells, agCell, giv, backs, back, locks, unlocks, unl, noOwn, wiped, putsAt, R.only, unbrk, stv, finOf, Cell.keep, pin_un, pin_fz, pin_ow, pin_pr, pin_pz, pin_lk, Cell.mt, Cell.put, Cell.lock, Cell.unlock, intS, cmpS, cmpI, ixS, lenS, fSign, e]
  | true =>
    obtain ⟨h1, h2, h3⟩ := name_all h
    cases s with
    | nil => simp at h1
    | cons c r =>
      have hc := h3 c List.mem_cons_self
      have hg : c - 32 ∈ GREAT := in_great.mpr (by have := in_small.mp hc; omega)
      have hx : atd (c :: r) 0 = some c := at_0 c r
      have hu := up_one hc
      have hc1 : cut (c :: r) (some 1) none = r := cut_1
      rw [List.length_cons] at h2
      have hl : r.length < LIM := by unfold LIM; omega
      have hl2 : r.length + 1 ≤ LIM := by unfold LIM; omega
      have ha : addS (.str [c - 32]) (.str r) = some (.str ((c - 32) :: r), false) := add_str (by simp; unfold LIM; omega)
      refine ⟨(c - 32) :: r, p', ?_, ?_, i⟩
      · simp [runFn, wx_for, w_lc, w_meth, w_glob, w_dsp, w_gdix, w_gdin, wt_gdin, w_ch, wt_ch, wx_par, wx_aug, wx_retN, wx_raise, wx_tryH, hd_0, hd_n, hd_s, wx_tr, noEx, unname, isxS, fldS, lookF, wx_brk, wx_cont, st_tl, st_tt, st_0, st_1, evc_0, evc_1, lcStep, fStep, argOf, onVar, isVar, Cell.on, gets, Ag.get, Cell.val, P.pk, P.sem, P.rcv, M.rcv, M.pk, semAt, tyn, isiS, isiOne, tyNames, tru, isN, callK, pks, nodupB, agCells, agCell, giv, backs, back, locks, unlocks, unl, noOwn, wiped, putsAt, R.only, unbrk, stv, finOf, Cell.keep, pin_un, pin_fz, pin_ow, pin_pr, pin_pz, pin_lk, Cell.mt, Cell.put, Cell.lock, Cell.unlock, intS, cmpS, cmpI, ixS, lenS, fSign, e, hx, hl, hl2, hu, slS, hc1, ha]
      · rw [if_pos rfl]
        unfold isLoneB
        rw [Bool.and_eq_true, Bool.or_eq_true, Bool.and_eq_true]
        refine ⟨decide_eq_true hg, ?_⟩
        by_cases hr : r = []
        · exact .inl (decide_eq_true hr)
        · refine .inr ⟨all_name (List.length_pos_iff.mpr hr) (by omega) fun x hx => h3 x (List.mem_cons_of_mem _ hx), decide_eq_true (by omega)⟩
/-- a sign's letters -/
theorem lone_all {s : List Nat} (h : isLoneB s = true) : 0 < s.length ∧ s.length ≤ 8 ∧ ∀ c ∈ s, c ∈ SMALL ∨ c ∈ GREAT := by
  cases s with
  | nil => cases h
  | cons c r =>
    simp only [isLoneB, Bool.and_eq_true, Bool.or_eq_true, decide_eq_true_eq] at h
    obtain ⟨h1, h2⟩ := h
    rcases h2 with rfl | ⟨h2, h3⟩
    · exact ⟨by simp, by simp, fun x hx => by rw [List.mem_singleton] at hx; subst hx; exact .inr h1⟩
    · refine ⟨by simp, by simp; omega, fun x hx => ?_⟩
      rcases List.mem_cons.mp hx with rfl | hx
      · exact .inr h1
      · exact .inl ((name_all h2).2.2 x hx)
theorem sign_all {s : List Nat} (h : isSignB s = true) : 0 < s.length ∧ s.length ≤ 8 ∧ ∀ c ∈ s, 65 ≤ c ∧ c ≤ 122 := by
  unfold isSignB at h
  rw [Bool.or_eq_true] at h
  rcases h with h | h
  · obtain ⟨h1, h2, h3⟩ := name_all h
    exact ⟨h1, h2, fun c hc => by have := in_small.mp (h3 c hc); omega⟩
  · obtain ⟨h1, h2, h3⟩ := lone_all h
    refine ⟨h1, h2, fun c hc => ?_⟩
    rcases h3 c hc with h | h
    · have := in_small.mp h; omega
    · have := in_great.mp h; omega
/-! ### entries -/
inductive En where
  | left | right | back | bump | bare | swap | face (c : Nat) | go (n : Nat) | sign (s : List Nat) | spy (n : Nat) (s : List Nat)
def En.l : En → List D
  | .left => [.str [108, 101, 102, 116]]
  | .right => [.str [114, 105, 103, 104, 116]]
  | .back => [.str [98, 97, 99, 107]]
  | .bump => [.str [98, 117, 109, 112]]
  | .bare => [.str [98, 97, 114, 101]]
  | .swap => [.str [115, 119, 97, 112]]
  | .face c => [.str [102, 97, 99, 101], .str [c]]
  | .go n => [.str [103, 111], .int (n : Int)]
  | .sign s => [.str [115, 105, 103, 110], .str s]
  | .spy n s => [.str [115, 112, 121], .int (n : Int), .str s]
abbrev En.d (e : En) : D := .tup e.l
def NESW : List Nat := [110, 101, 115, 119]
def En.ok : En → Prop
  | .face c => c ∈ NESW
  | .go n => 1 ≤ n ∧ n ≤ 9
  | .sign s => isSignB s = true
  | .spy n s => (1 ≤ n ∧ n ≤ 9) ∧ isSignB s = true
  | _ => True
def En.blind : En → Bool
  | .face _ => true
  | .sign _ => true
  | .bare => true
  | .swap => true
  | _ => false
/-- signs are drawn there -/
def Signs1 (cs : CS) (n : Nat) : Prop := ∀ p b, isPool p → ∃ (s : List Nat) (p' : D), cs n [.pr p, .fz (.bl b)] = some (.ok (.str s) false, [.pr p', .un]) ∧ isSignB s = true ∧ isPool p'
def fAny (t g : Nat) : Fn := ⟨2, 4, [.asg (.nm 2) (.call t [(.var 0), (.int 12)]),
    .asg (.nm 3) (.call g [(.var 0), (.prim .eq [(.call t [(.var 0), (.int 2)]), (.int 0)])]),
    .iff (.and (.nt (.var 1)) (.prim .gt [(.var 2), (.int 3)]))
      [.asg (.nm 2) (.prim .mod [(.var 2), (.int 4)])]
      [],
    .iff (.or (.prim .eq [(.var 2), (.int 0)]) (.prim .gt [(.var 2), (.int 9)]))
      [.ret (.prim .tup [(.str [102, 97, 99, 101]), (.prim .ix [(.str [110, 101, 115, 119]), (.call t [(.var 0), (.int 4)])])])]
      [],
    .iff (.prim .lt [(.var 2), (.int 4)])
      [.ret (.prim .ix [(.prim .tup [(.prim .tup [(.str [115, 105, 103, 110]), (.var 3)]), (.prim .tup [(.str [98, 97, 114, 101])]), (.prim .tup [(.str [115, 119, 97, 112])])]), (.prim .sub [(.var 2), (.int 1)])])]
      [],
    .iff (.prim .eq [(.var 2), (.int 4)])
      [.ret (.prim .ix [(.prim .tup [(.prim .tup [(.str [108, 101, 102, 116])]), (.prim .tup [(.str [114, 105, 103, 104, 116])]), (.prim .tup [(.str [98, 97, 99, 107])])]), (.call t [(.var 0), (.int 3)])])]
      [],
    .iff (.prim .eq [(.var 2), (.int 5)])
      [.ret (.prim .tup [(.str [98, 117, 109, 112])])]
      [],
    .iff (.prim .eq [(.var 2), (.int 6)])
      [.ret (.prim .tup [(.str [115, 112, 121]), (.prim .add [(.int 1), (.call t [(.var 0), (.int 9)])]), (.var 3)])]
      [],
    .ret (.prim .tup [(.str [103, 111]), (.prim .add [(.int 1), (.call t [(.var 0), (.int 9)])])])]⟩
theorem at_nesw {r : Int} (h0 : 0 ≤ r) (h1 : r < 4) : ∃ c, atd NESW r = some c ∧ c ∈ NESW := atd_ok h0 (by show r < (4 : Int); exact h1)
/-- the word drawn: its kind by the number -/
theorem any_kind {cs : CS} {t g : Nat} {p p1 p2 p3 : D} {r q : Int} {s : List Nat} {b : Bool} (ht : Takes1 cs t) (e1 : cs t [.pr p, .fz (.int 12)] = some (.ok (.int r) false, [.pr p1, .un])) (e2 : cs t [.pr p1, .fz (.int 2)] = some (.ok (.int q) false, [.pr p2, .un]))
    (e3 : cs g [.pr p2, .fz (.bl (q == 0))] = some (.ok (.str s) false, [.pr p3, .un])) (hs : isSignB s = true) (i3 : isPool p3) (k : Nat) (hk : k < 12) (hr : r = (k : Int)) (hb : b = true ∨ k < 4) : ∃ (e : En) (p' : D), runFn cs (fAny t g) [.pr p, .fz (.bl b)] = some (.ok e.d false, [.pr p', .un]) ∧ e.ok ∧ isPool p' ∧ (k < 4 → e.blind = true) := by
  subst hr
  obtain ⟨z4, q4, e4, a4, b4, i4⟩ := ht p3 4 i3 (by decide) (by decide)
  obtain ⟨z3, q3, e5, a5, b5, i5⟩ := ht p3 3 i3 (by decide) (by decide)
  obtain ⟨z9, q9, e6, a6, b6, i6⟩ := ht p3 9 i3 (by decide) (by decide)
  obtain ⟨c, c1, c2⟩ := at_nesw a4 b4
  have c1 : atd [110, 101, 115, 119] z4 = some c := c1
  have hq := eq_int q 0 false
  have cond : (if b = true then true else decide ((k : Int) ≤ 3)) = true := by
    rcases hb with rfl | hb
    · rfl
    · split
      · rfl
      · exact decide_eq_true (by omega)
  have hz3 : z3 = 0 ∨ z3 = 1 ∨ z3 = 2 := by omega
  obtain ⟨n9, rfl⟩ := Int.eq_ofNat_of_zero_le a6
  have k12 : k = 0 ∨ k = 1 ∨ k = 2 ∨ k = 3 ∨ k = 4 ∨ k = 5 ∨ k = 6 ∨ k = 7 ∨ k = 8 ∨ k = 9 ∨ k = 10 ∨ k = 11 := by omega
  have go : (1 : Int) + (n9 : Int) = ((n9 + 1 : Nat) : Int) := by omega
  rcases k12 with rfl | rfl | rfl | rfl | rfl | rfl | rfl | rfl | rfl | rfl | rfl | rfl
  · refine ⟨.face c, q4, ?_, c2, i4, fun _ => rfl⟩
    cases b <;> simp [runFn, wx_for, w_lc, w_meth, w_glob, w_dsp, w_gdix, w_gdin, wt_gdin, w_ch, wt_ch, wx_par, wx_aug, wx_retN, wx_raise, wx_tryH, hd_0, hd_n, hd_s, wx_tr, noEx, unname, isxS, fldS, lookF, wx_brk, wx_cont, st_tl, st_tt, st_0, st_1, evc_0, evc_1, lcStep, fStep, argOf, onVar, isVar, Cell.on, gets, Ag.get, Cell.val, P.pk, P.sem, P.rcv, M.rcv, M.pk, semAt, tyn, isiS, isiOne, tyNames, tru, isN, callK, pks, nodupB, agCells, agCell, giv, backs, back, locks, unlocks, unl, noOwn, wiped, putsAt, R.only, unbrk, stv, finOf, Cell.keep, pin_un, pin_fz, pin_ow, pin_pr, pin_pz, pin_lk, Cell.mt, Cell.put, Cell.lock, Cell.unlock, intS, cmpS, cmpI, ixS, lenS, fAny, e1, e2, hq, e3, e4, c1, eq_int, LIM, En.l]
  · refine ⟨.sign s, p3, ?_, hs, i3, fun _ => rfl⟩
    have hx : atd [D.tup [.str [115, 105, 103, 110], .str s], .tup [.str [98, 97, 114, 101]], .tup [.str [115, 119, 97, 112]]] 0 = some (.tup [.str [115, 105, 103, 110], .str s]) := rfl
    cases b <;> simp [runFn, wx_for, w_lc, w_meth, w_glob, w_dsp, w_gdix, w_gdin, wt_gdin, w_ch, wt_ch, wx_par, wx_aug, wx_retN, wx_raise, wx_tryH, hd_0, hd_n, hd_s, wx_tr, noEx, unname, isxS, fldS, lookF, wx_brk, wx_cont, st_tl, st_tt, st_0, st_1, evc_0, evc_1, lcStep, fStep, argOf, onVar, isVar, Cell.on, gets, Ag.get, Cell.val, P.pk, P.sem, P.rcv, M.rcv, M.pk, semAt, tyn, isiS, isiOne, tyNames, tru, isN, callK, pks, nodupB, agCells, agCell, giv, backs, back, locks, unlocks, unl, noOwn, wiped, putsAt, R.only, unbrk, stv, finOf, Cell.keep, pin_un, pin_fz, pin_ow, pin_pr, pin_pz, pin_lk, Cell.mt, Cell.put, Cell.lock, Cell.unlock, intS, cmpS, cmpI, ixS, lenS, fAny, e1, e2, hq, e3, eq_int, LIM, En.l]
  · refine ⟨.bare, p3, ?_, trivial, i3, fun _ => rfl⟩
    cases b <;> simp [runFn, wx_for, w_lc, w_meth, w_glob, w_dsp, w_gdix, w_gdin, wt_gdin, w_ch, wt_ch, wx_par, wx_aug, wx_retN, wx_raise, wx_tryH, hd_0, hd_n, hd_s, wx_tr, noEx, unname, isxS, fldS, lookF, wx_brk, wx_cont, st_tl, st_tt, st_0, st_1, evc_0, evc_1, lcStep, fStep, argOf, onVar, isVar, Cell.on, gets, Ag.get, Cell.val, P.pk, P.sem, P.rcv, M.rcv, M.pk, semAt, tyn, isiS, isiOne, tyNames, tru, isN, callK, pks, nodupB, agCells, agCell, giv, backs, back, locks, unlocks, unl, noOwn, wiped, putsAt, R.only, unbrk, stv, finOf, Cell.keep, pin_un, pin_fz, pin_ow, pin_pr, pin_pz, pin_lk, Cell.mt, Cell.put, Cell.lock, Cell.unlock, intS, cmpS, cmpI, ixS, lenS, fAny, e1, e2, hq, e3, eq_int, LIM, En.l]
  · refine ⟨.swap, p3, ?_, trivial, i3, fun _ => rfl⟩
    cases b <;> simp [runFn, wx_for, w_lc, w_meth, w_glob, w_dsp, w_gdix, w_gdin, wt_gdin, w_ch, wt_ch, wx_par, wx_aug, wx_retN, wx_raise, wx_tryH, hd_0, hd_n, hd_s, wx_tr, noEx, unname, isxS, fldS, lookF, wx_brk, wx_cont, st_tl, st_tt, st_0, st_1, evc_0, evc_1, lcStep, fStep, argOf, onVar, isVar, Cell.on, gets, Ag.get, Cell.val, P.pk, P.sem, P.rcv, M.rcv, M.pk, semAt, tyn, isiS, isiOne, tyNames, tru, isN, callK, pks, nodupB, agCells, agCell, giv, backs, back, locks, unlocks, unl, noOwn, wiped, putsAt, R.only, unbrk, stv, finOf, Cell.keep, pin_un, pin_fz, pin_ow, pin_pr, pin_pz, pin_lk, Cell.mt, Cell.put, Cell.lock, Cell.unlock, intS, cmpS, cmpI, ixS, lenS, fAny, e1, e2, hq, e3, eq_int, LIM, En.l]
  · have hb : b = true := hb.resolve_right (by omega)
    subst hb
    rcases hz3 with rfl | rfl | rfl
    · exact ⟨.left, q3, by simp [runFn, wx_for, w_lc, w_meth, w_glob, w_dsp, w_gdix, w_gdin, wt_gdin, w_ch, wt_ch, wx_par, wx_aug, wx_retN, wx_raise, wx_tryH, hd_0, hd_n, hd_s, wx_tr, noEx, unname, isxS, fldS, lookF, wx_brk, wx_cont, st_tl, st_tt, st_0, st_1, evc_0, evc_1, lcStep, fStep, argOf, onVar, isVar, Cell.on, gets, Ag.get, Cell.val, P.pk, P.sem, P.rcv, M.rcv, M.pk, semAt, tyn, isiS, isiOne, tyNames, tru, isN, callK, pks, nodupB, agCells, agCell, giv, backs, back, locks, unlocks, unl, noOwn, wiped, putsAt, R.only, unbrk, stv, finOf, Cell.keep, pin_un, pin_fz, pin_ow, pin_pr, pin_pz, pin_lk, Cell.mt, Cell.put, Cell.lock, Cell.unlock, intS, cmpS, cmpI, ixS, lenS, fAny, e1, e2, hq, e3, e5, eq_int, LIM, En.l], trivial, i5, fun z => by omega⟩
    · exact ⟨.right, q3, by simp [runFn, wx_for, w_lc, w_meth, w_glob, w_dsp, w_gdix, w_gdin, wt_gdin, w_ch, wt_ch, wx_par, wx_aug, wx_retN, wx_raise, wx_tryH, hd_0, hd_n, hd_s, wx_tr, noEx, unname, isxS, fldS, lookF, wx_brk, wx_cont, st_tl, st_tt, st_0, st_1, evc_0, evc_1, lcStep, fStep, argOf, onVar, isVar, Cell.on, gets, Ag.get, Cell.val, P.pk, P.sem, P.rcv, M.rcv, M.pk, semAt, tyn, isiS, isiOne, tyNames, tru, isN, callK, pks, nodupB, agCells, agCell, giv, backs, back, locks, unlocks, unl, noOwn, wiped, putsAt, R.only, unbrk, stv, finOf, Cell.keep, pin_un, pin_fz, pin_ow, pin_pr, pin_pz, pin_lk, Cell.mt, Cell.put, Cell.lock, Cell.unlock, intS, cmpS, cmpI, ixS, lenS, fAny, e1, e2, hq, e3, e5, eq_int, LIM, En.l], trivial, i5, fun z => by omega⟩
    · exact ⟨.back, q3, by simp [runFn, wx_for, w_lc, w_meth, w_glob, w_dsp, w_gdix, w_gdin, wt_gdin, w_ch, wt_ch, wx_par, wx_aug, wx_retN, wx_raise, wx_tryH, hd_0, hd_n, hd_s, wx_tr, noEx, unname, isxS, fldS, lookF, wx_brk, wx_cont, st_tl, st_tt, st_0, st_1, evc_0, evc_1, lcStep, fStep, argOf, onVar, isVar, Cell.on, gets, Ag.get, Cell.val, P.pk, P.sem, P.rcv, M.rcv, M.pk, semAt, tyn, isiS, isiOne, tyNames, tru, isN, callK, pks, nodupB, agCells, agCell, giv, backs, back, locks, unlocks, unl, noOwn, wiped, putsAt, R.only, unbrk, stv, finOf, Cell.keep, pin_un, pin_fz, pin_ow, pin_pr, pin_pz, pin_lk, Cell.mt, Cell.put, Cell.lock, Cell.unlock, intS, cmpS, cmpI, ixS, lenS, fAny, e1, e2, hq, e3, e5, eq_int, LIM, En.l], trivial, i5, fun z => by omega⟩
  · have hb : b = true := hb.resolve_right (by omega)
    subst hb
    exact ⟨.bump, p3, by simp [runFn, wx_for, w_lc, w_meth, w_glob, w_dsp, w_gdix, w_gdin, wt_gdin, w_ch, wt_ch, wx_par, wx_aug, wx_retN, wx_raise, wx_tryH, hd_0, hd_n, hd_s, wx_tr, noEx, unname, isxS, fldS, lookF, wx_brk, wx_cont, st_tl, st_tt, st_0, st_1, evc_0, evc_1, lcStep, fStep, argOf, onVar, isVar, Cell.on, gets, Ag.get, Cell.val, P.pk, P.sem, P.rcv, M.rcv, M.pk, semAt, tyn, isiS, isiOne, tyNames, tru, isN, callK, pks, nodupB, agCells, agCell, giv, backs, back, locks, unlocks, unl, noOwn, wiped, putsAt, R.only, unbrk, stv, finOf, Cell.keep, pin_un, pin_fz, pin_ow, pin_pr, pin_pz, pin_lk, Cell.mt, Cell.put, Cell.lock, Cell.unlock, intS, cmpS, cmpI, ixS, lenS, fAny, e1, e2, hq, e3, eq_int, LIM, En.l], trivial, i3, fun z => by omega⟩
  · have hb : b = true := hb.resolve_right (by omega)
    subst hb
    exact ⟨.spy (n9 + 1) s, q9, by simp [runFn, wx_for, w_lc, w_meth, w_glob, w_dsp, w_gdix, w_gdin, wt_gdin, w_ch, wt_ch, wx_par, wx_aug, wx_retN, wx_raise, wx_tryH, hd_0, hd_n, hd_s, wx_tr, noEx, unname, isxS, fldS, lookF, wx_brk, wx_cont, st_tl, st_tt, st_0, st_1, evc_0, evc_1, lcStep, fStep, argOf, onVar, isVar, Cell.on, gets, Ag.get, Cell.val, P.pk, P.sem, P.rcv, M.rcv, M.pk, semAt, tyn, isiS, isiOne, tyNames, tru, isN, callK, pks, nodupB, agCells, agCell, giv, backs, back, locks, unlocks, unl, noOwn, wiped, putsAt, R.only, unbrk, stv, finOf, Cell.keep, pin_un, pin_fz, pin_ow, pin_pr, pin_pz, pin_lk, Cell.mt, Cell.put, Cell.lock, Cell.unlock, intS, cmpS, cmpI, ixS, lenS, fAny, e1, e2, hq, e3, e6, add_ii, eq_int, LIM, En.l, go], ⟨by omega, hs⟩, i6, fun z => by omega⟩
  · have hb : b = true := hb.resolve_right (by omega)
    subst hb
    exact ⟨.go (n9 + 1), q9, by simp [runFn, wx_for, w_lc, w_meth, w_glob, w_dsp, w_gdix, w_gdin, wt_gdin, w_ch, wt_ch, wx_par, wx_aug, wx_retN, wx_raise, wx_tryH, hd_0, hd_n, hd_s, wx_tr, noEx, unname, isxS, fldS, lookF, wx_brk, wx_cont, st_tl, st_tt, st_0, st_1, evc_0, evc_1, lcStep, fStep, argOf, onVar, isVar, Cell.on, gets, Ag.get, Cell.val, P.pk, P.sem, P.rcv, M.rcv, M.pk, semAt, tyn, isiS, isiOne, tyNames, tru, isN, callK, pks, nodupB, agCells, agCell, giv, backs, back, locks, unlocks, unl, noOwn, wiped, putsAt, R.only, unbrk, stv, finOf, Cell.keep, pin_un, pin_fz, pin_ow, pin_pr, pin_pz, pin_lk, Cell.mt, Cell.put, Cell.lock, Cell.unlock, intS, cmpS, cmpI, ixS, lenS, fAny, e1, e2, hq, e3, e6, add_ii, eq_int, LIM, En.l, go], ⟨by omega, by omega⟩, i6, fun z => by omega⟩
  · have hb : b = true := hb.resolve_right (by omega)
    subst hb
    exact ⟨.go (n9 + 1), q9, by simp [runFn, wx_for, w_lc, w_meth, w_glob, w_dsp, w_gdix, w_gdin, wt_gdin, w_ch, wt_ch, wx_par, wx_aug, wx_retN, wx_raise, wx_tryH, hd_0, hd_n, hd_s, wx_tr, noEx, unname, isxS, fldS, lookF, wx_brk, wx_cont, st_tl, st_tt, st_0, st_1, evc_0, evc_1, lcStep, fStep, argOf, onVar, isVar, Cell.on, gets, Ag.get, Cell.val, P.pk, P.sem, P.rcv, M.rcv, M.pk, semAt, tyn, isiS, isiOne, tyNames, tru, isN, callK, pks, nodupB, agCells, agCell, giv, backs, back, locks, unlocks, unl, noOwn, wiped, putsAt, R.only, unbrk, stv, finOf, Cell.keep, pin_un, pin_fz, pin_ow, pin_pr, pin_pz, pin_lk, Cell.mt, Cell.put, Cell.lock, Cell.unlock, intS, cmpS, cmpI, ixS, lenS, fAny, e1, e2, hq, e3, e6, add_ii, eq_int, LIM, En.l, go], ⟨by omega, by omega⟩, i6, fun z => by omega⟩
  · have hb : b = true := hb.resolve_right (by omega)
    subst hb
    exact ⟨.go (n9 + 1), q9, by simp [runFn, wx_for, w_lc, w_meth, w_glob, w_dsp, w_gdix, w_gdin, wt_gdin, w_ch, wt_ch, wx_par, wx_aug, wx_retN, wx_raise, wx_tryH, hd_0, hd_n, hd_s, wx_tr, noEx, unname, isxS, fldS, lookF, wx_brk, wx_cont, st_tl, st_tt, st_0, st_1, evc_0, evc_1, lcStep, fStep, argOf, onVar, isVar, Cell.on, gets, Ag.get, Cell.val, P.pk, P.sem, P.rcv, M.rcv, M.pk, semAt, tyn, isiS, isiOne, tyNames, tru, isN, callK, pks, nodupB, agCells, agCell, giv, backs, back, locks, unlocks, unl, noOwn, wiped, putsAt, R.only, unbrk, stv, finOf, Cell.keep, pin_un, pin_fz, pin_ow, pin_pr, pin_pz, pin_lk, Cell.mt, Cell.put, Cell.lock, Cell.unlock, intS, cmpS, cmpI, ixS, lenS, fAny, e1, e2, hq, e3, e6, add_ii, eq_int, LIM, En.l, go], ⟨by omega, by omega⟩, i6, fun z => by omega⟩
  · have hb : b = true := hb.resolve_right (by omega)
    subst hb
    exact ⟨.face c, q4, by simp [runFn, wx_for, w_lc, w_meth, w_glob, w_dsp, w_gdix, w_gdin, wt_gdin, w_ch, wt_ch, wx_par, wx_aug, wx_retN, wx_raise, wx_tryH, hd_0, hd_n, hd_s, wx_tr, noEx, unname, isxS, fldS, lookF, wx_brk, wx_cont, st_tl, st_tt, st_0, st_1, evc_0, evc_1, lcStep, fStep, argOf, onVar, isVar, Cell.on, gets, Ag.get, Cell.val, P.pk, P.sem, P.rcv, M.rcv, M.pk, semAt, tyn, isiS, isiOne, tyNames, tru, isN, callK, pks, nodupB, agCells, agCell, giv, backs, back, locks, unlocks, unl, noOwn, wiped, putsAt, R.only, unbrk, stv, finOf, Cell.keep, pin_un, pin_fz, pin_ow, pin_pr, pin_pz, pin_lk, Cell.mt, Cell.put, Cell.lock, Cell.unlock, intS, cmpS, cmpI, ixS, lenS, fAny, e1, e2, hq, e3, e4, c1, eq_int, LIM, En.l], c2, i4, fun _ => rfl⟩
  · have hb : b = true := hb.resolve_right (by omega)
    subst hb
    exact ⟨.face c, q4, by simp [runFn, wx_for, w_lc, w_meth, w_glob, w_dsp, w_gdix, w_gdin, wt_gdin, w_ch, wt_ch, wx_par, wx_aug, wx_retN, wx_raise, wx_tryH, hd_0, hd_n, hd_s, wx_tr, noEx, unname, isxS, fldS, lookF, wx_brk, wx_cont, st_tl, st_tt, st_0, st_1, evc_0, evc_1, lcStep, fStep, argOf, onVar, isVar, Cell.on, gets, Ag.get, Cell.val, P.pk, P.sem, P.rcv, M.rcv, M.pk, semAt, tyn, isiS, isiOne, tyNames, tru, isN, callK, pks, nodupB, agCells, agCell, giv, backs, back, locks, unlocks, unl, noOwn, wiped, putsAt, R.only, unbrk, stv, finOf, Cell.keep, pin_un, pin_fz, pin_ow, pin_pr, pin_pz, pin_lk, Cell.mt, Cell.put, Cell.lock, Cell.unlock, intS, cmpS, cmpI, ixS, lenS, fAny, e1, e2, hq, e3, e4, c1, eq_int, LIM, En.l], c2, i4, fun _ => rfl⟩
/-- an entry drawn; while no face came, of those that need none -/
theorem any_ok {cs : CS} {t g : Nat} {p : D} (ht : Takes1 cs t) (hg : Signs1 cs g) (hp : isPool p) (b : Bool) : ∃ (e : En) (p' : D), runFn cs (fAny t g) [.pr p, .fz (.bl b)] = some (.ok e.d false, [.pr p', .un]) ∧ e.ok ∧ isPool p' ∧ (b = false → e.blind = true) := by
  obtain ⟨r, p1, e1, r1, r2, i1⟩ := ht p 12 hp (by decide) (by decide)
  obtain ⟨q, p2, e2, q1, q2, i2⟩ := ht p1 2 i1 (by decide) (by decide)
  obtain ⟨s, p3, e3, hs, i3⟩ := hg p2 (q == 0) i2
  obtain ⟨k, rfl⟩ := Int.eq_ofNat_of_zero_le r1
  by_cases hb : b = true ∨ k < 4
  · obtain ⟨e, p', h1, h2, h3, h4⟩ := any_kind (b := b) ht e1 e2 e3 hs i3 k (by omega) rfl hb
    refine ⟨e, p', h1, h2, h3, fun z => h4 ?_⟩
    rcases hb with rfl | hb
    · cases z
    · exact hb
  · -- a number that is brought down
    have hb0 : b = false := by cases b with | false => rfl | true => exact absurd (.inl rfl) hb
    have hk : 4 ≤ k := by
      have := fun z => hb (.inr z)
      omega
    subst hb0
    obtain ⟨z4, q4, e4, a4, b4, i4⟩ := ht p3 4 i3 (by decide) (by decide)
    obtain ⟨c, c1, c2⟩ := at_nesw a4 b4
    have c1 : atd [110, 101, 115, 119] z4 = some c := c1
    have hq := eq_int q 0 false
    have k8 : k = 4 ∨ k = 5 ∨ k = 6 ∨ k = 7 ∨ k = 8 ∨ k = 9 ∨ k = 10 ∨ k = 11 := by omega
    have md : ∀ n : Nat, modI (n : Int) 4 = some ((n % 4 : Nat) : Int) := fun n => by rw [mod_c (by decide)]; rfl
    have m4 := md 4; have m5 := md 5; have m6 := md 6; have m7 := md 7; have m8 := md 8; have m9 := md 9; have m10 := md 10; have m11 := md 11
    rcases k8 with rfl | rfl | rfl | rfl | rfl | rfl | rfl | rfl
    · exact ⟨.face c, q4, by simp at m4; simp [runFn, wx_for, w_lc, w_meth, w_glob, w_dsp, w_gdix, w_gdin, wt_gdin, w_ch, wt_ch, wx_par, wx_aug, wx_retN, wx_raise, wx_tryH, hd_0, hd_n, hd_s, wx_tr, noEx, unname, isxS, fldS, lookF, wx_brk, wx_cont, st_tl, st_tt, st_0, st_1, evc_0, evc_1, lcStep, fStep, argOf, onVar, isVar, Cell.on, gets, Ag.get, Cell.val, P.pk, P.sem, P.rcv, M.rcv, M.pk, semAt, tyn, isiS, isiOne, tyNames, tru, isN, callK, pks, nodupB, agCells, agCell, giv, backs, back, locks, unlocks, unl, noOwn, wiped, putsAt, R.only, unbrk, stv, finOf, Cell.keep, pin_un, pin_fz, pin_ow, pin_pr, pin_pz, pin_lk, Cell.mt, Cell.put, Cell.lock, Cell.unlock, intS, cmpS, cmpI, ixS, lenS, fAny, e1, e2, hq, e3, e4, c1, m4, eq_int, LIM, En.l], c2, i4, fun _ => rfl⟩
    · exact ⟨.sign s, p3, by simp at m5; simp [runFn, wx_for, w_lc, w_meth, w_glob, w_dsp, w_gdix, w_gdin, wt_gdin, w_ch, wt_ch, wx_par, wx_aug, wx_retN, wx_raise, wx_tryH, hd_0, hd_n, hd_s, wx_tr, noEx, unname, isxS, fldS, lookF, wx_brk, wx_cont, st_tl, st_tt, st_0, st_1, evc_0, evc_1, lcStep, fStep, argOf, onVar, isVar, Cell.on, gets, Ag.get, Cell.val, P.pk, P.sem, P.rcv, M.rcv, M.pk, semAt, tyn, isiS, isiOne, tyNames, tru, isN, callK, pks, nodupB, agCells, agCell, giv, backs, back, locks, unlocks, unl, noOwn, wiped, putsAt, R.only, unbrk, stv, finOf, Cell.keep, pin_un, pin_fz, pin_ow, pin_pr, pin_pz, pin_lk, Cell.mt, Cell.put, Cell.lock, Cell.unlock, intS, cmpS, cmpI, ixS, lenS, fAny, e1, e2, hq, e3, m5, eq_int, LIM, En.l], hs, i3, fun _ => rfl⟩
    · exact ⟨.bare, p3, by simp at m6; simp [runFn, wx_for, w_lc, w_meth, w_glob, w_dsp, w_gdix, w_gdin, wt_gdin, w_ch, wt_ch, wx_par, wx_aug, wx_retN, wx_raise, wx_tryH, hd_0, hd_n, hd_s, wx_tr, noEx, unname, isxS, fldS, lookF, wx_brk, wx_cont, st_tl, st_tt, st_0, st_1, evc_0, evc_1, lcStep, fStep, argOf, onVar, isVar, Cell.on, gets, Ag.get, Cell.val, P.pk, P.sem, P.rcv, M.rcv, M.pk, semAt, tyn, isiS, isiOne, tyNames, tru, isN, callK, pks, nodupB, agCells, agCell, giv, backs, back, locks, unlocks, unl, noOwn, wiped, putsAt, R.only, unbrk, stv, finOf, Cell.keep, pin_un, pin_fz, pin_ow, pin_pr, pin_pz, pin_lk, Cell.mt, Cell.put, Cell.lock, Cell.unlock, intS, cmpS, cmpI, ixS, lenS, fAny, e1, e2, hq, e3, m6, eq_int, LIM, En.l], trivial, i3, fun _ => rfl⟩
    · exact ⟨.swap, p3, by simp at m7; simp [runFn, wx_for, w_lc, w_meth, w_glob, w_dsp, w_gdix, w_gdin, wt_gdin, w_ch, wt_ch, wx_par, wx_aug, wx_retN, wx_raise, wx_tryH, hd_0, hd_n, hd_s, wx_tr, noEx, unname, isxS, fldS, lookF, wx_brk, wx_cont, st_tl, st_tt, st_0, st_1, evc_0, evc_1, lcStep, fStep, argOf, onVar, isVar, Cell.on, gets, Ag.get, Cell.val, P.pk, P.sem, P.rcv, M.rcv, M.pk, semAt, tyn, isiS, isiOne, tyNames, tru, isN, callK, pks, nodupB, agCells, agCell, giv, backs, back, locks, unlocks, unl, noOwn, wiped, putsAt, R.only, unbrk, stv, finOf, Cell.keep, pin_un, pin_fz, pin_ow, pin_pr, pin_pz, pin_lk, Cell.mt, Cell.put, Cell.lock, Cell.unlock, intS, cmpS, cmpI, ixS, lenS, fAny, e1, e2, hq, e3, m7, eq_int, LIM, En.l], trivial, i3, fun _ => rfl⟩
    · exact ⟨.face c, q4, by simp at m8; simp [runFn, wx_for, w_lc, w_meth, w_glob, w_dsp, w_gdix, w_gdin, wt_gdin, w_ch, wt_ch, wx_par, wx_aug, wx_retN, wx_raise, wx_tryH, hd_0, hd_n, hd_s, wx_tr, noEx, unname, isxS, fldS, lookF, wx_brk, wx_cont, st_tl, st_tt, st_0, st_1, evc_0, evc_1, lcStep, fStep, argOf, onVar, isVar, Cell.on, gets, Ag.get, Cell.val, P.pk, P.sem, P.rcv, M.rcv, M.pk, semAt, tyn, isiS, isiOne, tyNames, tru, isN, callK, pks, nodupB, agCells, agCell, giv, backs, back, locks, unlocks, unl, noOwn, wiped, putsAt, R.only, unbrk, stv, finOf, Cell.keep, pin_un, pin_fz, pin_ow, pin_pr, pin_pz, pin_lk, Cell.mt, Cell.put, Cell.lock, Cell.unlock, intS, cmpS, cmpI, ixS, lenS, fAny, e1, e2, hq, e3, e4, c1, m8, eq_int, LIM, En.l], c2, i4, fun _ => rfl⟩
    · exact ⟨.sign s, p3, by simp at m9; simp [runFn, wx_for, w_lc, w_meth, w_glob, w_dsp, w_gdix, w_gdin, wt_gdin, w_ch, wt_ch, wx_par, wx_aug, wx_retN, wx_raise, wx_tryH, hd_0, hd_n, hd_s, wx_tr, noEx, unname, isxS, fldS, lookF, wx_brk, wx_cont, st_tl, st_tt, st_0, st_1, evc_0, evc_1, lcStep, fStep, argOf, onVar, isVar, Cell.on, gets, Ag.get, Cell.val, P.pk, P.sem, P.rcv, M.rcv, M.pk, semAt, tyn, isiS, isiOne, tyNames, tru, isN, callK, pks, nodupB, agCells, agCell, giv, backs, back, locks, unlocks, unl, noOwn, wiped, putsAt, R.only, unbrk, stv, finOf, Cell.keep, pin_un, pin_fz, pin_ow, pin_pr, pin_pz, pin_lk, Cell.mt, Cell.put, Cell.lock, Cell.unlock, intS, cmpS, cmpI, ixS, lenS, fAny, e1, e2, hq, e3, m9, eq_int, LIM, En.l], hs, i3, fun _ => rfl⟩
    · exact ⟨.bare, p3, by simp at m10; simp [runFn, wx_for, w_lc, w_meth, w_glob, w_dsp, w_gdix, w_gdin, wt_gdin, w_ch, wt_ch, wx_par, wx_aug, wx_retN, wx_raise, wx_tryH, hd_0, hd_n, hd_s, wx_tr, noEx, unname, isxS, fldS, lookF, wx_brk, wx_cont, st_tl, st_tt, st_0, st_1, evc_0, evc_1, lcStep, fStep, argOf, onVar, isVar, Cell.on, gets, Ag.get, Cell.val, P.pk, P.sem, P.rcv, M.rcv, M.pk, semAt, tyn, isiS, isiOne, tyNames, tru, isN, callK, pks, nodupB, agCells, agCell, giv, backs, back, locks, unlocks, unl, noOwn, wiped, putsAt, R.only, unbrk, stv, finOf, Cell.keep, pin_un, pin_fz, pin_ow, pin_pr, pin_pz, pin_lk, Cell.mt, Cell.put, Cell.lock, Cell.unlock, intS, cmpS, cmpI, ixS, lenS, fAny, e1, e2, hq, e3, m10, eq_int, LIM, En.l], trivial, i3, fun _ => rfl⟩
    · exact ⟨.swap, p3, by simp at m11; simp [runFn, wx_for, w_lc, w_meth, w_glob, w_dsp, w_gdix, w_gdin, wt_gdin, w_ch, wt_ch, wx_par, wx_aug, wx_retN, wx_raise, wx_tryH, hd_0, hd_n, hd_s, wx_tr, noEx, unname, isxS, fldS, lookF, wx_brk, wx_cont, st_tl, st_tt, st_0, st_1, evc_0, evc_1, lcStep, fStep, argOf, onVar, isVar, Cell.on, gets, Ag.get, Cell.val, P.pk, P.sem, P.rcv, M.rcv, M.pk, semAt, tyn, isiS, isiOne, tyNames, tru, isN, callK, pks, nodupB, agCells, agCell, giv, backs, back, locks, unlocks, unl, noOwn, wiped, putsAt, R.only, unbrk, stv, finOf, Cell.keep, pin_un, pin_fz, pin_ow, pin_pr, pin_pz, pin_lk, Cell.mt, Cell.put, Cell.lock, Cell.unlock, intS, cmpS, cmpI, ixS, lenS, fAny, e1, e2, hq, e3, m11, eq_int, LIM, En.l], trivial, i3, fun _ => rfl⟩
/-- names, signs, entries at their levels -/
theorem names_at {es : Ents} {t n : Nat} (ht : tbE es t = some (.fn fTake)) (hn : tbE es n = some (.fn (fName t))) (k : Nat) : Names1 (run (tbE es) (k + 2)) n := fun p hp => by
  obtain ⟨s, p', e, h⟩ := name_ok (takes_at ht k) hp
  exact ⟨s, p', (run_fn (k + 1) n _ hn _).trans e, h⟩
theorem signs_at {es : Ents} {t n g : Nat} (ht : tbE es t = some (.fn fTake)) (hn : tbE es n = some (.fn (fName t))) (hg : tbE es g = some (.fn (fSign n))) (k : Nat) : Signs1 (run (tbE es) (k + 3)) g := fun p b hp => by
  obtain ⟨s, p', e, h, i⟩ := sign_ok (names_at ht hn k) hp b
  refine ⟨s, p', (run_fn (k + 2) g _ hg _).trans e, ?_, i⟩
  unfold isSignB
  cases b with
  | false => rw [if_neg Bool.false_ne_true] at h; rw [h]; rfl
  | true => rw [if_pos rfl] at h; rw [h]; simp
/-- entries are drawn there -/
def Entries1 (cs : CS) (n : Nat) : Prop := ∀ p b, isPool p → ∃ (e : En) (p' : D), cs n [.pr p, .fz (.bl b)] = some (.ok e.d false, [.pr p', .un]) ∧ e.ok ∧ isPool p' ∧ (b = false → e.blind = true)
theorem entries_at {es : Ents} {t n g a : Nat} (ht : tbE es t = some (.fn fTake)) (hn : tbE es n = some (.fn (fName t))) (hg : tbE es g = some (.fn (fSign n))) (ha : tbE es a = some (.fn (fAny t g))) (k : Nat) : Entries1 (run (tbE es) (k + 4)) a := fun p b hp => by
  obtain ⟨e, p', h, z⟩ := any_ok (takes_at ht (k + 2)) (signs_at ht hn hg k) hp b
  exact ⟨e, p', (run_fn (k + 3) a _ ha _).trans h, z⟩
end BV

/-! BvA: is_many, is_entry. -/
namespace BV
open PySem L2
theorem eq_str {x y : List Nat} {b : Bool} (hx : okS x = true) (hy : okS y = true) : eqS b (.str x) (.str y) = some (.bl (if b then !(x == y) else x == y), false) := by
  unfold eqS
  rw [if_pos ⟨ok_str hx, ok_str hy⟩, eqd]
def fIsMany : Fn := ⟨1, 1, [.ret (.and (.prim (.isi ["int"]) [(.var 0)]) (.and (.nt (.prim (.isi ["bool"]) [(.var 0)])) (.ch .le .le (.int 1) (.var 0) (.int 9))))]⟩
theorem ismany_int {cs : CS} (i : Int) : runFn cs fIsMany [.fz (.int i)] = some (.ok (.bl (decide (1 ≤ i ∧ i ≤ 9))) false, [.un]) := by
  by_cases h1 : 1 ≤ i
  · by_cases h2 : i ≤ 9
    · simp [runFn, wx_for, w_lc, w_meth, w_glob, w_dsp, w_gdix, w_gdin, wt_gdin, w_ch, wt_ch, wx_par, wx_aug, wx_retN, wx_raise, wx_tryH, hd_0, hd_n, hd_s, wx_tr, noEx, unname, isxS, fldS, lookF, wx_brk, wx_cont, st_tl, st_tt, st_0, st_1, evc_0, evc_1, lcStep, fStep, argOf, onVar, isVar, Cell.on, gets, Ag.get, Cell.val, P.pk, P.sem, P.rcv, M.rcv, M.pk, semAt, tyn, isiS, isiOne, tyNames, tru, isN, callK, pks, nodupB, agCells, agCell, giv, backs, back, locks, unlocks, unl, noOwn, wiped, putsAt, R.only, unbrk, stv, finOf, Cell.keep, pin_un, pin_fz, pin_ow, pin_pr, pin_pz, pin_lk, Cell.mt, Cell.put, Cell.lock, Cell.unlock, intS, cmpS, cmpI, ixS, lenS, fIsMany, h1, h2]
    · simp [runFn, wx_for, w_lc, w_meth, w_glob, w_dsp, w_gdix, w_gdin, wt_gdin, w_ch, wt_ch, wx_par, wx_aug, wx_retN, wx_raise, wx_tryH, hd_0, hd_n, hd_s, wx_tr, noEx, unname, isxS, fldS, lookF, wx_brk, wx_cont, st_tl, st_tt, st_0, st_1, evc_0, evc_1, lcStep, fStep, argOf, onVar, isVar, Cell.on, gets, Ag.get, Cell.val, P.pk, P.sem, P.rcv, M.rcv, M.pk, semAt, tyn, isiS, isiOne, tyNames, tru, isN, callK, pks, nodupB, agCells, agCell, giv, backs, back, locks, unlocks, unl, noOwn, wiped, putsAt, R.only, unbrk, stv, finOf, Cell.keep, pin_un, pin_fz, pin_ow, pin_pr, pin_pz, pin_lk, Cell.mt, Cell.put, Cell.lock, Cell.unlock, intS, cmpS, cmpI, ixS, lenS, fIsMany, h1, h2]
  · simp [runFn, wx_for, w_lc, w_meth, w_glob, w_dsp, w_gdix, w_gdin, wt_gdin, w_ch, wt_ch, wx_par, wx_aug, wx_retN, wx_raise, wx_tryH, hd_0, hd_n, hd_s, wx_tr, noEx, unname, isxS, fldS, lookF, wx_brk, wx_cont, st_tl, st_tt, st_0, st_1, evc_0, evc_1, lcStep, fStep, argOf, onVar, isVar, Cell.on, gets, Ag.get, Cell.val, P.pk, P.sem, P.rcv, M.rcv, M.pk, semAt, tyn, isiS, isiOne, tyNames, tru, isN, callK, pks, nodupB, agCells, agCell, giv, backs, back, locks, unlocks, unl, noOwn, wiped, putsAt, R.only, unbrk, stv, finOf, Cell.keep, pin_un, pin_fz, pin_ow, pin_pr, pin_pz, pin_lk, Cell.mt, Cell.put, Cell.lock, Cell.unlock, intS, cmpS, cmpI, ixS, lenS, fIsMany, h1]
def fIsEntry (m s L : Nat) : Fn := ⟨1, 3, [.iff (.or (.nt (.prim (.isi ["tuple", "list"]) [(.var 0)])) (.or (.prim .eq [(.prim .len [(.var 0)]), (.int 0)]) (.nt (.prim (.isi ["str"]) [(.prim .ix [(.var 0), (.int 0)])]))))
      [.ret (.bl false)]
      [],
    .asg (.sp [.nm 1] 2) (.var 0),
    .iff (.prim .isin [(.var 1), (.prim .tup [(.str [108, 101, 102, 116]), (.str [114, 105, 103, 104, 116]), (.str [98, 97, 99, 107]), (.str [98, 117, 109, 112]), (.str [98, 97, 114, 101]), (.str [115, 119, 97, 112])])])
      [.ret (.prim .eq [(.var 2), (.prim .lst [])])]
      [],
    .iff (.prim .eq [(.var 1), (.str [102, 97, 99, 101])])
      [.ret (.and (.prim .eq [(.prim .len [(.var 2)]), (.int 1)]) (.and (.prim (.isi ["str"]) [(.prim .ix [(.var 2), (.int 0)])]) (.and (.prim .eq [(.prim .len [(.prim .ix [(.var 2), (.int 0)])]), (.int 1)]) (.prim .isin [(.prim .ix [(.var 2), (.int 0)]), (.glob L)]))))]
      [],
    .iff (.prim .eq [(.var 1), (.str [103, 111])])
      [.ret (.and (.prim .eq [(.prim .len [(.var 2)]), (.int 1)]) (.call m [(.prim .ix [(.var 2), (.int 0)])]))]
      [],
    .iff (.prim .eq [(.var 1), (.str [115, 105, 103, 110])])
      [.ret (.and (.prim .eq [(.prim .len [(.var 2)]), (.int 1)]) (.call s [(.prim .ix [(.var 2), (.int 0)])]))]
      [],
    .ret (.and (.prim .eq [(.var 1), (.str [115, 112, 121])]) (.and (.prim .eq [(.prim .len [(.var 2)]), (.int 2)]) (.and (.call m [(.prim .ix [(.var 2), (.int 0)])]) (.call s [(.prim .ix [(.var 2), (.int 1)])]))))]⟩
/-- what it calls -/
structure EnOk (cs : CS) (m s L : Nat) : Prop where
  many : ∀ n : Nat, 1 ≤ n → n ≤ 9 → cs m [.fz (.int (n : Int))] = some (.ok (.bl true) false, [.un])
  sign : ∀ z : List Nat, isSignB z = true → cs s [.fz (.str z)] = some (.ok (.bl true) false, [.un])
  letters : cs L [] = some (.ok (.str NESW) false, [])
theorem nesw_cases {c : Nat} (h : c ∈ NESW) : c = 110 ∨ c = 101 ∨ c = 115 ∨ c = 119 := by
  simpa [NESW] using h
theorem at_1' {α : Type} (x y : α) (r : List α) : atd (x :: y :: r) 1 = some y := by
  unfold atd ixd
  have h : (1 : Int) < ((x :: y :: r).length : Int) := by simp; omega
  rw [if_pos (by decide), if_pos h]
  rfl
theorem isentry_t {cs : CS} {m s L : Nat} (h : EnOk cs m s L) (e : En) (he : e.ok) : runFn cs (fIsEntry m s L) [.fz (.tup e.l)] = some (.ok (.bl true) false, [.un]) := by
  have e0 : eqS false (.lst []) (.lst []) = some (.bl true, false) := by kernel_rfl
  have o1 : okS [108, 101, 102, 116] = true := by decide
  cases e with
  | left => simp [runFn, wx_for, w_lc, w_meth, w_glob, w_dsp, w_gdix, w_gdin, wt_gdin, w_ch, wt_ch, wx_par, wx_aug, wx_retN, wx_raise, wx_tryH, hd_0, hd_n, hd_s, wx_tr, noEx, unname, isxS, fldS, lookF, wx_brk, wx_cont, st_tl, st_tt, st_0, st_1, evc_0, evc_1, lcStep, fStep, argOf, onVar, isVar, Cell.on, gets, Ag.get, Cell.val, P.pk, P.sem, P.rcv, M.rcv, M.pk, semAt, tyn, isiS, isiOne, tyNames, tru, isN, callK, pks, nodupB, agCells, agCell, giv, backs, back, locks, unlocks, unl, noOwn, wiped, putsAt, R.only, unbrk, stv, finOf, Cell.keep, pin_un, pin_fz, pin_ow, pin_pr, pin_pz, pin_lk, Cell.mt, Cell.put, Cell.lock, Cell.unlock, intS, cmpS, cmpI, ixS, lenS, fIsEntry, En.l, eq_int, eq_str, okS, inS, inD, flatd, eqd, at_0, st_st, e0, LIM]
  | right => simp [runFn, wx_for, w_lc, w_meth, w_glob, w_dsp, w_gdix, w_gdin, wt_gdin, w_ch, wt_ch, wx_par, wx_aug, wx_retN, wx_raise, wx_tryH, hd_0, hd_n, hd_s, wx_tr, noEx, unname, isxS, fldS, lookF, wx_brk, wx_cont, st_tl, st_tt, st_0, st_1, evc_0, evc_1, lcStep, fStep, argOf, onVar, isVar, Cell.on, gets, Ag.get, Cell.val, P.pk, P.sem, P.rcv, M.rcv, M.pk, semAt, tyn, isiS, isiOne, tyNames, tru, isN, callK, pks, nodupB, agCells, agCell, giv, backs, back, locks, unlocks, unl, noOwn, wiped, putsAt, R.only, unbrk, stv, finOf, Cell.keep, pin_un, pin_fz, pin_ow, pin_pr, pin_pz, pin_lk, Cell.mt, Cell.put, Cell.lock, Cell.unlock, intS, cmpS, cmpI, ixS, lenS, fIsEntry, En.l, eq_int, eq_str, okS, inS, inD, flatd, eqd, at_0, st_st, e0, LIM]
  | back => simp [runFn, wx_for, w_lc, w_meth, w_glob, w_dsp, w_gdix, w_gdin, wt_gdin, w_ch, wt_ch, wx_par, wx_aug, wx_retN, wx_raise, wx_tryH, hd_0, hd_n, hd_s, wx_tr, noEx, unname, isxS, fldS, lookF, wx_brk, wx_cont, st_tl, st_tt, st_0, st_1, evc_0, evc_1, lcStep, fStep, argOf, onVar, isVar, Cell.on, gets, Ag.get, Cell.val, P.pk, P.sem, P.rcv, M.rcv, M.pk, semAt, tyn, isiS, isiOne, tyNames, tru, isN, callK, pks, nodupB, agCells, agCell, giv, backs, back, locks, unlocks, unl, noOwn, wiped, putsAt, R.only, unbrk, stv, finOf, Cell.keep, pin_un, pin_fz, pin_ow, pin_pr, pin_pz, pin_lk, Cell.mt, Cell.put, Cell.lock, Cell.unlock, intS, cmpS, cmpI, ixS, lenS, fIsEntry, En.l, eq_int, eq_str, okS, inS, inD, flatd, eqd, at_0, st_st, e0, LIM]
  | bump => simp [runFn, wx_for, w_lc, w_meth, w_glob, w_dsp, w_gdix, w_gdin, wt_gdin, w_ch, wt_ch, wx_par, wx_aug, wx_retN, wx_raise, wx_tryH, hd_0, hd_n, hd_s, wx_tr, noEx, unname, isxS, fldS, lookF, wx_brk, wx_cont, st_tl, st_tt, st_0, st_1, evc_0, evc_1, lcStep, fStep, argOf, onVar, isVar, Cell.on, gets, Ag.get, Cell.val, P.pk, P.sem, P.rcv, M.rcv, M.pk, semAt, tyn, isiS, isiOne, tyNames, tru, isN, callK, pks, nodupB, agCells, agCell, giv, backs, back, locks, unlocks, unl, noOwn, wiped, putsAt, R.only, unbrk, stv, finOf, Cell.keep, pin_un, pin_fz, pin_ow, pin_pr, pin_pz, pin_lk, Cell.mt, Cell.put, Cell.lock, Cell.unlock, intS, cmpS, cmpI, ixS, lenS, fIsEntry, En.l, eq_int, eq_str, okS, inS, inD, flatd, eqd, at_0, st_st, e0, LIM]
  | bare => simp [runFn, wx_for, w_lc, w_meth, w_glob, w_dsp, w_gdix, w_gdin, wt_gdin, w_ch, wt_ch, wx_par, wx_aug, wx_retN, wx_raise, wx_tryH, hd_0, hd_n, hd_s, wx_tr, noEx, unname, isxS, fldS, lookF, wx_brk, wx_cont, st_tl, st_tt, st_0, st_1, evc_0, evc_1, lcStep, fStep, argOf, onVar, isVar, Cell.on, gets, Ag.get, Cell.val, P.pk, P.sem, P.rcv, M.rcv, M.pk, semAt, tyn, isiS, isiOne, tyNames, tru, isN, callK, pks, nodupB, agCells, agCell, giv, backs, back, locks, unlocks, unl, noOwn, wiped, putsAt, R.only, unbrk, stv, finOf, Cell.keep, pin_un, pin_fz, pin_ow, pin_pr, pin_pz, pin_lk, Cell.mt, Cell.put, Cell.lock, Cell.unlock, intS, cmpS, cmpI, ixS, lenS, fIsEntry, En.l, eq_int, eq_str, okS, inS, inD, flatd, eqd, at_0, st_st, e0, LIM]
  | swap => simp [runFn, wx_for, w_lc, w_meth, w_glob, w_dsp, w_gdix, w_gdin, wt_gdin, w_ch, wt_ch, wx_par, wx_aug, wx_retN, wx_raise, wx_tryH, hd_0, hd_n, hd_s, wx_tr, noEx, unname, isxS, fldS, lookF, wx_brk, wx_cont, st_tl, st_tt, st_0, st_1, evc_0, evc_1, lcStep, fStep, argOf, onVar, isVar, Cell.on, gets, Ag.get, Cell.val, P.pk, P.sem, P.rcv, M.rcv, M.pk, semAt, tyn, isiS, isiOne, tyNames, tru, isN, callK, pks, nodupB, agCells, agCell, giv, backs, back, locks, unlocks, unl, noOwn, wiped, putsAt, R.only, unbrk, stv, finOf, Cell.keep, pin_un, pin_fz, pin_ow, pin_pr, pin_pz, pin_lk, Cell.mt, Cell.put, Cell.lock, Cell.unlock, intS, cmpS, cmpI, ixS, lenS, fIsEntry, En.l, eq_int, eq_str, okS, inS, inD, flatd, eqd, at_0, st_st, e0, LIM]
  | face c =>
    have hl := h.letters
    have hi := in_one (c := c) (t := NESW) false (by decide)
    have he : c ∈ NESW := he
    have hn : NESW.length ≤ 1000000 := by decide
    simp [runFn, wx_for, w_lc, w_meth, w_glob, w_dsp, w_gdix, w_gdin, wt_gdin, w_ch, wt_ch, wx_par, wx_aug, wx_retN, wx_raise, wx_tryH, hd_0, hd_n, hd_s, wx_tr, noEx, unname, isxS, fldS, lookF, wx_brk, wx_cont, st_tl, st_tt, st_0, st_1, evc_0, evc_1, lcStep, fStep, argOf, onVar, isVar, Cell.on, gets, Ag.get, Cell.val, P.pk, P.sem, P.rcv, M.rcv, M.pk, semAt, tyn, isiS, isiOne, tyNames, tru, isN, callK, pks, nodupB, agCells, agCell, giv, backs, back, locks, unlocks, unl, noOwn, wiped, putsAt, R.only, unbrk, stv, finOf, Cell.keep, pin_un, pin_fz, pin_ow, pin_pr, pin_pz, pin_lk, Cell.mt, Cell.put, Cell.lock, Cell.unlock, intS, cmpS, cmpI, ixS, lenS, fIsEntry, En.l, eq_int, eq_str, okS, inS, inD, flatd, eqd, at_0, st_st, e0, LIM, hl, subs_one, hn, he]
  | go n =>
    have hm := h.many n he.1 he.2
    simp [runFn, wx_for, w_lc, w_meth, w_glob, w_dsp, w_gdix, w_gdin, wt_gdin, w_ch, wt_ch, wx_par, wx_aug, wx_retN, wx_raise, wx_tryH, hd_0, hd_n, hd_s, wx_tr, noEx, unname, isxS, fldS, lookF, wx_brk, wx_cont, st_tl, st_tt, st_0, st_1, evc_0, evc_1, lcStep, fStep, argOf, onVar, isVar, Cell.on, gets, Ag.get, Cell.val, P.pk, P.sem, P.rcv, M.rcv, M.pk, semAt, tyn, isiS, isiOne, tyNames, tru, isN, callK, pks, nodupB, agCells, agCell, giv, backs, back, locks, unlocks, unl, noOwn, wiped, putsAt, R.only, unbrk, stv, finOf, Cell.keep, pin_un, pin_fz, pin_ow, pin_pr, pin_pz, pin_lk, Cell.mt, Cell.put, Cell.lock, Cell.unlock, intS, cmpS, cmpI, ixS, lenS, fIsEntry, En.l, eq_int, eq_str, okS, inS, inD, flatd, eqd, at_0, st_st, e0, LIM, hm]
  | sign z =>
    have hs := h.sign z he
    simp [runFn, wx_for, w_lc, w_meth, w_glob, w_dsp, w_gdix, w_gdin, wt_gdin, w_ch, wt_ch, wx_par, wx_aug, wx_retN, wx_raise, wx_tryH, hd_0, hd_n, hd_s, wx_tr, noEx, unname, isxS, fldS, lookF, wx_brk, wx_cont, st_tl, st_tt, st_0, st_1, evc_0, evc_1, lcStep, fStep, argOf, onVar, isVar, Cell.on, gets, Ag.get, Cell.val, P.pk, P.sem, P.rcv, M.rcv, M.pk, semAt, tyn, isiS, isiOne, tyNames, tru, isN, callK, pks, nodupB, agCells, agCell, giv, backs, back, locks, unlocks, unl, noOwn, wiped, putsAt, R.only, unbrk, stv, finOf, Cell.keep, pin_un, pin_fz, pin_ow, pin_pr, pin_pz, pin_lk, Cell.mt, Cell.put, Cell.lock, Cell.unlock, intS, cmpS, cmpI, ixS, lenS, fIsEntry, En.l, eq_int, eq_str, okS, inS, inD, flatd, eqd, at_0, st_st, e0, LIM, hs]
  | spy n z =>
    have hm := h.many n he.1.1 he.1.2
    have hs := h.sign z he.2
    simp [runFn, wx_for, w_lc, w_meth, w_glob, w_dsp, w_gdix, w_gdin, wt_gdin, w_ch, wt_ch, wx_par, wx_aug, wx_retN, wx_raise, wx_tryH, hd_0, hd_n, hd_s, wx_tr, noEx, unname, isxS, fldS, lookF, wx_brk, wx_cont, st_tl, st_tt, st_0, st_1, evc_0, evc_1, lcStep, fStep, argOf, onVar, isVar, Cell.on, gets, Ag.get, Cell.val, P.pk, P.sem, P.rcv, M.rcv, M.pk, semAt, tyn, isiS, isiOne, tyNames, tru, isN, callK, pks, nodupB, agCells, agCell, giv, backs, back, locks, unlocks, unl, noOwn, wiped, putsAt, R.only, unbrk, stv, finOf, Cell.keep, pin_un, pin_fz, pin_ow, pin_pr, pin_pz, pin_lk, Cell.mt, Cell.put, Cell.lock, Cell.unlock, intS, cmpS, cmpI, ixS, lenS, fIsEntry, En.l, eq_int, eq_str, okS, inS, inD, flatd, eqd, at_0, at_1', st_st, e0, LIM, hm, hs]
/-! ### an entry's text -/
def joined (ws : List (List Nat)) : List Nat := TL.joinL [32] ws
theorem joined_1 (w : List Nat) : joined [w] = w := rfl
theorem joined_2 (w x : List Nat) : joined [w, x] = w ++ 32 :: x := by unfold joined; simp [TL.joinL]
theorem joined_3 (w x y : List Nat) : joined [w, x, y] = w ++ 32 :: (x ++ 32 :: y) := by unfold joined; simp [TL.joinL]
theorem join_sp {ws : List (List Nat)} (h : (ws.map List.length).sum + ws.length ≤ LIM) : joinS (.str [32]) (.lst (ws.map D.str)) = some (.str (joined ws), false) := by
  show joinG _ _ = _
  unfold joinG
  rw [strs_map, Option.bind_some, if_pos]
  · rfl
  · simpa using h
theorem split_sp {ws : List (List Nat)} (hn : ws ≠ []) (h : ∀ w ∈ ws, 32 ∉ w) (hl : (joined ws).length < LIM) : splitS (.str (joined ws)) (.str [32]) = some (.lst (ws.map D.str), true) := by
  have hz : [32] ≠ [] ∧ [32].all (fun c => decide (c < 256)) = true ∧ (joined ws).length < LIM := ⟨by decide, by decide, hl⟩
  show (if [32] ≠ [] ∧ [32].all (fun c => decide (c < 256)) = true ∧ (joined ws).length < LIM then some (D.lst ((TL.spl [32] 0 [] (joined ws)).map .str), true) else none) = _
  rw [if_pos hz]
  have : TL.spl [32] 0 [] (joined ws) = ws := TL.spl_join hn h
  rw [this]
/-- the entry's words -/
def En.w : En → List (List Nat)
  | .left => [[108, 101, 102, 116]]
  | .right => [[114, 105, 103, 104, 116]]
  | .back => [[98, 97, 99, 107]]
  | .bump => [[98, 117, 109, 112]]
  | .bare => [[98, 97, 114, 101]]
  | .swap => [[115, 119, 97, 112]]
  | .face c => [[102, 97, 99, 101], [c]]
  | .go n => [[103, 111], [48 + n]]
  | .sign s => [[115, 105, 103, 110], s]
  | .spy n s => [[115, 112, 121], [48 + n], s]
def En.t (e : En) : List Nat := joined e.w
theorem str_fig {n : Nat} (h : n ≤ 9) : strS (.int (n : Int)) = some (.str [48 + n], false) := by
  have : n = 0 ∨ n = 1 ∨ n = 2 ∨ n = 3 ∨ n = 4 ∨ n = 5 ∨ n = 6 ∨ n = 7 ∨ n = 8 ∨ n = 9 := by omega
  rcases this with rfl | rfl | rfl | rfl | rfl | rfl | rfl | rfl | rfl | rfl <;> kernel_rfl
theorem int_fig {n : Nat} (h : n ≤ 9) : intO (.str [48 + n]) = some (.int (n : Int), false) := by
  have : n = 0 ∨ n = 1 ∨ n = 2 ∨ n = 3 ∨ n = 4 ∨ n = 5 ∨ n = 6 ∨ n = 7 ∨ n = 8 ∨ n = 9 := by omega
  rcases this with rfl | rfl | rfl | rfl | rfl | rfl | rfl | rfl | rfl | rfl <;> kernel_rfl
theorem str_str (s : List Nat) : strS (.str s) = some (.str s, false) := rfl
/-- each part's text -/
theorem en_strs (e : En) (he : e.ok) : e.w.length = e.l.length ∧ ∀ p ∈ e.l.zip e.w, strS p.1 = some (.str p.2, false) := by
  cases e <;> refine ⟨rfl, fun p hp => ?_⟩ <;> simp only [En.l, En.w, List.zip_cons_cons, List.zip_nil_right, List.mem_cons, List.not_mem_nil, or_false] at hp
  · subst hp; rfl
  · subst hp; rfl
  · subst hp; rfl
  · subst hp; rfl
  · subst hp; rfl
  · subst hp; rfl
  · rcases hp with rfl | rfl <;> rfl
  · rcases hp with rfl | rfl
    · rfl
    · exact str_fig he.2
  · rcases hp with rfl | rfl <;> rfl
  · rcases hp with rfl | rfl | rfl
    · rfl
    · exact str_fig he.1.2
    · rfl
def FIGS : List Nat := [48, 49, 50, 51, 52, 53, 54, 55, 56, 57]
def fPart (F : Nat) : Fn := ⟨1, 1, [.iff (.and (.prim .eq [(.prim .len [(.var 0)]), (.int 1)]) (.prim .isin [(.var 0), (.glob F)]))
      [.ret (.prim .intP [(.var 0)])]
      [],
    .ret (.mv 0)]⟩
def fWords : Fn := ⟨1, 2, [.ret (.meth .join (.str [32]) [(.lc [1] (.nm 1) .seq [(.var 0)] [] (.prim .strP [(.var 1)]))])]⟩
theorem part_fig {cs : CS} {F n : Nat} (h : cs F [] = some (.ok (.str FIGS) false, [])) (hn : n ≤ 9) : runFn cs (fPart F) [.fz (.str [48 + n])] = some (.ok (.int (n : Int)) false, [.un]) := by
  have hi := in_one (c := 48 + n) (t := FIGS) false (by decide)
  have hm : 48 + n ∈ FIGS := by
    have : n = 0 ∨ n = 1 ∨ n = 2 ∨ n = 3 ∨ n = 4 ∨ n = 5 ∨ n = 6 ∨ n = 7 ∨ n = 8 ∨ n = 9 := by omega
    rcases this with rfl | rfl | rfl | rfl | rfl | rfl | rfl | rfl | rfl | rfl <;> decide
  have hx := int_fig hn
  simp [runFn, wx_for, w_lc, w_meth, w_glob, w_dsp, w_gdix, w_gdin, wt_gdin, w_ch, wt_ch, wx_par, wx_aug, wx_retN, wx_raise, wx_tryH, hd_0, hd_n, hd_s, wx_tr, noEx, unname, isxS, fldS, lookF, wx_brk, wx_cont, st_tl, st_tt, st_0, st_1, evc_0, evc_1, lcStep, fStep, argOf, onVar, isVar, Cell.on, gets, Ag.get, Cell.val, P.pk, P.sem, P.rcv, M.rcv, M.pk, semAt, tyn, isiS, isiOne, tyNames, tru, isN, callK, pks, nodupB, agCells, agCell, giv, backs, back, locks, unlocks, unl, noOwn, wiped, putsAt, R.only, unbrk, stv, finOf, Cell.keep, pin_un, pin_fz, pin_ow, pin_pr, pin_pz, pin_lk, Cell.mt, Cell.put, Cell.lock, Cell.unlock, intS, cmpS, cmpI, ixS, lenS, fPart, eq_int, h, hi, hm, hx, LIM]
theorem part_one {cs : CS} {F c : Nat} (h : cs F [] = some (.ok (.str FIGS) false, [])) (hc : c ∉ FIGS) : runFn cs (fPart F) [.fz (.str [c])] = some (.ok (.str [c]) false, [.un]) := by
  have hi := in_one (c := c) (t := FIGS) false (by decide)
  simp [runFn, wx_for, w_lc, w_meth, w_glob, w_dsp, w_gdix, w_gdin, wt_gdin, w_ch, wt_ch, wx_par, wx_aug, wx_retN, wx_raise, wx_tryH, hd_0, hd_n, hd_s, wx_tr, noEx, unname, isxS, fldS, lookF, wx_brk, wx_cont, st_tl, st_tt, st_0, st_1, evc_0, evc_1, lcStep, fStep, argOf, onVar, isVar, Cell.on, gets, Ag.get, Cell.val, P.pk, P.sem, P.rcv, M.rcv, M.pk, semAt, tyn, isiS, isiOne, tyNames, tru, isN, callK, pks, nodupB, agCells, agCell, giv, backs, back, locks, unlocks, unl, noOwn, wiped, putsAt, R.only, unbrk, stv, finOf, Cell.keep, pin_un, pin_fz, pin_ow, pin_pr, pin_pz, pin_lk, Cell.mt, Cell.put, Cell.lock, Cell.unlock, intS, cmpS, cmpI, ixS, lenS, fPart, eq_int, h, hi, hc, LIM]
theorem part_long {cs : CS} {F : Nat} {s : List Nat} (hs : s.length ≠ 1) (hl : s.length ≤ LIM) : runFn cs (fPart F) [.fz (.str s)] = some (.ok (.str s) false, [.un]) := by
  have he := eq_int (s.length : Int) 1 false
  have hf : ((s.length : Int) == 1) = false := by
    rw [beq_eq_false_iff_ne]
    omega
  rw [hf] at he
  simp [runFn, wx_for, w_lc, w_meth, w_glob, w_dsp, w_gdix, w_gdin, wt_gdin, w_ch, wt_ch, wx_par, wx_aug, wx_retN, wx_raise, wx_tryH, hd_0, hd_n, hd_s, wx_tr, noEx, unname, isxS, fldS, lookF, wx_brk, wx_cont, st_tl, st_tt, st_0, st_1, evc_0, evc_1, lcStep, fStep, argOf, onVar, isVar, Cell.on, gets, Ag.get, Cell.val, P.pk, P.sem, P.rcv, M.rcv, M.pk, semAt, tyn, isiS, isiOne, tyNames, tru, isN, callK, pks, nodupB, agCells, agCell, giv, backs, back, locks, unlocks, unl, noOwn, wiped, putsAt, R.only, unbrk, stv, finOf, Cell.keep, pin_un, pin_fz, pin_ow, pin_pr, pin_pz, pin_lk, Cell.mt, Cell.put, Cell.lock, Cell.unlock, intS, cmpS, cmpI, ixS, lenS, fPart, he, hl]
theorem fig_small {c : Nat} (h : 65 ≤ c) : c ∉ FIGS := by
  unfold FIGS
  simp only [List.mem_cons, List.not_mem_nil, or_false]
  omega
theorem part_sign {cs : CS} {F : Nat} {s : List Nat} (h : cs F [] = some (.ok (.str FIGS) false, [])) (hs : isSignB s = true) : runFn cs (fPart F) [.fz (.str s)] = some (.ok (.str s) false, [.un]) := by
  obtain ⟨h1, h2, h3⟩ := sign_all hs
  by_cases hl : s.length = 1
  · obtain ⟨c, rfl⟩ := List.length_eq_one_iff.mp hl
    exact part_one h (fig_small (h3 c List.mem_cons_self).1)
  · exact part_long hl (by unfold LIM; omega)
/-- each word's part -/
theorem en_parts {cs : CS} {F : Nat} (h : cs F [] = some (.ok (.str FIGS) false, [])) (e : En) (he : e.ok) : ∀ p ∈ e.w.zip e.l, runFn cs (fPart F) [.fz (.str p.1)] = some (.ok p.2 false, [.un]) := by
  cases e <;> intro p hp <;> simp only [En.l, En.w, List.zip_cons_cons, List.zip_nil_right, List.mem_cons, List.not_mem_nil, or_false] at hp
  · subst hp; exact part_long (by decide) (by decide)
  · subst hp; exact part_long (by decide) (by decide)
  · subst hp; exact part_long (by decide) (by decide)
  · subst hp; exact part_long (by decide) (by decide)
  · subst hp; exact part_long (by decide) (by decide)
  · subst hp; exact part_long (by decide) (by decide)
  · rcases hp with rfl | rfl
    · exact part_long (by decide) (by decide)
    · exact part_one h (by rcases nesw_cases he with rfl | rfl | rfl | rfl <;> decide)
  · rcases hp with rfl | rfl
    · exact part_long (by decide) (by decide)
    · exact part_fig h he.2
  · rcases hp with rfl | rfl
    · exact part_long (by decide) (by decide)
    · exact part_sign h he
  · rcases hp with rfl | rfl | rfl
    · exact part_long (by decide) (by decide)
    · exact part_fig h he.1.2
    · exact part_sign h he.2
/-- the words are short, without blanks -/
theorem en_w (e : En) (he : e.ok) : e.w ≠ [] ∧ e.w.length ≤ 3 ∧ ∀ w ∈ e.w, w.length ≤ 8 ∧ ∀ c ∈ w, 48 ≤ c ∧ c ≤ 122 := by
  cases e <;> refine ⟨by simp [En.w], by simp [En.w], fun w hw => ?_⟩ <;> simp only [En.w, List.mem_cons, List.not_mem_nil, or_false] at hw
  · subst hw; decide
  · subst hw; decide
  · subst hw; decide
  · subst hw; decide
  · subst hw; decide
  · subst hw; decide
  · rcases hw with rfl | rfl
    · decide
    · rcases nesw_cases he with rfl | rfl | rfl | rfl <;> decide
  · rcases hw with rfl | rfl
    · decide
    · obtain ⟨h1, h2⟩ := he
      simp
      omega
  · rcases hw with rfl | rfl
    · decide
    · obtain ⟨h1, h2, h3⟩ := sign_all he
      exact ⟨h2, fun c hc => by have := h3 c hc; omega⟩
  · rcases hw with rfl | rfl | rfl
    · decide
    · obtain ⟨h1, h2⟩ := he.1
      simp
      omega
    · obtain ⟨h1, h2, h3⟩ := sign_all he.2
      exact ⟨h2, fun c hc => by have := h3 c hc; omega⟩
/-- words_of -/
def strG (d : D) : D := match strS d with | some (x, _) => x | none => .non
theorem strG_en (e : En) (he : e.ok) : e.l.map strG = e.w.map D.str := by
  obtain ⟨h1, h2⟩ := en_strs e he
  apply List.ext_getElem
  · simp [h1]
  · intro i h3 h4
    rw [List.length_map] at h3 h4
    have hm : (e.l[i], e.w[i]) ∈ e.l.zip e.w := by
      rw [List.mem_iff_getElem]
      exact ⟨i, by rw [List.length_zip]; omega, by rw [List.getElem_zip]⟩
    have := h2 _ hm
    rw [List.getElem_map, List.getElem_map]
    unfold strG
    simp only at this
    rw [this]
theorem lc_words {cs : CS} (e : En) (he : e.ok) (c0 : Cell) : ∃ c1, lcGo (lcStep cs [1] (.nm 1) [] (.prim .strP [(.var 1)])) e.l [] [c0, .un] = .ok (e.w.map D.str) [c0, c1] := by
  obtain ⟨ρ', h1, c1, h2⟩ := lc_map (step := lcStep cs [1] (.nm 1) [] (.prim .strP [(.var 1)])) (g := strG) (xs := e.l) (ρ := [c0, .un])
    (fun ρ => ∃ c1, ρ = [c0, c1]) ⟨_, rfl⟩ (by have := (en_w e he).2.1; rw [← (en_strs e he).1]; unfold LIM; omega) (fun x hx ρ ⟨c1, q⟩ => by
      subst q
      obtain ⟨g1, g2⟩ := en_strs e he
      obtain ⟨i, hi, rfl⟩ := List.mem_iff_getElem.mp hx
      have hm : (e.l[i], e.w[i]) ∈ e.l.zip e.w := by
        rw [List.mem_iff_getElem]
        exact ⟨i, by rw [List.length_zip]; omega, by rw [List.getElem_zip]⟩
      have hs := g2 _ hm
      simp only at hs
      refine ⟨[c0, .fz e.l[i]], ?_, _, rfl⟩
      unfold strG
      simp [runFn, wx_for, w_lc, w_meth, w_glob, w_dsp, w_gdix, w_gdin, wt_gdin, w_ch, wt_ch, wx_par, wx_aug, wx_retN, wx_raise, wx_tryH, hd_0, hd_n, hd_s, wx_tr, noEx, unname, isxS, fldS, lookF, wx_brk, wx_cont, st_tl, st_tt, st_0, st_1, evc_0, evc_1, lcStep, fStep, argOf, onVar, isVar, Cell.on, gets, Ag.get, Cell.val, P.pk, P.sem, P.rcv, M.rcv, M.pk, semAt, tyn, isiS, isiOne, tyNames, tru, isN, callK, pks, nodupB, agCells, agCell, giv, backs, back, locks, unlocks, unl, noOwn, wiped, putsAt, R.only, unbrk, stv, finOf, Cell.keep, pin_un, pin_fz, pin_ow, pin_pr, pin_pz, pin_lk, Cell.mt, Cell.put, Cell.lock, Cell.unlock, intS, cmpS, cmpI, ixS, lenS, hs])
  subst h2
  refine ⟨c1, ?_⟩
  rw [h1, strG_en e he]
theorem w_sum (e : En) (he : e.ok) : (e.w.map List.length).sum + e.w.length ≤ 40 := by
  obtain ⟨h1, h2, h3⟩ := en_w e he
  have : ∀ l : List (List Nat), (∀ w ∈ l, w.length ≤ 8) → (l.map List.length).sum ≤ 8 * l.length := by
    intro l
    induction l with
    | nil => intro _; simp
    | cons w l ih =>
      intro h
      have := ih fun x hx => h x (List.mem_cons_of_mem _ hx)
      have := h w List.mem_cons_self
      rw [List.map_cons, List.sum_cons, List.length_cons]
      omega
  have := this e.w fun w hw => (h3 w hw).1
  omega
theorem joined_len : ∀ ws : List (List Nat), (joined ws).length ≤ (ws.map List.length).sum + ws.length
  | [] => by simp [joined, TL.joinL]
  | [w] => by simp [joined, TL.joinL]
  | w :: x :: r => by
    have := joined_len (x :: r)
    unfold joined at *
    rw [TL.joinL]
    simp only [List.length_append, List.map_cons, List.sum_cons, List.length_cons, List.length_nil] at *
    omega
theorem joined_mem : ∀ (ws : List (List Nat)) (c : Nat), c ∈ joined ws → c = 32 ∨ ∃ w ∈ ws, c ∈ w
  | [], c, h => by simp [joined, TL.joinL] at h
  | [w], c, h => .inr ⟨w, by simp, h⟩
  | w :: x :: r, c, h => by
    unfold joined at h
    rw [TL.joinL] at h
    rcases List.mem_append.mp h with h | h
    · exact .inr ⟨w, by simp, h⟩
    · rcases List.mem_append.mp h with h | h
      · rw [List.mem_singleton] at h; exact .inl h
      · rcases joined_mem (x :: r) c h with h | ⟨y, hy, h⟩
        · exact .inl h
        · exact .inr ⟨y, List.mem_cons_of_mem _ hy, h⟩
theorem t_len (e : En) (he : e.ok) : e.t.length ≤ 40 := Nat.le_trans (joined_len _) (w_sum e he)
theorem t_ok (e : En) (he : e.ok) : okS e.t = true := by
  unfold okS
  rw [List.all_eq_true]
  intro c hc
  apply decide_eq_true
  rcases joined_mem _ _ hc with rfl | ⟨w, hw, hc⟩
  · decide
  · have := ((en_w e he).2.2 w hw).2 c hc; omega
theorem t_join (e : En) (he : e.ok) : joinS (.str [32]) (.lst (e.w.map D.str)) = some (.str e.t, false) := join_sp (by have := w_sum e he; unfold LIM; omega)
theorem t_split (e : En) (he : e.ok) : splitS (.str e.t) (.str [32]) = some (.lst (e.w.map D.str), true) :=
  split_sp (en_w e he).1 (fun w hw h => by have := ((en_w e he).2.2 w hw).2 32 h; omega) (by have := t_len e he; unfold En.t at this; unfold LIM; omega)
theorem words_t {cs : CS} (e : En) (he : e.ok) : runFn cs fWords [.fz (.tup e.l)] = some (.ok (.str e.t) false, [.un]) := by
  obtain ⟨c1, h⟩ := lc_words (cs := cs) e he (.fz (.tup e.l))
  have hj := t_join e he
  have hq : IK.seq.sem [.tup e.l] = some e.l := rfl
  simp [runFn, wx_for, w_lc, w_meth, w_glob, w_dsp, w_gdix, w_gdin, wt_gdin, w_ch, wt_ch, wx_par, wx_aug, wx_retN, wx_raise, wx_tryH, hd_0, hd_n, hd_s, wx_tr, noEx, unname, isxS, fldS, lookF, wx_brk, wx_cont, st_tl, st_tt, st_0, st_1, evc_0, evc_1, lcStep, fStep, argOf, onVar, isVar, Cell.on, gets, Ag.get, Cell.val, P.pk, P.sem, P.rcv, M.rcv, M.pk, semAt, tyn, isiS, isiOne, tyNames, tru, isN, callK, pks, nodupB, agCells, agCell, giv, backs, back, locks, unlocks, unl, noOwn, wiped, putsAt, R.only, unbrk, stv, finOf, Cell.keep, pin_un, pin_fz, pin_ow, pin_pr, pin_pz, pin_lk, Cell.mt, Cell.put, Cell.lock, Cell.unlock, intS, cmpS, cmpI, ixS, lenS, fWords, hq, h, hj]
theorem words_p {cs : CS} (e : En) (he : e.ok) : runFn cs fWords [.pr (.lst e.l)] = some (.ok (.str e.t) false, [.pr (.lst e.l)]) := by
  obtain ⟨c1, h⟩ := lc_words (cs := cs) e he (Cell.pr (.lst e.l)).lock
  have hj := t_join e he
  have hq : IK.seq.sem [.lst e.l] = some e.l := rfl
  unfold Cell.lock at h
  simp [runFn, wx_for, w_lc, w_meth, w_glob, w_dsp, w_gdix, w_gdin, wt_gdin, w_ch, wt_ch, wx_par, wx_aug, wx_retN, wx_raise, wx_tryH, hd_0, hd_n, hd_s, wx_tr, noEx, unname, isxS, fldS, lookF, wx_brk, wx_cont, st_tl, st_tt, st_0, st_1, evc_0, evc_1, lcStep, fStep, argOf, onVar, isVar, Cell.on, gets, Ag.get, Cell.val, P.pk, P.sem, P.rcv, M.rcv, M.pk, semAt, tyn, isiS, isiOne, tyNames, tru, isN, callK, pks, nodupB, agCells, agCell, giv, backs, back, locks, unlocks, unl, noOwn, wiped, putsAt, R.only, unbrk, stv, finOf, Cell.keep, pin_un, pin_fz, pin_ow, pin_pr, pin_pz, pin_lk, Cell.mt, Cell.put, Cell.lock, Cell.unlock, intS, cmpS, cmpI, ixS, lenS, fWords, hq, h, hj]
/-- the parts of the words -/
theorem lc_parts {cs cs' : CS} {p : Nat} {F : Nat} (k : ∀ s, cs p [.fz (.str s)] = runFn cs' (fPart F) [.fz (.str s)]) (h : cs' F [] = some (.ok (.str FIGS) false, [])) (e : En) (he : e.ok) (c0 c1 : Cell) : ∃ c2, lcGo (lcStep cs [2] (.nm 2) [] (.call p [(.var 2)])) (e.w.map D.str) [] [c0, c1, .un] = .ok e.l [c0, c1, c2] := by
  have hp := en_parts h e he
  obtain ⟨acc, ρ', h1, h2⟩ := lc_inv (step := lcStep cs [2] (.nm 2) [] (.call p [(.var 2)]))
    (fun r acc ρ => ∃ (i : Nat) (c2 : Cell), i ≤ e.w.length ∧ r = (e.w.drop i).map D.str ∧ acc = e.l.take i ∧ ρ = [c0, c1, c2]) (e.w.map D.str) [] [c0, c1, .un] ⟨0, .un, by omega, by simp, by simp, rfl⟩
    (fun x r acc ρ ⟨i, c2, q1, q2, q3, q4⟩ => by
      subst q4 q3
      have g1 := (en_strs e he).1
      have g2 := (en_w e he).2.1
      have hi : i < e.w.length := by
        rcases Nat.lt_or_ge i e.w.length with h | h
        · exact h
        · rw [List.drop_eq_nil_of_le h] at q2; cases q2
      rw [List.drop_eq_getElem_cons hi, List.map_cons] at q2
      injection q2 with q2 q5
      subst q2 q5
      have hm : (e.w[i], e.l[i]) ∈ e.w.zip e.l := by
        rw [List.mem_iff_getElem]
        exact ⟨i, by rw [List.length_zip]; omega, by rw [List.getElem_zip]⟩
      have hs := hp _ hm
      simp only at hs
      have hs := (k _).trans hs
      refine ⟨by rw [List.length_take]; unfold LIM; omega, some e.l[i], [c0, c1, .fz (.str e.w[i])], ?_, i + 1, _, hi, rfl, ?_, rfl⟩
      · simp [runFn, wx_for, w_lc, w_meth, w_glob, w_dsp, w_gdix, w_gdin, wt_gdin, w_ch, wt_ch, wx_par, wx_aug, wx_retN, wx_raise, wx_tryH, hd_0, hd_n, hd_s, wx_tr, noEx, unname, isxS, fldS, lookF, wx_brk, wx_cont, st_tl, st_tt, st_0, st_1, evc_0, evc_1, lcStep, fStep, argOf, onVar, isVar, Cell.on, gets, Ag.get, Cell.val, P.pk, P.sem, P.rcv, M.rcv, M.pk, semAt, tyn, isiS, isiOne, tyNames, tru, isN, callK, pks, nodupB, agCells, agCell, giv, backs, back, locks, unlocks, unl, noOwn, wiped, putsAt, R.only, unbrk, stv, finOf, Cell.keep, pin_un, pin_fz, pin_ow, pin_pr, pin_pz, pin_lk, Cell.mt, Cell.put, Cell.lock, Cell.unlock, intS, cmpS, cmpI, ixS, lenS, hs]
      · exact (List.take_succ_eq_append_getElem (by omega)).symm)
  obtain ⟨i, c2, q1, q2, q3, q4⟩ := h2
  subst q4 q3
  have g1 := (en_strs e he).1
  have : i = e.w.length := by
    have := congrArg List.length q2
    simp at this
    omega
  subst this
  rw [g1, List.take_length] at h1
  exact ⟨c2, h1⟩
def fEntryOf (p n : Nat) : Fn := ⟨1, 3, [.asg (.nm 1) (.prim .tuple [(.lc [2] (.nm 2) .seq [(.meth .split (.var 0) [(.str [32])])] [] (.call p [(.var 2)]))]),
    .ret (.ite (.call n [(.var 1)]) (.var 1) (.non))]⟩
theorem entryof_ok {cs cs' : CS} {p n F : Nat} (k : ∀ s, cs p [.fz (.str s)] = runFn cs' (fPart F) [.fz (.str s)]) (h : cs' F [] = some (.ok (.str FIGS) false, [])) (hn : ∀ e : En, e.ok → cs n [.fz (.tup e.l)] = some (.ok (.bl true) false, [.un])) (e : En) (he : e.ok) :
    runFn cs (fEntryOf p n) [.fz (.str e.t)] = some (.ok e.d false, [.un]) := by
  obtain ⟨c2, h1⟩ := lc_parts k h e he (.fz (.str e.t)) .un
  have hs := t_split e he
  have hl := t_len e he
  have hl : e.t.length ≤ LIM := by unfold LIM; omega
  have hq : IK.seq.sem [.lst (e.w.map D.str)] = some (e.w.map D.str) := rfl
  have hn := hn e he
  obtain ⟨L, hL⟩ : ∃ L, L = e.w.map D.str := ⟨_, rfl⟩
  rw [← hL] at hs h1 hq
  simp [runFn, wx_for, w_lc, w_meth, w_glob, w_dsp, w_gdix, w_gdin, wt_gdin, w_ch, wt_ch, wx_par, wx_aug, wx_retN, wx_raise, wx_tryH, hd_0, hd_n, hd_s, wx_tr, noEx, unname, isxS, fldS, lookF, wx_brk, wx_cont, st_tl, st_tt, st_0, st_1, evc_0, evc_1, lcStep, fStep, argOf, onVar, isVar, Cell.on, gets, Ag.get, Cell.val, P.pk, P.sem, P.rcv, M.rcv, M.pk, semAt, tyn, isiS, isiOne, tyNames, tru, isN, callK, pks, nodupB, agCells, agCell, giv, backs, back, locks, unlocks, unl, noOwn, wiped, putsAt, R.only, unbrk, stv, finOf, Cell.keep, pin_un, pin_fz, pin_ow, pin_pr, pin_pz, pin_lk, Cell.mt, Cell.put, Cell.lock, Cell.unlock, intS, cmpS, cmpI, ixS, lenS, fEntryOf, hs, hl, hq, h1, tupleS, hn]
end BV

/-! BvK: logs drawn, lots drawn, walks. -/
namespace BV
open PySem L2
/-! ### an entry's word -/
def En.word : En → List Nat
  | .left => [108, 101, 102, 116]
  | .right => [114, 105, 103, 104, 116]
  | .back => [98, 97, 99, 107]
  | .bump => [98, 117, 109, 112]
  | .bare => [98, 97, 114, 101]
  | .swap => [115, 119, 97, 112]
  | .face _ => [102, 97, 99, 101]
  | .go _ => [103, 111]
  | .sign _ => [115, 105, 103, 110]
  | .spy _ _ => [115, 112, 121]
def En.rest : En → List D
  | .face c => [.str [c]]
  | .go n => [.int (n : Int)]
  | .sign s => [.str s]
  | .spy n s => [.int (n : Int), .str s]
  | _ => []
def En.isSwap : En → Bool
  | .swap => true
  | _ => false
def En.isFace : En → Bool
  | .face _ => true
  | _ => false
theorem en_l (e : En) : e.l = .str e.word :: e.rest := by cases e <;> rfl
theorem en_eq (e : En) (w : List Nat) (h : okS w = true) : eqS false (.str e.word) (.str w) = some (.bl (e.word == w), false) := eq_str (by cases e <;> rfl) h
theorem en_swap (e : En) : (e.word == [115, 119, 97, 112]) = e.isSwap := by cases e <;> rfl
theorem en_face (e : En) : (e.word == [102, 97, 99, 101]) = e.isFace := by cases e <;> rfl
theorem s_tup (xs : List D) : IK.seq.sem [.tup xs] = some xs := rfl
theorem s_lst (xs : List D) : IK.seq.sem [.lst xs] = some xs := rfl
theorem exs_app (cs : CS) : ∀ (a b : List S) (ρ : Rho), exs cs (a ++ b) ρ = (exs cs a ρ).then fun ρ' => exs cs b ρ'
  | [], b, ρ => by
    have e : exs cs [] ρ = .nx ρ := by first | (rw [exs]; done) | (rw [exs]; rfl)
    rw [e]; rfl
  | s :: a, b, ρ => by
    have e : ∀ l, exs cs (s :: l) ρ = (ex cs s ρ).then fun ρ1 => exs cs l ρ1 := fun l => by first | (rw [exs]; done) | (rw [exs]; rfl)
    rw [List.cons_append, e, e]
    cases ex cs s ρ <;> first | rfl | exact exs_app cs a b _
theorem exs_nx {cs : CS} {a b : List S} {ρ ρ' : Rho} (h : exs cs a ρ = .nx ρ') : exs cs (a ++ b) ρ = exs cs b ρ' := by rw [exs_app, h]; rfl
/-! ### logs drawn -/
def nsw : List En → Nat
  | [] => 0
  | e :: r => (if e.isSwap then 1 else 0) + nsw r
def Seen : Bool → List En → Prop
  | _, [] => True
  | b, e :: r => e.ok ∧ (b = false → e.blind = true) ∧ Seen (b || e.isFace) r
theorem nsw_snoc (e : En) : ∀ es : List En, nsw (es ++ [e]) = nsw es + (if e.isSwap then 1 else 0)
  | [] => by simp [nsw]
  | x :: es => by rw [List.cons_append, nsw, nsw, nsw_snoc e es]; omega
theorem seen_snoc (e : En) : ∀ (b : Bool) (es : List En), Seen b es → e.ok → ((b || es.any En.isFace) = false → e.blind = true) → Seen b (es ++ [e])
  | b, [], _, h1, h2 => ⟨h1, fun z => h2 (by simp [z]), trivial⟩
  | b, x :: es, ⟨g1, g2, g3⟩, h1, h2 => ⟨g1, g2, seen_snoc e (b || x.isFace) es g3 h1 fun z => h2 (by rw [List.any_cons, ← Bool.or_assoc]; exact z)⟩
def bAnyLog (a : Nat) : List S := [.asg (.nm 7) (.call a [(.var 0), (.var 4)]),
       .iff (.and (.prim .eq [(.prim .ix [(.var 7), (.int 0)]), (.str [115, 119, 97, 112])]) (.prim .eq [(.var 5), (.int 0)]))
         [.asg (.nm 7) (.prim .tup [(.str [98, 97, 114, 101])])]
         [],
       .asg (.nm 5) (.prim .sub [(.var 5), (.prim .intP [(.prim .eq [(.prim .ix [(.var 7), (.int 0)]), (.str [115, 119, 97, 112])])])]),
       .asg (.nm 4) (.or (.var 4) (.prim .eq [(.prim .ix [(.var 7), (.int 0)]), (.str [102, 97, 99, 101])])),
       .ex (.mut .append 3 [(.var 7)])]
def fAnyLog (a : Nat) : Fn := ⟨3, 8, [.asg (.nm 3) (.prim .lst []),
    .asg (.nm 4) (.bl false),
    .asg (.nm 5) (.var 2),
    .for (.nm 6) .range [(.var 1)] (bAnyLog a),
    .ret (.prim .tuple [(.var 3)])]⟩
theorem anylog_step {cs : CS} {a : Nat} (ha : Entries1 cs a) {p : D} (hp : isPool p) (c1 c2 c6 c7 : Cell) (h6 : c6.pin = false) (h7 : c7.pin = false) (x : D) (log : List D) (hlog : log.length < LIM) (b : Bool) (l : Nat) :
    ∃ (e : En) (p' : D), e.ok ∧ (b = false → e.blind = true) ∧ isPool p' ∧ (e.isSwap = true → 0 < l) ∧
      fStep cs (.nm 6) (bAnyLog a) x [.pr p, c1, c2, .ow (.lst log), .fz (.bl b), .fz (.int (l : Int)), c6, c7] = .nx [.pr p', c1, c2, .ow (.lst (log ++ [e.d])), .fz (.bl (b || e.isFace)), .fz (.int ((l - (if e.isSwap then 1 else 0) : Nat) : Int)), .fz x, .fz e.d] := by
  obtain ⟨e, p', e1, he, hb, i'⟩ : ∃ (e : En) (p' : D), cs a [.pr p, .fz (.bl b)] = some (.ok e.d false, [.pr p', .un]) ∧ e.ok ∧ (b = false → e.blind = true) ∧ isPool p' := by
    obtain ⟨e, p', h1, h2, h3, h4⟩ := ha p b hp
    exact ⟨e, p', h1, h2, h4, h3⟩
  have hx : ∀ e : En, atd e.l 0 = some (.str e.word) := fun e => by rw [en_l]; exact at_0 _ _
  have w1 : ∀ e : En, eqS false (.str e.word) (.str [115, 119, 97, 112]) = some (.bl e.isSwap, false) := fun e => by rw [en_eq e _ (by decide), en_swap]
  have w2 : ∀ e : En, eqS false (.str e.word) (.str [102, 97, 99, 101]) = some (.bl e.isFace, false) := fun e => by rw [en_eq e _ (by decide), en_face]
  have hlog1 : log.length < 1000000 := hlog
  by_cases hs : e.isSwap = true
  · have hf : e.isFace = false := by cases e <;> first | rfl | cases hs
    have w1e := w1 e
    rw [hs] at w1e
    by_cases hl : l = 0
    · subst hl
      refine ⟨.bare, p', trivial, fun _ => rfl, i', (fun z => by cases z), ?_⟩
      have q0 : eqS false (.int 0) (.int 0) = some (.bl true, false) := by kernel_rfl
      have w1b := w1 .bare
      have w2b := w2 .bare
      have hd : En.bare.d = .tup [.str [98, 97, 114, 101]] := rfl
      have i0 : intO (.bl false) = some (.int 0, false) := rfl
      have hbw : En.bare.word = [98, 97, 114, 101] := rfl
      have hsw : En.bare.isSwap = false := rfl
      have hsf : En.bare.isFace = false := rfl
      rw [hbw, hsw] at w1b
      rw [hbw, hsf] at w2b
      cases b <;> simp [runFn, wx_for, w_lc, w_meth, w_glob, w_dsp, w_gdix, w_gdin, wt_gdin, w_ch, wt_ch, wx_par, wx_aug, wx_retN, wx_raise, wx_tryH, hd_0, hd_n, hd_s, wx_tr, noEx, unname, isxS, fldS, lookF, wx_brk, wx_cont, st_tl, st_tt, st_0, st_1, evc_0, evc_1, lcStep, fStep, argOf, onVar, isVar, Cell.on, gets, Ag.get, Cell.val, P.pk, P.sem, P.rcv, M.rcv, M.pk, semAt, tyn, isiS, isiOne, tyNames, tru, isN, callK, pks, nodupB, agCells, agCell, giv, backs, back, locks, unlocks, unl, noOwn, wiped, putsAt, R.only, unbrk, stv, finOf, Cell.keep, pin_un, pin_fz, pin_ow, pin_pr, pin_pz, pin_lk, Cell.mt, Cell.put, Cell.lock, Cell.unlock, intS, cmpS, cmpI, ixS, lenS, bAnyLog, h6, h7, e1, hx, w1e, q0, LIM, at_0, w1b, w2b, i0, hlog1, hd, hsf, hsw, M.sem]
    · refine ⟨e, p', he, hb, i', (fun _ => by omega), ?_⟩
      have q0 := eq_int (l : Int) 0 false
      have hf0 : ((l : Int) == 0) = false := by rw [beq_eq_false_iff_ne]; omega
      rw [hf0] at q0
      have w2e := w2 e
      rw [hf] at w2e
      have i0 : intO (.bl true) = some (.int 1, false) := rfl
      have hsub : (l : Int) - 1 = ((l - 1 : Nat) : Int) := by omega
      have hsub2 : ((l - 1 : Nat) : Int) = (l : Int) - 1 := by omega
      cases b <;> simp [runFn, wx_for, w_lc, w_meth, w_glob, w_dsp, w_gdix, w_gdin, wt_gdin, w_ch, wt_ch, wx_par, wx_aug, wx_retN, wx_raise, wx_tryH, hd_0, hd_n, hd_s, wx_tr, noEx, unname, isxS, fldS, lookF, wx_brk, wx_cont, st_tl, st_tt, st_0, st_1, evc_0, evc_1, lcStep, fStep, argOf, onVar, isVar, Cell.on, gets, Ag.get, Cell.val, P.pk, P.sem, P.rcv, M.rcv, M.pk, semAt, tyn, isiS, isiOne, tyNames, tru, isN, callK, pks, nodupB, agCells, agCell, giv, backs, back, locks, unlocks, unl, noOwn, wiped, putsAt, R.only, unbrk, stv, finOf, Cell.keep, pin_un, pin_fz, pin_ow, pin_pr, pin_pz, pin_lk, Cell.mt, Cell.put, Cell.lock, Cell.unlock, intS, cmpS, cmpI, ixS, lenS, bAnyLog, h6, h7, e1, hx, w1e, q0, LIM, w2e, i0, hlog1, hf, hs, M.sem, hsub2]
  · have hs : e.isSwap = false := by simpa using hs
    have w1e := w1 e
    rw [hs] at w1e
    have w2e := w2 e
    have i0 : intO (.bl false) = some (.int 0, false) := rfl
    refine ⟨e, p', he, hb, i', (fun z => by rw [hs] at z; cases z), ?_⟩
    cases b <;> simp [runFn, wx_for, w_lc, w_meth, w_glob, w_dsp, w_gdix, w_gdin, wt_gdin, w_ch, wt_ch, wx_par, wx_aug, wx_retN, wx_raise, wx_tryH, hd_0, hd_n, hd_s, wx_tr, noEx, unname, isxS, fldS, lookF, wx_brk, wx_cont, st_tl, st_tt, st_0, st_1, evc_0, evc_1, lcStep, fStep, argOf, onVar, isVar, Cell.on, gets, Ag.get, Cell.val, P.pk, P.sem, P.rcv, M.rcv, M.pk, semAt, tyn, isiS, isiOne, tyNames, tru, isN, callK, pks, nodupB, agCells, agCell, giv, backs, back, locks, unlocks, unl, noOwn, wiped, putsAt, R.only, unbrk, stv, finOf, Cell.keep, pin_un, pin_fz, pin_ow, pin_pr, pin_pz, pin_lk, Cell.mt, Cell.put, Cell.lock, Cell.unlock, intS, cmpS, cmpI, ixS, lenS, bAnyLog, h6, h7, e1, hx, w1e, LIM, w2e, i0, hlog1, hs, M.sem]
theorem anylog_ok {cs : CS} {a : Nat} (ha : Entries1 cs a) {p : D} (hp : isPool p) (m : Int) (h0 : -(2 ^ 62) ≤ m) (hm : m < 1000) (l : Nat) : ∃ (es : List En) (p' : D), runFn cs (fAnyLog a) [.pr p, .fz (.int m), .fz (.int (l : Int))] = some (.ok (.tup (es.map En.d)) false, [.pr p', .un, .un]) ∧ Seen false es ∧ nsw es ≤ l ∧ es.length = m.toNat ∧ isPool p' := by
  obtain ⟨ρ', g1, p', es, c6, c7, g2, g3, g4, g5, g6, g7, g8⟩ := for_inv (step := fStep cs (.nm 6) (bAnyLog a))
    (fun r ρ => ∃ p' es c6 c7, isPool p' ∧ c6.pin = false ∧ c7.pin = false ∧ Seen false es ∧ nsw es ≤ l ∧ es.length + r.length = m.toNat ∧ ρ = [.pr p', .fz (.int m), .fz (.int (l : Int)), .ow (.lst (es.map En.d)), .fz (.bl (es.any En.isFace)), .fz (.int ((l - nsw es : Nat) : Int)), c6, c7]) (rng m.toNat) [.pr p, .fz (.int m), .fz (.int (l : Int)), .ow (.lst []), .fz (.bl false), .fz (.int (l : Int)), .un, .un]
    ⟨p, [], .un, .un, hp, rfl, rfl, trivial, Nat.zero_le _, by simp [rng_len], by simp [nsw]⟩
    (fun x r ρ ⟨p, es, c6, c7, q0, q6, q7, q1, q2, q3, e⟩ => by
      subst e
      rw [List.length_cons] at q3
      obtain ⟨e, p', a1, a2, a3, a4, a5⟩ := anylog_step ha q0 (.fz (.int m)) (.fz (.int (l : Int))) c6 c7 q6 q7 x (es.map En.d) (by rw [List.length_map]; unfold LIM; omega) (es.any En.isFace) (l - nsw es)
      refine ⟨_, a5, p', es ++ [e], .fz x, .fz e.d, a3, rfl, rfl, seen_snoc e false es q1 a1 (by simpa using a2), ?_, by rw [List.length_append]; simp; omega, ?_⟩
      · rw [nsw_snoc]
        split
        · have := a4 (by assumption); omega
        · omega
      · rw [List.map_append, List.any_append, nsw_snoc]
        have : l - nsw es - (if e.isSwap = true then 1 else 0) = l - (nsw es + (if e.isSwap = true then 1 else 0)) := by omega
        rw [this]
        simp)
  subst g8
  refine ⟨es, p', ?_, g5, g6, by simpa using g7, g2⟩
  have hr : IK.range.sem [.int m] = some (rng m.toNat) := s_rng (by omega) h0
  obtain ⟨Q, hQ⟩ : ∃ Q, Q = es.map En.d := ⟨_, rfl⟩
  obtain ⟨X, hX⟩ : ∃ X, X = rng m.toNat := ⟨_, rfl⟩
  rw [← hQ] at g1 ⊢
  rw [← hX] at g1 hr
  simp [runFn, wx_for, w_lc, w_meth, w_glob, w_dsp, w_gdix, w_gdin, wt_gdin, w_ch, wt_ch, wx_par, wx_aug, wx_retN, wx_raise, wx_tryH, hd_0, hd_n, hd_s, wx_tr, noEx, unname, isxS, fldS, lookF, wx_brk, wx_cont, st_tl, st_tt, st_0, st_1, evc_0, evc_1, lcStep, fStep, argOf, onVar, isVar, Cell.on, gets, Ag.get, Cell.val, P.pk, P.sem, P.rcv, M.rcv, M.pk, semAt, tyn, isiS, isiOne, tyNames, tru, isN, callK, pks, nodupB, agCells, agCell, giv, backs, back, locks, unlocks, unl, noOwn, wiped, putsAt, R.only, unbrk, stv, finOf, Cell.keep, pin_un, pin_fz, pin_ow, pin_pr, pin_pz, pin_lk, Cell.mt, Cell.put, Cell.lock, Cell.unlock, intS, cmpS, cmpI, ixS, lenS, fAnyLog, hr, g1, tupleS]
/-! ### lots drawn -/
abbrev lotD (l : List Nat) : List D := l.map fun (n : Nat) => D.int (n : Int)
def fLots (t : Nat) : Fn := ⟨2, 3, [.ret (.prim .tuple [(.lc [2] (.nm 2) .range [(.var 1)] [] (.call t [(.var 0), (.int 8)]))])]⟩
theorem lots_ok {cs : CS} {t : Nat} (ht : Takes1 cs t) {p : D} (hp : isPool p) (m : Int) (h0 : -(2 ^ 62) ≤ m) (hm : m < 1000) : ∃ (l : List Nat) (p' : D), runFn cs (fLots t) [.pr p, .fz (.int m)] = some (.ok (.tup (lotD l)) false, [.pr p', .un]) ∧ (∀ n ∈ l, n < 8) ∧ l.length = m.toNat ∧ isPool p' := by
  obtain ⟨acc, ρ', g1, p', l, c2, g2, g3, g4, g5, g6⟩ := lc_inv (step := lcStep cs [2] (.nm 2) [] (.call t [(.var 0), (.int 8)]))
    (fun r acc ρ => ∃ p l c2, isPool p ∧ acc = lotD l ∧ (∀ n ∈ l, n < 8) ∧ l.length + r.length = m.toNat ∧ ρ = [.pr p, .fz (.int m), c2]) (rng m.toNat) [] [.pr p, .fz (.int m), .un] ⟨p, [], .un, hp, rfl, by simp, by simp [rng_len], rfl⟩
    (fun y r acc ρ ⟨p, l, c2, q1, q2, q3, q4, e⟩ => by
      subst e q2
      obtain ⟨z, p', e, t1, t2, i'⟩ := ht p 8 q1 (by decide) (by decide)
      obtain ⟨n, rfl⟩ := Int.eq_ofNat_of_zero_le t1
      rw [List.length_cons] at q4
      refine ⟨by rw [List.length_map]; unfold LIM; omega, some (.int (n : Int)), [.pr p', .fz (.int m), .fz y], ?_, p', l ++ [n], _, i', by simp, ?_, by rw [List.length_append]; simp; omega, rfl⟩
      · simp [runFn, wx_for, w_lc, w_meth, w_glob, w_dsp, w_gdix, w_gdin, wt_gdin, w_ch, wt_ch, wx_par, wx_aug, wx_retN, wx_raise, wx_tryH, hd_0, hd_n, hd_s, wx_tr, noEx, unname, isxS, fldS, lookF, wx_brk, wx_cont, st_tl, st_tt, st_0, st_1, evc_0, evc_1, lcStep, fStep, argOf, onVar, isVar, Cell.on, gets, Ag.get, Cell.val, P.pk, P.sem, P.rcv, M.rcv, M.pk, semAt, tyn, isiS, isiOne, tyNames, tru, isN, callK, pks, nodupB, agCells, agCell, giv, backs, back, locks, unlocks, unl, noOwn, wiped, putsAt, R.only, unbrk, stv, finOf, Cell.keep, pin_un, pin_fz, pin_ow, pin_pr, pin_pz, pin_lk, Cell.mt, Cell.put, Cell.lock, Cell.unlock, intS, cmpS, cmpI, ixS, lenS, e]
      · intro k hk
        rcases List.mem_append.mp hk with hk | hk
        · exact q3 k hk
        · rw [List.mem_singleton] at hk; omega)
  subst g6 g3
  have hr : IK.range.sem [.int m] = some (rng m.toNat) := s_rng (by omega) h0
  refine ⟨l, p', ?_, g4, by simpa using g5, g2⟩
  obtain ⟨Q, hQ⟩ : ∃ Q, Q = lotD l := ⟨_, rfl⟩
  obtain ⟨X, hX⟩ : ∃ X, X = rng m.toNat := ⟨_, rfl⟩
  rw [← hQ] at g1 ⊢
  rw [← hX] at g1 hr
  simp [runFn, wx_for, w_lc, w_meth, w_glob, w_dsp, w_gdix, w_gdin, wt_gdin, w_ch, wt_ch, wx_par, wx_aug, wx_retN, wx_raise, wx_tryH, hd_0, hd_n, hd_s, wx_tr, noEx, unname, isxS, fldS, lookF, wx_brk, wx_cont, st_tl, st_tt, st_0, st_1, evc_0, evc_1, lcStep, fStep, argOf, onVar, isVar, Cell.on, gets, Ag.get, Cell.val, P.pk, P.sem, P.rcv, M.rcv, M.pk, semAt, tyn, isiS, isiOne, tyNames, tru, isN, callK, pks, nodupB, agCells, agCell, giv, backs, back, locks, unlocks, unl, noOwn, wiped, putsAt, R.only, unbrk, stv, finOf, Cell.keep, pin_un, pin_fz, pin_ow, pin_pr, pin_pz, pin_lk, Cell.mt, Cell.put, Cell.lock, Cell.unlock, intS, cmpS, cmpI, ixS, lenS, fLots, hr, g1, tupleS]
/-! ### rows: an entry as a tuple or as a list -/
def Row (e : En) (d : D) : Prop := d = .tup e.l ∨ d = .lst e.l
inductive Rows : List En → List D → Prop
  | nil : Rows [] []
  | cons {e : En} {es : List En} {d : D} {ds : List D} (h : Row e d) (r : Rows es ds) : Rows (e :: es) (d :: ds)
theorem Rows.length {es : List En} {ds : List D} (h : Rows es ds) : ds.length = es.length := by
  induction h with
  | nil => rfl
  | cons _ _ ih => simp [ih]
theorem Rows.all : ∀ es : List En, Rows es (es.map En.d)
  | [] => .nil
  | e :: es => .cons (.inl rfl) (Rows.all es)
theorem Rows.snoc {es : List En} {ds : List D} {e : En} {d : D} (h : Rows es ds) (r : Row e d) : Rows (es ++ [e]) (ds ++ [d]) := by
  induction h with
  | nil => exact .cons r .nil
  | cons a _ ih => exact .cons a ih
/-- a log handed: a tuple or a list of rows -/
def Log (es : List En) (d : D) : Prop := ∃ ds, Rows es ds ∧ (d = .tup ds ∨ d = .lst ds)
theorem Log.sem {es : List En} {d : D} (h : Log es d) : ∃ ds, Rows es ds ∧ IK.seq.sem [d] = some ds := by
  obtain ⟨ds, h, rfl | rfl⟩ := h
  · exact ⟨ds, h, rfl⟩
  · exact ⟨ds, h, rfl⟩
theorem Log.tup (es : List En) : Log es (.tup (es.map En.d)) := ⟨_, Rows.all es, .inl rfl⟩
theorem Row.at0 {e : En} {d : D} (h : Row e d) : ixS d (.int 0) = some (.str e.word, false) := by
  rcases h with rfl | rfl
  · show (atd e.l 0).map _ = _
    rw [en_l, at_0]; rfl
  · show (atd e.l 0).map _ = _
    rw [en_l, at_0]; rfl
/-! ### legs -/
def fLegs : Fn := ⟨1, 2, [.ret (.prim .add [(.int 1), (.prim .len [(.lc [1] (.nm 1) .seq [(.var 0)] [(.prim .eq [(.prim .ix [(.var 1), (.int 0)]), (.str [115, 119, 97, 112])])] (.var 1))])])]⟩
theorem legs_ok {cs : CS} {es : List En} {d : D} (h : Log es d) (hl : es.length < 1000) : runFn cs fLegs [.fz d] = some (.ok (.int (1 + (nsw es : Nat) : Int)) false, [.un]) := by
  obtain ⟨ds, hr, hq⟩ := h.sem
  obtain ⟨acc, ρ', g1, es', acc', c1, g2, g3, g4, g5⟩ := lc_inv (step := lcStep cs [1] (.nm 1) [(.prim .eq [(.prim .ix [(.var 1), (.int 0)]), (.str [115, 119, 97, 112])])] (.var 1))
    (fun r acc ρ => ∃ (es' : List En) (k : Nat) (c1 : Cell), Rows es' r ∧ acc.length + nsw es' = nsw es ∧ acc.length + es'.length ≤ es.length ∧ ρ = [.fz d, c1]) ds [] [.fz d, .un] ⟨es, 0, .un, hr, by simp, by simp, rfl⟩
    (fun x r acc ρ ⟨es', k, c1, q1, q2, q3, e⟩ => by
      subst e
      cases q1 with
      | cons hx hr =>
        rename_i e es'
        rw [List.length_cons] at q3
        rw [nsw] at q2
        refine ⟨by unfold LIM; omega, ?_⟩
        have hi := hx.at0
        have w1 : eqS false (.str e.word) (.str [115, 119, 97, 112]) = some (.bl e.isSwap, false) := by rw [en_eq e _ (by decide), en_swap]
        by_cases hs : e.isSwap = true
        · rw [hs] at w1 q2
          refine ⟨some x, [.fz d, .fz x], ?_, es', 0, _, hr, by rw [List.length_append]; simp at *; omega, by rw [List.length_append]; simp at *; omega, rfl⟩
          simp [runFn, wx_for, w_lc, w_meth, w_glob, w_dsp, w_gdix, w_gdin, wt_gdin, w_ch, wt_ch, wx_par, wx_aug, wx_retN, wx_raise, wx_tryH, hd_0, hd_n, hd_s, wx_tr, noEx, unname, isxS, fldS, lookF, wx_brk, wx_cont, st_tl, st_tt, st_0, st_1, evc_0, evc_1, lcStep, fStep, argOf, onVar, isVar, Cell.on, gets, Ag.get, Cell.val, P.pk, P.sem, P.rcv, M.rcv, M.pk, semAt, tyn, isiS, isiOne, tyNames, tru, isN, callK, pks, nodupB, agCells, agCell, giv, backs, back, locks, unlocks, unl, noOwn, wiped, putsAt, R.only, unbrk, stv, finOf, Cell.keep, pin_un, pin_fz, pin_ow, pin_pr, pin_pz, pin_lk, Cell.mt, Cell.put, Cell.lock, Cell.unlock, intS, cmpS, cmpI, lenS, hi, w1]
        · have hs : e.isSwap = false := by simpa using hs
          rw [hs] at w1 q2
          refine ⟨none, [.fz d, .fz x], ?_, es', 0, _, hr, by simp at *; omega, by simp at *; omega, rfl⟩
          simp [runFn, wx_for, w_lc, w_meth, w_glob, w_dsp, w_gdix, w_gdin, wt_gdin, w_ch, wt_ch, wx_par, wx_aug, wx_retN, wx_raise, wx_tryH, hd_0, hd_n, hd_s, wx_tr, noEx, unname, isxS, fldS, lookF, wx_brk, wx_cont, st_tl, st_tt, st_0, st_1, evc_0, evc_1, lcStep, fStep, argOf, onVar, isVar, Cell.on, gets, Ag.get, Cell.val, P.pk, P.sem, P.rcv, M.rcv, M.pk, semAt, tyn, isiS, isiOne, tyNames, tru, isN, callK, pks, nodupB, agCells, agCell, giv, backs, back, locks, unlocks, unl, noOwn, wiped, putsAt, R.only, unbrk, stv, finOf, Cell.keep, pin_un, pin_fz, pin_ow, pin_pr, pin_pz, pin_lk, Cell.mt, Cell.put, Cell.lock, Cell.unlock, intS, cmpS, cmpI, lenS, hi, w1])
  subst g5
  cases g2
  have : acc.length = nsw es := by simpa [nsw] using g3
  have hlen : lenS (.lst acc) = some (.int (nsw es : Int), false) := by show some (D.int (acc.length : Int), false) = _; rw [this]
  simp [runFn, wx_for, w_lc, w_meth, w_glob, w_dsp, w_gdix, w_gdin, wt_gdin, w_ch, wt_ch, wx_par, wx_aug, wx_retN, wx_raise, wx_tryH, hd_0, hd_n, hd_s, wx_tr, noEx, unname, isxS, fldS, lookF, wx_brk, wx_cont, st_tl, st_tt, st_0, st_1, evc_0, evc_1, lcStep, fStep, argOf, onVar, isVar, Cell.on, gets, Ag.get, Cell.val, P.pk, P.sem, P.rcv, M.rcv, M.pk, semAt, tyn, isiS, isiOne, tyNames, tru, isN, callK, pks, nodupB, agCells, agCell, giv, backs, back, locks, unlocks, unl, noOwn, wiped, putsAt, R.only, unbrk, stv, finOf, Cell.keep, pin_un, pin_fz, pin_ow, pin_pr, pin_pz, pin_lk, Cell.mt, Cell.put, Cell.lock, Cell.unlock, intS, cmpS, cmpI, ixS, lenS, fLegs, hq, g1, add_ii, this]
end BV

/-! BvJ: walks. -/
namespace BV
open PySem L2
def ni (c : Nat) : Int := if c = 110 then 0 else if c = 101 then 1 else if c = 115 then 2 else 3
def dX (c : Nat) : Int := if c = 101 then 1 else if c = 119 then -1 else 0
def dY (c : Nat) : Int := if c = 110 then 1 else if c = 115 then -1 else 0
def atN (i : Int) : Nat := if i = 0 then 110 else if i = 1 then 101 else if i = 2 then 115 else 119
def trL (l c : Nat) : Nat := atN (if l < 4 then (ni c + (l : Int)) % 4 else ((l : Int) - ni c) % 4)
def tuL (k : Int) (c : Nat) : Nat := atN ((ni c + k) % 4)
theorem atN_mem (i : Int) : atN i ∈ NESW := by
  unfold atN
  split
  · decide
  · split
    · decide
    · split <;> decide
theorem atd_nesw {i : Int} (h0 : 0 ≤ i) (h1 : i < 4) : atd [110, 101, 115, 119] i = some (atN i) := by
  have : i = 0 ∨ i = 1 ∨ i = 2 ∨ i = 3 := by omega
  rcases this with rfl | rfl | rfl | rfl <;> rfl
theorem idx_nesw {c : Nat} (h : c ∈ NESW) : indexS (.str [110, 101, 115, 119]) (.str [c]) = some (.int (ni c), false) := by
  rcases nesw_cases h with rfl | rfl | rfl | rfl <;> kernel_rfl
theorem at_turn {k : Int} {c : Nat} : atd [110, 101, 115, 119] ((ni c + k) % 4) = some (tuL k c) := atd_nesw (Int.emod_nonneg _ (by decide)) (Int.emod_lt_of_pos _ (by decide))
structure St where
  leg : Nat
  x : Int
  y : Int
  look : List Nat
def St.d (s : St) : D := .tup [.tup [.int s.x, .int s.y], .str s.look]
def turnd (k : Int) : List Nat → List Nat
  | [c] => [tuL k c]
  | l => l
def nxt (lots : List Nat) (s : St) : En → St
  | .swap => { s with leg := s.leg + 1 }
  | .face c => { s with look := [trL (lots.getD s.leg 0) c] }
  | .left => { s with look := turnd 3 s.look }
  | .right => { s with look := turnd 1 s.look }
  | .back => { s with look := turnd 2 s.look }
  | .go n => match s.look with
    | [c] => { s with x := s.x + (n : Int) * dX c, y := s.y + (n : Int) * dY c }
    | _ => s
  | _ => s
def rowD (s s' : St) : D := .tup [.int (s'.leg : Int), s.d, s'.d]
def wk (lots : List Nat) : St → List En → List D
  | _, [] => []
  | s, e :: r => rowD s (nxt lots s e) :: wk lots (nxt lots s e) r
def okLook (l : List Nat) : Prop := l = [] ∨ ∃ c, c ∈ NESW ∧ l = [c]
def Fit (lots : List Nat) : St → List En → Prop
  | s, [] => okLook s.look
  | s, e :: r => e.ok ∧ okLook s.look ∧ (e.blind = false → ∃ c, c ∈ NESW ∧ s.look = [c]) ∧ s.leg < lots.length ∧ Fit lots (nxt lots s e) r
theorem nxt_look {lots : List Nat} {s : St} {e : En} (h : okLook s.look) (he : e.ok) : okLook (nxt lots s e).look ∧ ((s.look ≠ [] ∨ e.isFace = true) → (nxt lots s e).look ≠ []) := by
  rcases h with h | ⟨c, hc, h⟩
  · cases e <;> simp [nxt, h, turnd, okLook, En.isFace] <;> exact atN_mem _
  · cases e <;> simp [nxt, h, turnd, okLook, En.isFace, hc] <;> exact atN_mem _
theorem nxt_leg {lots : List Nat} {s : St} {e : En} : (nxt lots s e).leg = s.leg + (if e.isSwap then 1 else 0) := by
  cases e <;> simp [nxt, En.isSwap]
  split <;> rfl
theorem fit_of {lots : List Nat} : ∀ (es : List En) (b : Bool) (s : St), Seen b es → okLook s.look → (b = true → s.look ≠ []) → s.leg + nsw es < lots.length → Fit lots s es
  | [], b, s, _, h, _, _ => h
  | e :: es, b, s, ⟨g1, g2, g3⟩, h, hb, hl => by
    obtain ⟨k1, k2⟩ := nxt_look (lots := lots) h g1
    rw [nsw] at hl
    refine ⟨g1, h, fun z => ?_, by omega, fit_of es (b || e.isFace) (nxt lots s e) g3 k1 (fun z => ?_) ?_⟩
    · have : b = true := by
        cases b with
        | true => rfl
        | false => rw [g2 rfl] at z; cases z
      rcases h with h | h
      · exact absurd h (hb this)
      · exact h
    · rw [Bool.or_eq_true] at z
      exact k2 (z.imp hb id)
    · rw [nxt_leg]
      split at hl <;> simp_all <;> omega
theorem wk_len (lots : List Nat) : ∀ (es : List En) (s : St), (wk lots s es).length = es.length
  | [], _ => rfl
  | e :: es, s => by rw [wk, List.length_cons, List.length_cons, wk_len lots es]
/-- the lots, as a tuple or as a list -/
def LotsD (l : List Nat) (d : D) : Prop := d = .tup (lotD l) ∨ d = .lst (lotD l)
theorem lot_at {l : List Nat} {d : D} (h : LotsD l d) {i : Nat} (hi : i < l.length) : ixS d (.int (i : Int)) = some (.int ((l.getD i 0 : Nat) : Int), false) := by
  have : atd (lotD l) (i : Int) = some (.int ((l.getD i 0 : Nat) : Int)) := by
    unfold atd ixd
    rw [if_pos (by omega), if_pos (by rw [List.length_map]; omega)]
    simp [List.getD_eq_getElem?_getD, List.getElem?_eq_getElem hi]
  rcases h with rfl | rfl
  · show (atd (lotD l) _).map _ = _
    rw [this]; rfl
  · show (atd (lotD l) _).map _ = _
    rw [this]; rfl
/-- what the walk calls -/
structure WkOk (cs : CS) (t m : Nat) : Prop where
  tr : ∀ l c : Nat, l < 8 → c ∈ NESW → cs t [.fz (.int (l : Int)), .fz (.str [c])] = some (.ok (.str [trL l c]) false, [.un, .un])
  mv : ∀ (c n : Nat) (x y : Int), c ∈ NESW → n ≤ 9 → cs m [.fz (.tup [.int x, .int y]), .fz (.str [c]), .fz (.int (n : Int))] = some (.ok (.tup [.int (x + (n : Int) * dX c), .int (y + (n : Int) * dY c)]) false, [.un, .un, .un])
def bWalk (t m L T : Nat) : List S := [.asg (.nm 8) (.prim .tup [(.var 4), (.var 5)]),
       .iff (.prim .eq [(.var 6), (.str [115, 119, 97, 112])])
         [.aug 3 .add (.int 1)]
         [.iff (.prim .eq [(.var 6), (.str [102, 97, 99, 101])])
            [.asg (.nm 5) (.call t [(.prim .ix [(.var 1), (.var 3)]), (.prim .ix [(.var 7), (.int 0)])])]
            [.iff (.gdin false T (.var 6))
               [.asg (.nm 5) (.prim .ix [(.glob L), (.prim .mod [(.prim .add [(.meth .index (.glob L) [(.var 5)]), (.gdix T (.var 6))]), (.int 4)])])]
               [.iff (.prim .eq [(.var 6), (.str [103, 111])])
                  [.asg (.nm 4) (.call m [(.var 4), (.var 5), (.prim .ix [(.var 7), (.int 0)])])]
                  []]]],
       .ex (.mut .append 2 [(.prim .tup [(.var 3), (.var 8), (.prim .tup [(.var 4), (.var 5)])])])]
def TK : List D := [.str [108, 101, 102, 116], .str [114, 105, 103, 104, 116], .str [98, 97, 99, 107]]
def TV : List D := [.int 3, .int 1, .int 2]
structure GlOk (cs : CS) (L T : Nat) : Prop where
  l : cs L [] = some (.ok (.str [110, 101, 115, 119]) false, [])
  t : cs T [] = some (.ok (.dct 0 TK TV) false, [])
theorem getD_lt {lots : List Nat} (h : ∀ n ∈ lots, n < 8) (i : Nat) : lots.getD i 0 < 8 := by
  rw [List.getD_eq_getElem?_getD]
  cases hi : lots[i]? with
  | none => decide
  | some v => exact h v (List.mem_of_getElem? hi)
theorem row_st {e : En} {d : D} (h : Row e d) (he : e.l.length ≤ 100) (ρ : Rho) : stt (.sp [.nm 6] 7) d false ρ = (stts [.nm 6] [.str e.word] ρ).bind fun ρ' => stv ρ' 7 (.lst e.rest) true := by
  have hl : e.l.length = e.rest.length + 1 := by rw [en_l]; rfl
  rcases h with rfl | rfl
  · rw [st_st, if_pos ⟨by rw [hl]; simp, by omega⟩, en_l]; rfl
  · rw [st_sl, if_pos ⟨by rw [hl]; simp, by omega⟩, en_l]; rfl
theorem ix_l0 (x : D) (r : List D) : ixS (.lst (x :: r)) (.int 0) = some (x, false) := by
  show (atd (x :: r) 0).map _ = _
  rw [at_0]; rfl
theorem walk_step {cs : CS} {t m L T : Nat} (w : WkOk cs t m) (g : GlOk cs L T) {lots : List Nat} (h8 : ∀ n ∈ lots, n < 8) {dl : D} (hdl : LotsD lots dl) (e : En) (d : D) (hd : Row e d) (s : St) (he : e.ok) (hk : okLook s.look) (hb : e.blind = false → ∃ c, c ∈ NESW ∧ s.look = [c]) (hleg : s.leg < lots.length)
    (c0 c6 c7 c8 : Cell) (h6 : c6.pin = false) (h7 : c7.pin = false) (h8' : c8.pin = false) (found : List D) (hf : found.length < LIM) :
    fStep cs (.sp [.nm 6] 7) (bWalk t m L T) d [c0, .fz dl, .ow (.lst found), .fz (.int (s.leg : Int)), .fz (.tup [.int s.x, .int s.y]), .fz (.str s.look), c6, c7, c8] =
      .nx [c0, .fz dl, .ow (.lst (found ++ [rowD s (nxt lots s e)])), .fz (.int ((nxt lots s e).leg : Int)), .fz (.tup [.int (nxt lots s e).x, .int (nxt lots s e).y]), .fz (.str (nxt lots s e).look), .fz (.str e.word), .ow (.lst e.rest), .fz s.d] := by
  have hst : stt (.sp [.nm 6] 7) d false [c0, .fz dl, .ow (.lst found), .fz (.int (s.leg : Int)), .fz (.tup [.int s.x, .int s.y]), .fz (.str s.look), c6, c7, c8] = some [c0, .fz dl, .ow (.lst found), .fz (.int (s.leg : Int)), .fz (.tup [.int s.x, .int s.y]), .fz (.str s.look), .fz (.str e.word), .ow (.lst e.rest), c8] := by
    rw [row_st hd (by cases e <;> simp [En.l])]
    simp [runFn, wx_for, w_lc, w_meth, w_glob, w_dsp, w_gdix, w_gdin, wt_gdin, w_ch, wt_ch, wx_par, wx_aug, wx_retN, wx_raise, wx_tryH, hd_0, hd_n, hd_s, wx_tr, noEx, unname, isxS, fldS, lookF, wx_brk, wx_cont, st_tl, st_tt, st_0, st_1, evc_0, evc_1, lcStep, fStep, argOf, onVar, isVar, Cell.on, gets, Ag.get, Cell.val, P.pk, P.sem, P.rcv, M.rcv, M.pk, semAt, tyn, isiS, isiOne, tyNames, tru, isN, callK, pks, nodupB, agCells, agCell, giv, backs, back, locks, unlocks, unl, noOwn, wiped, putsAt, R.only, unbrk, stv, finOf, Cell.keep, pin_un, pin_fz, pin_ow, pin_pr, pin_pz, pin_lk, Cell.mt, Cell.put, Cell.lock, Cell.unlock, intS, cmpS, cmpI, ixS, lenS, h6, h7]
  have hf1 : found.length < 1000000 := hf
  have hl := lot_at hdl hleg
  have htr := fun c hc => w.tr (lots.getD s.leg 0) c (getD_lt h8 _) hc
  have hgl := g.l
  have hgt := g.t
  have go : ∀ (leg' : Nat) (x' y' : Int) (look' : List Nat), nxt lots s e = ⟨leg', x', y', look'⟩ →
      exs cs [.iff (.prim .eq [(.var 6), (.str [115, 119, 97, 112])])
         [.aug 3 .add (.int 1)]
         [.iff (.prim .eq [(.var 6), (.str [102, 97, 99, 101])])
            [.asg (.nm 5) (.call t [(.prim .ix [(.var 1), (.var 3)]), (.prim .ix [(.var 7), (.int 0)])])]
            [.iff (.gdin false T (.var 6))
               [.asg (.nm 5) (.prim .ix [(.glob L), (.prim .mod [(.prim .add [(.meth .index (.glob L) [(.var 5)]), (.gdix T (.var 6))]), (.int 4)])])]
               [.iff (.prim .eq [(.var 6), (.str [103, 111])])
                  [.asg (.nm 4) (.call m [(.var 4), (.var 5), (.prim .ix [(.var 7), (.int 0)])])]
                  []]]]] [c0, .fz dl, .ow (.lst found), .fz (.int (s.leg : Int)), .fz (.tup [.int s.x, .int s.y]), .fz (.str s.look), .fz (.str e.word), .ow (.lst e.rest), .fz s.d] =
      .nx [c0, .fz dl, .ow (.lst found), .fz (.int (leg' : Int)), .fz (.tup [.int x', .int y']), .fz (.str look'), .fz (.str e.word), .ow (.lst e.rest), .fz s.d] →
      fStep cs (.sp [.nm 6] 7) (bWalk t m L T) d [c0, .fz dl, .ow (.lst found), .fz (.int (s.leg : Int)), .fz (.tup [.int s.x, .int s.y]), .fz (.str s.look), c6, c7, c8] =
      .nx [c0, .fz dl, .ow (.lst (found ++ [rowD s (nxt lots s e)])), .fz (.int ((nxt lots s e).leg : Int)), .fz (.tup [.int (nxt lots s e).x, .int (nxt lots s e).y]), .fz (.str (nxt lots s e).look), .fz (.str e.word), .ow (.lst e.rest), .fz s.d] := by
    intro leg' x' y' look' hn hx
    rw [hn]
    have h1 : ∀ X, exs cs (bWalk t m L T) X = exs cs ([.asg (.nm 8) (.prim .tup [(.var 4), (.var 5)])] ++ ([.iff (.prim .eq [(.var 6), (.str [115, 119, 97, 112])])
         [.aug 3 .add (.int 1)]
         [.iff (.prim .eq [(.var 6), (.str [102, 97, 99, 101])])
            [.asg (.nm 5) (.call t [(.prim .ix [(.var 1), (.var 3)]), (.prim .ix [(.var 7), (.int 0)])])]
            [.iff (.gdin false T (.var 6))
               [.asg (.nm 5) (.prim .ix [(.glob L), (.prim .mod [(.prim .add [(.meth .index (.glob L) [(.var 5)]), (.gdix T (.var 6))]), (.int 4)])])]
               [.iff (.prim .eq [(.var 6), (.str [103, 111])])
                  [.asg (.nm 4) (.call m [(.var 4), (.var 5), (.prim .ix [(.var 7), (.int 0)])])]
                  []]]]] ++ [.ex (.mut .append 2 [(.prim .tup [(.var 3), (.var 8), (.prim .tup [(.var 4), (.var 5)])])])])) X := fun X => rfl
    unfold fStep
    rw [hst]
    show exs cs (bWalk t m L T) _ = _
    rw [h1, exs_nx (ρ' := [c0, .fz dl, .ow (.lst found), .fz (.int (s.leg : Int)), .fz (.tup [.int s.x, .int s.y]), .fz (.str s.look), .fz (.str e.word), .ow (.lst e.rest), .fz s.d]) (by simp [runFn, wx_for, w_lc, w_meth, w_glob, w_dsp, w_gdix, w_gdin, wt_gdin, w_ch, wt_ch, wx_par, wx_aug, wx_retN, wx_raise, wx_tryH, hd_0, hd_n, hd_s, wx_tr, noEx, unname, isxS, fldS, lookF, wx_brk, wx_cont, st_tl, st_tt, st_0, st_1, evc_0, evc_1, lcStep, fStep, argOf, onVar, isVar, Cell.on, gets, Ag.get, Cell.val, P.pk, P.sem, P.rcv, M.rcv, M.pk, semAt, tyn, isiS, isiOne, tyNames, tru, isN, callK, pks, nodupB, agCells, agCell, giv, backs, back, locks, unlocks, unl, noOwn, wiped, putsAt, R.only, unbrk, stv, finOf, Cell.keep, pin_un, pin_fz, pin_ow, pin_pr, pin_pz, pin_lk, Cell.mt, Cell.put, Cell.lock, Cell.unlock, intS, cmpS, cmpI, ixS, lenS, h8', LIM, St.d]), exs_nx hx]
    simp [runFn, wx_for, w_lc, w_meth, w_glob, w_dsp, w_gdix, w_gdin, wt_gdin, w_ch, wt_ch, wx_par, wx_aug, wx_retN, wx_raise, wx_tryH, hd_0, hd_n, hd_s, wx_tr, noEx, unname, isxS, fldS, lookF, wx_brk, wx_cont, st_tl, st_tt, st_0, st_1, evc_0, evc_1, lcStep, fStep, argOf, onVar, isVar, Cell.on, gets, Ag.get, Cell.val, P.pk, P.sem, P.rcv, M.rcv, M.pk, semAt, tyn, isiS, isiOne, tyNames, tru, isN, callK, pks, nodupB, agCells, agCell, giv, backs, back, locks, unlocks, unl, noOwn, wiped, putsAt, R.only, unbrk, stv, finOf, Cell.keep, pin_un, pin_fz, pin_ow, pin_pr, pin_pz, pin_lk, Cell.mt, Cell.put, Cell.lock, Cell.unlock, intS, cmpS, cmpI, ixS, lenS, hf1, LIM, M.sem, rowD, St.d]
  have hN : ∀ c, c ∈ NESW → indexS (.str [110, 101, 115, 119]) (.str [c]) = some (.int (ni c), false) := fun c hc => idx_nesw hc
  have hm4 : ∀ z : Int, modI z 4 = some (z % 4) := fun z => mod_c (by decide)
  have d1 : dinS false TK (.str [108, 101, 102, 116]) = some (.bl true, false) := by kernel_rfl
  have d2 : dinS false TK (.str [114, 105, 103, 104, 116]) = some (.bl true, false) := by kernel_rfl
  have d3 : dinS false TK (.str [98, 97, 99, 107]) = some (.bl true, false) := by kernel_rfl
  have d4 : dinS false TK (.str [98, 117, 109, 112]) = some (.bl false, false) := by kernel_rfl
  have d5 : dinS false TK (.str [98, 97, 114, 101]) = some (.bl false, false) := by kernel_rfl
  have d6 : dinS false TK (.str [115, 105, 103, 110]) = some (.bl false, false) := by kernel_rfl
  have d7 : dinS false TK (.str [115, 112, 121]) = some (.bl false, false) := by kernel_rfl
  have d8 : dinS false TK (.str [103, 111]) = some (.bl false, false) := by kernel_rfl
  have t1 : dgetS TK TV (.str [108, 101, 102, 116]) = some (.int 3, false) := by kernel_rfl
  have t2 : dgetS TK TV (.str [114, 105, 103, 104, 116]) = some (.int 1, false) := by kernel_rfl
  have t3 : dgetS TK TV (.str [98, 97, 99, 107]) = some (.int 2, false) := by kernel_rfl
  cases e with
  | left =>
    obtain ⟨c, hc, hlk⟩ := hb rfl
    refine go s.leg s.x s.y [tuL 3 c] (by simp [nxt, hlk, turnd]) ?_
    rw [hlk]
    simp [runFn, wx_for, w_lc, w_meth, w_glob, w_dsp, w_gdix, w_gdin, wt_gdin, w_ch, wt_ch, wx_par, wx_aug, wx_retN, wx_raise, wx_tryH, hd_0, hd_n, hd_s, wx_tr, noEx, unname, isxS, fldS, lookF, wx_brk, wx_cont, st_tl, st_tt, st_0, st_1, evc_0, evc_1, lcStep, fStep, argOf, onVar, isVar, Cell.on, gets, Ag.get, Cell.val, P.pk, P.sem, P.rcv, M.rcv, M.pk, semAt, tyn, isiS, isiOne, tyNames, tru, isN, callK, pks, nodupB, agCells, agCell, giv, backs, back, locks, unlocks, unl, noOwn, wiped, putsAt, R.only, unbrk, stv, finOf, Cell.keep, pin_un, pin_fz, pin_ow, pin_pr, pin_pz, pin_lk, Cell.mt, Cell.put, Cell.lock, Cell.unlock, intS, cmpS, cmpI, ixS, lenS, En.word, En.rest, eq_str, okS, hgl, hgt, d1, t1, hN c hc, add_ii, hm4, at_turn, LIM]
  | right =>
    obtain ⟨c, hc, hlk⟩ := hb rfl
    refine go s.leg s.x s.y [tuL 1 c] (by simp [nxt, hlk, turnd]) ?_
    rw [hlk]
    simp [runFn, wx_for, w_lc, w_meth, w_glob, w_dsp, w_gdix, w_gdin, wt_gdin, w_ch, wt_ch, wx_par, wx_aug, wx_retN, wx_raise, wx_tryH, hd_0, hd_n, hd_s, wx_tr, noEx, unname, isxS, fldS, lookF, wx_brk, wx_cont, st_tl, st_tt, st_0, st_1, evc_0, evc_1, lcStep, fStep, argOf, onVar, isVar, Cell.on, gets, Ag.get, Cell.val, P.pk, P.sem, P.rcv, M.rcv, M.pk, semAt, tyn, isiS, isiOne, tyNames, tru, isN, callK, pks, nodupB, agCells, agCell, giv, backs, back, locks, unlocks, unl, noOwn, wiped, putsAt, R.only, unbrk, stv, finOf, Cell.keep, pin_un, pin_fz, pin_ow, pin_pr, pin_pz, pin_lk, Cell.mt, Cell.put, Cell.lock, Cell.unlock, intS, cmpS, cmpI, ixS, lenS, En.word, En.rest, eq_str, okS, hgl, hgt, d2, t2, hN c hc, add_ii, hm4, at_turn, LIM]
  | back =>
    obtain ⟨c, hc, hlk⟩ := hb rfl
    refine go s.leg s.x s.y [tuL 2 c] (by simp [nxt, hlk, turnd]) ?_
    rw [hlk]
    simp [runFn, wx_for, w_lc, w_meth, w_glob, w_dsp, w_gdix, w_gdin, wt_gdin, w_ch, wt_ch, wx_par, wx_aug, wx_retN, wx_raise, wx_tryH, hd_0, hd_n, hd_s, wx_tr, noEx, unname, isxS, fldS, lookF, wx_brk, wx_cont, st_tl, st_tt, st_0, st_1, evc_0, evc_1, lcStep, fStep, argOf, onVar, isVar, Cell.on, gets, Ag.get, Cell.val, P.pk, P.sem, P.rcv, M.rcv, M.pk, semAt, tyn, isiS, isiOne, tyNames, tru, isN, callK, pks, nodupB, agCells, agCell, giv, backs, back, locks, unlocks, unl, noOwn, wiped, putsAt, R.only, unbrk, stv, finOf, Cell.keep, pin_un, pin_fz, pin_ow, pin_pr, pin_pz, pin_lk, Cell.mt, Cell.put, Cell.lock, Cell.unlock, intS, cmpS, cmpI, ixS, lenS, En.word, En.rest, eq_str, okS, hgl, hgt, d3, t3, hN c hc, add_ii, hm4, at_turn, LIM]
  | bump =>
    refine go s.leg s.x s.y s.look rfl ?_
    simp [runFn, wx_for, w_lc, w_meth, w_glob, w_dsp, w_gdix, w_gdin, wt_gdin, w_ch, wt_ch, wx_par, wx_aug, wx_retN, wx_raise, wx_tryH, hd_0, hd_n, hd_s, wx_tr, noEx, unname, isxS, fldS, lookF, wx_brk, wx_cont, st_tl, st_tt, st_0, st_1, evc_0, evc_1, lcStep, fStep, argOf, onVar, isVar, Cell.on, gets, Ag.get, Cell.val, P.pk, P.sem, P.rcv, M.rcv, M.pk, semAt, tyn, isiS, isiOne, tyNames, tru, isN, callK, pks, nodupB, agCells, agCell, giv, backs, back, locks, unlocks, unl, noOwn, wiped, putsAt, R.only, unbrk, stv, finOf, Cell.keep, pin_un, pin_fz, pin_ow, pin_pr, pin_pz, pin_lk, Cell.mt, Cell.put, Cell.lock, Cell.unlock, intS, cmpS, cmpI, ixS, lenS, En.word, En.rest, eq_str, okS, hgl, hgt, d4, LIM]
  | bare =>
    refine go s.leg s.x s.y s.look rfl ?_
    simp [runFn, wx_for, w_lc, w_meth, w_glob, w_dsp, w_gdix, w_gdin, wt_gdin, w_ch, wt_ch, wx_par, wx_aug, wx_retN, wx_raise, wx_tryH, hd_0, hd_n, hd_s, wx_tr, noEx, unname, isxS, fldS, lookF, wx_brk, wx_cont, st_tl, st_tt, st_0, st_1, evc_0, evc_1, lcStep, fStep, argOf, onVar, isVar, Cell.on, gets, Ag.get, Cell.val, P.pk, P.sem, P.rcv, M.rcv, M.pk, semAt, tyn, isiS, isiOne, tyNames, tru, isN, callK, pks, nodupB, agCells, agCell, giv, backs, back, locks, unlocks, unl, noOwn, wiped, putsAt, R.only, unbrk, stv, finOf, Cell.keep, pin_un, pin_fz, pin_ow, pin_pr, pin_pz, pin_lk, Cell.mt, Cell.put, Cell.lock, Cell.unlock, intS, cmpS, cmpI, ixS, lenS, En.word, En.rest, eq_str, okS, hgl, hgt, d5, LIM]
  | swap =>
    refine go (s.leg + 1) s.x s.y s.look rfl ?_
    simp [runFn, wx_for, w_lc, w_meth, w_glob, w_dsp, w_gdix, w_gdin, wt_gdin, w_ch, wt_ch, wx_par, wx_aug, wx_retN, wx_raise, wx_tryH, hd_0, hd_n, hd_s, wx_tr, noEx, unname, isxS, fldS, lookF, wx_brk, wx_cont, st_tl, st_tt, st_0, st_1, evc_0, evc_1, lcStep, fStep, argOf, onVar, isVar, Cell.on, gets, Ag.get, Cell.val, P.pk, P.sem, P.rcv, M.rcv, M.pk, semAt, tyn, isiS, isiOne, tyNames, tru, isN, callK, pks, nodupB, agCells, agCell, giv, backs, back, locks, unlocks, unl, noOwn, wiped, putsAt, R.only, unbrk, stv, finOf, Cell.keep, pin_un, pin_fz, pin_ow, pin_pr, pin_pz, pin_lk, Cell.mt, Cell.put, Cell.lock, Cell.unlock, intS, cmpS, cmpI, ixS, lenS, En.word, En.rest, eq_str, okS, hgl, hgt, LIM, augS]
  | face c =>
    refine go s.leg s.x s.y [trL (lots.getD s.leg 0) c] rfl ?_
    have := htr c he
    obtain ⟨v, hv⟩ : ∃ v, v = lots.getD s.leg 0 := ⟨_, rfl⟩
    rw [← hv] at this hl ⊢
    simp [runFn, wx_for, w_lc, w_meth, w_glob, w_dsp, w_gdix, w_gdin, wt_gdin, w_ch, wt_ch, wx_par, wx_aug, wx_retN, wx_raise, wx_tryH, hd_0, hd_n, hd_s, wx_tr, noEx, unname, isxS, fldS, lookF, wx_brk, wx_cont, st_tl, st_tt, st_0, st_1, evc_0, evc_1, lcStep, fStep, argOf, onVar, isVar, Cell.on, gets, Ag.get, Cell.val, P.pk, P.sem, P.rcv, M.rcv, M.pk, semAt, tyn, isiS, isiOne, tyNames, tru, isN, callK, pks, nodupB, agCells, agCell, giv, backs, back, locks, unlocks, unl, noOwn, wiped, putsAt, R.only, unbrk, stv, finOf, Cell.keep, pin_un, pin_fz, pin_ow, pin_pr, pin_pz, pin_lk, Cell.mt, Cell.put, Cell.lock, Cell.unlock, intS, cmpS, cmpI, lenS, En.word, En.rest, eq_str, okS, hgl, hgt, LIM, hl, ix_l0, this]
  | go n =>
    obtain ⟨c, hc, hlk⟩ := hb rfl
    refine go s.leg (s.x + (n : Int) * dX c) (s.y + (n : Int) * dY c) [c] (by simp [nxt, hlk]) ?_
    rw [hlk]
    have := w.mv c n s.x s.y hc he.2
    simp [runFn, wx_for, w_lc, w_meth, w_glob, w_dsp, w_gdix, w_gdin, wt_gdin, w_ch, wt_ch, wx_par, wx_aug, wx_retN, wx_raise, wx_tryH, hd_0, hd_n, hd_s, wx_tr, noEx, unname, isxS, fldS, lookF, wx_brk, wx_cont, st_tl, st_tt, st_0, st_1, evc_0, evc_1, lcStep, fStep, argOf, onVar, isVar, Cell.on, gets, Ag.get, Cell.val, P.pk, P.sem, P.rcv, M.rcv, M.pk, semAt, tyn, isiS, isiOne, tyNames, tru, isN, callK, pks, nodupB, agCells, agCell, giv, backs, back, locks, unlocks, unl, noOwn, wiped, putsAt, R.only, unbrk, stv, finOf, Cell.keep, pin_un, pin_fz, pin_ow, pin_pr, pin_pz, pin_lk, Cell.mt, Cell.put, Cell.lock, Cell.unlock, intS, cmpS, cmpI, ixS, lenS, En.word, En.rest, eq_str, okS, hgl, hgt, d8, this, at_0, LIM]
  | sign z =>
    refine go s.leg s.x s.y s.look rfl ?_
    simp [runFn, wx_for, w_lc, w_meth, w_glob, w_dsp, w_gdix, w_gdin, wt_gdin, w_ch, wt_ch, wx_par, wx_aug, wx_retN, wx_raise, wx_tryH, hd_0, hd_n, hd_s, wx_tr, noEx, unname, isxS, fldS, lookF, wx_brk, wx_cont, st_tl, st_tt, st_0, st_1, evc_0, evc_1, lcStep, fStep, argOf, onVar, isVar, Cell.on, gets, Ag.get, Cell.val, P.pk, P.sem, P.rcv, M.rcv, M.pk, semAt, tyn, isiS, isiOne, tyNames, tru, isN, callK, pks, nodupB, agCells, agCell, giv, backs, back, locks, unlocks, unl, noOwn, wiped, putsAt, R.only, unbrk, stv, finOf, Cell.keep, pin_un, pin_fz, pin_ow, pin_pr, pin_pz, pin_lk, Cell.mt, Cell.put, Cell.lock, Cell.unlock, intS, cmpS, cmpI, ixS, lenS, En.word, En.rest, eq_str, okS, hgl, hgt, d6, LIM]
  | spy n z =>
    refine go s.leg s.x s.y s.look rfl ?_
    simp [runFn, wx_for, w_lc, w_meth, w_glob, w_dsp, w_gdix, w_gdin, wt_gdin, w_ch, wt_ch, wx_par, wx_aug, wx_retN, wx_raise, wx_tryH, hd_0, hd_n, hd_s, wx_tr, noEx, unname, isxS, fldS, lookF, wx_brk, wx_cont, st_tl, st_tt, st_0, st_1, evc_0, evc_1, lcStep, fStep, argOf, onVar, isVar, Cell.on, gets, Ag.get, Cell.val, P.pk, P.sem, P.rcv, M.rcv, M.pk, semAt, tyn, isiS, isiOne, tyNames, tru, isN, callK, pks, nodupB, agCells, agCell, giv, backs, back, locks, unlocks, unl, noOwn, wiped, putsAt, R.only, unbrk, stv, finOf, Cell.keep, pin_un, pin_fz, pin_ow, pin_pr, pin_pz, pin_lk, Cell.mt, Cell.put, Cell.lock, Cell.unlock, intS, cmpS, cmpI, ixS, lenS, En.word, En.rest, eq_str, okS, hgl, hgt, d7, LIM]
end BV

/-! BvI: the walk's answers. -/
namespace BV
open PySem L2
def fWalked (t m L T : Nat) : Fn := ⟨2, 9, [.asg (.nm 2) (.prim .lst []),
    .asg (.tp [.nm 3, .nm 4, .nm 5]) (.prim .tup [(.int 0), (.prim .tup [(.int 0), (.int 0)]), (.str [])]),
    .for (.sp [.nm 6] 7) .seq [(.var 0)] (bWalk t m L T),
    .ret (.mv 2)]⟩
def s0 : St := ⟨0, 0, 0, []⟩
theorem walk_for {cs : CS} {t m L T : Nat} (w : WkOk cs t m) (g : GlOk cs L T) {lots : List Nat} (h8 : ∀ n ∈ lots, n < 8) {dl : D} (hdl : LotsD lots dl) (c0 : Cell) {es : List En} {ds : List D} (hr : Rows es ds) (hl : es.length < 1000) (hf : Fit lots s0 es) :
    ∃ ρ' s c6 c7 c8, forGo (fStep cs (.sp [.nm 6] 7) (bWalk t m L T)) ds [c0, .fz dl, .ow (.lst []), .fz (.int 0), .fz (.tup [.int 0, .int 0]), .fz (.str []), .un, .un, .un] = .nx ρ' ∧ ρ' = [c0, .fz dl, .ow (.lst (wk lots s0 es)), .fz (.int ((St.leg s : Nat) : Int)), .fz (.tup [.int s.x, .int s.y]), .fz (.str s.look), c6, c7, c8] := by
  obtain ⟨ρ', g1, es', s, found, c6, c7, c8, g2, g3, g4, g5, g6, g7, g8, -, g10⟩ := for_inv (step := fStep cs (.sp [.nm 6] 7) (bWalk t m L T))
    (fun r ρ => ∃ (es' : List En) (s : St) (found : List D) (c6 c7 c8 : Cell), c6.pin = false ∧ c7.pin = false ∧ c8.pin = false ∧ Rows es' r ∧ Fit lots s es' ∧ found ++ wk lots s es' = wk lots s0 es ∧ found.length + es'.length = es.length ∧ True ∧ ρ = [c0, .fz dl, .ow (.lst found), .fz (.int (s.leg : Int)), .fz (.tup [.int s.x, .int s.y]), .fz (.str s.look), c6, c7, c8]) ds [c0, .fz dl, .ow (.lst []), .fz (.int 0), .fz (.tup [.int 0, .int 0]), .fz (.str []), .un, .un, .un]
    ⟨es, s0, [], .un, .un, .un, rfl, rfl, rfl, hr, hf, rfl, by simp, trivial, rfl⟩
    (fun x r ρ ⟨es', s, found, c6, c7, c8, q6, q7, q8, q1, q2, q3, q4, _, e⟩ => by
      subst e
      cases q1 with
      | cons hx hr =>
        rename_i e es'
        obtain ⟨k1, k2, k3, k4, k5⟩ := q2
        rw [List.length_cons] at q4
        have z := walk_step w g h8 hdl e x hx s k1 k2 k3 k4 c0 c6 c7 c8 q6 q7 q8 found (by unfold LIM; omega)
        rw [wk] at q3
        exact ⟨_, z, es', nxt lots s e, found ++ [rowD s (nxt lots s e)], .fz (.str e.word), .ow (.lst e.rest), .fz s.d, rfl, rfl, rfl, hr, k5, by rw [List.append_assoc]; exact q3, by rw [List.length_append]; simp; omega, trivial, rfl⟩)
  cases g5
  rw [wk, List.append_nil] at g7
  subst g7
  exact ⟨ρ', s, c6, c7, c8, g1, g10⟩
theorem walked_ok {cs : CS} {t m L T : Nat} (w : WkOk cs t m) (g : GlOk cs L T) {lots : List Nat} (h8 : ∀ n ∈ lots, n < 8) {dl : D} (hdl : LotsD lots dl) {es : List En} {d : D} (hd : Log es d) (hl : es.length < 1000) (hf : Fit lots s0 es) :
    runFn cs (fWalked t m L T) [.fz d, .fz dl] = some (.ok (.lst (wk lots s0 es)) true, [.un, .un]) := by
  obtain ⟨ds, hr, hq⟩ := hd.sem
  obtain ⟨ρ', s, c6, c7, c8, g1, g2⟩ := walk_for w g h8 hdl (.fz d) hr hl hf
  subst g2
  obtain ⟨Q, hQ⟩ : ∃ Q, Q = wk lots s0 es := ⟨_, rfl⟩
  rw [← hQ] at g1 ⊢
  simp [runFn, wx_for, w_lc, w_meth, w_glob, w_dsp, w_gdix, w_gdin, wt_gdin, w_ch, wt_ch, wx_par, wx_aug, wx_retN, wx_raise, wx_tryH, hd_0, hd_n, hd_s, wx_tr, noEx, unname, isxS, fldS, lookF, wx_brk, wx_cont, st_tl, st_tt, st_0, st_1, evc_0, evc_1, lcStep, fStep, argOf, onVar, isVar, Cell.on, gets, Ag.get, Cell.val, P.pk, P.sem, P.rcv, M.rcv, M.pk, semAt, tyn, isiS, isiOne, tyNames, tru, isN, callK, pks, nodupB, agCells, agCell, giv, backs, back, locks, unlocks, unl, noOwn, wiped, putsAt, R.only, unbrk, stv, finOf, Cell.keep, pin_un, pin_fz, pin_ow, pin_pr, pin_pz, pin_lk, Cell.mt, Cell.put, Cell.lock, Cell.unlock, intS, cmpS, cmpI, ixS, lenS, fWalked, hq, g1, LIM]
/-! ### the law's own walk -/
def LK : E := .dsp 0 [(.str [108, 101, 102, 116]), (.int 3), (.str [114, 105, 103, 104, 116]), (.int 1), (.str [98, 97, 99, 107]), (.int 2)]
def bLWalk (t m : Nat) : List S := [.asg (.nm 7) (.prim .tup [(.var 4), (.var 5)]),
       .iff (.prim .eq [(.prim .ix [(.var 6), (.int 0)]), (.str [115, 119, 97, 112])])
         [.asg (.nm 3) (.prim .add [(.var 3), (.int 1)])]
         [],
       .iff (.prim .eq [(.prim .ix [(.var 6), (.int 0)]), (.str [102, 97, 99, 101])])
         [.asg (.nm 5) (.call t [(.prim .ix [(.var 1), (.var 3)]), (.prim .ix [(.var 6), (.int 1)])])]
         [],
       .iff (.prim .isin [(.prim .ix [(.var 6), (.int 0)]), (.prim .tup [(.str [108, 101, 102, 116]), (.str [114, 105, 103, 104, 116]), (.str [98, 97, 99, 107])])])
         [.asg (.nm 5) (.prim .ix [(.str [110, 101, 115, 119]), (.prim .mod [(.prim .add [(.meth .index (.str [110, 101, 115, 119]) [(.var 5)]), (.prim .ix [(.dsp 0 [(.str [108, 101, 102, 116]), (.int 3), (.str [114, 105, 103, 104, 116]), (.int 1), (.str [98, 97, 99, 107]), (.int 2)]), (.prim .ix [(.var 6), (.int 0)])])]), (.int 4)])])]
         [],
       .iff (.prim .eq [(.prim .ix [(.var 6), (.int 0)]), (.str [103, 111])])
         [.asg (.nm 4) (.call m [(.var 4), (.var 5), (.prim .ix [(.var 6), (.int 1)])])]
         [],
       .ex (.mut .append 2 [(.prim .tup [(.var 3), (.var 7), (.prim .tup [(.var 4), (.var 5)])])])]
def mLWalk (t m : Nat) : List S := [.iff (.prim .eq [(.prim .ix [(.var 6), (.int 0)]), (.str [115, 119, 97, 112])])
         [.asg (.nm 3) (.prim .add [(.var 3), (.int 1)])]
         [],
       .iff (.prim .eq [(.prim .ix [(.var 6), (.int 0)]), (.str [102, 97, 99, 101])])
         [.asg (.nm 5) (.call t [(.prim .ix [(.var 1), (.var 3)]), (.prim .ix [(.var 6), (.int 1)])])]
         [],
       .iff (.prim .isin [(.prim .ix [(.var 6), (.int 0)]), (.prim .tup [(.str [108, 101, 102, 116]), (.str [114, 105, 103, 104, 116]), (.str [98, 97, 99, 107])])])
         [.asg (.nm 5) (.prim .ix [(.str [110, 101, 115, 119]), (.prim .mod [(.prim .add [(.meth .index (.str [110, 101, 115, 119]) [(.var 5)]), (.prim .ix [(.dsp 0 [(.str [108, 101, 102, 116]), (.int 3), (.str [114, 105, 103, 104, 116]), (.int 1), (.str [98, 97, 99, 107]), (.int 2)]), (.prim .ix [(.var 6), (.int 0)])])]), (.int 4)])])]
         [],
       .iff (.prim .eq [(.prim .ix [(.var 6), (.int 0)]), (.str [103, 111])])
         [.asg (.nm 4) (.call m [(.var 4), (.var 5), (.prim .ix [(.var 6), (.int 1)])])]
         []]
theorem ix_t0 (x : D) (r : List D) : ixS (.tup (x :: r)) (.int 0) = some (x, false) := by
  show (atd (x :: r) 0).map _ = _
  rw [at_0]; rfl
theorem ix_t1 (x y : D) (r : List D) : ixS (.tup (x :: y :: r)) (.int 1) = some (y, false) := by
  show (atd (x :: y :: r) 1).map _ = _
  rw [at_1']; rfl
theorem ix_t2 (x y z : D) (r : List D) : ixS (.tup (x :: y :: z :: r)) (.int 2) = some (z, false) := by
  show (atd (x :: y :: z :: r) 2).map _ = _
  have : atd (x :: y :: z :: r) 2 = some z := by
    unfold atd ixd
    have h : (2 : Int) < ((x :: y :: z :: r).length : Int) := by simp; omega
    rw [if_pos (by decide), if_pos h]
    rfl
  rw [this]; rfl
theorem ix_ld (w : List Nat) : ixS (.dct 0 TK TV) (.str w) = (if (keyD (.str w)).isSome = true then (findD (.str w) TK).bind fun j => TV[j]?.map fun d => (d, false) else none) := rfl
theorem ix_ns {i : Int} {c : Nat} (h : atd [110, 101, 115, 119] i = some c) : ixS (.str [110, 101, 115, 119]) (.int i) = some (.str [c], false) := by
  show (if [110, 101, 115, 119].length ≤ LIM then (atd [110, 101, 115, 119] i).map fun c => (D.str [c], false) else none) = _
  rw [if_pos (by decide), h]; rfl
theorem dx0 (e : En) : ixS e.d (.int 0) = some (.str e.word, false) := by
  show ixS (.tup e.l) _ = _
  rw [en_l, ix_t0]
theorem dx1f (c : Nat) : ixS (En.face c).d (.int 1) = some (.str [c], false) := ix_t1 _ _ _
theorem dx1g (n : Nat) : ixS (En.go n).d (.int 1) = some (.int (n : Int), false) := ix_t1 _ _ _
theorem dx1s (z : List Nat) : ixS (En.sign z).d (.int 1) = some (.str z, false) := ix_t1 _ _ _
theorem dx1y (n : Nat) (z : List Nat) : ixS (En.spy n z).d (.int 1) = some (.int (n : Int), false) := ix_t1 _ _ _
theorem dx2y (n : Nat) (z : List Nat) : ixS (En.spy n z).d (.int 2) = some (.str z, false) := ix_t2 _ _ _ _
theorem lwalk_step {cs : CS} {t m : Nat} (w : WkOk cs t m) {lots : List Nat} (h8 : ∀ n ∈ lots, n < 8) {dl : D} (hdl : LotsD lots dl) (e : En) (s : St) (he : e.ok) (hk : okLook s.look) (hb : e.blind = false → ∃ c, c ∈ NESW ∧ s.look = [c]) (hleg : s.leg < lots.length)
    (c0 c6 c7 : Cell) (h6 : c6.pin = false) (h7 : c7.pin = false) (found : List D) (hf : found.length < LIM) :
    fStep cs (.nm 6) (bLWalk t m) e.d [c0, .fz dl, .ow (.lst found), .fz (.int (s.leg : Int)), .fz (.tup [.int s.x, .int s.y]), .fz (.str s.look), c6, c7] =
      .nx [c0, .fz dl, .ow (.lst (found ++ [rowD s (nxt lots s e)])), .fz (.int ((nxt lots s e).leg : Int)), .fz (.tup [.int (nxt lots s e).x, .int (nxt lots s e).y]), .fz (.str (nxt lots s e).look), .fz e.d, .fz s.d] := by
  have hf1 : found.length < 1000000 := hf
  have hl := lot_at hdl hleg
  have htr := fun c hc => w.tr (lots.getD s.leg 0) c (getD_lt h8 _) hc
  have go : ∀ (leg' : Nat) (x' y' : Int) (look' : List Nat), nxt lots s e = ⟨leg', x', y', look'⟩ →
      exs cs (mLWalk t m) [c0, .fz dl, .ow (.lst found), .fz (.int (s.leg : Int)), .fz (.tup [.int s.x, .int s.y]), .fz (.str s.look), .fz e.d, .fz s.d] =
      .nx [c0, .fz dl, .ow (.lst found), .fz (.int (leg' : Int)), .fz (.tup [.int x', .int y']), .fz (.str look'), .fz e.d, .fz s.d] →
      fStep cs (.nm 6) (bLWalk t m) e.d [c0, .fz dl, .ow (.lst found), .fz (.int (s.leg : Int)), .fz (.tup [.int s.x, .int s.y]), .fz (.str s.look), c6, c7] =
      .nx [c0, .fz dl, .ow (.lst (found ++ [rowD s (nxt lots s e)])), .fz (.int ((nxt lots s e).leg : Int)), .fz (.tup [.int (nxt lots s e).x, .int (nxt lots s e).y]), .fz (.str (nxt lots s e).look), .fz e.d, .fz s.d] := by
    intro leg' x' y' look' hn hx
    rw [hn]
    have hst : stt (.nm 6) e.d false [c0, .fz dl, .ow (.lst found), .fz (.int (s.leg : Int)), .fz (.tup [.int s.x, .int s.y]), .fz (.str s.look), c6, c7] = some [c0, .fz dl, .ow (.lst found), .fz (.int (s.leg : Int)), .fz (.tup [.int s.x, .int s.y]), .fz (.str s.look), .fz e.d, c7] := by simp [runFn, wx_for, w_lc, w_meth, w_glob, w_dsp, w_gdix, w_gdin, wt_gdin, w_ch, wt_ch, wx_par, wx_aug, wx_retN, wx_raise, wx_tryH, hd_0, hd_n, hd_s, wx_tr, noEx, unname, isxS, fldS, lookF, wx_brk, wx_cont, st_tl, st_tt, st_0, st_1, evc_0, evc_1, lcStep, fStep, argOf, onVar, isVar, Cell.on, gets, Ag.get, Cell.val, P.pk, P.sem, P.rcv, M.rcv, M.pk, semAt, tyn, isiS, isiOne, tyNames, tru, isN, callK, pks, nodupB, agCells, agCell, giv, backs, back, locks, unlocks, unl, noOwn, wiped, putsAt, R.only, unbrk, stv, finOf, Cell.keep, pin_un, pin_fz, pin_ow, pin_pr, pin_pz, pin_lk, Cell.mt, Cell.put, Cell.lock, Cell.unlock, intS, cmpS, cmpI, ixS, lenS, h6]
    have h1 : ∀ X, exs cs (bLWalk t m) X = exs cs ([.asg (.nm 7) (.prim .tup [(.var 4), (.var 5)])] ++ (mLWalk t m ++ [.ex (.mut .append 2 [(.prim .tup [(.var 3), (.var 7), (.prim .tup [(.var 4), (.var 5)])])])])) X := fun X => rfl
    unfold fStep
    rw [hst]
    show exs cs (bLWalk t m) _ = _
    rw [h1, exs_nx (ρ' := [c0, .fz dl, .ow (.lst found), .fz (.int (s.leg : Int)), .fz (.tup [.int s.x, .int s.y]), .fz (.str s.look), .fz e.d, .fz s.d]) (by simp [runFn, wx_for, w_lc, w_meth, w_glob, w_dsp, w_gdix, w_gdin, wt_gdin, w_ch, wt_ch, wx_par, wx_aug, wx_retN, wx_raise, wx_tryH, hd_0, hd_n, hd_s, wx_tr, noEx, unname, isxS, fldS, lookF, wx_brk, wx_cont, st_tl, st_tt, st_0, st_1, evc_0, evc_1, lcStep, fStep, argOf, onVar, isVar, Cell.on, gets, Ag.get, Cell.val, P.pk, P.sem, P.rcv, M.rcv, M.pk, semAt, tyn, isiS, isiOne, tyNames, tru, isN, callK, pks, nodupB, agCells, agCell, giv, backs, back, locks, unlocks, unl, noOwn, wiped, putsAt, R.only, unbrk, stv, finOf, Cell.keep, pin_un, pin_fz, pin_ow, pin_pr, pin_pz, pin_lk, Cell.mt, Cell.put, Cell.lock, Cell.unlock, intS, cmpS, cmpI, ixS, lenS, h7, LIM, St.d]), exs_nx hx]
    simp [runFn, wx_for, w_lc, w_meth, w_glob, w_dsp, w_gdix, w_gdin, wt_gdin, w_ch, wt_ch, wx_par, wx_aug, wx_retN, wx_raise, wx_tryH, hd_0, hd_n, hd_s, wx_tr, noEx, unname, isxS, fldS, lookF, wx_brk, wx_cont, st_tl, st_tt, st_0, st_1, evc_0, evc_1, lcStep, fStep, argOf, onVar, isVar, Cell.on, gets, Ag.get, Cell.val, P.pk, P.sem, P.rcv, M.rcv, M.pk, semAt, tyn, isiS, isiOne, tyNames, tru, isN, callK, pks, nodupB, agCells, agCell, giv, backs, back, locks, unlocks, unl, noOwn, wiped, putsAt, R.only, unbrk, stv, finOf, Cell.keep, pin_un, pin_fz, pin_ow, pin_pr, pin_pz, pin_lk, Cell.mt, Cell.put, Cell.lock, Cell.unlock, intS, cmpS, cmpI, ixS, lenS, hf1, LIM, M.sem, rowD, St.d]
  have hN : ∀ c, c ∈ NESW → indexS (.str [110, 101, 115, 119]) (.str [c]) = some (.int (ni c), false) := fun c hc => idx_nesw hc
  have hm4 : ∀ z : Int, modI z 4 = some (z % 4) := fun z => mod_c (by decide)
  have hat : ∀ (k : Int) (c : Nat), ixS (.str [110, 101, 115, 119]) (.int ((ni c + k) % 4)) = some (.str [tuL k c], false) := fun k c => ix_ns at_turn
  have hds : dspS 0 [.str [108, 101, 102, 116], .int 3, .str [114, 105, 103, 104, 116], .int 1, .str [98, 97, 99, 107], .int 2] = some (.dct 0 TK TV, true) := by kernel_rfl
  have t1 : ixS (.dct 0 TK TV) (.str [108, 101, 102, 116]) = some (.int 3, false) := by kernel_rfl
  have t2 : ixS (.dct 0 TK TV) (.str [114, 105, 103, 104, 116]) = some (.int 1, false) := by kernel_rfl
  have t3 : ixS (.dct 0 TK TV) (.str [98, 97, 99, 107]) = some (.int 2, false) := by kernel_rfl
  cases e with
  | left =>
    obtain ⟨c, hc, hlk⟩ := hb rfl
    refine go s.leg s.x s.y [tuL 3 c] (by simp [nxt, hlk, turnd]) ?_
    rw [hlk]
    simp [runFn, wx_for, w_lc, w_meth, w_glob, w_dsp, w_gdix, w_gdin, wt_gdin, w_ch, wt_ch, wx_par, wx_aug, wx_retN, wx_raise, wx_tryH, hd_0, hd_n, hd_s, wx_tr, noEx, unname, isxS, fldS, lookF, wx_brk, wx_cont, st_tl, st_tt, st_0, st_1, evc_0, evc_1, lcStep, fStep, argOf, onVar, isVar, Cell.on, gets, Ag.get, Cell.val, P.pk, P.sem, P.rcv, M.rcv, M.pk, semAt, tyn, isiS, isiOne, tyNames, tru, isN, callK, pks, nodupB, agCells, agCell, giv, backs, back, locks, unlocks, unl, noOwn, wiped, putsAt, R.only, unbrk, stv, finOf, Cell.keep, pin_un, pin_fz, pin_ow, pin_pr, pin_pz, pin_lk, Cell.mt, Cell.put, Cell.lock, Cell.unlock, intS, cmpS, cmpI, lenS, mLWalk, dx0, En.word, eq_str, okS, inS, inD, flatd, eqd, hds, t1, hN c hc, add_ii, hm4, hat, LIM]
  | right =>
    obtain ⟨c, hc, hlk⟩ := hb rfl
    refine go s.leg s.x s.y [tuL 1 c] (by simp [nxt, hlk, turnd]) ?_
    rw [hlk]
    simp [runFn, wx_for, w_lc, w_meth, w_glob, w_dsp, w_gdix, w_gdin, wt_gdin, w_ch, wt_ch, wx_par, wx_aug, wx_retN, wx_raise, wx_tryH, hd_0, hd_n, hd_s, wx_tr, noEx, unname, isxS, fldS, lookF, wx_brk, wx_cont, st_tl, st_tt, st_0, st_1, evc_0, evc_1, lcStep, fStep, argOf, onVar, isVar, Cell.on, gets, Ag.get, Cell.val, P.pk, P.sem, P.rcv, M.rcv, M.pk, semAt, tyn, isiS, isiOne, tyNames, tru, isN, callK, pks, nodupB, agCells, agCell, giv, backs, back, locks, unlocks, unl, noOwn, wiped, putsAt, R.only, unbrk, stv, finOf, Cell.keep, pin_un, pin_fz, pin_ow, pin_pr, pin_pz, pin_lk, Cell.mt, Cell.put, Cell.lock, Cell.unlock, intS, cmpS, cmpI, lenS, mLWalk, dx0, En.word, eq_str, okS, inS, inD, flatd, eqd, hds, t2, hN c hc, add_ii, hm4, hat, LIM]
  | back =>
    obtain ⟨c, hc, hlk⟩ := hb rfl
    refine go s.leg s.x s.y [tuL 2 c] (by simp [nxt, hlk, turnd]) ?_
    rw [hlk]
    simp [runFn, wx_for, w_lc, w_meth, w_glob, w_dsp, w_gdix, w_gdin, wt_gdin, w_ch, wt_ch, wx_par, wx_aug, wx_retN, wx_raise, wx_tryH, hd_0, hd_n, hd_s, wx_tr, noEx, unname, isxS, fldS, lookF, wx_brk, wx_cont, st_tl, st_tt, st_0, st_1, evc_0, evc_1, lcStep, fStep, argOf, onVar, isVar, Cell.on, gets, Ag.get, Cell.val, P.pk, P.sem, P.rcv, M.rcv, M.pk, semAt, tyn, isiS, isiOne, tyNames, tru, isN, callK, pks, nodupB, agCells, agCell, giv, backs, back, locks, unlocks, unl, noOwn, wiped, putsAt, R.only, unbrk, stv, finOf, Cell.keep, pin_un, pin_fz, pin_ow, pin_pr, pin_pz, pin_lk, Cell.mt, Cell.put, Cell.lock, Cell.unlock, intS, cmpS, cmpI, lenS, mLWalk, dx0, En.word, eq_str, okS, inS, inD, flatd, eqd, hds, t3, hN c hc, add_ii, hm4, hat, LIM]
  | bump =>
    refine go s.leg s.x s.y s.look rfl ?_
    simp [runFn, wx_for, w_lc, w_meth, w_glob, w_dsp, w_gdix, w_gdin, wt_gdin, w_ch, wt_ch, wx_par, wx_aug, wx_retN, wx_raise, wx_tryH, hd_0, hd_n, hd_s, wx_tr, noEx, unname, isxS, fldS, lookF, wx_brk, wx_cont, st_tl, st_tt, st_0, st_1, evc_0, evc_1, lcStep, fStep, argOf, onVar, isVar, Cell.on, gets, Ag.get, Cell.val, P.pk, P.sem, P.rcv, M.rcv, M.pk, semAt, tyn, isiS, isiOne, tyNames, tru, isN, callK, pks, nodupB, agCells, agCell, giv, backs, back, locks, unlocks, unl, noOwn, wiped, putsAt, R.only, unbrk, stv, finOf, Cell.keep, pin_un, pin_fz, pin_ow, pin_pr, pin_pz, pin_lk, Cell.mt, Cell.put, Cell.lock, Cell.unlock, intS, cmpS, cmpI, lenS, mLWalk, dx0, En.word, eq_str, okS, inS, inD, flatd, eqd, LIM]
  | bare =>
    refine go s.leg s.x s.y s.look rfl ?_
    simp [runFn, wx_for, w_lc, w_meth, w_glob, w_dsp, w_gdix, w_gdin, wt_gdin, w_ch, wt_ch, wx_par, wx_aug, wx_retN, wx_raise, wx_tryH, hd_0, hd_n, hd_s, wx_tr, noEx, unname, isxS, fldS, lookF, wx_brk, wx_cont, st_tl, st_tt, st_0, st_1, evc_0, evc_1, lcStep, fStep, argOf, onVar, isVar, Cell.on, gets, Ag.get, Cell.val, P.pk, P.sem, P.rcv, M.rcv, M.pk, semAt, tyn, isiS, isiOne, tyNames, tru, isN, callK, pks, nodupB, agCells, agCell, giv, backs, back, locks, unlocks, unl, noOwn, wiped, putsAt, R.only, unbrk, stv, finOf, Cell.keep, pin_un, pin_fz, pin_ow, pin_pr, pin_pz, pin_lk, Cell.mt, Cell.put, Cell.lock, Cell.unlock, intS, cmpS, cmpI, lenS, mLWalk, dx0, En.word, eq_str, okS, inS, inD, flatd, eqd, LIM]
  | swap =>
    refine go (s.leg + 1) s.x s.y s.look rfl ?_
    simp [runFn, wx_for, w_lc, w_meth, w_glob, w_dsp, w_gdix, w_gdin, wt_gdin, w_ch, wt_ch, wx_par, wx_aug, wx_retN, wx_raise, wx_tryH, hd_0, hd_n, hd_s, wx_tr, noEx, unname, isxS, fldS, lookF, wx_brk, wx_cont, st_tl, st_tt, st_0, st_1, evc_0, evc_1, lcStep, fStep, argOf, onVar, isVar, Cell.on, gets, Ag.get, Cell.val, P.pk, P.sem, P.rcv, M.rcv, M.pk, semAt, tyn, isiS, isiOne, tyNames, tru, isN, callK, pks, nodupB, agCells, agCell, giv, backs, back, locks, unlocks, unl, noOwn, wiped, putsAt, R.only, unbrk, stv, finOf, Cell.keep, pin_un, pin_fz, pin_ow, pin_pr, pin_pz, pin_lk, Cell.mt, Cell.put, Cell.lock, Cell.unlock, intS, cmpS, cmpI, lenS, mLWalk, dx0, En.word, eq_str, okS, inS, inD, flatd, eqd, LIM, add_ii]
  | face c =>
    refine go s.leg s.x s.y [trL (lots.getD s.leg 0) c] rfl ?_
    have := htr c he
    obtain ⟨v, hv⟩ : ∃ v, v = lots.getD s.leg 0 := ⟨_, rfl⟩
    rw [← hv] at this hl ⊢
    simp [runFn, wx_for, w_lc, w_meth, w_glob, w_dsp, w_gdix, w_gdin, wt_gdin, w_ch, wt_ch, wx_par, wx_aug, wx_retN, wx_raise, wx_tryH, hd_0, hd_n, hd_s, wx_tr, noEx, unname, isxS, fldS, lookF, wx_brk, wx_cont, st_tl, st_tt, st_0, st_1, evc_0, evc_1, lcStep, fStep, argOf, onVar, isVar, Cell.on, gets, Ag.get, Cell.val, P.pk, P.sem, P.rcv, M.rcv, M.pk, semAt, tyn, isiS, isiOne, tyNames, tru, isN, callK, pks, nodupB, agCells, agCell, giv, backs, back, locks, unlocks, unl, noOwn, wiped, putsAt, R.only, unbrk, stv, finOf, Cell.keep, pin_un, pin_fz, pin_ow, pin_pr, pin_pz, pin_lk, Cell.mt, Cell.put, Cell.lock, Cell.unlock, intS, cmpS, cmpI, lenS, mLWalk, dx0, dx1f, dx1g, En.word, eq_str, okS, inS, inD, flatd, eqd, LIM, hl, this]
  | go n =>
    obtain ⟨c, hc, hlk⟩ := hb rfl
    refine go s.leg (s.x + (n : Int) * dX c) (s.y + (n : Int) * dY c) [c] (by simp [nxt, hlk]) ?_
    rw [hlk]
    have := w.mv c n s.x s.y hc he.2
    simp [runFn, wx_for, w_lc, w_meth, w_glob, w_dsp, w_gdix, w_gdin, wt_gdin, w_ch, wt_ch, wx_par, wx_aug, wx_retN, wx_raise, wx_tryH, hd_0, hd_n, hd_s, wx_tr, noEx, unname, isxS, fldS, lookF, wx_brk, wx_cont, st_tl, st_tt, st_0, st_1, evc_0, evc_1, lcStep, fStep, argOf, onVar, isVar, Cell.on, gets, Ag.get, Cell.val, P.pk, P.sem, P.rcv, M.rcv, M.pk, semAt, tyn, isiS, isiOne, tyNames, tru, isN, callK, pks, nodupB, agCells, agCell, giv, backs, back, locks, unlocks, unl, noOwn, wiped, putsAt, R.only, unbrk, stv, finOf, Cell.keep, pin_un, pin_fz, pin_ow, pin_pr, pin_pz, pin_lk, Cell.mt, Cell.put, Cell.lock, Cell.unlock, intS, cmpS, cmpI, lenS, mLWalk, dx0, dx1f, dx1g, En.word, eq_str, okS, inS, inD, flatd, eqd, LIM, this]
  | sign z =>
    refine go s.leg s.x s.y s.look rfl ?_
    simp [runFn, wx_for, w_lc, w_meth, w_glob, w_dsp, w_gdix, w_gdin, wt_gdin, w_ch, wt_ch, wx_par, wx_aug, wx_retN, wx_raise, wx_tryH, hd_0, hd_n, hd_s, wx_tr, noEx, unname, isxS, fldS, lookF, wx_brk, wx_cont, st_tl, st_tt, st_0, st_1, evc_0, evc_1, lcStep, fStep, argOf, onVar, isVar, Cell.on, gets, Ag.get, Cell.val, P.pk, P.sem, P.rcv, M.rcv, M.pk, semAt, tyn, isiS, isiOne, tyNames, tru, isN, callK, pks, nodupB, agCells, agCell, giv, backs, back, locks, unlocks, unl, noOwn, wiped, putsAt, R.only, unbrk, stv, finOf, Cell.keep, pin_un, pin_fz, pin_ow, pin_pr, pin_pz, pin_lk, Cell.mt, Cell.put, Cell.lock, Cell.unlock, intS, cmpS, cmpI, lenS, mLWalk, dx0, En.word, eq_str, okS, inS, inD, flatd, eqd, LIM]
  | spy n z =>
    refine go s.leg s.x s.y s.look rfl ?_
    simp [runFn, wx_for, w_lc, w_meth, w_glob, w_dsp, w_gdix, w_gdin, wt_gdin, w_ch, wt_ch, wx_par, wx_aug, wx_retN, wx_raise, wx_tryH, hd_0, hd_n, hd_s, wx_tr, noEx, unname, isxS, fldS, lookF, wx_brk, wx_cont, st_tl, st_tt, st_0, st_1, evc_0, evc_1, lcStep, fStep, argOf, onVar, isVar, Cell.on, gets, Ag.get, Cell.val, P.pk, P.sem, P.rcv, M.rcv, M.pk, semAt, tyn, isiS, isiOne, tyNames, tru, isN, callK, pks, nodupB, agCells, agCell, giv, backs, back, locks, unlocks, unl, noOwn, wiped, putsAt, R.only, unbrk, stv, finOf, Cell.keep, pin_un, pin_fz, pin_ow, pin_pr, pin_pz, pin_lk, Cell.mt, Cell.put, Cell.lock, Cell.unlock, intS, cmpS, cmpI, lenS, mLWalk, dx0, En.word, eq_str, okS, inS, inD, flatd, eqd, LIM]
def fLWalk (t m : Nat) : Fn := ⟨2, 8, [.asg (.nm 2) (.prim .lst []),
    .asg (.tp [.nm 3, .nm 4, .nm 5]) (.prim .tup [(.int 0), (.prim .tup [(.int 0), (.int 0)]), (.str [])]),
    .for (.nm 6) .seq [(.var 0)] (bLWalk t m),
    .ret (.mv 2)]⟩
theorem lwalk_for {cs : CS} {t m : Nat} (w : WkOk cs t m) {lots : List Nat} (h8 : ∀ n ∈ lots, n < 8) {dl : D} (hdl : LotsD lots dl) (c0 : Cell) {es : List En} (hl : es.length < 1000) (hf : Fit lots s0 es) :
    ∃ ρ' s c6 c7, forGo (fStep cs (.nm 6) (bLWalk t m)) (es.map En.d) [c0, .fz dl, .ow (.lst []), .fz (.int 0), .fz (.tup [.int 0, .int 0]), .fz (.str []), .un, .un] = .nx ρ' ∧ ρ' = [c0, .fz dl, .ow (.lst (wk lots s0 es)), .fz (.int ((St.leg s : Nat) : Int)), .fz (.tup [.int s.x, .int s.y]), .fz (.str s.look), c6, c7] := by
  obtain ⟨ρ', g1, es', s, found, c6, c7, g2, g3, g5, g6, g7, g8, g10⟩ := for_inv (step := fStep cs (.nm 6) (bLWalk t m))
    (fun r ρ => ∃ (es' : List En) (s : St) (found : List D) (c6 c7 : Cell), c6.pin = false ∧ c7.pin = false ∧ r = es'.map En.d ∧ Fit lots s es' ∧ found ++ wk lots s es' = wk lots s0 es ∧ found.length + es'.length = es.length ∧ ρ = [c0, .fz dl, .ow (.lst found), .fz (.int (s.leg : Int)), .fz (.tup [.int s.x, .int s.y]), .fz (.str s.look), c6, c7]) (es.map En.d) [c0, .fz dl, .ow (.lst []), .fz (.int 0), .fz (.tup [.int 0, .int 0]), .fz (.str []), .un, .un]
    ⟨es, s0, [], .un, .un, rfl, rfl, rfl, hf, rfl, by simp, rfl⟩
    (fun x r ρ ⟨es', s, found, c6, c7, q6, q7, q1, q2, q3, q4, e⟩ => by
      subst e
      cases es' with
      | nil => cases q1
      | cons e es' =>
        rw [List.map_cons] at q1
        injection q1 with q1 q5
        subst q1 q5
        obtain ⟨k1, k2, k3, k4, k5⟩ := q2
        rw [List.length_cons] at q4
        have z := lwalk_step w h8 hdl e s k1 k2 k3 k4 c0 c6 c7 q6 q7 found (by unfold LIM; omega)
        rw [wk] at q3
        exact ⟨_, z, es', nxt lots s e, found ++ [rowD s (nxt lots s e)], .fz e.d, .fz s.d, rfl, rfl, rfl, k5, by rw [List.append_assoc]; exact q3, by rw [List.length_append]; simp; omega, rfl⟩)
  have : es' = [] := List.map_eq_nil_iff.mp g5.symm
  subst this
  rw [wk, List.append_nil] at g7
  subst g7
  exact ⟨ρ', s, c6, c7, g1, g10⟩
theorem lwalk_ok {cs : CS} {t m : Nat} (w : WkOk cs t m) {lots : List Nat} (h8 : ∀ n ∈ lots, n < 8) {dl : D} (hdl : LotsD lots dl) {es : List En} (hl : es.length < 1000) (hf : Fit lots s0 es) :
    runFn cs (fLWalk t m) [.fz (.tup (es.map En.d)), .fz dl] = some (.ok (.lst (wk lots s0 es)) true, [.un, .un]) := by
  obtain ⟨ρ', s, c6, c7, g1, g2⟩ := lwalk_for w h8 hdl (.fz (.tup (es.map En.d))) hl hf
  subst g2
  obtain ⟨Q, hQ⟩ : ∃ Q, Q = wk lots s0 es := ⟨_, rfl⟩
  obtain ⟨Z, hZ⟩ : ∃ Z, Z = es.map En.d := ⟨_, rfl⟩
  rw [← hQ, ← hZ] at g1
  rw [← hQ, ← hZ]
  simp [runFn, wx_for, w_lc, w_meth, w_glob, w_dsp, w_gdix, w_gdin, wt_gdin, w_ch, wt_ch, wx_par, wx_aug, wx_retN, wx_raise, wx_tryH, hd_0, hd_n, hd_s, wx_tr, noEx, unname, isxS, fldS, lookF, wx_brk, wx_cont, st_tl, st_tt, st_0, st_1, evc_0, evc_1, lcStep, fStep, argOf, onVar, isVar, Cell.on, gets, Ag.get, Cell.val, P.pk, P.sem, P.rcv, M.rcv, M.pk, semAt, tyn, isiS, isiOne, tyNames, tru, isN, callK, pks, nodupB, agCells, agCell, giv, backs, back, locks, unlocks, unl, noOwn, wiped, putsAt, R.only, unbrk, stv, finOf, Cell.keep, pin_un, pin_fz, pin_ow, pin_pr, pin_pz, pin_lk, Cell.mt, Cell.put, Cell.lock, Cell.unlock, intS, cmpS, cmpI, ixS, lenS, fLWalk, s_tup, g1, LIM]
/-! ### hold_lots, track, listed -/
def fHold (i : Nat) : Fn := ⟨2, 4, [.iff (.prim .ne [(.prim .len [(.var 0)]), (.var 1)])
      [.never]
      [],
    .for (.tp [.nm 2, .nm 3]) .enum [(.var 0)]
      [.iff (.nt (.call i [(.var 3)]))
         [.never]
         []]]⟩
theorem hold_ok {cs : CS} {i : Nat} (hi : ∀ n : Nat, n < 8 → cs i [.fz (.int (n : Int))] = some (.ok (.bl true) false, [.un])) {lots : List Nat} (h8 : ∀ n ∈ lots, n < 8) {dl : D} (hdl : LotsD lots dl) : runFn cs (fHold i) [.fz dl, .fz (.int (lots.length : Int))] = some (.ok .non false, [.un, .un]) := by
  obtain ⟨ρ', g1, g2, c2, c3, g3, g4, g5⟩ := for_inv (step := fStep cs (.tp [.nm 2, .nm 3]) [.iff (.nt (.call i [(.var 3)]))
         [.never]
         []])
    (fun r ρ => (∀ x ∈ r, x ∈ enumD (lotD lots)) ∧ ∃ c2 c3 : Cell, c2.pin = false ∧ c3.pin = false ∧ ρ = [.fz dl, .fz (.int (lots.length : Int)), c2, c3]) (enumD (lotD lots)) [.fz dl, .fz (.int (lots.length : Int)), .un, .un] ⟨fun _ h => h, .un, .un, rfl, rfl, rfl⟩
    (fun x r ρ ⟨q1, c2, c3, q2, q3, e⟩ => by
      subst e
      obtain ⟨j, d, hd, rfl⟩ := enum_mem (q1 x List.mem_cons_self)
      obtain ⟨n, hn, rfl⟩ := List.mem_map.mp hd
      have := hi n (h8 n hn)
      refine ⟨[.fz dl, .fz (.int (lots.length : Int)), .fz (.int j), .fz (.int (n : Int))], ?_, fun y hy => q1 y (List.mem_cons_of_mem _ hy), _, _, rfl, rfl, rfl⟩
      simp [runFn, wx_for, w_lc, w_meth, w_glob, w_dsp, w_gdix, w_gdin, wt_gdin, w_ch, wt_ch, wx_par, wx_aug, wx_retN, wx_raise, wx_tryH, hd_0, hd_n, hd_s, wx_tr, noEx, unname, isxS, fldS, lookF, wx_brk, wx_cont, st_tl, st_tt, st_0, st_1, evc_0, evc_1, lcStep, fStep, argOf, onVar, isVar, Cell.on, gets, Ag.get, Cell.val, P.pk, P.sem, P.rcv, M.rcv, M.pk, semAt, tyn, isiS, isiOne, tyNames, tru, isN, callK, pks, nodupB, agCells, agCell, giv, backs, back, locks, unlocks, unl, noOwn, wiped, putsAt, R.only, unbrk, stv, finOf, Cell.keep, pin_un, pin_fz, pin_ow, pin_pr, pin_pz, pin_lk, Cell.mt, Cell.put, Cell.lock, Cell.unlock, intS, cmpS, cmpI, ixS, lenS, q2, q3, this])
  subst g5
  have hne : eqS true (.int (lots.length : Int)) (.int (lots.length : Int)) = some (.bl false, false) := by rw [eq_int]; simp
  have hen : IK.enum.sem [dl] = some (enumD (lotD lots)) := by rcases hdl with rfl | rfl <;> rfl
  have hln : lenS dl = some (.int (lots.length : Int), false) := by
    have hz : some (D.int ((lotD lots).length : Int), false) = some (D.int (lots.length : Int), false) := by rw [List.length_map]
    rcases hdl with rfl | rfl <;> exact hz
  obtain ⟨Q, hQ⟩ : ∃ Q, Q = enumD (lotD lots) := ⟨_, rfl⟩
  rw [← hQ] at g1 hen
  obtain ⟨z, hz⟩ : ∃ z : Int, z = (lots.length : Int) := ⟨_, rfl⟩
  rw [← hz] at hne hln g1
  rw [← hz]
  simp [runFn, wx_for, w_lc, w_meth, w_glob, w_dsp, w_gdix, w_gdin, wt_gdin, w_ch, wt_ch, wx_par, wx_aug, wx_retN, wx_raise, wx_tryH, hd_0, hd_n, hd_s, wx_tr, noEx, unname, isxS, fldS, lookF, wx_brk, wx_cont, st_tl, st_tt, st_0, st_1, evc_0, evc_1, lcStep, fStep, argOf, onVar, isVar, Cell.on, gets, Ag.get, Cell.val, P.pk, P.sem, P.rcv, M.rcv, M.pk, semAt, tyn, isiS, isiOne, tyNames, tru, isN, callK, pks, nodupB, agCells, agCell, giv, backs, back, locks, unlocks, unl, noOwn, wiped, putsAt, R.only, unbrk, stv, finOf, Cell.keep, pin_un, pin_fz, pin_ow, pin_pr, pin_pz, pin_lk, Cell.mt, Cell.put, Cell.lock, Cell.unlock, intS, cmpS, cmpI, ixS, fHold, hln, hne, hen, g1]
def bh (lots : List Nat) : St → List En → List D
  | _, [] => []
  | s, e :: r => (nxt lots s e).d :: bh lots (nxt lots s e) r
def thd : D → D
  | .tup [_, _, c] => c
  | _ => .non
theorem wk_thd (lots : List Nat) : ∀ (es : List En) (s : St), (wk lots s es).map thd = bh lots s es
  | [], _ => rfl
  | e :: es, s => by rw [wk, List.map_cons, bh, wk_thd lots es]; rfl
theorem wk_mem {lots : List Nat} {x : D} : ∀ {es : List En} {s : St}, x ∈ wk lots s es → ∃ s1 s2, x = rowD s1 s2
  | e :: es, s, h => by
    rw [wk] at h
    rcases List.mem_cons.mp h with rfl | h
    · exact ⟨_, _, rfl⟩
    · exact wk_mem h
theorem lc_thd {cs : CS} (lots : List Nat) (es : List En) (hl : es.length < 1000) (c0 c1 : Cell) : ∃ c2 c3 c4, lcGo (lcStep cs [2, 3, 4] (.tp [.nm 2, .nm 3, .nm 4]) [] (.var 4)) (wk lots s0 es) [] [c0, c1, .un, .un, .un] = .ok (bh lots s0 es) [c0, c1, c2, c3, c4] := by
  obtain ⟨ρ', h1, c2, c3, c4, h2⟩ := lc_map (step := lcStep cs [2, 3, 4] (.tp [.nm 2, .nm 3, .nm 4]) [] (.var 4)) (g := thd) (xs := wk lots s0 es) (ρ := [c0, c1, .un, .un, .un])
    (fun ρ => ∃ c2 c3 c4, ρ = [c0, c1, c2, c3, c4]) ⟨_, _, _, rfl⟩ (by rw [wk_len]; unfold LIM; omega) (fun x hx ρ ⟨c2, c3, c4, e⟩ => by
      subst e
      obtain ⟨s1, s2, rfl⟩ := wk_mem hx
      refine ⟨[c0, c1, .fz (.int (s2.leg : Int)), .fz s1.d, .fz s2.d], ?_, _, _, _, rfl⟩
      simp [runFn, wx_for, w_lc, w_meth, w_glob, w_dsp, w_gdix, w_gdin, wt_gdin, w_ch, wt_ch, wx_par, wx_aug, wx_retN, wx_raise, wx_tryH, hd_0, hd_n, hd_s, wx_tr, noEx, unname, isxS, fldS, lookF, wx_brk, wx_cont, st_tl, st_tt, st_0, st_1, evc_0, evc_1, lcStep, fStep, argOf, onVar, isVar, Cell.on, gets, Ag.get, Cell.val, P.pk, P.sem, P.rcv, M.rcv, M.pk, semAt, tyn, isiS, isiOne, tyNames, tru, isN, callK, pks, nodupB, agCells, agCell, giv, backs, back, locks, unlocks, unl, noOwn, wiped, putsAt, R.only, unbrk, stv, finOf, Cell.keep, pin_un, pin_fz, pin_ow, pin_pr, pin_pz, pin_lk, Cell.mt, Cell.put, Cell.lock, Cell.unlock, intS, cmpS, cmpI, ixS, lenS, rowD, thd])
  subst h2
  refine ⟨c2, c3, c4, ?_⟩
  rw [h1, wk_thd]
def fTrack (h g w : Nat) : Fn := ⟨2, 5, [.ex (.call h [(.var 1), (.call g [(.var 0)])]),
    .ret (.prim .tuple [(.lc [2, 3, 4] (.tp [.nm 2, .nm 3, .nm 4]) .seq [(.call w [(.var 0), (.var 1)])] [] (.var 4))])]⟩
def fDue (w : Nat) : Fn := ⟨2, 5, [.ret (.prim .tuple [(.lc [2, 3, 4] (.tp [.nm 2, .nm 3, .nm 4]) .seq [(.call w [(.var 0), (.var 1)])] [] (.var 4))])]⟩
theorem track_ok {cs : CS} {h g w : Nat} {lots : List Nat} {es : List En} {d dl : D} (hl : es.length < 1000)
    (e1 : cs g [.fz d] = some (.ok (.int (lots.length : Int)) false, [.un])) (e2 : cs h [.fz dl, .fz (.int (lots.length : Int))] = some (.ok .non false, [.un, .un])) (e3 : cs w [.fz d, .fz dl] = some (.ok (.lst (wk lots s0 es)) true, [.un, .un])) :
    runFn cs (fTrack h g w) [.fz d, .fz dl] = some (.ok (.tup (bh lots s0 es)) false, [.un, .un]) := by
  obtain ⟨c2, c3, c4, g1⟩ := lc_thd (cs := cs) lots es hl (.fz d) (.fz dl)
  obtain ⟨Q, hQ⟩ : ∃ Q, Q = wk lots s0 es := ⟨_, rfl⟩
  obtain ⟨z, hz⟩ : ∃ z : Int, z = (lots.length : Int) := ⟨_, rfl⟩
  rw [← hz] at e1 e2
  rw [← hQ] at e3 g1
  simp [runFn, wx_for, w_lc, w_meth, w_glob, w_dsp, w_gdix, w_gdin, wt_gdin, w_ch, wt_ch, wx_par, wx_aug, wx_retN, wx_raise, wx_tryH, hd_0, hd_n, hd_s, wx_tr, noEx, unname, isxS, fldS, lookF, wx_brk, wx_cont, st_tl, st_tt, st_0, st_1, evc_0, evc_1, lcStep, fStep, argOf, onVar, isVar, Cell.on, gets, Ag.get, Cell.val, P.pk, P.sem, P.rcv, M.rcv, M.pk, semAt, tyn, isiS, isiOne, tyNames, tru, isN, callK, pks, nodupB, agCells, agCell, giv, backs, back, locks, unlocks, unl, noOwn, wiped, putsAt, R.only, unbrk, stv, finOf, Cell.keep, pin_un, pin_fz, pin_ow, pin_pr, pin_pz, pin_lk, Cell.mt, Cell.put, Cell.lock, Cell.unlock, intS, cmpS, cmpI, ixS, lenS, fTrack, e1, e2, e3, s_lst, g1, tupleS]
theorem due_ok {cs : CS} {w : Nat} {lots : List Nat} {es : List En} {d dl : D} (hl : es.length < 1000) (e3 : cs w [.fz d, .fz dl] = some (.ok (.lst (wk lots s0 es)) true, [.un, .un])) :
    runFn cs (fDue w) [.fz d, .fz dl] = some (.ok (.tup (bh lots s0 es)) false, [.un, .un]) := by
  obtain ⟨c2, c3, c4, g1⟩ := lc_thd (cs := cs) lots es hl (.fz d) (.fz dl)
  obtain ⟨Q, hQ⟩ : ∃ Q, Q = wk lots s0 es := ⟨_, rfl⟩
  rw [← hQ] at e3 g1
  simp [runFn, wx_for, w_lc, w_meth, w_glob, w_dsp, w_gdix, w_gdin, wt_gdin, w_ch, wt_ch, wx_par, wx_aug, wx_retN, wx_raise, wx_tryH, hd_0, hd_n, hd_s, wx_tr, noEx, unname, isxS, fldS, lookF, wx_brk, wx_cont, st_tl, st_tt, st_0, st_1, evc_0, evc_1, lcStep, fStep, argOf, onVar, isVar, Cell.on, gets, Ag.get, Cell.val, P.pk, P.sem, P.rcv, M.rcv, M.pk, semAt, tyn, isiS, isiOne, tyNames, tru, isN, callK, pks, nodupB, agCells, agCell, giv, backs, back, locks, unlocks, unl, noOwn, wiped, putsAt, R.only, unbrk, stv, finOf, Cell.keep, pin_un, pin_fz, pin_ow, pin_pr, pin_pz, pin_lk, Cell.mt, Cell.put, Cell.lock, Cell.unlock, intS, cmpS, cmpI, ixS, lenS, fDue, e3, s_lst, g1, tupleS]
def fListed (t : Nat) : Fn := ⟨2, 4, [.asg (.nm 2) (.lc [3] (.nm 3) .seq [(.var 1)] [] (.ite (.prim .eq [(.call t [(.var 0), (.int 2)]), (.int 0)]) (.prim .list [(.var 3)]) (.var 3))),
    .ret (.ite (.prim .eq [(.call t [(.var 0), (.int 2)]), (.int 0)]) (.var 2) (.prim .tuple [(.var 2)]))]⟩
theorem listed_ok {cs : CS} {t : Nat} (ht : Takes1 cs t) {p : D} (hp : isPool p) (es : List En) (hl : es.length < 1000) : ∃ (d p' : D), runFn cs (fListed t) [.pr p, .fz (.tup (es.map En.d))] = some (.ok d false, [.pr p', .un]) ∧ Log es d ∧ isPool p' := by
  obtain ⟨T0, hT⟩ : ∃ T0, T0 = es.map En.d := ⟨_, rfl⟩
  obtain ⟨acc, ρ', g1, p', done, rest, c3, g2, g3, g4, g5, g6⟩ := lc_inv (step := lcStep cs [3] (.nm 3) [] (.ite (.prim .eq [(.call t [(.var 0), (.int 2)]), (.int 0)]) (.prim .list [(.var 3)]) (.var 3)))
    (fun r acc ρ => ∃ p done rest c3, isPool p ∧ done ++ rest = es ∧ Rows done acc ∧ r = rest.map En.d ∧ ρ = [.pr p, .fz (.tup T0), .un, c3]) (es.map En.d) [] [.pr p, .fz (.tup T0), .un, .un] ⟨p, [], es, .un, hp, rfl, .nil, rfl, rfl⟩
    (fun y r acc ρ ⟨p, done, rest, c3, q1, q2, q3, q4, e⟩ => by
      subst e
      cases rest with
      | nil => cases q4
      | cons x rest =>
        rw [List.map_cons] at q4
        injection q4 with q4 q5
        subst q4 q5
        have hlen : acc.length < LIM := by
          have := congrArg List.length q2
          rw [List.length_append, List.length_cons] at this
          rw [q3.length]
          unfold LIM; omega
        obtain ⟨z, p', e, t1, t2, i'⟩ := ht p 2 q1 (by decide) (by decide)
        have hz : z = 0 ∨ z = 1 := by omega
        rcases hz with rfl | rfl
        · have hq : eqS false (.int 0) (.int 0) = some (.bl true, false) := by kernel_rfl
          refine ⟨hlen, some (.lst x.l), [.pr p', .fz (.tup T0), .un, .fz x.d], ?_, p', done ++ [x], rest, _, i', by simpa using q2, q3.snoc (.inr rfl), rfl, rfl⟩
          simp [runFn, wx_for, w_lc, w_meth, w_glob, w_dsp, w_gdix, w_gdin, wt_gdin, w_ch, wt_ch, wx_par, wx_aug, wx_retN, wx_raise, wx_tryH, hd_0, hd_n, hd_s, wx_tr, noEx, unname, isxS, fldS, lookF, wx_brk, wx_cont, st_tl, st_tt, st_0, st_1, evc_0, evc_1, lcStep, fStep, argOf, onVar, isVar, Cell.on, gets, Ag.get, Cell.val, P.pk, P.sem, P.rcv, M.rcv, M.pk, semAt, tyn, isiS, isiOne, tyNames, tru, isN, callK, pks, nodupB, agCells, agCell, giv, backs, back, locks, unlocks, unl, noOwn, wiped, putsAt, R.only, unbrk, stv, finOf, Cell.keep, pin_un, pin_fz, pin_ow, pin_pr, pin_pz, pin_lk, Cell.mt, Cell.put, Cell.lock, Cell.unlock, intS, cmpS, cmpI, ixS, lenS, e, hq, listS]
        · have hq : eqS false (.int 1) (.int 0) = some (.bl false, false) := by kernel_rfl
          refine ⟨hlen, some x.d, [.pr p', .fz (.tup T0), .un, .fz x.d], ?_, p', done ++ [x], rest, _, i', by simpa using q2, q3.snoc (.inl rfl), rfl, rfl⟩
          simp [runFn, wx_for, w_lc, w_meth, w_glob, w_dsp, w_gdix, w_gdin, wt_gdin, w_ch, wt_ch, wx_par, wx_aug, wx_retN, wx_raise, wx_tryH, hd_0, hd_n, hd_s, wx_tr, noEx, unname, isxS, fldS, lookF, wx_brk, wx_cont, st_tl, st_tt, st_0, st_1, evc_0, evc_1, lcStep, fStep, argOf, onVar, isVar, Cell.on, gets, Ag.get, Cell.val, P.pk, P.sem, P.rcv, M.rcv, M.pk, semAt, tyn, isiS, isiOne, tyNames, tru, isN, callK, pks, nodupB, agCells, agCell, giv, backs, back, locks, unlocks, unl, noOwn, wiped, putsAt, R.only, unbrk, stv, finOf, Cell.keep, pin_un, pin_fz, pin_ow, pin_pr, pin_pz, pin_lk, Cell.mt, Cell.put, Cell.lock, Cell.unlock, intS, cmpS, cmpI, ixS, lenS, e, hq])
  subst g6
  have : rest = [] := List.map_eq_nil_iff.mp g5.symm
  subst this
  rw [List.append_nil] at g3
  subst g3
  obtain ⟨z, p2, e, t1, t2, i'⟩ := ht p' 2 g2 (by decide) (by decide)
  rw [← hT] at g1 ⊢
  have hz : z = 0 ∨ z = 1 := by omega
  rcases hz with rfl | rfl
  · have hq : eqS false (.int 0) (.int 0) = some (.bl true, false) := by kernel_rfl
    exact ⟨.lst acc, p2, by simp [runFn, wx_for, w_lc, w_meth, w_glob, w_dsp, w_gdix, w_gdin, wt_gdin, w_ch, wt_ch, wx_par, wx_aug, wx_retN, wx_raise, wx_tryH, hd_0, hd_n, hd_s, wx_tr, noEx, unname, isxS, fldS, lookF, wx_brk, wx_cont, st_tl, st_tt, st_0, st_1, evc_0, evc_1, lcStep, fStep, argOf, onVar, isVar, Cell.on, gets, Ag.get, Cell.val, P.pk, P.sem, P.rcv, M.rcv, M.pk, semAt, tyn, isiS, isiOne, tyNames, tru, isN, callK, pks, nodupB, agCells, agCell, giv, backs, back, locks, unlocks, unl, noOwn, wiped, putsAt, R.only, unbrk, stv, finOf, Cell.keep, pin_un, pin_fz, pin_ow, pin_pr, pin_pz, pin_lk, Cell.mt, Cell.put, Cell.lock, Cell.unlock, intS, cmpS, cmpI, ixS, lenS, fListed, s_tup, g1, e, hq], ⟨acc, g4, .inr rfl⟩, i'⟩
  · have hq : eqS false (.int 1) (.int 0) = some (.bl false, false) := by kernel_rfl
    exact ⟨.tup acc, p2, by simp [runFn, wx_for, w_lc, w_meth, w_glob, w_dsp, w_gdix, w_gdin, wt_gdin, w_ch, wt_ch, wx_par, wx_aug, wx_retN, wx_raise, wx_tryH, hd_0, hd_n, hd_s, wx_tr, noEx, unname, isxS, fldS, lookF, wx_brk, wx_cont, st_tl, st_tt, st_0, st_1, evc_0, evc_1, lcStep, fStep, argOf, onVar, isVar, Cell.on, gets, Ag.get, Cell.val, P.pk, P.sem, P.rcv, M.rcv, M.pk, semAt, tyn, isiS, isiOne, tyNames, tru, isN, callK, pks, nodupB, agCells, agCell, giv, backs, back, locks, unlocks, unl, noOwn, wiped, putsAt, R.only, unbrk, stv, finOf, Cell.keep, pin_un, pin_fz, pin_ow, pin_pr, pin_pz, pin_lk, Cell.mt, Cell.put, Cell.lock, Cell.unlock, intS, cmpS, cmpI, ixS, lenS, fListed, s_tup, g1, e, hq, tupleS], ⟨acc, g4, .inl rfl⟩, i'⟩
/-! ### plain -/
theorem sign_okS {s : List Nat} (h : isSignB s = true) : okS s = true := by
  obtain ⟨h1, h2, h3⟩ := sign_all h
  unfold okS
  rw [List.all_eq_true]
  exact fun c hc => decide_eq_true (by have := h3 c hc; omega)
theorem nesw_lt {c : Nat} (h : c ∈ NESW) : c < 1114112 := by rcases nesw_cases h with rfl | rfl | rfl | rfl <;> decide
/-- an entry's parts -/
theorem en_plain (e : En) (he : e.ok) : plains 0 e.l = true ∧ okds 62 e.l = true ∧ eqds e.l e.l = true := by
  cases e with
  | left => exact ⟨by decide, by decide, by decide⟩
  | right => exact ⟨by decide, by decide, by decide⟩
  | back => exact ⟨by decide, by decide, by decide⟩
  | bump => exact ⟨by decide, by decide, by decide⟩
  | bare => exact ⟨by decide, by decide, by decide⟩
  | swap => exact ⟨by decide, by decide, by decide⟩
  | face c => rcases nesw_cases he with rfl | rfl | rfl | rfl <;> exact ⟨by decide, by decide, by decide⟩
  | go n => exact ⟨by simp [En.l, plains, plain], by simp [En.l, okd, okds], by simp [En.l, eqds, eqd]⟩
  | sign z =>
    have := sign_okS he
    unfold okS at this
    exact ⟨by simp [En.l, plains, plain]; simpa using this, by simp [En.l, okd, okds]; simpa using this, by simp [En.l, eqds, eqd]⟩
  | spy n z =>
    have := sign_okS he.2
    unfold okS at this
    exact ⟨by simp [En.l, plains, plain]; simpa using this, by simp [En.l, okd, okds]; simpa using this, by simp [En.l, eqds, eqd]⟩
theorem st_plain {s : St} (h : okLook s.look) : plain 2 s.d = true := by
  have : okS s.look = true := by
    rcases h with h | ⟨c, hc, h⟩
    · rw [h]; rfl
    · rw [h]; unfold okS; simp [nesw_lt hc]
  unfold okS at this
  simp [St.d, plain, plains, LIM, this]
theorem bh_plain {lots : List Nat} : ∀ {es : List En} {s : St}, Fit lots s es → plains 2 (bh lots s es) = true ∧ (bh lots s es).length = es.length
  | [], _, _ => ⟨rfl, rfl⟩
  | e :: es, s, ⟨h1, h2, h3, h4, h5⟩ => by
    obtain ⟨g1, g2⟩ := bh_plain h5
    rw [bh, plains, Bool.and_eq_true, List.length_cons, List.length_cons, g2]
    exact ⟨⟨st_plain (nxt_look h2 h1).1, g1⟩, rfl⟩
theorem fit_ok {lots : List Nat} : ∀ {es : List En} {s : St}, Fit lots s es → ∀ e ∈ es, e.ok
  | x :: es, s, ⟨h1, h2, h3, h4, h5⟩, e, he => by
    rcases List.mem_cons.mp he with rfl | he
    · exact h1
    · exact fit_ok h5 e he
end BV

/-! BvH: facts. -/
namespace BV
open PySem L2
/-! ### sides -/
def backC (c : Nat) : Bool := c == 115 || c == 119
def sX (c : Nat) (x : Int) : Int := if backC c then x + dX c else x
def sY (c : Nat) (y : Int) : Int := if backC c then y + dY c else y
def sL (c : Nat) : Nat := if c == 110 || c == 115 then 110 else 101
def wayD (c : Nat) (x y : Int) : D := .tup [.int (sX c x), .int (sY c y), .str [sL c]]
def WyOk (cs : CS) (wy : Nat) : Prop := ∀ (c : Nat) (x y : Int), c ∈ NESW → cs wy [.fz (.tup [.int x, .int y]), .fz (.str [c])] = some (.ok (wayD c x y) false, [.un, .un])
/-! ### the facts of one entry -/
def plc (x y : Int) : D := .tup [.int x, .int y]
def lookC (s : St) : Nat := s.look.headD 0
def openD (i : Nat) (s : St) (k : Nat) : D := .tup [.int (i : Int), .str [111, 112, 101, 110], plc (sX (lookC s) (s.x + (k : Int) * dX (lookC s))) (sY (lookC s) (s.y + (k : Int) * dY (lookC s))), .str [sL (lookC s)]]
def fof (i : Nat) (s : St) : En → List D
  | .sign z => [.tup [.int (i : Int), .str [115, 105, 103, 110], plc s.x s.y, .str z]]
  | .bare => [.tup [.int (i : Int), .str [98, 97, 114, 101], plc s.x s.y, .str []]]
  | .spy n z => [.tup [.int (i : Int), .str [115, 105, 103, 110], plc (s.x + (n : Int) * dX (lookC s)) (s.y + (n : Int) * dY (lookC s)), .str z]]
  | .bump => [.tup [.int (i : Int), .str [115, 104, 117, 116], plc (sX (lookC s) s.x) (sY (lookC s) s.y), .str [sL (lookC s)]]]
  | .go n => (List.range n).map (openD i s)
  | _ => []
theorem fof_len {i : Nat} {s : St} {e : En} (he : e.ok) : (fof i s e).length ≤ 9 := by
  cases e <;> simp [fof]
  exact he.2
def fx (lots : List Nat) : St → Nat → List En → List D
  | _, _, [] => []
  | s, i, e :: r => fof i s e ++ fx lots (nxt lots s e) (i + 1) r
def enumF : Nat → List D → List D
  | _, [] => []
  | i, x :: r => .tup [.int (i : Int), x] :: enumF (i + 1) r
theorem enumF_eq : ∀ (xs : List D) (k : Nat), (xs.mapIdx fun i d => D.tup [.int (Int.ofNat (i + k)), d]) = enumF k xs
  | [], _ => rfl
  | x :: xs, k => by
    rw [List.mapIdx_cons, enumF, ← enumF_eq xs (k + 1)]
    congr 1
    · simp
    · apply List.mapIdx_eq_mapIdx_iff.mpr
      intro i hi
      have : i + 1 + k = i + (k + 1) := by omega
      rw [this]
theorem enum_F (xs : List D) : enumD xs = enumF 0 xs := by rw [← enumF_eq xs 0]; rfl
/-! ### facts_of -/
def fFactsOf (m wy : Nat) : Fn := ⟨4, 12, [.asg (.sp [.nm 4] 5) (.var 1),
    .iff (.prim .eq [(.var 4), (.str [115, 105, 103, 110])])
      [.ret (.prim .lst [(.prim .tup [(.var 0), (.str [115, 105, 103, 110]), (.var 2), (.prim .ix [(.var 5), (.int 0)])])])]
      [],
    .iff (.prim .eq [(.var 4), (.str [98, 97, 114, 101])])
      [.ret (.prim .lst [(.prim .tup [(.var 0), (.str [98, 97, 114, 101]), (.var 2), (.str [])])])]
      [],
    .iff (.prim .eq [(.var 4), (.str [115, 112, 121])])
      [.ret (.prim .lst [(.prim .tup [(.var 0), (.str [115, 105, 103, 110]), (.call m [(.var 2), (.var 3), (.prim .ix [(.var 5), (.int 0)])]), (.prim .ix [(.var 5), (.int 1)])])])]
      [],
    .asg (.nm 6) (.prim .lst []),
    .iff (.prim .eq [(.var 4), (.str [103, 111])])
      [.asg (.nm 6) (.lc [11] (.nm 11) .range [(.prim .ix [(.var 5), (.int 0)])] [] (.prim .tup [(.str [111, 112, 101, 110]), (.call wy [(.call m [(.var 2), (.var 3), (.var 11)]), (.var 3)])]))]
      [],
    .iff (.prim .eq [(.var 4), (.str [98, 117, 109, 112])])
      [.asg (.nm 6) (.prim .lst [(.prim .tup [(.str [115, 104, 117, 116]), (.call wy [(.var 2), (.var 3)])])])]
      [],
    .ret (.lc [7, 8, 9, 10] (.tp [.nm 7, .tp [.nm 8, .nm 9, .nm 10]]) .seq [(.var 6)] [] (.prim .tup [(.var 0), (.var 7), (.prim .tup [(.var 8), (.var 9)]), (.var 10)]))]⟩
def MvOk (cs : CS) (m : Nat) : Prop := ∀ (c n : Nat) (x y : Int), c ∈ NESW → n ≤ 9 → cs m [.fz (.tup [.int x, .int y]), .fz (.str [c]), .fz (.int (n : Int))] = some (.ok (.tup [.int (x + (n : Int) * dX c), .int (y + (n : Int) * dY c)]) false, [.un, .un, .un])
theorem rng_mem {n : Nat} {x : D} (h : x ∈ rng n) : ∃ k : Nat, k < n ∧ x = .int (k : Int) := by
  unfold rng at h
  obtain ⟨k, hk, rfl⟩ := List.mem_map.mp h
  exact ⟨k, List.mem_range.mp hk, rfl⟩
def natD : D → Nat
  | .int i => i.toNat
  | _ => 0
theorem rng_map {α : Type} (g : Nat → α) (n : Nat) : (rng n).map (fun d => g (natD d)) = (List.range n).map g := by
  unfold rng
  rw [List.map_map]
  rfl
def tellD (w : List Nat) (c : Nat) (x y : Int) : D := .tup [.str w, wayD c x y]
theorem lc_go {cs : CS} {m wy : Nat} (hm : MvOk cs m) (hw : WyOk cs wy) {c : Nat} (hc : c ∈ NESW) (x y : Int) (n : Nat) (hn : n ≤ 9) (c0 c1 c4 c5 c6 c7 c8 c9 c10 : Cell) : ∃ c11, lcGo (lcStep cs [11] (.nm 11) [] (.prim .tup [(.str [111, 112, 101, 110]), (.call wy [(.call m [(.var 2), (.var 3), (.var 11)]), (.var 3)])])) (rng n) [] [c0, c1, .fz (.tup [.int x, .int y]), .fz (.str [c]), c4, c5, c6, c7, c8, c9, c10, .un] =
    .ok ((List.range n).map fun k : Nat => tellD [111, 112, 101, 110] c (x + (k : Int) * dX c) (y + (k : Int) * dY c)) [c0, c1, .fz (.tup [.int x, .int y]), .fz (.str [c]), c4, c5, c6, c7, c8, c9, c10, c11] := by
  obtain ⟨ρ', h1, c11, h2⟩ := lc_map (step := lcStep cs [11] (.nm 11) [] (.prim .tup [(.str [111, 112, 101, 110]), (.call wy [(.call m [(.var 2), (.var 3), (.var 11)]), (.var 3)])])) (g := fun d => tellD [111, 112, 101, 110] c (x + (natD d : Int) * dX c) (y + (natD d : Int) * dY c)) (xs := rng n) (ρ := [c0, c1, .fz (.tup [.int x, .int y]), .fz (.str [c]), c4, c5, c6, c7, c8, c9, c10, .un])
    (fun ρ => ∃ c11, ρ = [c0, c1, .fz (.tup [.int x, .int y]), .fz (.str [c]), c4, c5, c6, c7, c8, c9, c10, c11]) ⟨_, rfl⟩ (by rw [rng_len]; unfold LIM; omega) (fun d hd ρ ⟨c11, e⟩ => by
      subst e
      obtain ⟨k, hk, rfl⟩ := rng_mem hd
      have e1 := hm c k x y hc (by omega)
      have e2 := hw c (x + (k : Int) * dX c) (y + (k : Int) * dY c) hc
      refine ⟨[c0, c1, .fz (.tup [.int x, .int y]), .fz (.str [c]), c4, c5, c6, c7, c8, c9, c10, .fz (.int (k : Int))], ?_, _, rfl⟩
      have hnd : natD (.int (k : Int)) = k := rfl
      rw [hnd]
      obtain ⟨X, hX⟩ : ∃ X, X = x + (k : Int) * dX c := ⟨_, rfl⟩
      obtain ⟨Y, hY⟩ : ∃ Y, Y = y + (k : Int) * dY c := ⟨_, rfl⟩
      rw [← hX, ← hY] at e1 e2 ⊢
      simp [runFn, wx_for, w_lc, w_meth, w_glob, w_dsp, w_gdix, w_gdin, wt_gdin, w_ch, wt_ch, wx_par, wx_aug, wx_retN, wx_raise, wx_tryH, hd_0, hd_n, hd_s, wx_tr, noEx, unname, isxS, fldS, lookF, wx_brk, wx_cont, st_tl, st_tt, st_0, st_1, evc_0, evc_1, lcStep, fStep, argOf, onVar, isVar, Cell.on, gets, Ag.get, Cell.val, P.pk, P.sem, P.rcv, M.rcv, M.pk, semAt, tyn, isiS, isiOne, tyNames, tru, isN, callK, pks, nodupB, agCells, agCell, giv, backs, back, locks, unlocks, unl, noOwn, wiped, putsAt, R.only, unbrk, stv, finOf, Cell.keep, pin_un, pin_fz, pin_ow, pin_pr, pin_pz, pin_lk, Cell.mt, Cell.put, Cell.lock, Cell.unlock, intS, cmpS, cmpI, ixS, lenS, e1, e2, tellD, LIM])
  subst h2
  refine ⟨c11, ?_⟩
  rw [h1, ← rng_map (fun k : Nat => tellD [111, 112, 101, 110] c (x + (k : Int) * dX c) (y + (k : Int) * dY c)) n]
def toldG (i : Int) : D → D
  | .tup [w, .tup [x, y, l]] => .tup [.int i, w, .tup [x, y], l]
  | _ => .non
theorem lc_told {cs : CS} (i : Int) (ts : List D) (hl : ts.length < 1000) (ht : ∀ d ∈ ts, ∃ w c x y, d = tellD w c x y) (c1 c2 c3 c4 c5 c6 c11 : Cell) : ∃ c7 c8 c9 c10, lcGo (lcStep cs [7, 8, 9, 10] (.tp [.nm 7, .tp [.nm 8, .nm 9, .nm 10]]) [] (.prim .tup [(.var 0), (.var 7), (.prim .tup [(.var 8), (.var 9)]), (.var 10)])) ts [] [.fz (.int i), c1, c2, c3, c4, c5, c6, .un, .un, .un, .un, c11] =
    .ok (ts.map (toldG i)) [.fz (.int i), c1, c2, c3, c4, c5, c6, c7, c8, c9, c10, c11] := by
  obtain ⟨ρ', h1, c7, c8, c9, c10, h2⟩ := lc_map (step := lcStep cs [7, 8, 9, 10] (.tp [.nm 7, .tp [.nm 8, .nm 9, .nm 10]]) [] (.prim .tup [(.var 0), (.var 7), (.prim .tup [(.var 8), (.var 9)]), (.var 10)])) (g := toldG i) (xs := ts) (ρ := [.fz (.int i), c1, c2, c3, c4, c5, c6, .un, .un, .un, .un, c11])
    (fun ρ => ∃ c7 c8 c9 c10, ρ = [.fz (.int i), c1, c2, c3, c4, c5, c6, c7, c8, c9, c10, c11]) ⟨_, _, _, _, rfl⟩ (by unfold LIM; omega) (fun d hd ρ ⟨c7, c8, c9, c10, e⟩ => by
      subst e
      obtain ⟨w, c, x, y, rfl⟩ := ht d hd
      refine ⟨[.fz (.int i), c1, c2, c3, c4, c5, c6, .fz (.str w), .fz (.int (sX c x)), .fz (.int (sY c y)), .fz (.str [sL c]), c11], ?_, _, _, _, _, rfl⟩
      simp [runFn, wx_for, w_lc, w_meth, w_glob, w_dsp, w_gdix, w_gdin, wt_gdin, w_ch, wt_ch, wx_par, wx_aug, wx_retN, wx_raise, wx_tryH, hd_0, hd_n, hd_s, wx_tr, noEx, unname, isxS, fldS, lookF, wx_brk, wx_cont, st_tl, st_tt, st_0, st_1, evc_0, evc_1, lcStep, fStep, argOf, onVar, isVar, Cell.on, gets, Ag.get, Cell.val, P.pk, P.sem, P.rcv, M.rcv, M.pk, semAt, tyn, isiS, isiOne, tyNames, tru, isN, callK, pks, nodupB, agCells, agCell, giv, backs, back, locks, unlocks, unl, noOwn, wiped, putsAt, R.only, unbrk, stv, finOf, Cell.keep, pin_un, pin_fz, pin_ow, pin_pr, pin_pz, pin_lk, Cell.mt, Cell.put, Cell.lock, Cell.unlock, intS, cmpS, cmpI, ixS, lenS, tellD, wayD, toldG, LIM])
  subst h2
  exact ⟨c7, c8, c9, c10, h1⟩
theorem told_go (i : Nat) (s : St) (n : Nat) {c : Nat} (h : s.look = [c]) : ((List.range n).map fun k : Nat => tellD [111, 112, 101, 110] c (s.x + (k : Int) * dX c) (s.y + (k : Int) * dY c)).map (toldG (i : Int)) = (List.range n).map (openD i s) := by
  rw [List.map_map]
  apply List.map_congr_left
  intro k _
  simp [openD, lookC, h, tellD, wayD, toldG, plc]
theorem row_st4 {e : En} {d : D} (h : Row e d) (he : e.l.length ≤ 100) (ρ : Rho) : stt (.sp [.nm 4] 5) d false ρ = (stts [.nm 4] [.str e.word] ρ).bind fun ρ' => stv ρ' 5 (.lst e.rest) true := by
  have hl : e.l.length = e.rest.length + 1 := by rw [en_l]; rfl
  rcases h with rfl | rfl
  · rw [st_st, if_pos ⟨by rw [hl]; simp, by omega⟩, en_l]; rfl
  · rw [st_sl, if_pos ⟨by rw [hl]; simp, by omega⟩, en_l]; rfl
theorem ix_l1 (x y : D) (r : List D) : ixS (.lst (x :: y :: r)) (.int 1) = some (y, false) := by
  show (atd (x :: y :: r) 1).map _ = _
  rw [at_1']; rfl
theorem factsof_ok {cs : CS} {m wy : Nat} (hm : MvOk cs m) (hw : WyOk cs wy) (e : En) (d : D) (hd : Row e d) (he : e.ok) (s : St) (hb : e.blind = false → ∃ c, c ∈ NESW ∧ s.look = [c]) (i : Nat) :
    runFn cs (fFactsOf m wy) [.fz (.int (i : Int)), .fz d, .fz (.tup [.int s.x, .int s.y]), .fz (.str s.look)] = some (.ok (.lst (fof i s e)) true, [.un, .un, .un, .un]) := by
  have hst := fun ρ => row_st4 hd (by cases e <;> simp [En.l]) ρ
  obtain ⟨I, hI⟩ : ∃ I : Int, I = (i : Int) := ⟨_, rfl⟩
  have hemp : ∀ (c1 c2 c3 c4 c5 c6 c11 : Cell), lcGo (lcStep cs [7, 8, 9, 10] (.tp [.nm 7, .tp [.nm 8, .nm 9, .nm 10]]) [] (.prim .tup [(.var 0), (.var 7), (.prim .tup [(.var 8), (.var 9)]), (.var 10)])) [] [] [.fz (.int I), c1, c2, c3, c4, c5, c6, .un, .un, .un, .un, c11] = .ok [] [.fz (.int I), c1, c2, c3, c4, c5, c6, .un, .un, .un, .un, c11] := fun _ _ _ _ _ _ _ => rfl
  cases e with
  | left => simp [runFn, wx_for, w_lc, w_meth, w_glob, w_dsp, w_gdix, w_gdin, wt_gdin, w_ch, wt_ch, wx_par, wx_aug, wx_retN, wx_raise, wx_tryH, hd_0, hd_n, hd_s, wx_tr, noEx, unname, isxS, fldS, lookF, wx_brk, wx_cont, st_tl, st_tt, st_0, st_1, evc_0, evc_1, lcStep, fStep, argOf, onVar, isVar, Cell.on, gets, Ag.get, Cell.val, P.pk, P.sem, P.rcv, M.rcv, M.pk, semAt, tyn, isiS, isiOne, tyNames, tru, isN, callK, pks, nodupB, agCells, agCell, giv, backs, back, locks, unlocks, unl, noOwn, wiped, putsAt, R.only, unbrk, stv, finOf, Cell.keep, pin_un, pin_fz, pin_ow, pin_pr, pin_pz, pin_lk, Cell.mt, Cell.put, Cell.lock, Cell.unlock, intS, cmpS, cmpI, lenS, fFactsOf, hst, En.word, En.rest, eq_str, okS, fof, s_lst, lcGo_0, LIM]
  | right => simp [runFn, wx_for, w_lc, w_meth, w_glob, w_dsp, w_gdix, w_gdin, wt_gdin, w_ch, wt_ch, wx_par, wx_aug, wx_retN, wx_raise, wx_tryH, hd_0, hd_n, hd_s, wx_tr, noEx, unname, isxS, fldS, lookF, wx_brk, wx_cont, st_tl, st_tt, st_0, st_1, evc_0, evc_1, lcStep, fStep, argOf, onVar, isVar, Cell.on, gets, Ag.get, Cell.val, P.pk, P.sem, P.rcv, M.rcv, M.pk, semAt, tyn, isiS, isiOne, tyNames, tru, isN, callK, pks, nodupB, agCells, agCell, giv, backs, back, locks, unlocks, unl, noOwn, wiped, putsAt, R.only, unbrk, stv, finOf, Cell.keep, pin_un, pin_fz, pin_ow, pin_pr, pin_pz, pin_lk, Cell.mt, Cell.put, Cell.lock, Cell.unlock, intS, cmpS, cmpI, lenS, fFactsOf, hst, En.word, En.rest, eq_str, okS, fof, s_lst, lcGo_0, LIM]
  | back => simp [runFn, wx_for, w_lc, w_meth, w_glob, w_dsp, w_gdix, w_gdin, wt_gdin, w_ch, wt_ch, wx_par, wx_aug, wx_retN, wx_raise, wx_tryH, hd_0, hd_n, hd_s, wx_tr, noEx, unname, isxS, fldS, lookF, wx_brk, wx_cont, st_tl, st_tt, st_0, st_1, evc_0, evc_1, lcStep, fStep, argOf, onVar, isVar, Cell.on, gets, Ag.get, Cell.val, P.pk, P.sem, P.rcv, M.rcv, M.pk, semAt, tyn, isiS, isiOne, tyNames, tru, isN, callK, pks, nodupB, agCells, agCell, giv, backs, back, locks, unlocks, unl, noOwn, wiped, putsAt, R.only, unbrk, stv, finOf, Cell.keep, pin_un, pin_fz, pin_ow, pin_pr, pin_pz, pin_lk, Cell.mt, Cell.put, Cell.lock, Cell.unlock, intS, cmpS, cmpI, lenS, fFactsOf, hst, En.word, En.rest, eq_str, okS, fof, s_lst, lcGo_0, LIM]
  | swap => simp [runFn, wx_for, w_lc, w_meth, w_glob, w_dsp, w_gdix, w_gdin, wt_gdin, w_ch, wt_ch, wx_par, wx_aug, wx_retN, wx_raise, wx_tryH, hd_0, hd_n, hd_s, wx_tr, noEx, unname, isxS, fldS, lookF, wx_brk, wx_cont, st_tl, st_tt, st_0, st_1, evc_0, evc_1, lcStep, fStep, argOf, onVar, isVar, Cell.on, gets, Ag.get, Cell.val, P.pk, P.sem, P.rcv, M.rcv, M.pk, semAt, tyn, isiS, isiOne, tyNames, tru, isN, callK, pks, nodupB, agCells, agCell, giv, backs, back, locks, unlocks, unl, noOwn, wiped, putsAt, R.only, unbrk, stv, finOf, Cell.keep, pin_un, pin_fz, pin_ow, pin_pr, pin_pz, pin_lk, Cell.mt, Cell.put, Cell.lock, Cell.unlock, intS, cmpS, cmpI, lenS, fFactsOf, hst, En.word, En.rest, eq_str, okS, fof, s_lst, lcGo_0, LIM]
  | face c => simp [runFn, wx_for, w_lc, w_meth, w_glob, w_dsp, w_gdix, w_gdin, wt_gdin, w_ch, wt_ch, wx_par, wx_aug, wx_retN, wx_raise, wx_tryH, hd_0, hd_n, hd_s, wx_tr, noEx, unname, isxS, fldS, lookF, wx_brk, wx_cont, st_tl, st_tt, st_0, st_1, evc_0, evc_1, lcStep, fStep, argOf, onVar, isVar, Cell.on, gets, Ag.get, Cell.val, P.pk, P.sem, P.rcv, M.rcv, M.pk, semAt, tyn, isiS, isiOne, tyNames, tru, isN, callK, pks, nodupB, agCells, agCell, giv, backs, back, locks, unlocks, unl, noOwn, wiped, putsAt, R.only, unbrk, stv, finOf, Cell.keep, pin_un, pin_fz, pin_ow, pin_pr, pin_pz, pin_lk, Cell.mt, Cell.put, Cell.lock, Cell.unlock, intS, cmpS, cmpI, lenS, fFactsOf, hst, En.word, En.rest, eq_str, okS, fof, s_lst, lcGo_0, LIM]
  | bare => simp [runFn, wx_for, w_lc, w_meth, w_glob, w_dsp, w_gdix, w_gdin, wt_gdin, w_ch, wt_ch, wx_par, wx_aug, wx_retN, wx_raise, wx_tryH, hd_0, hd_n, hd_s, wx_tr, noEx, unname, isxS, fldS, lookF, wx_brk, wx_cont, st_tl, st_tt, st_0, st_1, evc_0, evc_1, lcStep, fStep, argOf, onVar, isVar, Cell.on, gets, Ag.get, Cell.val, P.pk, P.sem, P.rcv, M.rcv, M.pk, semAt, tyn, isiS, isiOne, tyNames, tru, isN, callK, pks, nodupB, agCells, agCell, giv, backs, back, locks, unlocks, unl, noOwn, wiped, putsAt, R.only, unbrk, stv, finOf, Cell.keep, pin_un, pin_fz, pin_ow, pin_pr, pin_pz, pin_lk, Cell.mt, Cell.put, Cell.lock, Cell.unlock, intS, cmpS, cmpI, lenS, fFactsOf, hst, En.word, En.rest, eq_str, okS, fof, plc, LIM]
  | sign z => simp [runFn, wx_for, w_lc, w_meth, w_glob, w_dsp, w_gdix, w_gdin, wt_gdin, w_ch, wt_ch, wx_par, wx_aug, wx_retN, wx_raise, wx_tryH, hd_0, hd_n, hd_s, wx_tr, noEx, unname, isxS, fldS, lookF, wx_brk, wx_cont, st_tl, st_tt, st_0, st_1, evc_0, evc_1, lcStep, fStep, argOf, onVar, isVar, Cell.on, gets, Ag.get, Cell.val, P.pk, P.sem, P.rcv, M.rcv, M.pk, semAt, tyn, isiS, isiOne, tyNames, tru, isN, callK, pks, nodupB, agCells, agCell, giv, backs, back, locks, unlocks, unl, noOwn, wiped, putsAt, R.only, unbrk, stv, finOf, Cell.keep, pin_un, pin_fz, pin_ow, pin_pr, pin_pz, pin_lk, Cell.mt, Cell.put, Cell.lock, Cell.unlock, intS, cmpS, cmpI, lenS, fFactsOf, hst, En.word, En.rest, eq_str, okS, fof, plc, ix_l0, LIM]
  | spy n z =>
    obtain ⟨c, hc, hlk⟩ := hb rfl
    have e1 := hm c n s.x s.y hc he.1.2
    have hlc : lookC s = c := by rw [lookC, hlk]; rfl
    rw [hlk]
    simp [runFn, wx_for, w_lc, w_meth, w_glob, w_dsp, w_gdix, w_gdin, wt_gdin, w_ch, wt_ch, wx_par, wx_aug, wx_retN, wx_raise, wx_tryH, hd_0, hd_n, hd_s, wx_tr, noEx, unname, isxS, fldS, lookF, wx_brk, wx_cont, st_tl, st_tt, st_0, st_1, evc_0, evc_1, lcStep, fStep, argOf, onVar, isVar, Cell.on, gets, Ag.get, Cell.val, P.pk, P.sem, P.rcv, M.rcv, M.pk, semAt, tyn, isiS, isiOne, tyNames, tru, isN, callK, pks, nodupB, agCells, agCell, giv, backs, back, locks, unlocks, unl, noOwn, wiped, putsAt, R.only, unbrk, stv, finOf, Cell.keep, pin_un, pin_fz, pin_ow, pin_pr, pin_pz, pin_lk, Cell.mt, Cell.put, Cell.lock, Cell.unlock, intS, cmpS, cmpI, lenS, fFactsOf, hst, En.word, En.rest, eq_str, okS, fof, plc, ix_l0, ix_l1, e1, hlc, LIM]
  | bump =>
    obtain ⟨c, hc, hlk⟩ := hb rfl
    have e1 := hw c s.x s.y hc
    have hlc : lookC s = c := by rw [lookC, hlk]; rfl
    rw [hlk]
    obtain ⟨c7, c8, c9, c10, e2⟩ := lc_told (cs := cs) (i : Int) [tellD [115, 104, 117, 116] c s.x s.y] (by simp) (fun d hd => ⟨[115, 104, 117, 116], c, s.x, s.y, List.mem_singleton.mp hd⟩) .un (.fz (.tup [.int s.x, .int s.y])) (.fz (.str [c])) .un .un .un .un
    simp [runFn, wx_for, w_lc, w_meth, w_glob, w_dsp, w_gdix, w_gdin, wt_gdin, w_ch, wt_ch, wx_par, wx_aug, wx_retN, wx_raise, wx_tryH, hd_0, hd_n, hd_s, wx_tr, noEx, unname, isxS, fldS, lookF, wx_brk, wx_cont, st_tl, st_tt, st_0, st_1, evc_0, evc_1, lcStep, fStep, argOf, onVar, isVar, Cell.on, gets, Ag.get, Cell.val, P.pk, P.sem, P.rcv, M.rcv, M.pk, semAt, tyn, isiS, isiOne, tyNames, tru, isN, callK, pks, nodupB, agCells, agCell, giv, backs, back, locks, unlocks, unl, noOwn, wiped, putsAt, R.only, unbrk, stv, finOf, Cell.keep, pin_un, pin_fz, pin_ow, pin_pr, pin_pz, pin_lk, Cell.mt, Cell.put, Cell.lock, Cell.unlock, intS, cmpS, cmpI, lenS, fFactsOf, hst, En.word, En.rest, eq_str, okS, fof, plc, s_lst, e1, hlc, LIM, lcGo_1, lcGo_0, wayD]
  | go n =>
    obtain ⟨c, hc, hlk⟩ := hb rfl
    have hlc : lookC s = c := by rw [lookC, hlk]; rfl
    have hr : IK.range.sem [.int (n : Int)] = some (rng n) := by have := he.2; rw [s_rng (by omega) (by omega)]; simp
    have hT := told_go i s n hlk
    obtain ⟨c11, e1⟩ := lc_go hm hw hc s.x s.y n he.2 (.fz (.int (i : Int))) (.fz d) (.fz (.str [103, 111])) (.ow (.lst [.int (n : Int)])) (.ow (.lst [])) .un .un .un .un
    obtain ⟨T, hTT⟩ : ∃ T, T = (List.range n).map fun k : Nat => tellD [111, 112, 101, 110] c (s.x + (k : Int) * dX c) (s.y + (k : Int) * dY c) := ⟨_, rfl⟩
    have hTl : T.length < 1000 := by rw [hTT]; simp; have := he.2; omega
    have hTm : ∀ d ∈ T, ∃ w c x y, d = tellD w c x y := fun d hd => by
      rw [hTT] at hd
      obtain ⟨k, _, rfl⟩ := List.mem_map.mp hd
      exact ⟨_, _, _, _, rfl⟩
    rw [← hTT] at e1 hT
    obtain ⟨c7, c8, c9, c10, e2⟩ := lc_told (cs := cs) (i : Int) T hTl hTm (.fz d) (.fz (.tup [.int s.x, .int s.y])) (.fz (.str [c])) (.fz (.str [103, 111])) (.ow (.lst [.int (n : Int)])) (.lk false (.lst T)) .un
    rw [hlk]
    obtain ⟨X, hX⟩ : ∃ X, X = rng n := ⟨_, rfl⟩
    rw [← hX] at hr e1
    have hfo : fof i s (.go n) = (List.range n).map (openD i s) := rfl
    rw [hfo, ← hT]
    obtain ⟨O, hO⟩ : ∃ O, O = T.map (toldG (i : Int)) := ⟨_, rfl⟩
    rw [← hO] at e2 ⊢
    obtain ⟨I, hI⟩ : ∃ I : Int, I = (i : Int) := ⟨_, rfl⟩
    obtain ⟨N, hN⟩ : ∃ N : Int, N = (n : Int) := ⟨_, rfl⟩
    have hrest : (En.go n).rest = [.int N] := by rw [hN]; rfl
    rw [← hI, ← hN] at e1 e2
    rw [← hN] at hr
    rw [← hI]
    simp [runFn, wx_for, w_lc, w_meth, w_glob, w_dsp, w_gdix, w_gdin, wt_gdin, w_ch, wt_ch, wx_par, wx_aug, wx_retN, wx_raise, wx_tryH, hd_0, hd_n, hd_s, wx_tr, noEx, unname, isxS, fldS, lookF, wx_brk, wx_cont, st_tl, st_tt, st_0, st_1, evc_0, evc_1, lcStep, fStep, argOf, onVar, isVar, Cell.on, gets, Ag.get, Cell.val, P.pk, P.sem, P.rcv, M.rcv, M.pk, semAt, tyn, isiS, isiOne, tyNames, tru, isN, callK, pks, nodupB, agCells, agCell, giv, backs, back, locks, unlocks, unl, noOwn, wiped, putsAt, R.only, unbrk, stv, finOf, Cell.keep, pin_un, pin_fz, pin_ow, pin_pr, pin_pz, pin_lk, Cell.mt, Cell.put, Cell.lock, Cell.unlock, intS, cmpS, cmpI, lenS, fFactsOf, hst, hrest, En.word, eq_str, okS, ix_l0, hr, e1, s_lst, e2, LIM]
end BV

/-! BvF: facts of a log. -/
namespace BV
open PySem L2
theorem Rows.get {es : List En} {ds : List D} (h : Rows es ds) : ∀ {i : Nat} {e : En} {r : List En}, es.drop i = e :: r → ∃ d, ds[i]? = some d ∧ Row e d := by
  induction h with
  | nil => intro i e r h; simp at h
  | cons a _ ih =>
    intro i e r h
    cases i with
    | zero =>
      rw [List.drop_zero] at h
      injection h with h1 h2
      subst h1
      exact ⟨_, rfl, a⟩
    | succ i =>
      rw [List.drop_succ_cons] at h
      obtain ⟨d, h1, h2⟩ := ih h
      exact ⟨d, by simpa using h1, h2⟩
theorem atd_at {xs : List D} {i : Nat} {d : D} (h : xs[i]? = some d) : atd xs (i : Int) = some d := by
  have hi := (List.getElem?_eq_some_iff.mp h).1
  unfold atd ixd
  rw [if_pos (by omega), if_pos (by omega)]
  simpa using h
theorem Log.ix {es : List En} {d : D} (h : Log es d) {i : Nat} {e : En} {r : List En} (hi : es.drop i = e :: r) : ∃ x, ixS d (.int (i : Int)) = some (x, false) ∧ Row e x := by
  obtain ⟨ds, h, rfl | rfl⟩ := h
  · obtain ⟨x, h1, h2⟩ := h.get hi
    exact ⟨x, by show (atd ds _).map _ = _; rw [atd_at h1]; rfl, h2⟩
  · obtain ⟨x, h1, h2⟩ := h.get hi
    exact ⟨x, by show (atd ds _).map _ = _; rw [atd_at h1]; rfl, h2⟩
theorem drop_next {α : Type} {l : List α} {i : Nat} {e : α} {r : List α} (h : l.drop i = e :: r) : l.drop (i + 1) = r := by
  have := congrArg List.tail h
  simpa using this
def TG : T := .tp [.nm 3, .tp [.nm 4, .tp [.nm 5, .nm 6], .nm 7]]
def fFacts (h g w fo : Nat) : Fn := ⟨2, 8, [.ex (.call h [(.var 1), (.call g [(.var 0)])]),
    .asg (.nm 2) (.prim .lst []),
    .for (.tp [.nm 3, .tp [.nm 4, .tp [.nm 5, .nm 6], .nm 7]]) .enum [(.call w [(.var 0), (.var 1)])]
      [.ex (.mut .extend 2 [(.call fo [(.var 3), (.prim .ix [(.var 0), (.var 3)]), (.var 5), (.var 6)])])],
    .ret (.prim .tuple [(.var 2)])]⟩
/-- the facts of an entry are told there -/
def FoOk (cs : CS) (fo : Nat) : Prop := ∀ (e : En) (d : D) (s : St) (i : Nat), Row e d → e.ok → (e.blind = false → ∃ c, c ∈ NESW ∧ s.look = [c]) →
  cs fo [.fz (.int (i : Int)), .fz d, .fz (.tup [.int s.x, .int s.y]), .fz (.str s.look)] = some (.ok (.lst (fof i s e)) true, [.un, .un, .un, .un])
theorem facts_for {cs : CS} {fo : Nat} (hfo : FoOk cs fo) {lots : List Nat} {es : List En} {d dl : D} (hd : Log es d) (hl : es.length < 1000) (hf : Fit lots s0 es) : ∃ c3 c4 c5 c6 c7, forGo (fStep cs (.tp [.nm 3, .tp [.nm 4, .tp [.nm 5, .nm 6], .nm 7]]) [.ex (.mut .extend 2 [(.call fo [(.var 3), (.prim .ix [(.var 0), (.var 3)]), (.var 5), (.var 6)])])]) (enumF 0 (wk lots s0 es)) [.fz d, .fz dl, .ow (.lst []), .un, .un, .un, .un, .un] =
    .nx [.fz d, .fz dl, .ow (.lst (fx lots s0 0 es)), c3, c4, c5, c6, c7] := by
  obtain ⟨ρ', g1, i, es', s, found, c3, c4, c5, c6, c7, g2, g3, g4, g5, g6, g7, g8, g9, g10, g11, g12, g13⟩ := for_inv (step := fStep cs (.tp [.nm 3, .tp [.nm 4, .tp [.nm 5, .nm 6], .nm 7]]) [.ex (.mut .extend 2 [(.call fo [(.var 3), (.prim .ix [(.var 0), (.var 3)]), (.var 5), (.var 6)])])])
    (fun r ρ => ∃ (i : Nat) (es' : List En) (s : St) (found : List D) (c3 c4 c5 c6 c7 : Cell), c3.pin = false ∧ c4.pin = false ∧ c5.pin = false ∧ c6.pin = false ∧ c7.pin = false ∧ r = enumF i (wk lots s es') ∧ es.drop i = es' ∧ Fit lots s es' ∧ found ++ fx lots s i es' = fx lots s0 0 es ∧ found.length ≤ 9 * i ∧ i + es'.length = es.length ∧ ρ = [.fz d, .fz dl, .ow (.lst found), c3, c4, c5, c6, c7]) (enumF 0 (wk lots s0 es)) [.fz d, .fz dl, .ow (.lst []), .un, .un, .un, .un, .un]
    ⟨0, es, s0, [], .un, .un, .un, .un, .un, rfl, rfl, rfl, rfl, rfl, rfl, rfl, hf, rfl, by simp, by simp, rfl⟩
    (fun x r ρ ⟨i, es', s, found, c3, c4, c5, c6, c7, q3, q4, q5, q6, q7, h1, h2, h3, h4, h5, h6, e⟩ => by
      subst e
      cases es' with
      | nil => cases h1
      | cons e es' =>
        rw [wk, enumF] at h1
        injection h1 with h1 h1'
        subst h1 h1'
        obtain ⟨k1, k2, k3, k4, k5⟩ := h3
        obtain ⟨row, hrow, hr⟩ := hd.ix h2
        have hfe := hfo e row s i hr k1 k3
        rw [List.length_cons] at h6
        have hfl := fof_len (i := i) (s := s) k1
        have hb : found.length + (fof i s e).length ≤ 1000000 := by omega
        refine ⟨[.fz d, .fz dl, .ow (.lst (found ++ fof i s e)), .fz (.int (i : Int)), .fz (.int ((nxt lots s e).leg : Int)), .fz (.tup [.int s.x, .int s.y]), .fz (.str s.look), .fz (nxt lots s e).d], ?_, i + 1, es', nxt lots s e, found ++ fof i s e, .fz (.int (i : Int)), .fz (.int ((nxt lots s e).leg : Int)), .fz (.tup [.int s.x, .int s.y]), .fz (.str s.look), .fz (nxt lots s e).d, rfl, rfl, rfl, rfl, rfl, rfl, drop_next h2, k5, ?_, ?_, by omega, rfl⟩
        · obtain ⟨I, hI⟩ : ∃ I : Int, I = (i : Int) := ⟨_, rfl⟩
          obtain ⟨O, hO⟩ : ∃ O, O = fof i s e := ⟨_, rfl⟩
          rw [← hI] at hrow
          rw [← hI, ← hO] at hfe
          rw [← hO] at hb
          rw [← hI, ← hO]
          simp [runFn, wx_for, w_lc, w_meth, w_glob, w_dsp, w_gdix, w_gdin, wt_gdin, w_ch, wt_ch, wx_par, wx_aug, wx_retN, wx_raise, wx_tryH, hd_0, hd_n, hd_s, wx_tr, noEx, unname, isxS, fldS, lookF, wx_brk, wx_cont, st_tl, st_tt, st_0, st_1, evc_0, evc_1, lcStep, fStep, argOf, onVar, isVar, Cell.on, gets, Ag.get, Cell.val, P.pk, P.sem, P.rcv, M.rcv, M.pk, semAt, tyn, isiS, isiOne, tyNames, tru, isN, callK, pks, nodupB, agCells, agCell, giv, backs, back, locks, unlocks, unl, noOwn, wiped, putsAt, R.only, unbrk, stv, finOf, Cell.keep, pin_un, pin_fz, pin_ow, pin_pr, pin_pz, pin_lk, Cell.mt, Cell.put, Cell.lock, Cell.unlock, intS, cmpS, cmpI, lenS, rowD, St.d, q3, q4, q5, q6, q7, hrow, hfe, M.sem, hb, LIM]
        · rw [fx] at h4
          rw [List.append_assoc]; exact h4
        · rw [List.length_append]; omega)
  subst g13
  have hwl : wk lots s es' = [] := by
    cases hw : wk lots s es' with
    | nil => rfl
    | cons a b => rw [hw, enumF] at g7; cases g7
  have : es' = [] := by
    have := wk_len lots es' s
    rw [hwl] at this
    exact List.length_eq_zero_iff.mp this.symm
  subst this
  rw [fx, List.append_nil] at g10
  subst g10
  exact ⟨c3, c4, c5, c6, c7, g1⟩
theorem facts_ok {cs : CS} {h g w fo : Nat} (hfo : FoOk cs fo) {lots : List Nat} {es : List En} {d dl : D} (hd : Log es d) (hl : es.length < 1000) (hf : Fit lots s0 es)
    (e1 : cs g [.fz d] = some (.ok (.int (lots.length : Int)) false, [.un])) (e2 : cs h [.fz dl, .fz (.int (lots.length : Int))] = some (.ok .non false, [.un, .un])) (e3 : cs w [.fz d, .fz dl] = some (.ok (.lst (wk lots s0 es)) true, [.un, .un])) :
    runFn cs (fFacts h g w fo) [.fz d, .fz dl] = some (.ok (.tup (fx lots s0 0 es)) false, [.un, .un]) := by
  obtain ⟨c3, c4, c5, c6, c7, g1⟩ := facts_for (dl := dl) hfo hd hl hf
  have hen := s_enum (wk lots s0 es)
  rw [enum_F] at hen
  obtain ⟨Q, hQ⟩ : ∃ Q, Q = wk lots s0 es := ⟨_, rfl⟩
  obtain ⟨X, hX⟩ : ∃ X, X = enumF 0 (wk lots s0 es) := ⟨_, rfl⟩
  obtain ⟨O, hO⟩ : ∃ O, O = fx lots s0 0 es := ⟨_, rfl⟩
  obtain ⟨z, hz⟩ : ∃ z : Int, z = (lots.length : Int) := ⟨_, rfl⟩
  rw [← hX, ← hO] at g1
  rw [← hX, ← hQ] at hen
  rw [← hz] at e1 e2
  rw [← hQ] at e3
  rw [← hO]
  simp [runFn, wx_for, w_lc, w_meth, w_glob, w_dsp, w_gdix, w_gdin, wt_gdin, w_ch, wt_ch, wx_par, wx_aug, wx_retN, wx_raise, wx_tryH, hd_0, hd_n, hd_s, wx_tr, noEx, unname, isxS, fldS, lookF, wx_brk, wx_cont, st_tl, st_tt, st_0, st_1, evc_0, evc_1, lcStep, fStep, argOf, onVar, isVar, Cell.on, gets, Ag.get, Cell.val, P.pk, P.sem, P.rcv, M.rcv, M.pk, semAt, tyn, isiS, isiOne, tyNames, tru, isN, callK, pks, nodupB, agCells, agCell, giv, backs, back, locks, unlocks, unl, noOwn, wiped, putsAt, R.only, unbrk, stv, finOf, Cell.keep, pin_un, pin_fz, pin_ow, pin_pr, pin_pz, pin_lk, Cell.mt, Cell.put, Cell.lock, Cell.unlock, intS, cmpS, cmpI, ixS, lenS, fFacts, e1, e2, e3, hen, g1, tupleS]
/-! ### the law's own facts -/
def bLFacts (o sd : Nat) : List S := [.asg (.nm 8) (.prim .ix [(.var 0), (.var 3)]),
       .iff (.prim .eq [(.prim .ix [(.var 8), (.int 0)]), (.str [115, 105, 103, 110])])
         [.ex (.mut .append 2 [(.prim .tup [(.var 3), (.str [115, 105, 103, 110]), (.var 5), (.prim .ix [(.var 8), (.int 1)])])])]
         [],
       .iff (.prim .eq [(.prim .ix [(.var 8), (.int 0)]), (.str [98, 97, 114, 101])])
         [.ex (.mut .append 2 [(.prim .tup [(.var 3), (.str [98, 97, 114, 101]), (.var 5), (.str [])])])]
         [],
       .iff (.prim .eq [(.prim .ix [(.var 8), (.int 0)]), (.str [115, 112, 121])])
         [.ex (.mut .append 2 [(.prim .tup [(.var 3), (.str [115, 105, 103, 110]), (.call o [(.var 5), (.var 6), (.prim .ix [(.var 8), (.int 1)])]), (.prim .ix [(.var 8), (.int 2)])])])]
         [],
       .iff (.prim .eq [(.prim .ix [(.var 8), (.int 0)]), (.str [98, 117, 109, 112])])
         [.asg (.nm 9) (.call sd [(.var 5), (.var 6)]),
          .ex (.mut .append 2 [(.prim .tup [(.var 3), (.str [115, 104, 117, 116]), (.prim (.sl false true) [(.var 9), (.int 2)]), (.prim .ix [(.var 9), (.int 2)])])])]
         [],
       .iff (.prim .eq [(.prim .ix [(.var 8), (.int 0)]), (.str [103, 111])])
         [.for (.nm 10) .range [(.prim .ix [(.var 8), (.int 1)])]
            [.asg (.nm 9) (.call sd [(.call o [(.var 5), (.var 6), (.var 10)]), (.var 6)]),
             .ex (.mut .append 2 [(.prim .tup [(.var 3), (.str [111, 112, 101, 110]), (.prim (.sl false true) [(.var 9), (.int 2)]), (.prim .ix [(.var 9), (.int 2)])])])]]
         []]
theorem way_sl (c : Nat) (x y : Int) : slS none (some 2) (wayD c x y) = some (plc (sX c x) (sY c y), false) := rfl
theorem way_ix (c : Nat) (x y : Int) : ixS (wayD c x y) (.int 2) = some (.str [sL c], false) := ix_t2 _ _ _ _
theorem lfacts_go {cs : CS} {o sd : Nat} (hm : MvOk cs o) (hw : WyOk cs sd) {c : Nat} (hc : c ∈ NESW) (s : St) (hlk : s.look = [c]) (i n : Nat) (hn : n ≤ 9) (c0 c1 c4 c7 c8 c9 c10 : Cell) (h9 : c9.pin = false) (h10 : c10.pin = false) (found : List D) (hf : found.length < 10000) : ∃ c9' c10', c9'.pin = false ∧ c10'.pin = false ∧
    forGo (fStep cs (.nm 10) [.asg (.nm 9) (.call sd [(.call o [(.var 5), (.var 6), (.var 10)]), (.var 6)]),
             .ex (.mut .append 2 [(.prim .tup [(.var 3), (.str [111, 112, 101, 110]), (.prim (.sl false true) [(.var 9), (.int 2)]), (.prim .ix [(.var 9), (.int 2)])])])]) (rng n) [c0, c1, .ow (.lst found), .fz (.int (i : Int)), c4, .fz (.tup [.int s.x, .int s.y]), .fz (.str [c]), c7, c8, c9, c10] =
      .nx [c0, c1, .ow (.lst (found ++ (List.range n).map (openD i s))), .fz (.int (i : Int)), c4, .fz (.tup [.int s.x, .int s.y]), .fz (.str [c]), c7, c8, c9', c10'] := by
  have hlc : lookC s = c := by rw [lookC, hlk]; rfl
  obtain ⟨ρ', g1, done, rest, c9, c10, g2, g3, g4, g5, g6⟩ := for_inv (step := fStep cs (.nm 10) [.asg (.nm 9) (.call sd [(.call o [(.var 5), (.var 6), (.var 10)]), (.var 6)]),
             .ex (.mut .append 2 [(.prim .tup [(.var 3), (.str [111, 112, 101, 110]), (.prim (.sl false true) [(.var 9), (.int 2)]), (.prim .ix [(.var 9), (.int 2)])])])])
    (fun r ρ => ∃ (done rest : List Nat) (c9 c10 : Cell), c9.pin = false ∧ c10.pin = false ∧ done ++ rest = List.range n ∧ r = rest.map (fun (k : Nat) => D.int (k : Int)) ∧ ρ = [c0, c1, .ow (.lst (found ++ done.map (openD i s))), .fz (.int (i : Int)), c4, .fz (.tup [.int s.x, .int s.y]), .fz (.str [c]), c7, c8, c9, c10]) (rng n) [c0, c1, .ow (.lst found), .fz (.int (i : Int)), c4, .fz (.tup [.int s.x, .int s.y]), .fz (.str [c]), c7, c8, c9, c10]
    ⟨[], List.range n, c9, c10, h9, h10, rfl, rfl, by simp⟩
    (fun x r ρ ⟨done, rest, c9, c10, q9, q10, q1, q2, e⟩ => by
      subst e
      cases rest with
      | nil => cases q2
      | cons k rest =>
        rw [List.map_cons] at q2
        injection q2 with q2 q3
        subst q2 q3
        have hlen := congrArg List.length q1
        rw [List.length_append, List.length_cons, List.length_range] at hlen
        have hk : k < n := by
          have : k ∈ List.range n := by rw [← q1]; simp
          exact List.mem_range.mp this
        have e1 := hm c k s.x s.y hc (by omega)
        have e2 := hw c (s.x + (k : Int) * dX c) (s.y + (k : Int) * dY c) hc
        have e3 := way_sl c (s.x + (k : Int) * dX c) (s.y + (k : Int) * dY c)
        have e4 := way_ix c (s.x + (k : Int) * dX c) (s.y + (k : Int) * dY c)
        obtain ⟨FF, hFF⟩ : ∃ FF, FF = found ++ done.map (openD i s) := ⟨_, rfl⟩
        have hFl : FF.length < 1000000 := by rw [hFF]; simp; omega
        refine ⟨[c0, c1, .ow (.lst (found ++ (done ++ [k]).map (openD i s))), .fz (.int (i : Int)), c4, .fz (.tup [.int s.x, .int s.y]), .fz (.str [c]), c7, c8, .fz (wayD c (s.x + (k : Int) * dX c) (s.y + (k : Int) * dY c)), .fz (.int (k : Int))], ?_, done ++ [k], rest, .fz (wayD c (s.x + (k : Int) * dX c) (s.y + (k : Int) * dY c)), .fz (.int (k : Int)), rfl, rfl, by simpa using q1, rfl, rfl⟩
        have hop : found ++ (done ++ [k]).map (openD i s) = FF ++ [openD i s k] := by rw [hFF]; simp
        rw [hop, ← hFF]
        have hopd : openD i s k = .tup [.int (i : Int), .str [111, 112, 101, 110], plc (sX c (s.x + (k : Int) * dX c)) (sY c (s.y + (k : Int) * dY c)), .str [sL c]] := by unfold openD; rw [hlc]
        rw [hopd]
        obtain ⟨X, hX⟩ : ∃ X, X = s.x + (k : Int) * dX c := ⟨_, rfl⟩
        obtain ⟨Y, hY⟩ : ∃ Y, Y = s.y + (k : Int) * dY c := ⟨_, rfl⟩
        obtain ⟨K, hK⟩ : ∃ K : Int, K = (k : Int) := ⟨_, rfl⟩
        rw [← hX, ← hY] at e1 e2 e3 e4 ⊢
        rw [← hK] at e1 ⊢
        simp [runFn, wx_for, w_lc, w_meth, w_glob, w_dsp, w_gdix, w_gdin, wt_gdin, w_ch, wt_ch, wx_par, wx_aug, wx_retN, wx_raise, wx_tryH, hd_0, hd_n, hd_s, wx_tr, noEx, unname, isxS, fldS, lookF, wx_brk, wx_cont, st_tl, st_tt, st_0, st_1, evc_0, evc_1, lcStep, fStep, argOf, onVar, isVar, Cell.on, gets, Ag.get, Cell.val, P.pk, P.sem, P.rcv, M.rcv, M.pk, semAt, tyn, isiS, isiOne, tyNames, tru, isN, callK, pks, nodupB, agCells, agCell, giv, backs, back, locks, unlocks, unl, noOwn, wiped, putsAt, R.only, unbrk, stv, finOf, Cell.keep, pin_un, pin_fz, pin_ow, pin_pr, pin_pz, pin_lk, Cell.mt, Cell.put, Cell.lock, Cell.unlock, intS, cmpS, cmpI, lenS, q9, q10, e1, e2, e3, e4, M.sem, hFl, LIM])
  have : rest = [] := List.map_eq_nil_iff.mp g5.symm
  subst this
  rw [List.append_nil] at g4
  subst g4 g6
  exact ⟨c9, c10, g2, g3, g1⟩
theorem lfacts_step {cs : CS} {o sd : Nat} (hm : MvOk cs o) (hw : WyOk cs sd) {lots : List Nat} {log : D} {e : En} (he : e.ok) (s : St) (hb : e.blind = false → ∃ c, c ∈ NESW ∧ s.look = [c]) (i : Nat) (hix : ixS log (.int (i : Int)) = some (e.d, false)) (c1 c3 c4 c5 c6 c7 c8 c9 c10 : Cell)
    (h3 : c3.pin = false) (h4 : c4.pin = false) (h5 : c5.pin = false) (h6 : c6.pin = false) (h7 : c7.pin = false) (h8 : c8.pin = false) (h9 : c9.pin = false) (h10 : c10.pin = false) (found : List D) (hf : found.length < 10000) : ∃ c9' c10', c9'.pin = false ∧ c10'.pin = false ∧
    fStep cs (.tp [.nm 3, .tp [.nm 4, .tp [.nm 5, .nm 6], .nm 7]]) (bLFacts o sd) (.tup [.int (i : Int), rowD s (nxt lots s e)]) [.fz log, c1, .ow (.lst found), c3, c4, c5, c6, c7, c8, c9, c10] =
      .nx [.fz log, c1, .ow (.lst (found ++ fof i s e)), .fz (.int (i : Int)), .fz (.int ((nxt lots s e).leg : Int)), .fz (.tup [.int s.x, .int s.y]), .fz (.str s.look), .fz (nxt lots s e).d, .fz e.d, c9', c10'] := by
  have hFl : found.length < 1000000 := by omega
  obtain ⟨G, hG⟩ : ∃ G : Int, G = ((nxt lots s e).leg : Int) := ⟨_, rfl⟩
  obtain ⟨N, hN⟩ : ∃ N, N = (nxt lots s e).d := ⟨_, rfl⟩
  have hrow : rowD s (nxt lots s e) = .tup [.int G, .tup [.tup [.int s.x, .int s.y], .str s.look], N] := by rw [hG, hN]; rfl
  rw [hrow, ← hG, ← hN]
  cases e with
  | left => exact ⟨c9, c10, h9, h10, by obtain ⟨I, hI⟩ : ∃ I : Int, I = (i : Int) := ⟨_, rfl⟩
                                        rw [← hI] at hix ⊢
                                        simp [runFn, wx_for, w_lc, w_meth, w_glob, w_dsp, w_gdix, w_gdin, wt_gdin, w_ch, wt_ch, wx_par, wx_aug, wx_retN, wx_raise, wx_tryH, hd_0, hd_n, hd_s, wx_tr, noEx, unname, isxS, fldS, lookF, wx_brk, wx_cont, st_tl, st_tt, st_0, st_1, evc_0, evc_1, lcStep, fStep, argOf, onVar, isVar, Cell.on, gets, Ag.get, Cell.val, P.pk, P.sem, P.rcv, M.rcv, M.pk, semAt, tyn, isiS, isiOne, tyNames, tru, isN, callK, pks, nodupB, agCells, agCell, giv, backs, back, locks, unlocks, unl, noOwn, wiped, putsAt, R.only, unbrk, stv, finOf, Cell.keep, pin_un, pin_fz, pin_ow, pin_pr, pin_pz, pin_lk, Cell.mt, Cell.put, Cell.lock, Cell.unlock, intS, cmpS, cmpI, lenS, bLFacts, h3, h4, h5, h6, h7, h8, hix, dx0, En.word, eq_str, okS, fof]⟩
  | right => exact ⟨c9, c10, h9, h10, by obtain ⟨I, hI⟩ : ∃ I : Int, I = (i : Int) := ⟨_, rfl⟩
                                         rw [← hI] at hix ⊢
                                         simp [runFn, wx_for, w_lc, w_meth, w_glob, w_dsp, w_gdix, w_gdin, wt_gdin, w_ch, wt_ch, wx_par, wx_aug, wx_retN, wx_raise, wx_tryH, hd_0, hd_n, hd_s, wx_tr, noEx, unname, isxS, fldS, lookF, wx_brk, wx_cont, st_tl, st_tt, st_0, st_1, evc_0, evc_1, lcStep, fStep, argOf, onVar, isVar, Cell.on, gets, Ag.get, Cell.val, P.pk, P.sem, P.rcv, M.rcv, M.pk, semAt, tyn, isiS, isiOne, tyNames, tru, isN, callK, pks, nodupB, agCells, agCell, giv, backs, back, locks, unlocks, unl, noOwn, wiped, putsAt, R.only, unbrk, stv, finOf, Cell.keep, pin_un, pin_fz, pin_ow, pin_pr, pin_pz, pin_lk, Cell.mt, Cell.put, Cell.lock, Cell.unlock, intS, cmpS, cmpI, lenS, bLFacts, h3, h4, h5, h6, h7, h8, hix, dx0, En.word, eq_str, okS, fof]⟩
  | back => exact ⟨c9, c10, h9, h10, by obtain ⟨I, hI⟩ : ∃ I : Int, I = (i : Int) := ⟨_, rfl⟩
                                        rw [← hI] at hix ⊢
                                        simp [runFn, wx_for, w_lc, w_meth, w_glob, w_dsp, w_gdix, w_gdin, wt_gdin, w_ch, wt_ch, wx_par, wx_aug, wx_retN, wx_raise, wx_tryH, hd_0, hd_n, hd_s, wx_tr, noEx, unname, isxS, fldS, lookF, wx_brk, wx_cont, st_tl, st_tt, st_0, st_1, evc_0, evc_1, lcStep, fStep, argOf, onVar, isVar, Cell.on, gets, Ag.get, Cell.val, P.pk, P.sem, P.rcv, M.rcv, M.pk, semAt, tyn, isiS, isiOne, tyNames, tru, isN, callK, pks, nodupB, agCells, agCell, giv, backs, back, locks, unlocks, unl, noOwn, wiped, putsAt, R.only, unbrk, stv, finOf, Cell.keep, pin_un, pin_fz, pin_ow, pin_pr, pin_pz, pin_lk, Cell.mt, Cell.put, Cell.lock, Cell.unlock, intS, cmpS, cmpI, lenS, bLFacts, h3, h4, h5, h6, h7, h8, hix, dx0, En.word, eq_str, okS, fof]⟩
  | swap => exact ⟨c9, c10, h9, h10, by obtain ⟨I, hI⟩ : ∃ I : Int, I = (i : Int) := ⟨_, rfl⟩
                                        rw [← hI] at hix ⊢
                                        simp [runFn, wx_for, w_lc, w_meth, w_glob, w_dsp, w_gdix, w_gdin, wt_gdin, w_ch, wt_ch, wx_par, wx_aug, wx_retN, wx_raise, wx_tryH, hd_0, hd_n, hd_s, wx_tr, noEx, unname, isxS, fldS, lookF, wx_brk, wx_cont, st_tl, st_tt, st_0, st_1, evc_0, evc_1, lcStep, fStep, argOf, onVar, isVar, Cell.on, gets, Ag.get, Cell.val, P.pk, P.sem, P.rcv, M.rcv, M.pk, semAt, tyn, isiS, isiOne, tyNames, tru, isN, callK, pks, nodupB, agCells, agCell, giv, backs, back, locks, unlocks, unl, noOwn, wiped, putsAt, R.only, unbrk, stv, finOf, Cell.keep, pin_un, pin_fz, pin_ow, pin_pr, pin_pz, pin_lk, Cell.mt, Cell.put, Cell.lock, Cell.unlock, intS, cmpS, cmpI, lenS, bLFacts, h3, h4, h5, h6, h7, h8, hix, dx0, En.word, eq_str, okS, fof]⟩
  | face c => exact ⟨c9, c10, h9, h10, by obtain ⟨I, hI⟩ : ∃ I : Int, I = (i : Int) := ⟨_, rfl⟩
                                          rw [← hI] at hix ⊢
                                          simp [runFn, wx_for, w_lc, w_meth, w_glob, w_dsp, w_gdix, w_gdin, wt_gdin, w_ch, wt_ch, wx_par, wx_aug, wx_retN, wx_raise, wx_tryH, hd_0, hd_n, hd_s, wx_tr, noEx, unname, isxS, fldS, lookF, wx_brk, wx_cont, st_tl, st_tt, st_0, st_1, evc_0, evc_1, lcStep, fStep, argOf, onVar, isVar, Cell.on, gets, Ag.get, Cell.val, P.pk, P.sem, P.rcv, M.rcv, M.pk, semAt, tyn, isiS, isiOne, tyNames, tru, isN, callK, pks, nodupB, agCells, agCell, giv, backs, back, locks, unlocks, unl, noOwn, wiped, putsAt, R.only, unbrk, stv, finOf, Cell.keep, pin_un, pin_fz, pin_ow, pin_pr, pin_pz, pin_lk, Cell.mt, Cell.put, Cell.lock, Cell.unlock, intS, cmpS, cmpI, lenS, bLFacts, h3, h4, h5, h6, h7, h8, hix, dx0, En.word, eq_str, okS, fof]⟩
  | bare => exact ⟨c9, c10, h9, h10, by simp [runFn, wx_for, w_lc, w_meth, w_glob, w_dsp, w_gdix, w_gdin, wt_gdin, w_ch, wt_ch, wx_par, wx_aug, wx_retN, wx_raise, wx_tryH, hd_0, hd_n, hd_s, wx_tr, noEx, unname, isxS, fldS, lookF, wx_brk, wx_cont, st_tl, st_tt, st_0, st_1, evc_0, evc_1, lcStep, fStep, argOf, onVar, isVar, Cell.on, gets, Ag.get, Cell.val, P.pk, P.sem, P.rcv, M.rcv, M.pk, semAt, tyn, isiS, isiOne, tyNames, tru, isN, callK, pks, nodupB, agCells, agCell, giv, backs, back, locks, unlocks, unl, noOwn, wiped, putsAt, R.only, unbrk, stv, finOf, Cell.keep, pin_un, pin_fz, pin_ow, pin_pr, pin_pz, pin_lk, Cell.mt, Cell.put, Cell.lock, Cell.unlock, intS, cmpS, cmpI, lenS, bLFacts, h3, h4, h5, h6, h7, h8, hix, dx0, En.word, eq_str, okS, fof, plc, M.sem, hFl, LIM]⟩
  | sign z => exact ⟨c9, c10, h9, h10, by simp [runFn, wx_for, w_lc, w_meth, w_glob, w_dsp, w_gdix, w_gdin, wt_gdin, w_ch, wt_ch, wx_par, wx_aug, wx_retN, wx_raise, wx_tryH, hd_0, hd_n, hd_s, wx_tr, noEx, unname, isxS, fldS, lookF, wx_brk, wx_cont, st_tl, st_tt, st_0, st_1, evc_0, evc_1, lcStep, fStep, argOf, onVar, isVar, Cell.on, gets, Ag.get, Cell.val, P.pk, P.sem, P.rcv, M.rcv, M.pk, semAt, tyn, isiS, isiOne, tyNames, tru, isN, callK, pks, nodupB, agCells, agCell, giv, backs, back, locks, unlocks, unl, noOwn, wiped, putsAt, R.only, unbrk, stv, finOf, Cell.keep, pin_un, pin_fz, pin_ow, pin_pr, pin_pz, pin_lk, Cell.mt, Cell.put, Cell.lock, Cell.unlock, intS, cmpS, cmpI, lenS, bLFacts, h3, h4, h5, h6, h7, h8, hix, dx0, dx1s, En.word, eq_str, okS, fof, plc, M.sem, hFl, LIM]⟩
  | spy n z =>
    obtain ⟨c, hc, hlk⟩ := hb rfl
    have e1 := hm c n s.x s.y hc he.1.2
    have hlc : lookC s = c := by rw [lookC, hlk]; rfl
    rw [hlk]
    exact ⟨c9, c10, h9, h10, by simp [runFn, wx_for, w_lc, w_meth, w_glob, w_dsp, w_gdix, w_gdin, wt_gdin, w_ch, wt_ch, wx_par, wx_aug, wx_retN, wx_raise, wx_tryH, hd_0, hd_n, hd_s, wx_tr, noEx, unname, isxS, fldS, lookF, wx_brk, wx_cont, st_tl, st_tt, st_0, st_1, evc_0, evc_1, lcStep, fStep, argOf, onVar, isVar, Cell.on, gets, Ag.get, Cell.val, P.pk, P.sem, P.rcv, M.rcv, M.pk, semAt, tyn, isiS, isiOne, tyNames, tru, isN, callK, pks, nodupB, agCells, agCell, giv, backs, back, locks, unlocks, unl, noOwn, wiped, putsAt, R.only, unbrk, stv, finOf, Cell.keep, pin_un, pin_fz, pin_ow, pin_pr, pin_pz, pin_lk, Cell.mt, Cell.put, Cell.lock, Cell.unlock, intS, cmpS, cmpI, lenS, bLFacts, h3, h4, h5, h6, h7, h8, hix, dx0, dx1y, dx2y, e1, hlc, En.word, eq_str, okS, fof, plc, M.sem, hFl, LIM]⟩
  | bump =>
    obtain ⟨c, hc, hlk⟩ := hb rfl
    have e1 := hw c s.x s.y hc
    have hlc : lookC s = c := by rw [lookC, hlk]; rfl
    rw [hlk]
    exact ⟨.fz (wayD c s.x s.y), c10, rfl, h10, by simp [runFn, wx_for, w_lc, w_meth, w_glob, w_dsp, w_gdix, w_gdin, wt_gdin, w_ch, wt_ch, wx_par, wx_aug, wx_retN, wx_raise, wx_tryH, hd_0, hd_n, hd_s, wx_tr, noEx, unname, isxS, fldS, lookF, wx_brk, wx_cont, st_tl, st_tt, st_0, st_1, evc_0, evc_1, lcStep, fStep, argOf, onVar, isVar, Cell.on, gets, Ag.get, Cell.val, P.pk, P.sem, P.rcv, M.rcv, M.pk, semAt, tyn, isiS, isiOne, tyNames, tru, isN, callK, pks, nodupB, agCells, agCell, giv, backs, back, locks, unlocks, unl, noOwn, wiped, putsAt, R.only, unbrk, stv, finOf, Cell.keep, pin_un, pin_fz, pin_ow, pin_pr, pin_pz, pin_lk, Cell.mt, Cell.put, Cell.lock, Cell.unlock, intS, cmpS, cmpI, lenS, bLFacts, h3, h4, h5, h6, h7, h8, h9, hix, dx0, e1, way_sl, way_ix, hlc, En.word, eq_str, okS, fof, M.sem, hFl, LIM]⟩
  | go n =>
    obtain ⟨c, hc, hlk⟩ := hb rfl
    have hr : IK.range.sem [.int (n : Int)] = some (rng n) := by have := he.2; rw [s_rng (by omega) (by omega)]; simp
    obtain ⟨c9', c10', q9, q10, e1⟩ := lfacts_go hm hw hc s hlk i n he.2 (.fz log) c1 (.fz (.int G)) (.fz N) (.fz (En.go n).d) c9 c10 h9 h10 found hf
    have hfo : fof i s (.go n) = (List.range n).map (openD i s) := rfl
    rw [hfo, hlk]
    obtain ⟨O, hO⟩ : ∃ O, O = (List.range n).map (openD i s) := ⟨_, rfl⟩
    obtain ⟨X, hX⟩ : ∃ X, X = rng n := ⟨_, rfl⟩
    rw [← hX] at hr e1
    rw [← hO] at e1 ⊢
    have hg := dx1g n
    obtain ⟨K, hK⟩ : ∃ K : Int, K = (n : Int) := ⟨_, rfl⟩
    rw [← hK] at hg hr
    refine ⟨c9', c10', q9, q10, ?_⟩
    have hst : stt (.tp [.nm 3, .tp [.nm 4, .tp [.nm 5, .nm 6], .nm 7]]) (.tup [.int (i : Int), .tup [.int G, .tup [.tup [.int s.x, .int s.y], .str [c]], N]]) false [.fz log, c1, .ow (.lst found), c3, c4, c5, c6, c7, c8, c9, c10] = some [.fz log, c1, .ow (.lst found), .fz (.int (i : Int)), .fz (.int G), .fz (.tup [.int s.x, .int s.y]), .fz (.str [c]), .fz N, c8, c9, c10] := by
      simp [runFn, wx_for, w_lc, w_meth, w_glob, w_dsp, w_gdix, w_gdin, wt_gdin, w_ch, wt_ch, wx_par, wx_aug, wx_retN, wx_raise, wx_tryH, hd_0, hd_n, hd_s, wx_tr, noEx, unname, isxS, fldS, lookF, wx_brk, wx_cont, st_tl, st_tt, st_0, st_1, evc_0, evc_1, lcStep, fStep, argOf, onVar, isVar, Cell.on, gets, Ag.get, Cell.val, P.pk, P.sem, P.rcv, M.rcv, M.pk, semAt, tyn, isiS, isiOne, tyNames, tru, isN, callK, pks, nodupB, agCells, agCell, giv, backs, back, locks, unlocks, unl, noOwn, wiped, putsAt, R.only, unbrk, stv, finOf, Cell.keep, pin_un, pin_fz, pin_ow, pin_pr, pin_pz, pin_lk, Cell.mt, Cell.put, Cell.lock, Cell.unlock, intS, cmpS, cmpI, ixS, lenS, h3, h4, h5, h6, h7]
    have hA : exs cs ((bLFacts o sd).take 5) [.fz log, c1, .ow (.lst found), .fz (.int (i : Int)), .fz (.int G), .fz (.tup [.int s.x, .int s.y]), .fz (.str [c]), .fz N, c8, c9, c10] = .nx [.fz log, c1, .ow (.lst found), .fz (.int (i : Int)), .fz (.int G), .fz (.tup [.int s.x, .int s.y]), .fz (.str [c]), .fz N, .fz (En.go n).d, c9, c10] := by
      simp [runFn, wx_for, w_lc, w_meth, w_glob, w_dsp, w_gdix, w_gdin, wt_gdin, w_ch, wt_ch, wx_par, wx_aug, wx_retN, wx_raise, wx_tryH, hd_0, hd_n, hd_s, wx_tr, noEx, unname, isxS, fldS, lookF, wx_brk, wx_cont, st_tl, st_tt, st_0, st_1, evc_0, evc_1, lcStep, fStep, argOf, onVar, isVar, Cell.on, gets, Ag.get, Cell.val, P.pk, P.sem, P.rcv, M.rcv, M.pk, semAt, tyn, isiS, isiOne, tyNames, tru, isN, callK, pks, nodupB, agCells, agCell, giv, backs, back, locks, unlocks, unl, noOwn, wiped, putsAt, R.only, unbrk, stv, finOf, Cell.keep, pin_un, pin_fz, pin_ow, pin_pr, pin_pz, pin_lk, Cell.mt, Cell.put, Cell.lock, Cell.unlock, intS, cmpS, cmpI, lenS, bLFacts, h8, hix, dx0, En.word, eq_str, okS]
    have hB : exs cs ((bLFacts o sd).drop 5) [.fz log, c1, .ow (.lst found), .fz (.int (i : Int)), .fz (.int G), .fz (.tup [.int s.x, .int s.y]), .fz (.str [c]), .fz N, .fz (En.go n).d, c9, c10] = .nx [.fz log, c1, .ow (.lst (found ++ O)), .fz (.int (i : Int)), .fz (.int G), .fz (.tup [.int s.x, .int s.y]), .fz (.str [c]), .fz N, .fz (En.go n).d, c9', c10'] := by
      obtain ⟨I, hI⟩ : ∃ I : Int, I = (i : Int) := ⟨_, rfl⟩
      obtain ⟨W, hW⟩ : ∃ W, W = (En.go n).d := ⟨_, rfl⟩
      have hw0 := dx0 (.go n)
      rw [← hI] at e1
      rw [← hW] at e1 hg hw0
      rw [← hI, ← hW]
      have hwd : En.word (.go n) = [103, 111] := rfl
      rw [hwd] at hw0
      have heq : eqS false (.str [103, 111]) (.str [103, 111]) = some (.bl true, false) := eq_str rfl rfl
      simp [runFn, wx_for, w_lc, w_meth, w_glob, w_dsp, w_gdix, w_gdin, wt_gdin, w_ch, wt_ch, wx_par, wx_aug, wx_retN, wx_raise, wx_tryH, hd_0, hd_n, hd_s, wx_tr, noEx, unname, isxS, fldS, lookF, wx_brk, wx_cont, st_tl, st_tt, st_0, st_1, evc_0, evc_1, lcStep, fStep, argOf, onVar, isVar, Cell.on, gets, Ag.get, Cell.val, P.pk, P.sem, P.rcv, M.rcv, M.pk, semAt, tyn, isiS, isiOne, tyNames, tru, isN, callK, pks, nodupB, agCells, agCell, giv, backs, back, locks, unlocks, unl, noOwn, wiped, putsAt, R.only, unbrk, stv, finOf, Cell.keep, pin_un, pin_fz, pin_ow, pin_pr, pin_pz, pin_lk, Cell.mt, Cell.put, Cell.lock, Cell.unlock, intS, cmpS, cmpI, lenS, bLFacts, hw0, heq, hg, hr, e1]
    unfold fStep
    rw [hst]
    show exs cs (bLFacts o sd) _ = _
    have hsp : bLFacts o sd = (bLFacts o sd).take 5 ++ (bLFacts o sd).drop 5 := rfl
    rw [hsp, exs_nx hA, hB]
def fLFacts (w o sd : Nat) : Fn := ⟨2, 11, [.asg (.nm 2) (.prim .lst []),
    .for (.tp [.nm 3, .tp [.nm 4, .tp [.nm 5, .nm 6], .nm 7]]) .enum [(.call w [(.var 0), (.var 1)])] (bLFacts o sd),
    .ret (.prim .tuple [(.var 2)])]⟩
theorem drop_map {es : List En} {i : Nat} {e : En} {r : List En} (h : es.drop i = e :: r) : ixS (.tup (es.map En.d)) (.int (i : Int)) = some (e.d, false) := by
  have : (es.map En.d)[i]? = some e.d := by
    have h1 : (es.drop i)[0]? = some e := by rw [h]; rfl
    rw [List.getElem?_drop] at h1
    simp at h1
    simp [h1]
  show (atd (es.map En.d) _).map _ = _
  rw [atd_at this]; rfl
theorem lfacts_ok {cs : CS} {w o sd : Nat} (hm : MvOk cs o) (hw : WyOk cs sd) {lots : List Nat} {es : List En} {dl : D} (hl : es.length < 1000) (hf : Fit lots s0 es)
    (e3 : cs w [.fz (.tup (es.map En.d)), .fz dl] = some (.ok (.lst (wk lots s0 es)) true, [.un, .un])) :
    runFn cs (fLFacts w o sd) [.fz (.tup (es.map En.d)), .fz dl] = some (.ok (.tup (fx lots s0 0 es)) false, [.un, .un]) := by
  obtain ⟨log, hlog⟩ : ∃ log, log = D.tup (es.map En.d) := ⟨_, rfl⟩
  rw [← hlog] at e3 ⊢
  obtain ⟨ρ', g1, i, es', s, found, c3, c4, c5, c6, c7, c8, c9, c10, g3, g4, g5, g6, q7, q8, q9, q10, g7, g8, g9, g10, g11, g12, g13⟩ := for_inv (step := fStep cs (.tp [.nm 3, .tp [.nm 4, .tp [.nm 5, .nm 6], .nm 7]]) (bLFacts o sd))
    (fun r ρ => ∃ (i : Nat) (es' : List En) (s : St) (found : List D) (c3 c4 c5 c6 c7 c8 c9 c10 : Cell), c3.pin = false ∧ c4.pin = false ∧ c5.pin = false ∧ c6.pin = false ∧ c7.pin = false ∧ c8.pin = false ∧ c9.pin = false ∧ c10.pin = false ∧ r = enumF i (wk lots s es') ∧ es.drop i = es' ∧ Fit lots s es' ∧ found ++ fx lots s i es' = fx lots s0 0 es ∧ found.length ≤ 9 * i ∧ i + es'.length = es.length ∧ ρ = [.fz log, .fz dl, .ow (.lst found), c3, c4, c5, c6, c7, c8, c9, c10]) (enumF 0 (wk lots s0 es)) [.fz log, .fz dl, .ow (.lst []), .un, .un, .un, .un, .un, .un, .un, .un]
    ⟨0, es, s0, [], .un, .un, .un, .un, .un, .un, .un, .un, rfl, rfl, rfl, rfl, rfl, rfl, rfl, rfl, rfl, rfl, hf, rfl, by simp, by simp, rfl⟩
    (fun x r ρ ⟨i, es', s, found, c3, c4, c5, c6, c7, c8, c9, c10, q3, q4, q5, q6, q7, q8, q9, q10, h1, h2, h3, h4, h5, h6, e⟩ => by
      subst e
      cases es' with
      | nil => cases h1
      | cons e es' =>
        rw [wk, enumF] at h1
        injection h1 with h1 h1'
        subst h1 h1'
        obtain ⟨k1, k2, k3, k4, k5⟩ := h3
        have hrow : ixS log (.int (i : Int)) = some (e.d, false) := by rw [hlog]; exact drop_map h2
        rw [List.length_cons] at h6
        have hfl := fof_len (i := i) (s := s) k1
        obtain ⟨c9', c10', z9, z10, z⟩ := lfacts_step (lots := lots) hm hw k1 s k3 i hrow (.fz dl) c3 c4 c5 c6 c7 c8 c9 c10 q3 q4 q5 q6 q7 q8 q9 q10 found (by omega)
        refine ⟨_, z, i + 1, es', nxt lots s e, found ++ fof i s e, .fz (.int (i : Int)), .fz (.int ((nxt lots s e).leg : Int)), .fz (.tup [.int s.x, .int s.y]), .fz (.str s.look), .fz (nxt lots s e).d, .fz e.d, c9', c10', rfl, rfl, rfl, rfl, rfl, rfl, z9, z10, rfl, drop_next h2, k5, ?_, ?_, by omega, rfl⟩
        · rw [fx] at h4
          rw [List.append_assoc]; exact h4
        · rw [List.length_append]; omega)
  subst g13
  have hwl : wk lots s es' = [] := by
    cases hw : wk lots s es' with
    | nil => rfl
    | cons a b => rw [hw, enumF] at g7; cases g7
  have : es' = [] := by
    have := wk_len lots es' s
    rw [hwl] at this
    exact List.length_eq_zero_iff.mp this.symm
  subst this
  rw [fx, List.append_nil] at g10
  subst g10
  have hen := s_enum (wk lots s0 es)
  rw [enum_F] at hen
  obtain ⟨Q, hQ⟩ : ∃ Q, Q = wk lots s0 es := ⟨_, rfl⟩
  obtain ⟨X, hX⟩ : ∃ X, X = enumF 0 (wk lots s0 es) := ⟨_, rfl⟩
  obtain ⟨O, hO⟩ : ∃ O, O = fx lots s0 0 es := ⟨_, rfl⟩
  rw [← hX, ← hO] at g1
  rw [← hX, ← hQ] at hen
  rw [← hQ] at e3
  rw [← hO]
  simp [runFn, wx_for, w_lc, w_meth, w_glob, w_dsp, w_gdix, w_gdin, wt_gdin, w_ch, wt_ch, wx_par, wx_aug, wx_retN, wx_raise, wx_tryH, hd_0, hd_n, hd_s, wx_tr, noEx, unname, isxS, fldS, lookF, wx_brk, wx_cont, st_tl, st_tt, st_0, st_1, evc_0, evc_1, lcStep, fStep, argOf, onVar, isVar, Cell.on, gets, Ag.get, Cell.val, P.pk, P.sem, P.rcv, M.rcv, M.pk, semAt, tyn, isiS, isiOne, tyNames, tru, isN, callK, pks, nodupB, agCells, agCell, giv, backs, back, locks, unlocks, unl, noOwn, wiped, putsAt, R.only, unbrk, stv, finOf, Cell.keep, pin_un, pin_fz, pin_ow, pin_pr, pin_pz, pin_lk, Cell.mt, Cell.put, Cell.lock, Cell.unlock, intS, cmpS, cmpI, ixS, lenS, fLFacts, e3, hen, g1, tupleS]
/-! ### plain -/
theorem fof_plain {i : Nat} {s : St} {e : En} (he : e.ok) : plains 2 (fof i s e) = true := by
  cases e with
  | sign z =>
    have := sign_okS he
    unfold okS at this
    simp [fof, plains, plain, plc, LIM]; simpa using this
  | spy n z =>
    have := sign_okS he.2
    unfold okS at this
    simp [fof, plains, plain, plc, LIM]; simpa using this
  | bare => simp [fof, plains, plain, plc, LIM]
  | bump =>
    have : sL (lookC s) < 1114112 := by unfold sL; split <;> decide
    simp [fof, plains, plain, plc, LIM, this]
  | go n =>
    have : sL (lookC s) < 1114112 := by unfold sL; split <;> decide
    have h : ∀ l : List Nat, plains 2 (l.map (openD i s)) = true := by
      intro l
      induction l with
      | nil => rfl
      | cons k l ih => rw [List.map_cons, plains, ih]; simp [openD, plains, plain, plc, LIM, this]
    exact h _
  | left => rfl
  | right => rfl
  | back => rfl
  | swap => rfl
  | face c => rfl
theorem plains_app {n : Nat} : ∀ {a b : List D}, plains n a = true → plains n b = true → plains n (a ++ b) = true
  | [], b, _, h => h
  | x :: a, b, h1, h2 => by
    rw [plains, Bool.and_eq_true] at h1
    rw [List.cons_append, plains, h1.1, plains_app h1.2 h2]; rfl
theorem fx_plain {lots : List Nat} : ∀ {es : List En} {s : St} {i : Nat}, Fit lots s es → plains 2 (fx lots s i es) = true ∧ (fx lots s i es).length ≤ 9 * es.length
  | [], _, _, _ => ⟨rfl, Nat.le_refl _⟩
  | e :: es, s, i, ⟨h1, h2, h3, h4, h5⟩ => by
    obtain ⟨g1, g2⟩ := fx_plain (i := i + 1) h5
    rw [fx]
    refine ⟨plains_app (fof_plain h1) g1, ?_⟩
    have := fof_len (i := i) (s := s) h1
    rw [List.length_append, List.length_cons]
    omega
end BV

namespace Lk08
open PySem L2 BV
def top (i : Nat) : Stmt := PySem.Challenge.pw_wayneedle_k08_logs_nearly_right.main.body.getD i (.Pass ⟨0, 0, 0, 0⟩)
/-- is_name(thing); slots 0 thing, 1 letter -/
def b0 : List S :=
   [.ret (.and (.prim (.isi ["str"]) [(.var 0)]) (.and (.ch .lt .le (.int 0) (.prim .len [(.var 0)]) (.glob 26)) (.prim .all [(.lc [1] (.nm 1) .seq [(.var 0)] [] (.prim .isin [(.var 1), (.glob 27)]))])))]
def f0 : Fn := ⟨1, 2, b0⟩
/-- is_sign(thing); slots 0 thing -/
def b1 : List S :=
   [.iff (.or (.nt (.prim (.isi ["str"]) [(.var 0)])) (.prim .eq [(.var 0), (.str [])]))
      [.ret (.bl false)]
      [],
    .ret (.or (.call 0 [(.var 0)]) (.call 2 [(.var 0)]))]
def f1 : Fn := ⟨1, 1, b1⟩
/-- is_lone(thing); slots 0 thing -/
def b2 : List S :=
   [.iff (.or (.nt (.prim (.isi ["str"]) [(.var 0)])) (.or (.prim .eq [(.var 0), (.str [])]) (.prim .notin [(.prim .ix [(.var 0), (.int 0)]), (.meth .upper (.glob 27) [])])))
      [.ret (.bl false)]
      [],
    .ret (.or (.prim .eq [(.prim .len [(.var 0)]), (.int 1)]) (.and (.call 0 [(.prim (.sl true false) [(.var 0), (.int 1)])]) (.prim .le [(.prim .len [(.var 0)]), (.glob 26)])))]
def f2 : Fn := ⟨1, 1, b2⟩
/-- is_many(thing); slots 0 thing -/
def b3 : List S :=
   [.ret (.and (.prim (.isi ["int"]) [(.var 0)]) (.and (.nt (.prim (.isi ["bool"]) [(.var 0)])) (.ch .le .le (.int 1) (.var 0) (.int 9))))]
def f3 : Fn := ⟨1, 1, b3⟩
/-- is_entry(thing); slots 0 thing, 1 word, 2 rest -/
def b4 : List S :=
   [.iff (.or (.nt (.prim (.isi ["tuple", "list"]) [(.var 0)])) (.or (.prim .eq [(.prim .len [(.var 0)]), (.int 0)]) (.nt (.prim (.isi ["str"]) [(.prim .ix [(.var 0), (.int 0)])]))))
      [.ret (.bl false)]
      [],
    .asg (.sp [.nm 1] 2) (.var 0),
    .iff (.prim .isin [(.var 1), (.prim .tup [(.str [108, 101, 102, 116]), (.str [114, 105, 103, 104, 116]), (.str [98, 97, 99, 107]), (.str [98, 117, 109, 112]), (.str [98, 97, 114, 101]), (.str [115, 119, 97, 112])])])
      [.ret (.prim .eq [(.var 2), (.prim .lst [])])]
      [],
    .iff (.prim .eq [(.var 1), (.str [102, 97, 99, 101])])
      [.ret (.and (.prim .eq [(.prim .len [(.var 2)]), (.int 1)]) (.and (.prim (.isi ["str"]) [(.prim .ix [(.var 2), (.int 0)])]) (.and (.prim .eq [(.prim .len [(.prim .ix [(.var 2), (.int 0)])]), (.int 1)]) (.prim .isin [(.prim .ix [(.var 2), (.int 0)]), (.glob 28)]))))]
      [],
    .iff (.prim .eq [(.var 1), (.str [103, 111])])
      [.ret (.and (.prim .eq [(.prim .len [(.var 2)]), (.int 1)]) (.call 3 [(.prim .ix [(.var 2), (.int 0)])]))]
      [],
    .iff (.prim .eq [(.var 1), (.str [115, 105, 103, 110])])
      [.ret (.and (.prim .eq [(.prim .len [(.var 2)]), (.int 1)]) (.call 1 [(.prim .ix [(.var 2), (.int 0)])]))]
      [],
    .ret (.and (.prim .eq [(.var 1), (.str [115, 112, 121])]) (.and (.prim .eq [(.prim .len [(.var 2)]), (.int 2)]) (.and (.call 3 [(.prim .ix [(.var 2), (.int 0)])]) (.call 1 [(.prim .ix [(.var 2), (.int 1)])]))))]
def f4 : Fn := ⟨1, 3, b4⟩
/-- log_of(name, entries); slots 0 name, 1 entries, 2 looks, 3 at, 4 entry -/
def b5 : List S :=
   [.asg (.nm 2) (.bl false),
    .for (.tp [.nm 3, .nm 4]) .enum [(.var 1)]
      [.iff (.nt (.call 4 [(.var 4)]))
         [.raise "BadLog" ["name", "at"] [(.var 0), (.var 3)]]
         [],
       .asg (.nm 2) (.or (.var 2) (.prim .eq [(.prim .ix [(.var 4), (.int 0)]), (.str [102, 97, 99, 101])])),
       .iff (.and (.nt (.var 2)) (.prim .notin [(.prim .ix [(.var 4), (.int 0)]), (.glob 29)]))
         [.raise "BadLog" ["name", "at"] [(.var 0), (.var 3)]]
         []],
    .ret (.prim .tuple [(.lc [4] (.nm 4) .seq [(.var 1)] [] (.prim .tuple [(.var 4)]))])]
def f5 : Fn := ⟨2, 5, b5⟩
/-- held_log(entries); slots 0 entries -/
def b6 : List S :=
   [.ret (.call 5 [(.str []), (.var 0)])]
def f6 : Fn := ⟨1, 1, b6⟩
/-- _law_any_entry(_law_pool_here, _law_looks); slots 0 _law_pool_here, 1 _law_looks, 2 _law_pick, 3 _law_sign_here -/
def b7 : List S :=
   [.asg (.nm 2) (.call 18 [(.var 0), (.int 12)]),
    .asg (.nm 3) (.call 23 [(.var 0), (.prim .eq [(.call 18 [(.var 0), (.int 2)]), (.int 0)])]),
    .iff (.and (.nt (.var 1)) (.prim .gt [(.var 2), (.int 3)]))
      [.asg (.nm 2) (.prim .mod [(.var 2), (.int 4)])]
      [],
    .iff (.or (.prim .eq [(.var 2), (.int 0)]) (.prim .gt [(.var 2), (.int 9)]))
      [.ret (.prim .tup [(.str [102, 97, 99, 101]), (.prim .ix [(.str [110, 101, 115, 119]), (.call 18 [(.var 0), (.int 4)])])])]
      [],
    .iff (.prim .lt [(.var 2), (.int 4)])
      [.ret (.prim .ix [(.prim .tup [(.prim .tup [(.str [115, 105, 103, 110]), (.var 3)]), (.prim .tup [(.str [98, 97, 114, 101])]), (.prim .tup [(.str [115, 119, 97, 112])])]), (.prim .sub [(.var 2), (.int 1)])])]
      [],
    .iff (.prim .eq [(.var 2), (.int 4)])
      [.ret (.prim .ix [(.prim .tup [(.prim .tup [(.str [108, 101, 102, 116])]), (.prim .tup [(.str [114, 105, 103, 104, 116])]), (.prim .tup [(.str [98, 97, 99, 107])])]), (.call 18 [(.var 0), (.int 3)])])]
      [],
    .iff (.prim .eq [(.var 2), (.int 5)])
      [.ret (.prim .tup [(.str [98, 117, 109, 112])])]
      [],
    .iff (.prim .eq [(.var 2), (.int 6)])
      [.ret (.prim .tup [(.str [115, 112, 121]), (.prim .add [(.int 1), (.call 18 [(.var 0), (.int 9)])]), (.var 3)])]
      [],
    .ret (.prim .tup [(.str [103, 111]), (.prim .add [(.int 1), (.call 18 [(.var 0), (.int 9)])])])]
def f7 : Fn := ⟨2, 4, b7⟩
/-- _law_any_log(_law_pool_here, _law_many, _law_swaps); slots 0 _law_pool_here, 1 _law_many, 2 _law_swaps, 3 _law_log, 4 _law_looks, 5 _law_left, 6 _law_k, 7 _law_entry -/
def b8 : List S :=
   [.asg (.nm 3) (.prim .lst []),
    .asg (.nm 4) (.bl false),
    .asg (.nm 5) (.var 2),
    .for (.nm 6) .range [(.var 1)]
      [.asg (.nm 7) (.call 7 [(.var 0), (.var 4)]),
       .iff (.and (.prim .eq [(.prim .ix [(.var 7), (.int 0)]), (.str [115, 119, 97, 112])]) (.prim .eq [(.var 5), (.int 0)]))
         [.asg (.nm 7) (.prim .tup [(.str [98, 97, 114, 101])])]
         [],
       .asg (.nm 5) (.prim .sub [(.var 5), (.prim .intP [(.prim .eq [(.prim .ix [(.var 7), (.int 0)]), (.str [115, 119, 97, 112])])])]),
       .asg (.nm 4) (.or (.var 4) (.prim .eq [(.prim .ix [(.var 7), (.int 0)]), (.str [102, 97, 99, 101])])),
       .ex (.mut .append 3 [(.var 7)])],
    .ret (.prim .tuple [(.var 3)])]
def f8 : Fn := ⟨3, 8, b8⟩
/-- _law_is_name(_law_thing); slots 0 _law_thing, 1 _law_letter -/
def b9 : List S :=
   [.iff (.or (.nt (.prim (.isi ["str"]) [(.var 0)])) (.nt (.ch .lt .lt (.int 0) (.prim .len [(.var 0)]) (.int 9))))
      [.ret (.bl false)]
      [],
    .ret (.prim .all [(.lc [1] (.nm 1) .seq [(.var 0)] [] (.prim .isin [(.var 1), (.str [97, 98, 99, 100, 101, 102, 103, 104, 105, 106, 107, 108, 109, 110, 111, 112, 113, 114, 115, 116, 117, 118, 119, 120, 121, 122])]))])]
def f9 : Fn := ⟨1, 2, b9⟩
/-- _law_is_sign(_law_thing); slots 0 _law_thing, 1 _law_first -/
def b10 : List S :=
   [.iff (.or (.nt (.prim (.isi ["str"]) [(.var 0)])) (.prim .eq [(.var 0), (.str [])]))
      [.ret (.bl false)]
      [],
    .asg (.nm 1) (.prim .ix [(.var 0), (.int 0)]),
    .iff (.prim .isin [(.var 1), (.str [65, 66, 67, 68, 69, 70, 71, 72, 73, 74, 75, 76, 77, 78, 79, 80, 81, 82, 83, 84, 85, 86, 87, 88, 89, 90])])
      [.asg (.nm 1) (.str [97])]
      [],
    .ret (.call 9 [(.prim .add [(.var 1), (.prim (.sl true false) [(.var 0), (.int 1)])])])]
def f10 : Fn := ⟨1, 2, b10⟩
/-- _law_is_many(_law_thing); slots 0 _law_thing -/
def b11 : List S :=
   [.ret (.and (.call 19 [(.var 0)]) (.ch .lt .lt (.int 0) (.var 0) (.int 10)))]
def f11 : Fn := ⟨1, 1, b11⟩
/-- _law_is_entry(_law_thing); slots 0 _law_thing -/
def b12 : List S :=
   [.iff (.or (.nt (.prim (.isi ["tuple", "list"]) [(.var 0)])) (.or (.prim .eq [(.prim .len [(.var 0)]), (.int 0)]) (.nt (.prim (.isi ["str"]) [(.prim .ix [(.var 0), (.int 0)])]))))
      [.ret (.bl false)]
      [],
    .iff (.prim .isin [(.prim .ix [(.var 0), (.int 0)]), (.prim .tup [(.str [108, 101, 102, 116]), (.str [114, 105, 103, 104, 116]), (.str [98, 97, 99, 107]), (.str [98, 117, 109, 112]), (.str [98, 97, 114, 101]), (.str [115, 119, 97, 112])])])
      [.ret (.prim .eq [(.prim .len [(.var 0)]), (.int 1)])]
      [],
    .iff (.prim .eq [(.prim .ix [(.var 0), (.int 0)]), (.str [102, 97, 99, 101])])
      [.ret (.and (.prim .eq [(.prim .len [(.var 0)]), (.int 2)]) (.and (.prim (.isi ["str"]) [(.prim .ix [(.var 0), (.int 1)])]) (.prim .isin [(.prim .ix [(.var 0), (.int 1)]), (.prim .tup [(.str [110]), (.str [101]), (.str [115]), (.str [119])])])))]
      [],
    .iff (.prim .eq [(.prim .ix [(.var 0), (.int 0)]), (.str [103, 111])])
      [.ret (.and (.prim .eq [(.prim .len [(.var 0)]), (.int 2)]) (.call 11 [(.prim .ix [(.var 0), (.int 1)])]))]
      [],
    .iff (.prim .eq [(.prim .ix [(.var 0), (.int 0)]), (.str [115, 105, 103, 110])])
      [.ret (.and (.prim .eq [(.prim .len [(.var 0)]), (.int 2)]) (.call 10 [(.prim .ix [(.var 0), (.int 1)])]))]
      [],
    .ret (.and (.prim .eq [(.prim .ix [(.var 0), (.int 0)]), (.str [115, 112, 121])]) (.and (.prim .eq [(.prim .len [(.var 0)]), (.int 3)]) (.and (.call 11 [(.prim .ix [(.var 0), (.int 1)])]) (.call 10 [(.prim .ix [(.var 0), (.int 2)])]))))]
def f12 : Fn := ⟨1, 1, b12⟩
/-- _law_bad_at(_law_entries); slots 0 _law_entries, 1 _law_looks, 2 _law_at, 3 _law_entry -/
def b13 : List S :=
   [.asg (.nm 1) (.bl false),
    .for (.tp [.nm 2, .nm 3]) .enum [(.var 0)]
      [.iff (.nt (.call 12 [(.var 3)]))
         [.ret (.mv 2)]
         [],
       .asg (.nm 1) (.or (.var 1) (.prim .eq [(.prim .ix [(.var 3), (.int 0)]), (.str [102, 97, 99, 101])])),
       .iff (.and (.nt (.var 1)) (.prim .isin [(.prim .ix [(.var 3), (.int 0)]), (.prim .tup [(.str [108, 101, 102, 116]), (.str [114, 105, 103, 104, 116]), (.str [98, 97, 99, 107]), (.str [103, 111]), (.str [98, 117, 109, 112]), (.str [115, 112, 121])])]))
         [.ret (.mv 2)]
         []],
    .ret (.non)]
def f13 : Fn := ⟨1, 4, b13⟩
/-- _law_spoilt_text(_law_pool_here, _law_text); slots 0 _law_pool_here, 1 _law_text, 2 _law_signs, 3 _law_sign_here, 4 _law_at, 5 _law_pick -/
def b14 : List S :=
   [.asg (.nm 2) (.str [32, 33, 34, 35, 36, 38, 39, 40, 41, 42, 43, 44, 45, 46, 47, 48, 49, 50, 51, 52, 53, 54, 55, 56, 57, 58, 59, 60, 61, 62, 63, 64, 65, 66, 67, 68, 69, 70, 71, 72, 73, 74, 75, 76, 77, 78, 79, 80, 81, 82, 83, 84, 85, 86, 87, 88, 89, 90, 91, 92, 93, 94, 95, 96, 97, 98, 99, 100, 101, 102, 103, 104, 105, 106, 107, 108, 109, 110, 111, 112, 113, 114, 115, 116, 117, 118, 119, 120, 121, 122, 123, 124, 125, 126]),
    .asg (.nm 3) (.prim .ix [(.var 2), (.call 18 [(.var 0), (.prim .len [(.var 2)])])]),
    .asg (.nm 4) (.call 18 [(.var 0), (.prim .add [(.prim .len [(.var 1)]), (.int 1)])]),
    .asg (.nm 5) (.call 18 [(.var 0), (.int 4)]),
    .iff (.prim .eq [(.var 5), (.int 0)])
      [.ret (.prim .add [(.prim .add [(.prim (.sl false true) [(.var 1), (.var 4)]), (.var 3)]), (.prim (.sl true false) [(.var 1), (.var 4)])])]
      [],
    .iff (.prim .eq [(.var 5), (.int 1)])
      [.ret (.prim .add [(.prim .add [(.prim (.sl false true) [(.var 1), (.var 4)]), (.var 3)]), (.prim (.sl true false) [(.var 1), (.prim .add [(.var 4), (.int 1)])])])]
      [],
    .iff (.prim .eq [(.var 5), (.int 2)])
      [.ret (.prim .add [(.prim (.sl false true) [(.var 1), (.var 4)]), (.prim (.sl true false) [(.var 1), (.prim .add [(.var 4), (.int 1)])])])]
      [],
    .ret (.prim .add [(.var 1), (.prim .rep [(.str [97]), (.prim .add [(.int 1), (.call 18 [(.var 0), (.int 9)])])])])]
def f14 : Fn := ⟨2, 6, b14⟩
/-- _law_spoilt_entry(_law_pool_here, _law_entry); slots 0 _law_pool_here, 1 _law_entry, 2 _law_pick, 3 _law_parts, 4 _law_at -/
def b15 : List S :=
   [.asg (.nm 2) (.call 18 [(.var 0), (.int 9)]),
    .asg (.nm 3) (.prim .list [(.var 1)]),
    .asg (.nm 4) (.call 18 [(.var 0), (.prim .len [(.var 3)])]),
    .iff (.prim .eq [(.var 2), (.int 0)])
      [.ret (.prim .ix [(.prim .tup [(.non), (.int 7), (.str [108, 101, 102, 116]), (.bl true), (.prim .tup []), (.prim .lst []), (.str []), (.prim .tup [(.str [103, 111])])]), (.call 18 [(.var 0), (.int 8)])])]
      [],
    .iff (.prim .eq [(.var 2), (.int 1)])
      [.ret (.prim .add [(.var 1), (.prim .tup [(.call 21 [(.var 0)])])])]
      [],
    .iff (.prim .eq [(.var 2), (.int 2)])
      [.ret (.prim (.sl false true) [(.var 1), (.prim .neg [(.int 1)])])]
      [],
    .iff (.and (.prim .lt [(.var 2), (.int 5)]) (.prim (.isi ["str"]) [(.prim .ix [(.var 3), (.var 4)])]))
      [.setix 3 (.var 4) (.call 14 [(.var 0), (.prim .ix [(.var 3), (.var 4)])])]
      [.iff (.prim .eq [(.var 2), (.int 5)])
         [.setix 3 (.int 0) (.prim .ix [(.prim .tup [(.str [103, 111]), (.str [102, 97, 99, 101]), (.str [115, 105, 103, 110]), (.str [115, 112, 121]), (.str [108, 101, 102, 116]), (.str [115, 119, 97, 112]), (.str [71, 111]), (.str [116, 117, 114, 110])]), (.call 18 [(.var 0), (.int 8)])])]
         [.iff (.prim .eq [(.var 2), (.int 6)])
            [.setix 3 (.var 4) (.prim .ix [(.prim .tup [(.int 0), (.int 10), (.prim .neg [(.int 1)]), (.bl true), (.str [51]), (.prim .pow [(.int 10), (.int 29)]), (.str [78]), (.str [110, 101]), (.int 9), (.int 1)]), (.call 18 [(.var 0), (.int 10)])])]
            [.setix 3 (.var 4) (.call 21 [(.var 0)])]]],
    .ret (.prim .tuple [(.var 3)])]
def f15 : Fn := ⟨2, 5, b15⟩
/-- _law_own(_law_e); slots 0 _law_e, 1 _law_some -/
def b16 : List S :=
   [.asg (.nm 1) (.prim .lst [(.prim (.isx ["NeedleError", "NoLot", "BadLog", "NoDealing", "BadBox", "NoName", "Twice", "NoWalker"] ["NoLot"] ["NoLot"]) [(.var 0)]), (.prim (.isx ["NeedleError", "NoLot", "BadLog", "NoDealing", "BadBox", "NoName", "Twice", "NoWalker"] ["BadLog"] ["BadLog"]) [(.var 0)]), (.prim (.isx ["NeedleError", "NoLot", "BadLog", "NoDealing", "BadBox", "NoName", "Twice", "NoWalker"] ["NoDealing"] ["NoDealing"]) [(.var 0)]), (.prim (.isx ["NeedleError", "NoLot", "BadLog", "NoDealing", "BadBox", "NoName", "Twice", "NoWalker"] ["BadBox"] ["BadBox"]) [(.var 0)])]),
    .asg (.nm 1) (.prim .add [(.var 1), (.prim .lst [(.prim (.isx ["NeedleError", "NoLot", "BadLog", "NoDealing", "BadBox", "NoName", "Twice", "NoWalker"] ["NoName"] ["NoName"]) [(.var 0)]), (.prim (.isx ["NeedleError", "NoLot", "BadLog", "NoDealing", "BadBox", "NoName", "Twice", "NoWalker"] ["Twice"] ["Twice"]) [(.var 0)]), (.prim (.isx ["NeedleError", "NoLot", "BadLog", "NoDealing", "BadBox", "NoName", "Twice", "NoWalker"] ["NoWalker"] ["NoWalker"]) [(.var 0)])])]),
    .ret (.and (.prim .eq [(.meth .count (.var 1) [(.bl true)]), (.int 1)]) (.and (.prim (.isx ["NeedleError", "NoLot", "BadLog", "NoDealing", "BadBox", "NoName", "Twice", "NoWalker"] ["NeedleError", "NoLot", "BadLog", "NoDealing", "BadBox", "NoName", "Twice", "NoWalker"] ["NeedleError"]) [(.var 0)]) (.prim (.isx ["NeedleError", "NoLot", "BadLog", "NoDealing", "BadBox", "NoName", "Twice", "NoWalker"] ["NeedleError", "NoLot", "BadLog", "NoDealing", "BadBox", "NoName", "Twice", "NoWalker"] ["ValueError"]) [(.var 0)])))]
def f16 : Fn := ⟨1, 2, b16⟩
/-- _law_pool(_law_script, _law_k); slots 0 _law_script, 1 _law_k, 2 _law_cell, 3 _law_left -/
def b17 : List S :=
   [.asg (.nm 2) (.int 0),
    .iff (.prim .gt [(.prim .len [(.var 0)]), (.int 0)])
      [.asg (.nm 2) (.prim .ix [(.var 0), (.prim .mod [(.var 1), (.prim .len [(.var 0)])])])]
      [],
    .asg (.nm 3) (.int 0),
    .iff (.and (.prim .lt [(.var 1), (.prim .len [(.var 0)])]) (.prim .ge [(.prim .abs [(.var 2)]), (.prim .pow [(.int 10), (.int 18)])]))
      [.asg (.nm 3) (.prim .abs [(.var 2)])]
      [],
    .ret (.prim .lst [(.var 3), (.var 2), (.var 1), (.int 0)])]
def f17 : Fn := ⟨2, 4, b17⟩
/-- _law_take(_law_pool_here, _law_wide); slots 0 _law_pool_here, 1 _law_wide, 2 _law_primes, 3 _law_one, 4 _law_two, 5 _law_found -/
def b18 : List S :=
   [.iff (.prim .gt [(.prim .ix [(.var 0), (.int 0)]), (.int 0)])
      [.asg (.nm 5) (.prim .mod [(.prim .ix [(.var 0), (.int 0)]), (.var 1)]),
       .setix 0 (.int 0) (.prim .fdiv [(.prim .ix [(.var 0), (.int 0)]), (.var 1)]),
       .ret (.mv 5)]
      [],
    .setix 0 (.int 3) (.prim .add [(.prim .ix [(.var 0), (.int 3)]), (.int 1)]),
    .asg (.nm 2) (.prim .lst [(.int 2147483629), (.int 2147483587), (.int 2147483579), (.int 2147483563), (.int 2147483549), (.int 2147483543), (.int 2147483497), (.int 2147483489)]),
    .asg (.nm 3) (.prim .mod [(.prim .add [(.prim .add [(.prim .add [(.prim .ix [(.var 0), (.int 1)]), (.prim .mul [(.int 7919), (.prim .ix [(.var 0), (.int 2)])])]), (.prim .mul [(.int 104729), (.prim .ix [(.var 0), (.int 3)])])]), (.int 13)]), (.int 2147483647)]),
    .asg (.nm 3) (.prim .mod [(.prim .pow [(.var 3), (.int 5)]), (.prim .ix [(.var 2), (.prim .mod [(.prim .ix [(.var 0), (.int 3)]), (.int 8)])])]),
    .asg (.nm 4) (.prim .mod [(.prim .add [(.prim .add [(.var 3), (.prim .mul [(.int 40692), (.prim .ix [(.var 0), (.int 2)])])]), (.prim .ix [(.var 0), (.int 3)])]), (.int 2147483647)]),
    .ret (.prim .mod [(.prim .add [(.prim .mul [(.prim .mod [(.prim .pow [(.var 4), (.int 5)]), (.int 2147483647)]), (.int 1000000007)]), (.var 3)]), (.var 1)])]
def f18 : Fn := ⟨2, 6, b18⟩
/-- _law_whole(_law_thing); slots 0 _law_thing -/
def b19 : List S :=
   [.ret (.and (.prim (.isi ["int"]) [(.var 0)]) (.nt (.prim (.isi ["bool"]) [(.var 0)])))]
def f19 : Fn := ⟨1, 1, b19⟩
/-- _law_same(_law_found, _law_due); slots 0 _law_found, 1 _law_due, 2 _law_one, 3 _law_other -/
def b20 : List S :=
   [.iff (.prim (.isi ["tuple"]) [(.var 1)])
      [.iff (.or (.nt (.prim (.isi ["tuple"]) [(.var 0)])) (.prim .ne [(.prim .len [(.var 0)]), (.prim .len [(.var 1)])]))
         [.ret (.bl false)]
         [],
       .ret (.prim .all [(.lc [2, 3] (.tp [.nm 2, .nm 3]) .zip [(.var 0), (.var 1)] [] (.call 20 [(.var 2), (.var 3)]))])]
      [],
    .iff (.prim .isN [(.var 1)])
      [.ret (.prim .isN [(.var 0)])]
      [],
    .iff (.prim (.isi ["bool"]) [(.var 1)])
      [.ret (.and (.prim (.isi ["bool"]) [(.var 0)]) (.prim .eq [(.var 0), (.var 1)]))]
      [],
    .iff (.prim (.isi ["str"]) [(.var 1)])
      [.ret (.and (.prim (.isi ["str"]) [(.var 0)]) (.prim .eq [(.var 0), (.var 1)]))]
      [],
    .ret (.and (.call 19 [(.var 0)]) (.prim .eq [(.var 0), (.var 1)]))]
def f20 : Fn := ⟨2, 4, b20⟩
/-- _law_anything(_law_pool_here); slots 0 _law_pool_here, 1 _law_some -/
def b21 : List S :=
   [.asg (.nm 1) (.prim .lst [(.non), (.bl true), (.bl false), (.str []), (.str [110]), (.str [78]), (.str [110, 111, 114, 116, 104]), (.int 0), (.int 1), (.prim .neg [(.int 1)]), (.int 7), (.int 8), (.prim .pow [(.int 10), (.int 29)]), (.str [48])]),
    .ret (.prim .ix [(.prim .add [(.var 1), (.prim .lst [(.prim .tup []), (.prim .tup [(.int 0)]), (.prim .tup [(.str [110])]), (.prim .lst []), (.prim .lst [(.int 0)]), (.prim .tup [(.str [97]), (.int 0)])])]), (.call 18 [(.var 0), (.int 20)])])]
def f21 : Fn := ⟨1, 2, b21⟩
/-- _law_name(_law_pool_here); slots 0 _law_pool_here, 1 _law_letters, 2 _law_k -/
def b22 : List S :=
   [.asg (.nm 1) (.str [97, 98, 99, 100, 101, 102, 103, 104, 105, 106, 107, 108, 109, 110, 111, 112, 113, 114, 115, 116, 117, 118, 119, 120, 121, 122]),
    .ret (.meth .join (.str []) [(.lc [2] (.nm 2) .range [(.prim .add [(.int 1), (.call 18 [(.var 0), (.int 8)])])] [] (.prim .ix [(.var 1), (.call 18 [(.var 0), (.int 26)])]))])]
def f22 : Fn := ⟨1, 3, b22⟩
/-- _law_sign(_law_pool_here, _law_lone); slots 0 _law_pool_here, 1 _law_lone, 2 _law_sign_here -/
def b23 : List S :=
   [.asg (.nm 2) (.call 22 [(.var 0)]),
    .iff (.var 1)
      [.ret (.prim .add [(.meth .upper (.prim .ix [(.var 2), (.int 0)]) []), (.prim (.sl true false) [(.var 2), (.int 1)])])]
      [],
    .ret (.mv 2)]
def f23 : Fn := ⟨2, 3, b23⟩
/-- _law_held(_law_entries); slots 0 _law_entries, 1 _law_e -/
def b24 : List S :=
   [.tryH
      [.ret (.prim .tup [(.str [108, 111, 103]), (.call 6 [(.var 0)])])]
      [.hdl ["BadLog"] "BadLog" (some 1)
      [.ret (.ite (.call 16 [(.var 1)]) (.prim .tup [(.str [98, 97, 100]), (.prim (.fld ["BadLog", "NoName", "Twice", "NoWalker"] "name") [(.var 1)]), (.prim (.fld ["BadLog", "NoDealing", "BadBox"] "at") [(.var 1)])]) (.prim .tup [(.str [111, 100, 100])]))]]]
def f24 : Fn := ⟨1, 2, b24⟩
/-- law(_law_script); slots 0 _law_script, 1 _law_k, 2 _law_pool_here, 3 _law_entries, 4 _law_turn, 5 _law_at, 6 _law_due, 7 _law_handed, 8 _law_entry -/
def b25 : List S :=
   [.for (.nm 1) .range [(.int 3)]
      [.asg (.nm 2) (.call 17 [(.var 0), (.var 1)]),
       .asg (.nm 3) (.prim .list [(.call 8 [(.var 2), (.prim .add [(.int 1), (.call 18 [(.var 2), (.int 8)])]), (.int 2)])]),
       .for (.nm 4) .range [(.prim .add [(.int 1), (.call 18 [(.var 2), (.int 3)])])]
         [.asg (.nm 5) (.call 18 [(.var 2), (.prim .len [(.var 3)])]),
          .iff (.and (.prim (.isi ["tuple"]) [(.prim .ix [(.var 3), (.var 5)])]) (.prim .gt [(.prim .len [(.prim .ix [(.var 3), (.var 5)])]), (.int 0)]))
            [.setix 3 (.var 5) (.call 15 [(.var 2), (.prim .ix [(.var 3), (.var 5)])])]
            []],
       .asg (.nm 5) (.call 13 [(.var 3)]),
       .asg (.nm 6) (.prim .tup [(.str [98, 97, 100]), (.str []), (.var 5)]),
       .iff (.prim .isN [(.var 5)])
         [.asg (.nm 6) (.prim .tup [(.str [108, 111, 103]), (.prim .tuple [(.lc [8] (.nm 8) .seq [(.var 3)] [] (.prim .tuple [(.var 8)]))])])]
         [],
       .for (.nm 7) .seq [(.prim .tup [(.var 3), (.prim .tuple [(.var 3)])])]
         [.iff (.nt (.call 20 [(.call 24 [(.var 7)]), (.var 6)]))
            [.ret (.bl false)]
            []]],
    .ret (.bl true)]
def f25 : Fn := ⟨1, 9, b25⟩
def d0 : Dfn := Dfn.mk' (top 14) 0 ["thing"] ["thing", "letter"] false f0
def d1 : Dfn := Dfn.mk' (top 15) 1 ["thing"] ["thing"] false f1
def d2 : Dfn := Dfn.mk' (top 16) 2 ["thing"] ["thing"] false f2
def d3 : Dfn := Dfn.mk' (top 17) 3 ["thing"] ["thing"] false f3
def d4 : Dfn := Dfn.mk' (top 18) 4 ["thing"] ["thing", "word", "rest"] false f4
def d5 : Dfn := Dfn.mk' (top 19) 5 ["name", "entries"] ["name", "entries", "looks", "at", "entry"] false f5
def d6 : Dfn := Dfn.mk' (top 20) 6 ["entries"] ["entries"] false f6
def d7 : Dfn := Dfn.mk' (top 22) 7 ["_law_pool_here", "_law_looks"] ["_law_pool_here", "_law_looks", "_law_pick", "_law_sign_here"] false f7
def d8 : Dfn := Dfn.mk' (top 23) 8 ["_law_pool_here", "_law_many", "_law_swaps"] ["_law_pool_here", "_law_many", "_law_swaps", "_law_log", "_law_looks", "_law_left", "_law_k", "_law_entry"] false f8
def d9 : Dfn := Dfn.mk' (top 24) 9 ["_law_thing"] ["_law_thing", "_law_letter"] false f9
def d10 : Dfn := Dfn.mk' (top 25) 10 ["_law_thing"] ["_law_thing", "_law_first"] false f10
def d11 : Dfn := Dfn.mk' (top 26) 11 ["_law_thing"] ["_law_thing"] false f11
def d12 : Dfn := Dfn.mk' (top 27) 12 ["_law_thing"] ["_law_thing"] false f12
def d13 : Dfn := Dfn.mk' (top 28) 13 ["_law_entries"] ["_law_entries", "_law_looks", "_law_at", "_law_entry"] false f13
def d14 : Dfn := Dfn.mk' (top 29) 14 ["_law_pool_here", "_law_text"] ["_law_pool_here", "_law_text", "_law_signs", "_law_sign_here", "_law_at", "_law_pick"] false f14
def d15 : Dfn := Dfn.mk' (top 30) 15 ["_law_pool_here", "_law_entry"] ["_law_pool_here", "_law_entry", "_law_pick", "_law_parts", "_law_at"] false f15
def d16 : Dfn := Dfn.mk' (top 31) 16 ["_law_e"] ["_law_e", "_law_some"] true f16
def d17 : Dfn := Dfn.mk' (top 32) 17 ["_law_script", "_law_k"] ["_law_script", "_law_k", "_law_cell", "_law_left"] false f17
def d18 : Dfn := Dfn.mk' (top 33) 18 ["_law_pool_here", "_law_wide"] ["_law_pool_here", "_law_wide", "_law_primes", "_law_one", "_law_two", "_law_found"] false f18
def d19 : Dfn := Dfn.mk' (top 34) 19 ["_law_thing"] ["_law_thing"] false f19
def d20 : Dfn := Dfn.mk' (top 35) 20 ["_law_found", "_law_due"] ["_law_found", "_law_due", "_law_one", "_law_other"] false f20
def d21 : Dfn := Dfn.mk' (top 36) 21 ["_law_pool_here"] ["_law_pool_here", "_law_some"] false f21
def d22 : Dfn := Dfn.mk' (top 37) 22 ["_law_pool_here"] ["_law_pool_here", "_law_letters", "_law_k"] false f22
def d23 : Dfn := Dfn.mk' (top 38) 23 ["_law_pool_here", "_law_lone"] ["_law_pool_here", "_law_lone", "_law_sign_here"] false f23
def d24 : Dfn := Dfn.mk' (top 39) 24 ["_law_entries"] ["_law_entries", "_law_e"] false f24
def d25 : Dfn := Dfn.mk' (top 40) 25 ["_law_script"] ["_law_script", "_law_k", "_law_pool_here", "_law_entries", "_law_turn", "_law_at", "_law_due", "_law_handed", "_law_entry"] false f25
def ds : List Dfn := [d0, d1, d2, d3, d4, d5, d6, d7, d8, d9, d10, d11, d12, d13, d14, d15, d16, d17, d18, d19, d20, d21, d22, d23, d24, d25]
def cs : List (Str × D) := [("LONGEST", .int (8)), ("SMALL", .str [97, 98, 99, 100, 101, 102, 103, 104, 105, 106, 107, 108, 109, 110, 111, 112, 113, 114, 115, 116, 117, 118, 119, 120, 121, 122]), ("LETTERS", .str [110, 101, 115, 119]), ("BLIND", .tup [.str [102, 97, 99, 101], .str [115, 105, 103, 110], .str [98, 97, 114, 101], .str [115, 119, 97, 112]])]
def x0 : Xin := Xin.mk' (top 2) "NoLot" "NeedleError" ["lot"] ["self", "lot"]
def x1 : Xin := Xin.mk' (top 3) "BadLog" "NeedleError" ["name", "at"] ["self", "name", "at"]
def x2 : Xin := Xin.mk' (top 4) "NoDealing" "NeedleError" ["at"] ["self", "at"]
def x3 : Xin := Xin.mk' (top 5) "BadBox" "NeedleError" ["at"] ["self", "at"]
def x4 : Xin := Xin.mk' (top 6) "NoName" "NeedleError" ["name"] ["self", "name"]
def x5 : Xin := Xin.mk' (top 7) "Twice" "NeedleError" ["name"] ["self", "name"]
def x6 : Xin := Xin.mk' (top 8) "NoWalker" "NeedleError" ["name"] ["self", "name"]
def xi : List Xin := [x0, x1, x2, x3, x4, x5, x6]
def ys : List (Str × Ent) := [("NeedleError", .xc "NeedleError" ["NeedleError"] none), ("NoLot", .xc "NoLot" ["NoLot", "NeedleError"] (some ["lot"])), ("BadLog", .xc "BadLog" ["BadLog", "NeedleError"] (some ["name", "at"])), ("NoDealing", .xc "NoDealing" ["NoDealing", "NeedleError"] (some ["at"])), ("BadBox", .xc "BadBox" ["BadBox", "NeedleError"] (some ["at"])), ("NoName", .xc "NoName" ["NoName", "NeedleError"] (some ["name"])), ("Twice", .xc "Twice" ["Twice", "NeedleError"] (some ["name"])), ("NoWalker", .xc "NoWalker" ["NoWalker", "NeedleError"] (some ["name"]))]
def es : Ents := esOf ds cs ys
end Lk08

namespace Lk08
open PySem L2 BV
/-! ### parts of an entry -/
def ODD : List D := [.non, .bl true, .bl false, .tup [], .tup [.int 0], .tup [.str [110]], .lst [], .lst [.int 0], .tup [.str [97], .int 0]]
def Part (n : Nat) (d : D) : Prop := (∃ i, d = .int i) ∨ (∃ s, d = .str s ∧ s.length ≤ n ∧ okS s = true) ∨ d ∈ ODD
theorem Part.mono {n m : Nat} {d : D} (h : Part n d) (hn : n ≤ m) : Part m d := by
  rcases h with h | ⟨s, rfl, h1, h2⟩ | h
  · exact .inl h
  · exact .inr (.inl ⟨s, rfl, by omega, h2⟩)
  · exact .inr (.inr h)
def manyB : D → Bool
  | .int i => decide (1 ≤ i ∧ i ≤ 9)
  | _ => false
def signB : D → Bool
  | .str s => isSignB s
  | _ => false
def letB : D → Bool
  | .str [c] => decide (c ∈ NESW)
  | _ => false
def strB : D → Bool
  | .str _ => true
  | _ => false
theorem odd_of (P : D → Bool) (h : ODD.all P = true) {d : D} (hd : d ∈ ODD) : P d = true := List.all_eq_true.mp h d hd
theorem odd_no {d : D} (hd : d ∈ ODD) : manyB d = false ∧ signB d = false ∧ letB d = false ∧ strB d = false ∧ notStr d = true ∧ okd 63 d = true := by
  have := odd_of (fun d => !manyB d && !signB d && !letB d && !strB d && notStr d && okd 63 d) (by decide) hd
  simpa [and_assoc] using this
theorem part_okd {n : Nat} {d : D} (h : Part n d) : okd 63 d = true := by
  rcases h with ⟨i, rfl⟩ | ⟨s, rfl, _, h⟩ | h
  · simp [okd]
  · rw [okd]; exact h
  · exact (odd_no h).2.2.2.2.2
theorem parts_okd {n : Nat} : ∀ {r : List D}, (∀ x ∈ r, Part n x) → okds 63 r = true
  | [], _ => rfl
  | x :: r, h => by rw [okds, part_okd (h x List.mem_cons_self), parts_okd fun y hy => h y (List.mem_cons_of_mem _ hy)]; rfl
theorem isi_str {n : Nat} {d : D} (h : Part n d) : isiS ["str"] d = some (.bl (strB d), false) := by
  rcases h with ⟨i, rfl⟩ | ⟨s, rfl, _, h⟩ | h
  · rfl
  · rfl
  · rw [(odd_no h).2.2.2.1, isi_str_no (odd_no h).2.2.2.2.1]
def isNo (r : Option (Rs × List Cell)) : Bool := match r with
  | some (.ok (.bl false) false, [.un]) => true
  | _ => false
theorem isNo_ok {r : Option (Rs × List Cell)} (h : isNo r = true) : r = some (.ok (.bl false) false, [.un]) := by
  unfold isNo at h
  split at h
  · rfl
  · cases h
/-! ### the own names' tests -/
theorem nm (k : Nat) : NmOk (run (tbE es) k) 26 27 := ⟨run_val k 26 _ rfl _, run_val k 27 _ rfl _⟩
theorem name_str (k : Nat) (s : List Nat) (hl : s.length ≤ LIM) : run (tbE es) (k + 1) 0 [.fz (.str s)] = some (.ok (.bl (isNameB s)) false, [.un]) := (run_fn k 0 (fIsName 26 27) rfl _).trans (isname_str (nm k) s hl)
theorem lone_str (k : Nat) (s : List Nat) (hl : s.length ≤ LIM) (ho : okS s = true) : run (tbE es) (k + 2) 2 [.fz (.str s)] = some (.ok (.bl (isLoneB s)) false, [.un]) := (run_fn (k + 1) 2 (fIsLone 0 26 27) rfl _).trans (islone_str (nm (k + 1)) (fun s hl => name_str k s hl) s hl ho)
theorem sign_p (k : Nat) {n : Nat} (hn : n ≤ 1000) {x : D} (h : Part n x) : run (tbE es) (k + 3) 1 [.fz x] = some (.ok (.bl (signB x)) false, [.un]) := by
  rcases h with ⟨i, rfl⟩ | ⟨s, rfl, h1, h2⟩ | h
  · exact (run_fn (k + 2) 1 (fIsSign 0 2) rfl _).trans (issign_no rfl)
  · exact (run_fn (k + 2) 1 (fIsSign 0 2) rfl _).trans (issign_str (fun s hl => name_str (k + 1) s hl) (fun s hl ho => lone_str k s hl ho) s (by unfold LIM; omega) h2)
  · rw [(odd_no h).2.1]
    exact (run_fn (k + 2) 1 (fIsSign 0 2) rfl _).trans (issign_no (odd_no h).2.2.2.2.1)
theorem many_p (k : Nat) {n : Nat} {x : D} (h : Part n x) : run (tbE es) (k + 2) 3 [.fz x] = some (.ok (.bl (manyB x)) false, [.un]) := by
  have key : ∀ x : D, manyB x = false → isNo (run (tbE es) 2 3 [.fz x]) = true → run (tbE es) (k + 2) 3 [.fz x] = some (.ok (.bl (manyB x)) false, [.un]) := fun x h1 h2 => by
    rw [h1]
    exact run_le (show 2 ≤ k + 2 by omega) _ _ _ (isNo_ok h2)
  rcases h with ⟨i, rfl⟩ | ⟨s, rfl, h1, h2⟩ | h
  · exact (run_fn (k + 1) 3 fIsMany rfl _).trans (ismany_int i)
  · rw [run_fn (k + 1) 3 f3 rfl]
    simp [runFn, wx_for, w_lc, w_meth, w_glob, w_dsp, w_gdix, w_gdin, wt_gdin, w_ch, wt_ch, wx_par, wx_aug, wx_retN, wx_raise, wx_tryH, hd_0, hd_n, hd_s, wx_tr, noEx, unname, isxS, fldS, lookF, wx_brk, wx_cont, st_tl, st_tt, st_0, st_1, evc_0, evc_1, lcStep, fStep, argOf, onVar, isVar, Cell.on, gets, Ag.get, Cell.val, P.pk, P.sem, P.rcv, M.rcv, M.pk, semAt, tyn, isiS, isiOne, tyNames, tru, isN, callK, pks, nodupB, agCells, agCell, giv, backs, back, locks, unlocks, unl, noOwn, wiped, putsAt, R.only, unbrk, stv, finOf, Cell.keep, pin_un, pin_fz, pin_ow, pin_pr, pin_pz, pin_lk, Cell.mt, Cell.put, Cell.lock, Cell.unlock, intS, cmpS, cmpI, ixS, lenS, f3, b3, manyB]
  · exact key x (odd_no h).1 (odd_of (fun x => isNo (run (tbE es) 2 3 [.fz x])) (by decide +kernel) h)
def isW : D → Bool
  | .int _ => true
  | _ => false
theorem whole_p (k : Nat) {n : Nat} {x : D} (h : Part n x) : run (tbE es) (k + 2) 19 [.fz x] = some (.ok (.bl (isW x)) false, [.un]) := by
  rcases h with ⟨i, rfl⟩ | ⟨s, rfl, h1, h2⟩ | h
  · rw [run_fn (k + 1) 19 f19 rfl]
    simp [runFn, wx_for, w_lc, w_meth, w_glob, w_dsp, w_gdix, w_gdin, wt_gdin, w_ch, wt_ch, wx_par, wx_aug, wx_retN, wx_raise, wx_tryH, hd_0, hd_n, hd_s, wx_tr, noEx, unname, isxS, fldS, lookF, wx_brk, wx_cont, st_tl, st_tt, st_0, st_1, evc_0, evc_1, lcStep, fStep, argOf, onVar, isVar, Cell.on, gets, Ag.get, Cell.val, P.pk, P.sem, P.rcv, M.rcv, M.pk, semAt, tyn, isiS, isiOne, tyNames, tru, isN, callK, pks, nodupB, agCells, agCell, giv, backs, back, locks, unlocks, unl, noOwn, wiped, putsAt, R.only, unbrk, stv, finOf, Cell.keep, pin_un, pin_fz, pin_ow, pin_pr, pin_pz, pin_lk, Cell.mt, Cell.put, Cell.lock, Cell.unlock, intS, cmpS, cmpI, ixS, lenS, f19, b19, isW]
  · rw [run_fn (k + 1) 19 f19 rfl]
    simp [runFn, wx_for, w_lc, w_meth, w_glob, w_dsp, w_gdix, w_gdin, wt_gdin, w_ch, wt_ch, wx_par, wx_aug, wx_retN, wx_raise, wx_tryH, hd_0, hd_n, hd_s, wx_tr, noEx, unname, isxS, fldS, lookF, wx_brk, wx_cont, st_tl, st_tt, st_0, st_1, evc_0, evc_1, lcStep, fStep, argOf, onVar, isVar, Cell.on, gets, Ag.get, Cell.val, P.pk, P.sem, P.rcv, M.rcv, M.pk, semAt, tyn, isiS, isiOne, tyNames, tru, isN, callK, pks, nodupB, agCells, agCell, giv, backs, back, locks, unlocks, unl, noOwn, wiped, putsAt, R.only, unbrk, stv, finOf, Cell.keep, pin_un, pin_fz, pin_ow, pin_pr, pin_pz, pin_lk, Cell.mt, Cell.put, Cell.lock, Cell.unlock, intS, cmpS, cmpI, ixS, lenS, f19, b19, isW]
  · have : (isW x) = false := by
      have := odd_of (fun x => !(isW x)) (by decide) h
      simpa using this
    rw [this]
    exact run_le (show 2 ≤ k + 2 by omega) _ _ _ (isNo_ok (odd_of (fun x => isNo (run (tbE es) 2 19 [.fz x])) (by decide +kernel) h))
theorem lmany_p (k : Nat) {n : Nat} {x : D} (h : Part n x) : run (tbE es) (k + 3) 11 [.fz x] = some (.ok (.bl (manyB x)) false, [.un]) := by
  have hw := whole_p k h
  rw [run_fn (k + 2) 11 f11 rfl]
  rcases h with ⟨i, rfl⟩ | ⟨s, rfl, h1, h2⟩ | h
  · simp only [isW] at hw
    by_cases a1 : 1 ≤ i
    · have a0 : 0 < i := by omega
      by_cases a2 : i ≤ 9
      · have a3 : i < 10 := by omega
        simp [runFn, wx_for, w_lc, w_meth, w_glob, w_dsp, w_gdix, w_gdin, wt_gdin, w_ch, wt_ch, wx_par, wx_aug, wx_retN, wx_raise, wx_tryH, hd_0, hd_n, hd_s, wx_tr, noEx, unname, isxS, fldS, lookF, wx_brk, wx_cont, st_tl, st_tt, st_0, st_1, evc_0, evc_1, lcStep, fStep, argOf, onVar, isVar, Cell.on, gets, Ag.get, Cell.val, P.pk, P.sem, P.rcv, M.rcv, M.pk, semAt, tyn, isiS, isiOne, tyNames, tru, isN, callK, pks, nodupB, agCells, agCell, giv, backs, back, locks, unlocks, unl, noOwn, wiped, putsAt, R.only, unbrk, stv, finOf, Cell.keep, pin_un, pin_fz, pin_ow, pin_pr, pin_pz, pin_lk, Cell.mt, Cell.put, Cell.lock, Cell.unlock, intS, cmpS, cmpI, ixS, lenS, f11, b11, hw, manyB, a0, a1, a2, a3]
      · have a3 : ¬ i < 10 := by omega
        simp [runFn, wx_for, w_lc, w_meth, w_glob, w_dsp, w_gdix, w_gdin, wt_gdin, w_ch, wt_ch, wx_par, wx_aug, wx_retN, wx_raise, wx_tryH, hd_0, hd_n, hd_s, wx_tr, noEx, unname, isxS, fldS, lookF, wx_brk, wx_cont, st_tl, st_tt, st_0, st_1, evc_0, evc_1, lcStep, fStep, argOf, onVar, isVar, Cell.on, gets, Ag.get, Cell.val, P.pk, P.sem, P.rcv, M.rcv, M.pk, semAt, tyn, isiS, isiOne, tyNames, tru, isN, callK, pks, nodupB, agCells, agCell, giv, backs, back, locks, unlocks, unl, noOwn, wiped, putsAt, R.only, unbrk, stv, finOf, Cell.keep, pin_un, pin_fz, pin_ow, pin_pr, pin_pz, pin_lk, Cell.mt, Cell.put, Cell.lock, Cell.unlock, intS, cmpS, cmpI, ixS, lenS, f11, b11, hw, manyB, a0, a1, a2, a3]
    · have a0 : ¬ 0 < i := by omega
      simp [runFn, wx_for, w_lc, w_meth, w_glob, w_dsp, w_gdix, w_gdin, wt_gdin, w_ch, wt_ch, wx_par, wx_aug, wx_retN, wx_raise, wx_tryH, hd_0, hd_n, hd_s, wx_tr, noEx, unname, isxS, fldS, lookF, wx_brk, wx_cont, st_tl, st_tt, st_0, st_1, evc_0, evc_1, lcStep, fStep, argOf, onVar, isVar, Cell.on, gets, Ag.get, Cell.val, P.pk, P.sem, P.rcv, M.rcv, M.pk, semAt, tyn, isiS, isiOne, tyNames, tru, isN, callK, pks, nodupB, agCells, agCell, giv, backs, back, locks, unlocks, unl, noOwn, wiped, putsAt, R.only, unbrk, stv, finOf, Cell.keep, pin_un, pin_fz, pin_ow, pin_pr, pin_pz, pin_lk, Cell.mt, Cell.put, Cell.lock, Cell.unlock, intS, cmpS, cmpI, ixS, lenS, f11, b11, hw, manyB, a0, a1]
  · simp only [isW] at hw
    simp [runFn, wx_for, w_lc, w_meth, w_glob, w_dsp, w_gdix, w_gdin, wt_gdin, w_ch, wt_ch, wx_par, wx_aug, wx_retN, wx_raise, wx_tryH, hd_0, hd_n, hd_s, wx_tr, noEx, unname, isxS, fldS, lookF, wx_brk, wx_cont, st_tl, st_tt, st_0, st_1, evc_0, evc_1, lcStep, fStep, argOf, onVar, isVar, Cell.on, gets, Ag.get, Cell.val, P.pk, P.sem, P.rcv, M.rcv, M.pk, semAt, tyn, isiS, isiOne, tyNames, tru, isN, callK, pks, nodupB, agCells, agCell, giv, backs, back, locks, unlocks, unl, noOwn, wiped, putsAt, R.only, unbrk, stv, finOf, Cell.keep, pin_un, pin_fz, pin_ow, pin_pr, pin_pz, pin_lk, Cell.mt, Cell.put, Cell.lock, Cell.unlock, intS, cmpS, cmpI, ixS, lenS, f11, b11, hw, manyB]
  · have : (isW x) = false := by
      have := odd_of (fun x => !(isW x)) (by decide) h
      simpa using this
    rw [this] at hw
    rw [(odd_no h).1]
    simp [runFn, wx_for, w_lc, w_meth, w_glob, w_dsp, w_gdix, w_gdin, wt_gdin, w_ch, wt_ch, wx_par, wx_aug, wx_retN, wx_raise, wx_tryH, hd_0, hd_n, hd_s, wx_tr, noEx, unname, isxS, fldS, lookF, wx_brk, wx_cont, st_tl, st_tt, st_0, st_1, evc_0, evc_1, lcStep, fStep, argOf, onVar, isVar, Cell.on, gets, Ag.get, Cell.val, P.pk, P.sem, P.rcv, M.rcv, M.pk, semAt, tyn, isiS, isiOne, tyNames, tru, isN, callK, pks, nodupB, agCells, agCell, giv, backs, back, locks, unlocks, unl, noOwn, wiped, putsAt, R.only, unbrk, stv, finOf, Cell.keep, pin_un, pin_fz, pin_ow, pin_pr, pin_pz, pin_lk, Cell.mt, Cell.put, Cell.lock, Cell.unlock, intS, cmpS, cmpI, ixS, lenS, f11, b11, hw]
theorem lcs {cs : CS} (s : List Nat) (c0 : Cell) (hl : s.length ≤ LIM) : ∃ c1, lcGo (lcStep cs [1] (.nm 1) [] (.prim .isin [(.var 1), (.str SMALL)])) (s.map fun c => D.str [c]) [] [c0, .un] = .ok (s.map fun c => D.bl (decide (c ∈ SMALL))) [c0, c1] := by
  obtain ⟨ρ', h1, c1, h2⟩ := lc_map (step := lcStep cs [1] (.nm 1) [] (.prim .isin [(.var 1), (.str SMALL)])) (g := fun d => match d with | .str [c] => D.bl (decide (c ∈ SMALL)) | _ => .non) (xs := s.map fun c => D.str [c]) (ρ := [c0, .un])
    (fun ρ => ∃ c1, ρ = [c0, c1]) ⟨_, rfl⟩ (by rw [List.length_map]; exact hl) (fun x hx ρ ⟨c1, e⟩ => by
      subst e
      obtain ⟨c, hc, rfl⟩ := List.mem_map.mp hx
      refine ⟨[c0, .fz (.str [c])], ?_, _, rfl⟩
      have hi := in_one (c := c) (t := SMALL) false (by decide)
      simp [runFn, wx_for, w_lc, w_meth, w_glob, w_dsp, w_gdix, w_gdin, wt_gdin, w_ch, wt_ch, wx_par, wx_aug, wx_retN, wx_raise, wx_tryH, hd_0, hd_n, hd_s, wx_tr, noEx, unname, isxS, fldS, lookF, wx_brk, wx_cont, st_tl, st_tt, st_0, st_1, evc_0, evc_1, lcStep, fStep, argOf, onVar, isVar, Cell.on, gets, Ag.get, Cell.val, P.pk, P.sem, P.rcv, M.rcv, M.pk, semAt, tyn, isiS, isiOne, tyNames, tru, isN, callK, pks, nodupB, agCells, agCell, giv, backs, back, locks, unlocks, unl, noOwn, wiped, putsAt, R.only, unbrk, stv, finOf, Cell.keep, pin_un, pin_fz, pin_ow, pin_pr, pin_pz, pin_lk, Cell.mt, Cell.put, Cell.lock, Cell.unlock, intS, cmpS, cmpI, ixS, lenS, hi])
  subst h2
  refine ⟨c1, ?_⟩
  rw [h1, List.map_map]
  rfl
def g3 : Fn := ⟨1, 2, [.iff (.or (.nt (.prim (.isi ["str"]) [(.var 0)])) (.nt (.ch .lt .lt (.int 0) (.prim .len [(.var 0)]) (.int 9))))
      [.ret (.bl false)]
      [],
    .ret (.prim .all [(.lc [1] (.nm 1) .seq [(.var 0)] [] (.prim .isin [(.var 1), (.str SMALL)]))])]⟩
theorem lname_str {cs : CS} (s : List Nat) (hl : s.length ≤ LIM) : runFn cs g3 [.fz (.str s)] = some (.ok (.bl (isNameB s)) false, [.un]) := by
  obtain ⟨c1, h1⟩ := lcs (cs := cs) s (.fz (.str s)) hl
  have hq : IK.seq.sem [.str s] = some (s.map fun c => D.str [c]) := rfl
  have ha : allS (fun bs => bs.all id) (.lst (s.map fun c => D.bl (decide (c ∈ SMALL)))) = some (.bl (s.all fun c => decide (c ∈ SMALL)), false) := by
    show (allBl _).map _ = _
    rw [allBl_map]
    simp [List.all_map, Function.comp_def]
  by_cases h0 : 0 < s.length
  · by_cases h8 : s.length ≤ 8
    · have h8' : (s.length : Int) < 9 := by omega
      have e : isNameB s = s.all fun c => decide (c ∈ SMALL) := by unfold isNameB; simp [h0, h8]
      rw [e]
      simp [runFn, wx_for, w_lc, w_meth, w_glob, w_dsp, w_gdix, w_gdin, wt_gdin, w_ch, wt_ch, wx_par, wx_aug, wx_retN, wx_raise, wx_tryH, hd_0, hd_n, hd_s, wx_tr, noEx, unname, isxS, fldS, lookF, wx_brk, wx_cont, st_tl, st_tt, st_0, st_1, evc_0, evc_1, lcStep, fStep, argOf, onVar, isVar, Cell.on, gets, Ag.get, Cell.val, P.pk, P.sem, P.rcv, M.rcv, M.pk, semAt, tyn, isiS, isiOne, tyNames, tru, isN, callK, pks, nodupB, agCells, agCell, giv, backs, back, locks, unlocks, unl, noOwn, wiped, putsAt, R.only, unbrk, stv, finOf, Cell.keep, pin_un, pin_fz, pin_ow, pin_pr, pin_pz, pin_lk, Cell.mt, Cell.put, Cell.lock, Cell.unlock, intS, cmpS, cmpI, ixS, lenS, g3, h0, h8, h8', hl, hq, h1, ha]
    · have h8' : ¬ (s.length : Int) < 9 := by omega
      have e : isNameB s = false := by unfold isNameB; simp [h0, h8]
      rw [e]
      simp [runFn, wx_for, w_lc, w_meth, w_glob, w_dsp, w_gdix, w_gdin, wt_gdin, w_ch, wt_ch, wx_par, wx_aug, wx_retN, wx_raise, wx_tryH, hd_0, hd_n, hd_s, wx_tr, noEx, unname, isxS, fldS, lookF, wx_brk, wx_cont, st_tl, st_tt, st_0, st_1, evc_0, evc_1, lcStep, fStep, argOf, onVar, isVar, Cell.on, gets, Ag.get, Cell.val, P.pk, P.sem, P.rcv, M.rcv, M.pk, semAt, tyn, isiS, isiOne, tyNames, tru, isN, callK, pks, nodupB, agCells, agCell, giv, backs, back, locks, unlocks, unl, noOwn, wiped, putsAt, R.only, unbrk, stv, finOf, Cell.keep, pin_un, pin_fz, pin_ow, pin_pr, pin_pz, pin_lk, Cell.mt, Cell.put, Cell.lock, Cell.unlock, intS, cmpS, cmpI, ixS, lenS, g3, h0, h8, h8', hl]
  · have e : isNameB s = false := by unfold isNameB; simp [h0]
    have hz : s = [] := List.length_eq_zero_iff.mp (by omega)
    rw [e]
    subst hz
    simp [runFn, wx_for, w_lc, w_meth, w_glob, w_dsp, w_gdix, w_gdin, wt_gdin, w_ch, wt_ch, wx_par, wx_aug, wx_retN, wx_raise, wx_tryH, hd_0, hd_n, hd_s, wx_tr, noEx, unname, isxS, fldS, lookF, wx_brk, wx_cont, st_tl, st_tt, st_0, st_1, evc_0, evc_1, lcStep, fStep, argOf, onVar, isVar, Cell.on, gets, Ag.get, Cell.val, P.pk, P.sem, P.rcv, M.rcv, M.pk, semAt, tyn, isiS, isiOne, tyNames, tru, isN, callK, pks, nodupB, agCells, agCell, giv, backs, back, locks, unlocks, unl, noOwn, wiped, putsAt, R.only, unbrk, stv, finOf, Cell.keep, pin_un, pin_fz, pin_ow, pin_pr, pin_pz, pin_lk, Cell.mt, Cell.put, Cell.lock, Cell.unlock, intS, cmpS, cmpI, ixS, lenS, g3, LIM]
theorem lname_no {cs : CS} {d : D} (h : notStr d = true) : runFn cs g3 [.fz d] = some (.ok (.bl false) false, [.un]) := by
  have hi := isi_str_no h
  simp [runFn, g3, argOf, onVar, isVar, Cell.on, gets, Ag.get, Cell.val, giv, P.pk, P.sem, hi, tru, finOf, Cell.keep, Cell.pin]
def g4 : Fn := ⟨1, 2, [.iff (.or (.nt (.prim (.isi ["str"]) [(.var 0)])) (.prim .eq [(.var 0), (.str [])]))
      [.ret (.bl false)]
      [],
    .asg (.nm 1) (.prim .ix [(.var 0), (.int 0)]),
    .iff (.prim .isin [(.var 1), (.str GREAT)])
      [.asg (.nm 1) (.str [97])]
      [],
    .ret (.call 9 [(.prim .add [(.var 1), (.prim (.sl true false) [(.var 0), (.int 1)])])])]⟩
theorem lsign_str {cs : CS} (hn : ∀ s, s.length ≤ LIM → cs 9 [.fz (.str s)] = some (.ok (.bl (isNameB s)) false, [.un])) (s : List Nat) (hl : s.length ≤ LIM) (ho : okS s = true) : runFn cs g4 [.fz (.str s)] = some (.ok (.bl (isSignB s)) false, [.un]) := by
  cases s with
  | nil =>
    have he : eqS false (.str []) (.str []) = some (.bl true, false) := by kernel_rfl
    have e : isSignB [] = false := rfl
    rw [e]
    simp [runFn, wx_for, w_lc, w_meth, w_glob, w_dsp, w_gdix, w_gdin, wt_gdin, w_ch, wt_ch, wx_par, wx_aug, wx_retN, wx_raise, wx_tryH, hd_0, hd_n, hd_s, wx_tr, noEx, unname, isxS, fldS, lookF, wx_brk, wx_cont, st_tl, st_tt, st_0, st_1, evc_0, evc_1, lcStep, fStep, argOf, onVar, isVar, Cell.on, gets, Ag.get, Cell.val, P.pk, P.sem, P.rcv, M.rcv, M.pk, semAt, tyn, isiS, isiOne, tyNames, tru, isN, callK, pks, nodupB, agCells, agCell, giv, backs, back, locks, unlocks, unl, noOwn, wiped, putsAt, R.only, unbrk, stv, finOf, Cell.keep, pin_un, pin_fz, pin_ow, pin_pr, pin_pz, pin_lk, Cell.mt, Cell.put, Cell.lock, Cell.unlock, intS, cmpS, cmpI, ixS, lenS, g4, he]
  | cons c r =>
    have he : eqS false (.str (c :: r)) (.str []) = some (.bl false, false) := by
      unfold eqS
      rw [if_pos ⟨ok_str ho, by simp [okd]⟩]
      simp [eqd]
    have hx : atd (c :: r) 0 = some c := at_0 c r
    have hi := in_one (c := c) (t := GREAT) false (by decide)
    have hc1 : cut (c :: r) (some 1) none = r := cut_1
    rw [List.length_cons] at hl
    have hl' : r.length < LIM := by omega
    have ha : ∀ x : Nat, addS (.str [x]) (.str r) = some (.str (x :: r), false) := fun x => add_str (by simp; omega)
    by_cases hc : c ∈ GREAT
    · have h97 := hn (97 :: r) (by rw [List.length_cons]; omega)
      have e : isNameB (97 :: r) = isSignB (c :: r) := by
        have hs : c ∉ SMALL := by
          have := in_great.mp hc
          rw [in_small]
          omega
        have hs7 : 97 ∈ SMALL := by decide
        unfold isSignB isLoneB
        by_cases hr : r = []
        · subst hr
          unfold isNameB
          simp [hs, hc, hs7]
        · have : 0 < r.length := List.length_pos_iff.mpr hr
          unfold isNameB
          simp only [List.length_cons, List.all_cons, hs, hc, hs7, hr, decide_true, decide_false, Bool.true_and, Bool.false_and, Bool.and_false, Bool.false_or]
          by_cases h7 : r.length ≤ 7
          · have : r.length + 1 ≤ 8 := by omega
            have : r.length ≤ 8 := by omega
            simp [*]
          · have : ¬ r.length + 1 ≤ 8 := by omega
            simp [*]
      rw [e] at h97
      simp [runFn, wx_for, w_lc, w_meth, w_glob, w_dsp, w_gdix, w_gdin, wt_gdin, w_ch, wt_ch, wx_par, wx_aug, wx_retN, wx_raise, wx_tryH, hd_0, hd_n, hd_s, wx_tr, noEx, unname, isxS, fldS, lookF, wx_brk, wx_cont, st_tl, st_tt, st_0, st_1, evc_0, evc_1, lcStep, fStep, argOf, onVar, isVar, Cell.on, gets, Ag.get, Cell.val, P.pk, P.sem, P.rcv, M.rcv, M.pk, semAt, tyn, isiS, isiOne, tyNames, tru, isN, callK, pks, nodupB, agCells, agCell, giv, backs, back, locks, unlocks, unl, noOwn, wiped, putsAt, R.only, unbrk, stv, finOf, Cell.keep, pin_un, pin_fz, pin_ow, pin_pr, pin_pz, pin_lk, Cell.mt, Cell.put, Cell.lock, Cell.unlock, intS, cmpS, cmpI, ixS, lenS, g4, he, hx, hi, hc, hl, hl', slS, hc1, ha, h97]
    · have h97 := hn (c :: r) (by rw [List.length_cons]; omega)
      have e : isNameB (c :: r) = isSignB (c :: r) := by
        unfold isSignB isLoneB
        simp [hc]
      rw [e] at h97
      simp [runFn, wx_for, w_lc, w_meth, w_glob, w_dsp, w_gdix, w_gdin, wt_gdin, w_ch, wt_ch, wx_par, wx_aug, wx_retN, wx_raise, wx_tryH, hd_0, hd_n, hd_s, wx_tr, noEx, unname, isxS, fldS, lookF, wx_brk, wx_cont, st_tl, st_tt, st_0, st_1, evc_0, evc_1, lcStep, fStep, argOf, onVar, isVar, Cell.on, gets, Ag.get, Cell.val, P.pk, P.sem, P.rcv, M.rcv, M.pk, semAt, tyn, isiS, isiOne, tyNames, tru, isN, callK, pks, nodupB, agCells, agCell, giv, backs, back, locks, unlocks, unl, noOwn, wiped, putsAt, R.only, unbrk, stv, finOf, Cell.keep, pin_un, pin_fz, pin_ow, pin_pr, pin_pz, pin_lk, Cell.mt, Cell.put, Cell.lock, Cell.unlock, intS, cmpS, cmpI, ixS, lenS, g4, he, hx, hi, hc, hl, hl', slS, hc1, ha, h97]
theorem lsign_no {cs : CS} {d : D} (h : notStr d = true) : runFn cs g4 [.fz d] = some (.ok (.bl false) false, [.un]) := by
  have hi := isi_str_no h
  simp [runFn, g4, argOf, onVar, isVar, Cell.on, gets, Ag.get, Cell.val, giv, P.pk, P.sem, hi, tru, finOf, Cell.keep, Cell.pin]
theorem lsign_p (k : Nat) {n : Nat} (hn : n ≤ 1000) {x : D} (h : Part n x) : run (tbE es) (k + 2) 10 [.fz x] = some (.ok (.bl (signB x)) false, [.un]) := by
  rcases h with ⟨i, rfl⟩ | ⟨s, rfl, h1, h2⟩ | h
  · exact (run_fn (k + 1) 10 g4 rfl _).trans (lsign_no rfl)
  · exact (run_fn (k + 1) 10 g4 rfl _).trans (lsign_str (fun s hl => (run_fn k 9 g3 rfl _).trans (lname_str s hl)) s (by unfold LIM; omega) h2)
  · rw [(odd_no h).2.1]; exact (run_fn (k + 1) 10 g4 rfl _).trans (lsign_no (odd_no h).2.2.2.2.1)
/-! ### an entry -/
def SIX : List (List Nat) := [[108, 101, 102, 116], [114, 105, 103, 104, 116], [98, 97, 99, 107], [98, 117, 109, 112], [98, 97, 114, 101], [115, 119, 97, 112]]
def FACE : List Nat := [102, 97, 99, 101]
def GO : List Nat := [103, 111]
def SIGN : List Nat := [115, 105, 103, 110]
def SPY : List Nat := [115, 112, 121]
def m1 (f : D → Bool) : List D → Bool
  | [x] => f x
  | _ => false
def m2 (f : D → D → Bool) : List D → Bool
  | [x, y] => f x y
  | _ => false
def restB (w : List Nat) (r : List D) : Bool :=
  if w ∈ SIX then r.isEmpty
  else if w = FACE then m1 letB r
  else if w = GO then m1 manyB r
  else if w = SIGN then m1 signB r
  else if w = SPY then m2 (fun x y => manyB x && signB y) r
  else false
theorem in_words (n : Bool) (w : List Nat) (ws : List (List Nat)) : inS n (.str w) (.tup (ws.map .str)) = some (.bl (if n then !decide (w ∈ ws) else decide (w ∈ ws)), false) := by
  show (if flatd (.str w) = true ∧ (ws.map D.str).all flatd = true then some (D.bl (if n then !inD (.str w) (ws.map .str) else inD (.str w) (ws.map .str)), false) else none) = _
  have h1 : (ws.map D.str).all flatd = true := by
    rw [List.all_map]
    exact List.all_eq_true.mpr fun _ _ => rfl
  have h2 : inD (.str w) (ws.map .str) = decide (w ∈ ws) := by
    unfold inD
    rw [List.any_map]
    induction ws with
    | nil => rfl
    | cons a ws ih =>
      have ih := ih (by rw [List.all_map]; exact List.all_eq_true.mpr fun _ _ => rfl)
      rw [List.any_cons, ih]
      show ((eqd (.str a) (.str w)) || _) = _
      rw [eqd]
      by_cases e : a = w
      · subst e; simp
      · have e2 : ¬ w = a := fun z => e z.symm
        simp [e, e2]
  rw [if_pos ⟨rfl, h1⟩, h2]
theorem ok6 {w : List Nat} (h : w ∈ SIX) : okS w = true := by
  have : ∀ w ∈ SIX, okS w = true := by decide
  exact this w h
theorem eq_nat (a b : Nat) : eqS false (.int (a : Int)) (.int (b : Int)) = some (.bl (decide (a = b)), false) := by
  rw [eq_int]
  by_cases h : a = b
  · subst h; simp
  · have : ¬ ((a : Int) = b) := by omega
    simp [h, this]
theorem eq_empty {n : Nat} {r : List D} (h : ∀ x ∈ r, Part n x) : eqS false (.lst r) (.lst []) = some (.bl r.isEmpty, false) := by
  unfold eqS
  rw [if_pos ⟨by rw [okd]; exact parts_okd h, by decide⟩]
  cases r <;> rfl
theorem nw {w v : List Nat} (h : okS w = true) (hv : okS v = true) : eqS false (.str w) (.str v) = some (.bl (decide (w = v)), false) := by
  rw [eq_str h hv]
  by_cases e : w = v
  · subst e; simp
  · simp [e]
/-- what is asked of the rest, by its first word; each as the two defs ask it -/
structure Asks (cs : CS) (n m s : Nat) : Prop where
  many : ∀ x, Part n x → cs m [.fz x] = some (.ok (.bl (manyB x)) false, [.un])
  sign : ∀ x, Part n x → cs s [.fz x] = some (.ok (.bl (signB x)) false, [.un])
theorem two_of {α : Type} : ∀ {r : List α}, r.length = 1 → ∃ x, r = [x]
  | [x], _ => ⟨x, rfl⟩
theorem three_of {α : Type} : ∀ {r : List α}, r.length = 2 → ∃ x y, r = [x, y]
  | [x, y], _ => ⟨x, y, rfl⟩
theorem m1_no {r : List D} (h : ¬ r.length = 1) (f : D → Bool) : m1 f r = false := by
  cases r with
  | nil => rfl
  | cons x r => cases r with
    | nil => exact absurd rfl h
    | cons y r => rfl
theorem m2_no {r : List D} (h : ¬ r.length = 2) (f : D → D → Bool) : m2 f r = false := by
  cases r with
  | nil => rfl
  | cons x r => cases r with
    | nil => rfl
    | cons y r => cases r with
      | nil => exact absurd rfl h
      | cons z r => rfl
theorem entry_w {cs : CS} {n m s L : Nat} (A : Asks cs n m s) (hL : cs L [] = some (.ok (.str NESW) false, [])) (hn : n ≤ 1000) {w : List Nat} {r : List D} (hw : okS w = true) (hr : ∀ x ∈ r, Part n x) (hl : r.length ≤ 1000) :
    runFn cs (fIsEntry m s L) [.fz (.tup (.str w :: r))] = some (.ok (.bl (restB w r)) false, [.un]) := by
  have q6 := in_words false w SIX
  have qF := nw hw (v := FACE) (by decide)
  have qG := nw hw (v := GO) (by decide)
  have qS := nw hw (v := SIGN) (by decide)
  have qY := nw hw (v := SPY) (by decide)
  have qe := eq_empty hr
  have l0 : lenS (.tup (.str w :: r)) = some (.int ((r.length + 1 : Nat) : Int), false) := rfl
  have z0 : eqS false (.int ((r.length + 1 : Nat) : Int)) (.int 0) = some (.bl (decide (r.length + 1 = 0)), false) := eq_nat _ 0
  have l1 : lenS (.lst r) = some (.int (r.length : Int), false) := rfl
  have z1 : eqS false (.int (r.length : Int)) (.int 1) = some (.bl (decide (r.length = 1)), false) := eq_nat _ 1
  have z2 : eqS false (.int (r.length : Int)) (.int 2) = some (.bl (decide (r.length = 2)), false) := eq_nat _ 2
  obtain ⟨y0, hy0⟩ : ∃ y : Int, y = ((r.length + 1 : Nat) : Int) := ⟨_, rfl⟩
  obtain ⟨y1, hy1⟩ : ∃ y : Int, y = (r.length : Int) := ⟨_, rfl⟩
  have n0 : ¬ (r.length + 1 = 0) := by omega
  rw [← hy0] at l0 z0
  rw [← hy1] at l1 z1 z2
  simp only [n0, decide_false] at z0
  simp only [SIX, List.map_cons, List.map_nil] at q6
  simp only [FACE] at qF
  simp only [GO] at qG
  simp only [SIGN] at qS
  simp only [SPY] at qY
  have hlr : r.length ≤ 16383 := by omega
  have hlr2 : r.length + 1 ≤ 16384 := by omega
  unfold restB
  by_cases h6 : w ∈ SIX
  · rw [if_pos h6]
    unfold SIX at h6
    simp only [h6, decide_true] at q6
    simp [runFn, wx_for, w_lc, w_meth, w_glob, w_dsp, w_gdix, w_gdin, wt_gdin, w_ch, wt_ch, wx_par, wx_aug, wx_retN, wx_raise, wx_tryH, hd_0, hd_n, hd_s, wx_tr, noEx, unname, isxS, fldS, lookF, wx_brk, wx_cont, st_tl, st_tt, st_0, st_1, evc_0, evc_1, lcStep, fStep, argOf, onVar, isVar, Cell.on, gets, Ag.get, Cell.val, P.pk, P.sem, P.rcv, M.rcv, M.pk, semAt, tyn, isiS, isiOne, tyNames, tru, isN, callK, pks, nodupB, agCells, agCell, giv, backs, back, locks, unlocks, unl, noOwn, wiped, putsAt, R.only, unbrk, stv, finOf, Cell.keep, pin_un, pin_fz, pin_ow, pin_pr, pin_pz, pin_lk, Cell.mt, Cell.put, Cell.lock, Cell.unlock, intS, cmpS, cmpI, ixS, fIsEntry, LIM, l0, z0, q6, qe, st_st, hlr, hlr2]
  · rw [if_neg h6]
    unfold SIX at h6
    simp only [h6, decide_false] at q6
    by_cases hF : w = FACE
    · rw [if_pos hF]
      unfold FACE at hF
      simp only [hF, decide_true] at qF
      subst hF
      by_cases h1 : r.length = 1
      · obtain ⟨x, rfl⟩ := two_of h1
        simp only [h1, decide_true] at z1
        have hx := hr x List.mem_cons_self
        have ix := isi_str hx
        have sh : isiS ["tuple", "list"] (.tup (D.str [102, 97, 99, 101] :: [x])) = some (.bl true, false) := rfl
        have sh2 : isiS ["str"] (.str [102, 97, 99, 101]) = some (.bl true, false) := rfl
        rcases hx with ⟨i, rfl⟩ | ⟨t, rfl, t1, t2⟩ | ho
        · simp [runFn, wx_for, w_lc, w_meth, w_glob, w_dsp, w_gdix, w_gdin, wt_gdin, w_ch, wt_ch, wx_par, wx_aug, wx_retN, wx_raise, wx_tryH, hd_0, hd_n, hd_s, wx_tr, noEx, unname, isxS, fldS, lookF, wx_brk, wx_cont, st_tl, st_tt, st_0, st_1, evc_0, evc_1, lcStep, fStep, argOf, onVar, isVar, Cell.on, gets, Ag.get, Cell.val, P.pk, P.sem, P.rcv, M.rcv, M.pk, semAt, tyn, isiS, isiOne, tyNames, tru, isN, callK, pks, nodupB, agCells, agCell, giv, backs, back, locks, unlocks, unl, noOwn, wiped, putsAt, R.only, unbrk, stv, finOf, Cell.keep, pin_un, pin_fz, pin_ow, pin_pr, pin_pz, pin_lk, Cell.mt, Cell.put, Cell.lock, Cell.unlock, intS, cmpS, cmpI, ixS, fIsEntry, LIM, l0, z0, q6, qF, l1, z1, st_st, m1, letB, strB]
        · cases t with
          | nil =>
            have lt : lenS (.str []) = some (.int 0, false) := rfl
            have e0 := eq_int 0 1 false
            simp [runFn, wx_for, w_lc, w_meth, w_glob, w_dsp, w_gdix, w_gdin, wt_gdin, w_ch, wt_ch, wx_par, wx_aug, wx_retN, wx_raise, wx_tryH, hd_0, hd_n, hd_s, wx_tr, noEx, unname, isxS, fldS, lookF, wx_brk, wx_cont, st_tl, st_tt, st_0, st_1, evc_0, evc_1, lcStep, fStep, argOf, onVar, isVar, Cell.on, gets, Ag.get, Cell.val, P.pk, P.sem, P.rcv, M.rcv, M.pk, semAt, tyn, isiS, isiOne, tyNames, tru, isN, callK, pks, nodupB, agCells, agCell, giv, backs, back, locks, unlocks, unl, noOwn, wiped, putsAt, R.only, unbrk, stv, finOf, Cell.keep, pin_un, pin_fz, pin_ow, pin_pr, pin_pz, pin_lk, Cell.mt, Cell.put, Cell.lock, Cell.unlock, intS, cmpS, cmpI, ixS, fIsEntry, LIM, l0, z0, q6, qF, l1, z1, st_st, m1, letB, strB, lt, e0]
          | cons c t =>
            have hln : (c :: t).length ≤ LIM := by unfold LIM; omega
            have lt : lenS (.str (c :: t)) = some (.int ((c :: t).length : Int), false) := by
              show (if (c :: t).length ≤ LIM then some (D.int ((c :: t).length : Int), false) else none) = _
              rw [if_pos hln]
            have e0 : eqS false (.int ((c :: t).length : Int)) (.int 1) = some (.bl (decide ((c :: t).length = 1)), false) := eq_nat _ 1
            obtain ⟨y, hy⟩ : ∃ y : Int, y = ((c :: t).length : Int) := ⟨_, rfl⟩
            rw [← hy] at lt e0
            cases t with
            | nil =>
              have hi := in_one (c := c) (t := NESW) false (by decide)
              have e1 : eqS false (.int y) (.int 1) = some (.bl true, false) := by rw [e0]; rfl
              simp [runFn, wx_for, w_lc, w_meth, w_glob, w_dsp, w_gdix, w_gdin, wt_gdin, w_ch, wt_ch, wx_par, wx_aug, wx_retN, wx_raise, wx_tryH, hd_0, hd_n, hd_s, wx_tr, noEx, unname, isxS, fldS, lookF, wx_brk, wx_cont, st_tl, st_tt, st_0, st_1, evc_0, evc_1, lcStep, fStep, argOf, onVar, isVar, Cell.on, gets, Ag.get, Cell.val, P.pk, P.sem, P.rcv, M.rcv, M.pk, semAt, tyn, isiS, isiOne, tyNames, tru, isN, callK, pks, nodupB, agCells, agCell, giv, backs, back, locks, unlocks, unl, noOwn, wiped, putsAt, R.only, unbrk, stv, finOf, Cell.keep, pin_un, pin_fz, pin_ow, pin_pr, pin_pz, pin_lk, Cell.mt, Cell.put, Cell.lock, Cell.unlock, intS, cmpS, cmpI, ixS, fIsEntry, LIM, l0, z0, q6, qF, l1, z1, st_st, m1, letB, strB, lt, e1, hL, hi]
            | cons d t =>
              have e1 : eqS false (.int y) (.int 1) = some (.bl false, false) := by rw [e0, decide_eq_false (by simp)]
              simp [runFn, wx_for, w_lc, w_meth, w_glob, w_dsp, w_gdix, w_gdin, wt_gdin, w_ch, wt_ch, wx_par, wx_aug, wx_retN, wx_raise, wx_tryH, hd_0, hd_n, hd_s, wx_tr, noEx, unname, isxS, fldS, lookF, wx_brk, wx_cont, st_tl, st_tt, st_0, st_1, evc_0, evc_1, lcStep, fStep, argOf, onVar, isVar, Cell.on, gets, Ag.get, Cell.val, P.pk, P.sem, P.rcv, M.rcv, M.pk, semAt, tyn, isiS, isiOne, tyNames, tru, isN, callK, pks, nodupB, agCells, agCell, giv, backs, back, locks, unlocks, unl, noOwn, wiped, putsAt, R.only, unbrk, stv, finOf, Cell.keep, pin_un, pin_fz, pin_ow, pin_pr, pin_pz, pin_lk, Cell.mt, Cell.put, Cell.lock, Cell.unlock, intS, cmpS, cmpI, ixS, fIsEntry, LIM, l0, z0, q6, qF, l1, z1, st_st, m1, letB, strB, lt, e1]
        · have o1 := (odd_no ho).2.2.1
          have o2 := (odd_no ho).2.2.2.1
          rw [o2] at ix
          simp [runFn, wx_for, w_lc, w_meth, w_glob, w_dsp, w_gdix, w_gdin, wt_gdin, w_ch, wt_ch, wx_par, wx_aug, wx_retN, wx_raise, wx_tryH, hd_0, hd_n, hd_s, wx_tr, noEx, unname, isxS, fldS, lookF, wx_brk, wx_cont, st_tl, st_tt, st_0, st_1, evc_0, evc_1, lcStep, fStep, argOf, onVar, isVar, Cell.on, gets, Ag.get, Cell.val, P.pk, P.sem, P.rcv, M.rcv, M.pk, semAt, tru, isN, callK, pks, nodupB, agCells, agCell, giv, backs, back, locks, unlocks, unl, noOwn, wiped, putsAt, R.only, unbrk, stv, finOf, Cell.keep, pin_un, pin_fz, pin_ow, pin_pr, pin_pz, pin_lk, Cell.mt, Cell.put, Cell.lock, Cell.unlock, intS, cmpS, cmpI, ixS, fIsEntry, LIM, l0, z0, q6, qF, l1, z1, st_st, m1, o1, ix, sh, sh2]
      · simp only [h1, decide_false] at z1
        rw [m1_no h1]
        simp [runFn, wx_for, w_lc, w_meth, w_glob, w_dsp, w_gdix, w_gdin, wt_gdin, w_ch, wt_ch, wx_par, wx_aug, wx_retN, wx_raise, wx_tryH, hd_0, hd_n, hd_s, wx_tr, noEx, unname, isxS, fldS, lookF, wx_brk, wx_cont, st_tl, st_tt, st_0, st_1, evc_0, evc_1, lcStep, fStep, argOf, onVar, isVar, Cell.on, gets, Ag.get, Cell.val, P.pk, P.sem, P.rcv, M.rcv, M.pk, semAt, tyn, isiS, isiOne, tyNames, tru, isN, callK, pks, nodupB, agCells, agCell, giv, backs, back, locks, unlocks, unl, noOwn, wiped, putsAt, R.only, unbrk, stv, finOf, Cell.keep, pin_un, pin_fz, pin_ow, pin_pr, pin_pz, pin_lk, Cell.mt, Cell.put, Cell.lock, Cell.unlock, intS, cmpS, cmpI, ixS, fIsEntry, LIM, l0, z0, q6, qF, l1, z1, st_st, hlr, hlr2]
    · rw [if_neg hF]
      unfold FACE at hF
      simp only [hF, decide_false] at qF
      by_cases hG : w = GO
      · rw [if_pos hG]
        unfold GO at hG
        simp only [hG, decide_true] at qG
        subst hG
        by_cases h1 : r.length = 1
        · obtain ⟨x, rfl⟩ := two_of h1
          simp only [h1, decide_true] at z1
          have hx := A.many x (hr x List.mem_cons_self)
          simp [runFn, wx_for, w_lc, w_meth, w_glob, w_dsp, w_gdix, w_gdin, wt_gdin, w_ch, wt_ch, wx_par, wx_aug, wx_retN, wx_raise, wx_tryH, hd_0, hd_n, hd_s, wx_tr, noEx, unname, isxS, fldS, lookF, wx_brk, wx_cont, st_tl, st_tt, st_0, st_1, evc_0, evc_1, lcStep, fStep, argOf, onVar, isVar, Cell.on, gets, Ag.get, Cell.val, P.pk, P.sem, P.rcv, M.rcv, M.pk, semAt, tyn, isiS, isiOne, tyNames, tru, isN, callK, pks, nodupB, agCells, agCell, giv, backs, back, locks, unlocks, unl, noOwn, wiped, putsAt, R.only, unbrk, stv, finOf, Cell.keep, pin_un, pin_fz, pin_ow, pin_pr, pin_pz, pin_lk, Cell.mt, Cell.put, Cell.lock, Cell.unlock, intS, cmpS, cmpI, ixS, fIsEntry, LIM, l0, z0, q6, qF, qG, l1, z1, st_st, hx, m1]
        · simp only [h1, decide_false] at z1
          rw [m1_no h1]
          simp [runFn, wx_for, w_lc, w_meth, w_glob, w_dsp, w_gdix, w_gdin, wt_gdin, w_ch, wt_ch, wx_par, wx_aug, wx_retN, wx_raise, wx_tryH, hd_0, hd_n, hd_s, wx_tr, noEx, unname, isxS, fldS, lookF, wx_brk, wx_cont, st_tl, st_tt, st_0, st_1, evc_0, evc_1, lcStep, fStep, argOf, onVar, isVar, Cell.on, gets, Ag.get, Cell.val, P.pk, P.sem, P.rcv, M.rcv, M.pk, semAt, tyn, isiS, isiOne, tyNames, tru, isN, callK, pks, nodupB, agCells, agCell, giv, backs, back, locks, unlocks, unl, noOwn, wiped, putsAt, R.only, unbrk, stv, finOf, Cell.keep, pin_un, pin_fz, pin_ow, pin_pr, pin_pz, pin_lk, Cell.mt, Cell.put, Cell.lock, Cell.unlock, intS, cmpS, cmpI, ixS, fIsEntry, LIM, l0, z0, q6, qF, qG, l1, z1, st_st, hlr, hlr2]
      · rw [if_neg hG]
        unfold GO at hG
        simp only [hG, decide_false] at qG
        by_cases hS : w = SIGN
        · rw [if_pos hS]
          unfold SIGN at hS
          simp only [hS, decide_true] at qS
          subst hS
          by_cases h1 : r.length = 1
          · obtain ⟨x, rfl⟩ := two_of h1
            simp only [h1, decide_true] at z1
            have hx := A.sign x (hr x List.mem_cons_self)
            simp [runFn, wx_for, w_lc, w_meth, w_glob, w_dsp, w_gdix, w_gdin, wt_gdin, w_ch, wt_ch, wx_par, wx_aug, wx_retN, wx_raise, wx_tryH, hd_0, hd_n, hd_s, wx_tr, noEx, unname, isxS, fldS, lookF, wx_brk, wx_cont, st_tl, st_tt, st_0, st_1, evc_0, evc_1, lcStep, fStep, argOf, onVar, isVar, Cell.on, gets, Ag.get, Cell.val, P.pk, P.sem, P.rcv, M.rcv, M.pk, semAt, tyn, isiS, isiOne, tyNames, tru, isN, callK, pks, nodupB, agCells, agCell, giv, backs, back, locks, unlocks, unl, noOwn, wiped, putsAt, R.only, unbrk, stv, finOf, Cell.keep, pin_un, pin_fz, pin_ow, pin_pr, pin_pz, pin_lk, Cell.mt, Cell.put, Cell.lock, Cell.unlock, intS, cmpS, cmpI, ixS, fIsEntry, LIM, l0, z0, q6, qF, qG, qS, l1, z1, st_st, hx, m1]
          · simp only [h1, decide_false] at z1
            rw [m1_no h1]
            simp [runFn, wx_for, w_lc, w_meth, w_glob, w_dsp, w_gdix, w_gdin, wt_gdin, w_ch, wt_ch, wx_par, wx_aug, wx_retN, wx_raise, wx_tryH, hd_0, hd_n, hd_s, wx_tr, noEx, unname, isxS, fldS, lookF, wx_brk, wx_cont, st_tl, st_tt, st_0, st_1, evc_0, evc_1, lcStep, fStep, argOf, onVar, isVar, Cell.on, gets, Ag.get, Cell.val, P.pk, P.sem, P.rcv, M.rcv, M.pk, semAt, tyn, isiS, isiOne, tyNames, tru, isN, callK, pks, nodupB, agCells, agCell, giv, backs, back, locks, unlocks, unl, noOwn, wiped, putsAt, R.only, unbrk, stv, finOf, Cell.keep, pin_un, pin_fz, pin_ow, pin_pr, pin_pz, pin_lk, Cell.mt, Cell.put, Cell.lock, Cell.unlock, intS, cmpS, cmpI, ixS, fIsEntry, LIM, l0, z0, q6, qF, qG, qS, l1, z1, st_st, hlr, hlr2]
        · rw [if_neg hS]
          unfold SIGN at hS
          simp only [hS, decide_false] at qS
          by_cases hY : w = SPY
          · rw [if_pos hY]
            unfold SPY at hY
            simp only [hY, decide_true] at qY
            subst hY
            by_cases h2 : r.length = 2
            · obtain ⟨x, y, rfl⟩ := three_of h2
              simp only [h2, decide_true] at z2
              have hx := A.many x (hr x List.mem_cons_self)
              have hy := A.sign y (hr y (by simp))
              have a1 : atd [x, y] 1 = some y := at_1' _ _ _
              cases hb : manyB x <;> rw [hb] at hx <;> simp [runFn, wx_for, w_lc, w_meth, w_glob, w_dsp, w_gdix, w_gdin, wt_gdin, w_ch, wt_ch, wx_par, wx_aug, wx_retN, wx_raise, wx_tryH, hd_0, hd_n, hd_s, wx_tr, noEx, unname, isxS, fldS, lookF, wx_brk, wx_cont, st_tl, st_tt, st_0, st_1, evc_0, evc_1, lcStep, fStep, argOf, onVar, isVar, Cell.on, gets, Ag.get, Cell.val, P.pk, P.sem, P.rcv, M.rcv, M.pk, semAt, tyn, isiS, isiOne, tyNames, tru, isN, callK, pks, nodupB, agCells, agCell, giv, backs, back, locks, unlocks, unl, noOwn, wiped, putsAt, R.only, unbrk, stv, finOf, Cell.keep, pin_un, pin_fz, pin_ow, pin_pr, pin_pz, pin_lk, Cell.mt, Cell.put, Cell.lock, Cell.unlock, intS, cmpS, cmpI, ixS, fIsEntry, LIM, l0, z0, q6, qF, qG, qS, qY, l1, z2, st_st, hx, hy, a1, m2, hb]
            · simp only [h2, decide_false] at z2
              rw [m2_no h2]
              simp [runFn, wx_for, w_lc, w_meth, w_glob, w_dsp, w_gdix, w_gdin, wt_gdin, w_ch, wt_ch, wx_par, wx_aug, wx_retN, wx_raise, wx_tryH, hd_0, hd_n, hd_s, wx_tr, noEx, unname, isxS, fldS, lookF, wx_brk, wx_cont, st_tl, st_tt, st_0, st_1, evc_0, evc_1, lcStep, fStep, argOf, onVar, isVar, Cell.on, gets, Ag.get, Cell.val, P.pk, P.sem, P.rcv, M.rcv, M.pk, semAt, tyn, isiS, isiOne, tyNames, tru, isN, callK, pks, nodupB, agCells, agCell, giv, backs, back, locks, unlocks, unl, noOwn, wiped, putsAt, R.only, unbrk, stv, finOf, Cell.keep, pin_un, pin_fz, pin_ow, pin_pr, pin_pz, pin_lk, Cell.mt, Cell.put, Cell.lock, Cell.unlock, intS, cmpS, cmpI, ixS, fIsEntry, LIM, l0, z0, q6, qF, qG, qS, qY, l1, z2, st_st, hlr, hlr2]
          · rw [if_neg hY]
            unfold SPY at hY
            simp only [hY, decide_false] at qY
            simp [runFn, wx_for, w_lc, w_meth, w_glob, w_dsp, w_gdix, w_gdin, wt_gdin, w_ch, wt_ch, wx_par, wx_aug, wx_retN, wx_raise, wx_tryH, hd_0, hd_n, hd_s, wx_tr, noEx, unname, isxS, fldS, lookF, wx_brk, wx_cont, st_tl, st_tt, st_0, st_1, evc_0, evc_1, lcStep, fStep, argOf, onVar, isVar, Cell.on, gets, Ag.get, Cell.val, P.pk, P.sem, P.rcv, M.rcv, M.pk, semAt, tyn, isiS, isiOne, tyNames, tru, isN, callK, pks, nodupB, agCells, agCell, giv, backs, back, locks, unlocks, unl, noOwn, wiped, putsAt, R.only, unbrk, stv, finOf, Cell.keep, pin_un, pin_fz, pin_ow, pin_pr, pin_pz, pin_lk, Cell.mt, Cell.put, Cell.lock, Cell.unlock, intS, cmpS, cmpI, ixS, fIsEntry, LIM, l0, z0, q6, qF, qG, qS, qY, l1, st_st, hlr, hlr2]
theorem in_nesw {n : Nat} {x : D} (h : Part n x) (hs : strB x = true) : inS false x (.tup [.str [110], .str [101], .str [115], .str [119]]) = some (.bl (letB x), false) := by
  rcases h with ⟨i, rfl⟩ | ⟨s, rfl, _, h⟩ | h
  · cases hs
  · have q := in_words false s [[110], [101], [115], [119]]
    simp only [List.map_cons, List.map_nil, Bool.false_eq_true, if_false] at q
    rw [q]
    congr 2
    have : decide (s ∈ ([[110], [101], [115], [119]] : List (List Nat))) = letB (.str s) := by
      cases s with
      | nil => rfl
      | cons c s => cases s with
        | nil => simp [letB, NESW]
        | cons d s => simp [letB]
    rw [this]
  · rw [(odd_no h).2.2.2.1] at hs; cases hs
theorem lentry_w {n : Nat} {k : Nat} (A : Asks (run (tbE es) (k + 3)) n 11 10) (hn : n ≤ 1000) {w : List Nat} {r : List D} (hw : okS w = true) (hr : ∀ x ∈ r, Part n x) (hl : r.length ≤ 1000) :
    run (tbE es) (k + 4) 12 [.fz (.tup (.str w :: r))] = some (.ok (.bl (restB w r)) false, [.un]) := by
  rw [run_fn (k + 3) 12 f12 rfl]
  have q6 := in_words false w SIX
  have qF := nw hw (v := FACE) (by decide)
  have qG := nw hw (v := GO) (by decide)
  have qS := nw hw (v := SIGN) (by decide)
  have qY := nw hw (v := SPY) (by decide)
  have l0 : lenS (.tup (.str w :: r)) = some (.int ((r.length + 1 : Nat) : Int), false) := rfl
  have z0 : eqS false (.int ((r.length + 1 : Nat) : Int)) (.int 0) = some (.bl (decide (r.length + 1 = 0)), false) := eq_nat _ 0
  have z1 : eqS false (.int ((r.length + 1 : Nat) : Int)) (.int 1) = some (.bl (decide (r.length + 1 = 1)), false) := eq_nat _ 1
  have z2 : eqS false (.int ((r.length + 1 : Nat) : Int)) (.int 2) = some (.bl (decide (r.length + 1 = 2)), false) := eq_nat _ 2
  have z3 : eqS false (.int ((r.length + 1 : Nat) : Int)) (.int 3) = some (.bl (decide (r.length + 1 = 3)), false) := eq_nat _ 3
  obtain ⟨y0, hy0⟩ : ∃ y : Int, y = ((r.length + 1 : Nat) : Int) := ⟨_, rfl⟩
  have n0 : ¬ (r.length + 1 = 0) := by omega
  have n1 : (r.length + 1 = 1) = (r.length = 0) := by apply propext; omega
  have n2 : (r.length + 1 = 2) = (r.length = 1) := by apply propext; omega
  have n3 : (r.length + 1 = 3) = (r.length = 2) := by apply propext; omega
  rw [← hy0] at l0 z0 z1 z2 z3
  simp only [n0, decide_false] at z0
  simp only [n1] at z1
  simp only [n2] at z2
  simp only [n3] at z3
  have a0 : atd (.str w :: r) 0 = some (.str w) := at_0 _ _
  simp only [SIX, List.map_cons, List.map_nil] at q6
  simp only [FACE] at qF
  simp only [GO] at qG
  simp only [SIGN] at qS
  simp only [SPY] at qY
  unfold restB
  by_cases h6 : w ∈ SIX
  · rw [if_pos h6]
    unfold SIX at h6
    simp only [h6, decide_true] at q6
    have e : decide (r.length = 0) = r.isEmpty := by cases r <;> simp
    rw [e] at z1
    simp [runFn, wx_for, w_lc, w_meth, w_glob, w_dsp, w_gdix, w_gdin, wt_gdin, w_ch, wt_ch, wx_par, wx_aug, wx_retN, wx_raise, wx_tryH, hd_0, hd_n, hd_s, wx_tr, noEx, unname, isxS, fldS, lookF, wx_brk, wx_cont, st_tl, st_tt, st_0, st_1, evc_0, evc_1, lcStep, fStep, argOf, onVar, isVar, Cell.on, gets, Ag.get, Cell.val, P.pk, P.sem, P.rcv, M.rcv, M.pk, semAt, tyn, isiS, isiOne, tyNames, tru, isN, callK, pks, nodupB, agCells, agCell, giv, backs, back, locks, unlocks, unl, noOwn, wiped, putsAt, R.only, unbrk, stv, finOf, Cell.keep, pin_un, pin_fz, pin_ow, pin_pr, pin_pz, pin_lk, Cell.mt, Cell.put, Cell.lock, Cell.unlock, intS, cmpS, cmpI, ixS, f12, b12, LIM, l0, z0, z1, q6]
  · rw [if_neg h6]
    unfold SIX at h6
    simp only [h6, decide_false] at q6
    by_cases hF : w = FACE
    · rw [if_pos hF]
      unfold FACE at hF
      simp only [hF, decide_true] at qF
      subst hF
      by_cases h1 : r.length = 1
      · obtain ⟨x, rfl⟩ := two_of h1
        simp only [h1, decide_true] at z2
        have hx := hr x List.mem_cons_self
        have ix := isi_str hx
        have a1 : atd [.str [102, 97, 99, 101], x] 1 = some x := at_1' _ _ _
        have sh : isiS ["tuple", "list"] (.tup (D.str [102, 97, 99, 101] :: [x])) = some (.bl true, false) := rfl
        have sh2 : isiS ["str"] (.str [102, 97, 99, 101]) = some (.bl true, false) := rfl
        cases hs : strB x with
        | true =>
          have hin := in_nesw hx hs
          rw [hs] at ix
          simp [runFn, wx_for, w_lc, w_meth, w_glob, w_dsp, w_gdix, w_gdin, wt_gdin, w_ch, wt_ch, wx_par, wx_aug, wx_retN, wx_raise, wx_tryH, hd_0, hd_n, hd_s, wx_tr, noEx, unname, isxS, fldS, lookF, wx_brk, wx_cont, st_tl, st_tt, st_0, st_1, evc_0, evc_1, lcStep, fStep, argOf, onVar, isVar, Cell.on, gets, Ag.get, Cell.val, P.pk, P.sem, P.rcv, M.rcv, M.pk, semAt, tru, isN, callK, pks, nodupB, agCells, agCell, giv, backs, back, locks, unlocks, unl, noOwn, wiped, putsAt, R.only, unbrk, stv, finOf, Cell.keep, pin_un, pin_fz, pin_ow, pin_pr, pin_pz, pin_lk, Cell.mt, Cell.put, Cell.lock, Cell.unlock, intS, cmpS, cmpI, ixS, f12, b12, LIM, l0, z0, z2, q6, qF, a1, sh, sh2, ix, hin, m1]
        | false =>
          have hb : letB x = false := by
            rcases hx with ⟨i, rfl⟩ | ⟨s, rfl, _, h⟩ | h
            · rfl
            · cases hs
            · exact (odd_no h).2.2.1
          rw [hs] at ix
          simp [runFn, wx_for, w_lc, w_meth, w_glob, w_dsp, w_gdix, w_gdin, wt_gdin, w_ch, wt_ch, wx_par, wx_aug, wx_retN, wx_raise, wx_tryH, hd_0, hd_n, hd_s, wx_tr, noEx, unname, isxS, fldS, lookF, wx_brk, wx_cont, st_tl, st_tt, st_0, st_1, evc_0, evc_1, lcStep, fStep, argOf, onVar, isVar, Cell.on, gets, Ag.get, Cell.val, P.pk, P.sem, P.rcv, M.rcv, M.pk, semAt, tru, isN, callK, pks, nodupB, agCells, agCell, giv, backs, back, locks, unlocks, unl, noOwn, wiped, putsAt, R.only, unbrk, stv, finOf, Cell.keep, pin_un, pin_fz, pin_ow, pin_pr, pin_pz, pin_lk, Cell.mt, Cell.put, Cell.lock, Cell.unlock, intS, cmpS, cmpI, ixS, f12, b12, LIM, l0, z0, z2, q6, qF, a1, sh, sh2, ix, m1, hb]
      · simp only [h1, decide_false] at z2
        rw [m1_no h1]
        simp [runFn, wx_for, w_lc, w_meth, w_glob, w_dsp, w_gdix, w_gdin, wt_gdin, w_ch, wt_ch, wx_par, wx_aug, wx_retN, wx_raise, wx_tryH, hd_0, hd_n, hd_s, wx_tr, noEx, unname, isxS, fldS, lookF, wx_brk, wx_cont, st_tl, st_tt, st_0, st_1, evc_0, evc_1, lcStep, fStep, argOf, onVar, isVar, Cell.on, gets, Ag.get, Cell.val, P.pk, P.sem, P.rcv, M.rcv, M.pk, semAt, tyn, isiS, isiOne, tyNames, tru, isN, callK, pks, nodupB, agCells, agCell, giv, backs, back, locks, unlocks, unl, noOwn, wiped, putsAt, R.only, unbrk, stv, finOf, Cell.keep, pin_un, pin_fz, pin_ow, pin_pr, pin_pz, pin_lk, Cell.mt, Cell.put, Cell.lock, Cell.unlock, intS, cmpS, cmpI, ixS, f12, b12, LIM, l0, z0, z2, q6, qF]
    · rw [if_neg hF]
      unfold FACE at hF
      simp only [hF, decide_false] at qF
      by_cases hG : w = GO
      · rw [if_pos hG]
        unfold GO at hG
        simp only [hG, decide_true] at qG
        subst hG
        by_cases h1 : r.length = 1
        · obtain ⟨x, rfl⟩ := two_of h1
          simp only [h1, decide_true] at z2
          have hx := A.many x (hr x List.mem_cons_self)
          have a1 : atd [.str [103, 111], x] 1 = some x := at_1' _ _ _
          simp [runFn, wx_for, w_lc, w_meth, w_glob, w_dsp, w_gdix, w_gdin, wt_gdin, w_ch, wt_ch, wx_par, wx_aug, wx_retN, wx_raise, wx_tryH, hd_0, hd_n, hd_s, wx_tr, noEx, unname, isxS, fldS, lookF, wx_brk, wx_cont, st_tl, st_tt, st_0, st_1, evc_0, evc_1, lcStep, fStep, argOf, onVar, isVar, Cell.on, gets, Ag.get, Cell.val, P.pk, P.sem, P.rcv, M.rcv, M.pk, semAt, tyn, isiS, isiOne, tyNames, tru, isN, callK, pks, nodupB, agCells, agCell, giv, backs, back, locks, unlocks, unl, noOwn, wiped, putsAt, R.only, unbrk, stv, finOf, Cell.keep, pin_un, pin_fz, pin_ow, pin_pr, pin_pz, pin_lk, Cell.mt, Cell.put, Cell.lock, Cell.unlock, intS, cmpS, cmpI, ixS, f12, b12, LIM, l0, z0, z2, q6, qF, qG, a1, hx, m1]
        · simp only [h1, decide_false] at z2
          rw [m1_no h1]
          simp [runFn, wx_for, w_lc, w_meth, w_glob, w_dsp, w_gdix, w_gdin, wt_gdin, w_ch, wt_ch, wx_par, wx_aug, wx_retN, wx_raise, wx_tryH, hd_0, hd_n, hd_s, wx_tr, noEx, unname, isxS, fldS, lookF, wx_brk, wx_cont, st_tl, st_tt, st_0, st_1, evc_0, evc_1, lcStep, fStep, argOf, onVar, isVar, Cell.on, gets, Ag.get, Cell.val, P.pk, P.sem, P.rcv, M.rcv, M.pk, semAt, tyn, isiS, isiOne, tyNames, tru, isN, callK, pks, nodupB, agCells, agCell, giv, backs, back, locks, unlocks, unl, noOwn, wiped, putsAt, R.only, unbrk, stv, finOf, Cell.keep, pin_un, pin_fz, pin_ow, pin_pr, pin_pz, pin_lk, Cell.mt, Cell.put, Cell.lock, Cell.unlock, intS, cmpS, cmpI, ixS, f12, b12, LIM, l0, z0, z2, q6, qF, qG]
      · rw [if_neg hG]
        unfold GO at hG
        simp only [hG, decide_false] at qG
        by_cases hS : w = SIGN
        · rw [if_pos hS]
          unfold SIGN at hS
          simp only [hS, decide_true] at qS
          subst hS
          by_cases h1 : r.length = 1
          · obtain ⟨x, rfl⟩ := two_of h1
            simp only [h1, decide_true] at z2
            have hx := A.sign x (hr x List.mem_cons_self)
            have a1 : atd [.str [115, 105, 103, 110], x] 1 = some x := at_1' _ _ _
            simp [runFn, wx_for, w_lc, w_meth, w_glob, w_dsp, w_gdix, w_gdin, wt_gdin, w_ch, wt_ch, wx_par, wx_aug, wx_retN, wx_raise, wx_tryH, hd_0, hd_n, hd_s, wx_tr, noEx, unname, isxS, fldS, lookF, wx_brk, wx_cont, st_tl, st_tt, st_0, st_1, evc_0, evc_1, lcStep, fStep, argOf, onVar, isVar, Cell.on, gets, Ag.get, Cell.val, P.pk, P.sem, P.rcv, M.rcv, M.pk, semAt, tyn, isiS, isiOne, tyNames, tru, isN, callK, pks, nodupB, agCells, agCell, giv, backs, back, locks, unlocks, unl, noOwn, wiped, putsAt, R.only, unbrk, stv, finOf, Cell.keep, pin_un, pin_fz, pin_ow, pin_pr, pin_pz, pin_lk, Cell.mt, Cell.put, Cell.lock, Cell.unlock, intS, cmpS, cmpI, ixS, f12, b12, LIM, l0, z0, z2, q6, qF, qG, qS, a1, hx, m1]
          · simp only [h1, decide_false] at z2
            rw [m1_no h1]
            simp [runFn, wx_for, w_lc, w_meth, w_glob, w_dsp, w_gdix, w_gdin, wt_gdin, w_ch, wt_ch, wx_par, wx_aug, wx_retN, wx_raise, wx_tryH, hd_0, hd_n, hd_s, wx_tr, noEx, unname, isxS, fldS, lookF, wx_brk, wx_cont, st_tl, st_tt, st_0, st_1, evc_0, evc_1, lcStep, fStep, argOf, onVar, isVar, Cell.on, gets, Ag.get, Cell.val, P.pk, P.sem, P.rcv, M.rcv, M.pk, semAt, tyn, isiS, isiOne, tyNames, tru, isN, callK, pks, nodupB, agCells, agCell, giv, backs, back, locks, unlocks, unl, noOwn, wiped, putsAt, R.only, unbrk, stv, finOf, Cell.keep, pin_un, pin_fz, pin_ow, pin_pr, pin_pz, pin_lk, Cell.mt, Cell.put, Cell.lock, Cell.unlock, intS, cmpS, cmpI, ixS, f12, b12, LIM, l0, z0, z2, q6, qF, qG, qS]
        · rw [if_neg hS]
          unfold SIGN at hS
          simp only [hS, decide_false] at qS
          by_cases hY : w = SPY
          · rw [if_pos hY]
            unfold SPY at hY
            simp only [hY, decide_true] at qY
            subst hY
            by_cases h2 : r.length = 2
            · obtain ⟨x, y, rfl⟩ := three_of h2
              simp only [h2, decide_true] at z3
              have hx := A.many x (hr x List.mem_cons_self)
              have hy := A.sign y (hr y (by simp))
              have a1 : atd [.str [115, 112, 121], x, y] 1 = some x := at_1' _ _ _
              have a2 : atd [.str [115, 112, 121], x, y] 2 = some y := at_2 _ _ _ _
              cases hb : manyB x <;> rw [hb] at hx <;> simp [runFn, wx_for, w_lc, w_meth, w_glob, w_dsp, w_gdix, w_gdin, wt_gdin, w_ch, wt_ch, wx_par, wx_aug, wx_retN, wx_raise, wx_tryH, hd_0, hd_n, hd_s, wx_tr, noEx, unname, isxS, fldS, lookF, wx_brk, wx_cont, st_tl, st_tt, st_0, st_1, evc_0, evc_1, lcStep, fStep, argOf, onVar, isVar, Cell.on, gets, Ag.get, Cell.val, P.pk, P.sem, P.rcv, M.rcv, M.pk, semAt, tyn, isiS, isiOne, tyNames, tru, isN, callK, pks, nodupB, agCells, agCell, giv, backs, back, locks, unlocks, unl, noOwn, wiped, putsAt, R.only, unbrk, stv, finOf, Cell.keep, pin_un, pin_fz, pin_ow, pin_pr, pin_pz, pin_lk, Cell.mt, Cell.put, Cell.lock, Cell.unlock, intS, cmpS, cmpI, ixS, f12, b12, LIM, l0, z0, z3, q6, qF, qG, qS, qY, hx, hy, a1, a2, m2, hb]
            · simp only [h2, decide_false] at z3
              rw [m2_no h2]
              simp [runFn, wx_for, w_lc, w_meth, w_glob, w_dsp, w_gdix, w_gdin, wt_gdin, w_ch, wt_ch, wx_par, wx_aug, wx_retN, wx_raise, wx_tryH, hd_0, hd_n, hd_s, wx_tr, noEx, unname, isxS, fldS, lookF, wx_brk, wx_cont, st_tl, st_tt, st_0, st_1, evc_0, evc_1, lcStep, fStep, argOf, onVar, isVar, Cell.on, gets, Ag.get, Cell.val, P.pk, P.sem, P.rcv, M.rcv, M.pk, semAt, tyn, isiS, isiOne, tyNames, tru, isN, callK, pks, nodupB, agCells, agCell, giv, backs, back, locks, unlocks, unl, noOwn, wiped, putsAt, R.only, unbrk, stv, finOf, Cell.keep, pin_un, pin_fz, pin_ow, pin_pr, pin_pz, pin_lk, Cell.mt, Cell.put, Cell.lock, Cell.unlock, intS, cmpS, cmpI, ixS, f12, b12, LIM, l0, z0, z3, q6, qF, qG, qS, qY]
          · rw [if_neg hY]
            unfold SPY at hY
            simp only [hY, decide_false] at qY
            simp [runFn, wx_for, w_lc, w_meth, w_glob, w_dsp, w_gdix, w_gdin, wt_gdin, w_ch, wt_ch, wx_par, wx_aug, wx_retN, wx_raise, wx_tryH, hd_0, hd_n, hd_s, wx_tr, noEx, unname, isxS, fldS, lookF, wx_brk, wx_cont, st_tl, st_tt, st_0, st_1, evc_0, evc_1, lcStep, fStep, argOf, onVar, isVar, Cell.on, gets, Ag.get, Cell.val, P.pk, P.sem, P.rcv, M.rcv, M.pk, semAt, tyn, isiS, isiOne, tyNames, tru, isN, callK, pks, nodupB, agCells, agCell, giv, backs, back, locks, unlocks, unl, noOwn, wiped, putsAt, R.only, unbrk, stv, finOf, Cell.keep, pin_un, pin_fz, pin_ow, pin_pr, pin_pz, pin_lk, Cell.mt, Cell.put, Cell.lock, Cell.unlock, intS, cmpS, cmpI, ixS, f12, b12, LIM, l0, z0, q6, qF, qG, qS, qY]
/-! ### what may stand as an entry -/
def BARE : List D := [.non, .int 7, .str [108, 101, 102, 116], .bl true, .lst [], .str []]
def Ent (n : Nat) (d : D) : Prop := (∃ ps, d = .tup ps ∧ ps.length ≤ n ∧ ∀ x ∈ ps, Part n x) ∨ d ∈ BARE
def entB : D → Bool
  | .tup (.str w :: r) => restB w r
  | _ => false
theorem Ent.mono {n m : Nat} {d : D} (h : Ent n d) (hn : n ≤ m) : Ent m d := by
  rcases h with ⟨ps, rfl, h1, h2⟩ | h
  · exact .inl ⟨ps, rfl, by omega, fun x hx => (h2 x hx).mono hn⟩
  · exact .inr h
theorem asks (k : Nat) {n : Nat} (hn : n ≤ 1000) : Asks (run (tbE es) (k + 3)) n 3 1 := ⟨fun x h => many_p (k + 1) h, fun x h => sign_p k hn h⟩
theorem lasks (k : Nat) {n : Nat} (hn : n ≤ 1000) : Asks (run (tbE es) (k + 3)) n 11 10 := ⟨fun x h => lmany_p k h, fun x h => lsign_p (k + 1) hn h⟩
theorem bare_of (P : D → Bool) (h : BARE.all P = true) {d : D} (hd : d ∈ BARE) : P d = true := List.all_eq_true.mp h d hd
theorem bare_no {d : D} (h : d ∈ BARE) : entB d = false := by
  have := bare_of (fun d => !entB d) (by decide) h
  simpa using this
theorem no_first {n : Nat} {x : D} (h : Part n x) (hs : strB x = false) (r : List D) : entB (.tup (x :: r)) = false := by
  cases x <;> first | rfl | cases hs
theorem entry (k : Nat) {n : Nat} (hn : n ≤ 1000) {d : D} (h : Ent n d) : run (tbE es) (k + 4) 4 [.fz d] = some (.ok (.bl (entB d)) false, [.un]) := by
  rcases h with ⟨ps, rfl, h1, h2⟩ | h
  · cases ps with
    | nil => exact run_le (show 4 ≤ k + 4 by omega) _ _ _ (isNo_ok (by decide +kernel))
    | cons x r =>
      have hx := h2 x List.mem_cons_self
      rw [List.length_cons] at h1
      cases hs : strB x with
      | true =>
        cases x with
        | str w =>
          have hw : okS w = true := by
            rcases hx with ⟨i, e⟩ | ⟨s, e, _, h⟩ | h
            · cases e
            · cases e; exact h
            · exact absurd hs (by rw [(odd_no h).2.2.2.1]; decide)
          exact (run_fn (k + 3) 4 (fIsEntry 3 1 28) rfl _).trans (entry_w (asks k hn) (run_val (k + 3) 28 _ rfl _) hn hw (fun y hy => h2 y (List.mem_cons_of_mem _ hy)) (by omega))
        | _ => cases hs
      | false =>
        rw [no_first hx hs]
        have ix := isi_str hx
        rw [hs] at ix
        have sh : isiS ["tuple", "list"] (.tup (x :: r)) = some (.bl true, false) := rfl
        have l0 : lenS (.tup (x :: r)) = some (.int ((r.length + 1 : Nat) : Int), false) := rfl
        have z0 : eqS false (.int ((r.length + 1 : Nat) : Int)) (.int 0) = some (.bl (decide (r.length + 1 = 0)), false) := eq_nat _ 0
        obtain ⟨y0, hy0⟩ : ∃ y : Int, y = ((r.length + 1 : Nat) : Int) := ⟨_, rfl⟩
        have n0 : ¬ (r.length + 1 = 0) := by omega
        rw [← hy0] at l0 z0
        simp only [n0, decide_false] at z0
        rw [run_fn (k + 3) 4 f4 rfl]
        simp [runFn, wx_for, w_lc, w_meth, w_glob, w_dsp, w_gdix, w_gdin, wt_gdin, w_ch, wt_ch, wx_par, wx_aug, wx_retN, wx_raise, wx_tryH, hd_0, hd_n, hd_s, wx_tr, noEx, unname, isxS, fldS, lookF, wx_brk, wx_cont, st_tl, st_tt, st_0, st_1, evc_0, evc_1, lcStep, fStep, argOf, onVar, isVar, Cell.on, gets, Ag.get, Cell.val, P.pk, P.sem, P.rcv, M.rcv, M.pk, semAt, tru, isN, callK, pks, nodupB, agCells, agCell, giv, backs, back, locks, unlocks, unl, noOwn, wiped, putsAt, R.only, unbrk, stv, finOf, Cell.keep, pin_un, pin_fz, pin_ow, pin_pr, pin_pz, pin_lk, Cell.mt, Cell.put, Cell.lock, Cell.unlock, intS, cmpS, cmpI, ixS, f4, b4, sh, l0, z0, ix]
  · rw [bare_no h]
    exact run_le (show 4 ≤ k + 4 by omega) _ _ _ (isNo_ok (bare_of (fun d => isNo (run (tbE es) 4 4 [.fz d])) (by decide +kernel) h))
theorem lentry (k : Nat) {n : Nat} (hn : n ≤ 1000) {d : D} (h : Ent n d) : run (tbE es) (k + 4) 12 [.fz d] = some (.ok (.bl (entB d)) false, [.un]) := by
  rcases h with ⟨ps, rfl, h1, h2⟩ | h
  · cases ps with
    | nil => exact run_le (show 4 ≤ k + 4 by omega) _ _ _ (isNo_ok (by decide +kernel))
    | cons x r =>
      have hx := h2 x List.mem_cons_self
      rw [List.length_cons] at h1
      cases hs : strB x with
      | true =>
        cases x with
        | str w =>
          have hw : okS w = true := by
            rcases hx with ⟨i, e⟩ | ⟨s, e, _, h⟩ | h
            · cases e
            · cases e; exact h
            · exact absurd hs (by rw [(odd_no h).2.2.2.1]; decide)
          exact lentry_w (lasks k hn) hn hw (fun y hy => h2 y (List.mem_cons_of_mem _ hy)) (by omega)
        | _ => cases hs
      | false =>
        rw [no_first hx hs]
        have ix := isi_str hx
        rw [hs] at ix
        have sh : isiS ["tuple", "list"] (.tup (x :: r)) = some (.bl true, false) := rfl
        have l0 : lenS (.tup (x :: r)) = some (.int ((r.length + 1 : Nat) : Int), false) := rfl
        have z0 : eqS false (.int ((r.length + 1 : Nat) : Int)) (.int 0) = some (.bl (decide (r.length + 1 = 0)), false) := eq_nat _ 0
        obtain ⟨y0, hy0⟩ : ∃ y : Int, y = ((r.length + 1 : Nat) : Int) := ⟨_, rfl⟩
        have n0 : ¬ (r.length + 1 = 0) := by omega
        rw [← hy0] at l0 z0
        simp only [n0, decide_false] at z0
        rw [run_fn (k + 3) 12 f12 rfl]
        simp [runFn, wx_for, w_lc, w_meth, w_glob, w_dsp, w_gdix, w_gdin, wt_gdin, w_ch, wt_ch, wx_par, wx_aug, wx_retN, wx_raise, wx_tryH, hd_0, hd_n, hd_s, wx_tr, noEx, unname, isxS, fldS, lookF, wx_brk, wx_cont, st_tl, st_tt, st_0, st_1, evc_0, evc_1, lcStep, fStep, argOf, onVar, isVar, Cell.on, gets, Ag.get, Cell.val, P.pk, P.sem, P.rcv, M.rcv, M.pk, semAt, tru, isN, callK, pks, nodupB, agCells, agCell, giv, backs, back, locks, unlocks, unl, noOwn, wiped, putsAt, R.only, unbrk, stv, finOf, Cell.keep, pin_un, pin_fz, pin_ow, pin_pr, pin_pz, pin_lk, Cell.mt, Cell.put, Cell.lock, Cell.unlock, intS, cmpS, cmpI, ixS, f12, b12, sh, l0, z0, ix]
  · rw [bare_no h]
    exact run_le (show 4 ≤ k + 4 by omega) _ _ _ (isNo_ok (bare_of (fun d => isNo (run (tbE es) 4 12 [.fz d])) (by decide +kernel) h))
/-! ### the first that is wrong -/
def BLINDW : List (List Nat) := [[102, 97, 99, 101], [115, 105, 103, 110], [98, 97, 114, 101], [115, 119, 97, 112]]
def LOOKW : List (List Nat) := [[108, 101, 102, 116], [114, 105, 103, 104, 116], [98, 97, 99, 107], [103, 111], [98, 117, 109, 112], [115, 112, 121]]
def isF : D → Bool
  | .tup (.str w :: _) => decide (w = FACE)
  | _ => false
def isBl : D → Bool
  | .tup (.str w :: _) => decide (w ∈ BLINDW)
  | _ => false
def badAt : Nat → Bool → List D → Option Nat
  | _, _, [] => none
  | k, b, d :: r => if entB d = true ∧ ((b || isF d) || isBl d) = true then badAt (k + 1) (b || isF d) r else some k
theorem look_blind {w : List Nat} {r : List D} (h : restB w r = true) : decide (w ∈ LOOKW) = !decide (w ∈ BLINDW) := by
  unfold restB at h
  split at h
  · rename_i q
    simp only [SIX, List.mem_cons, List.not_mem_nil, or_false] at q
    rcases q with rfl | rfl | rfl | rfl | rfl | rfl <;> decide
  · split at h
    · rename_i q; subst q; decide
    · split at h
      · rename_i q; subst q; decide
      · split at h
        · rename_i q; subst q; decide
        · split at h
          · rename_i q; subst q; decide
          · cases h
theorem ent_of {n : Nat} {d : D} (h : Ent n d) (he : entB d = true) : ∃ w r, d = .tup (.str w :: r) ∧ okS w = true ∧ restB w r = true ∧ r.length ≤ n ∧ ∀ x ∈ r, Part n x := by
  rcases h with ⟨ps, rfl, h1, h2⟩ | h
  · cases ps with
    | nil => cases he
    | cons x r =>
      cases x with
      | str w =>
        refine ⟨w, r, rfl, ?_, he, by rw [List.length_cons] at h1; omega, fun y hy => h2 y (List.mem_cons_of_mem _ hy)⟩
        rcases h2 _ List.mem_cons_self with ⟨i, e⟩ | ⟨s, e, _, h⟩ | h
        · cases e
        · cases e; exact h
        · exact absurd (odd_no h).2.2.2.1 (by simp [strB])
      | _ => cases he
  · rw [bare_no h] at he; cases he
def BL (j : Nat) : Exn := ⟨"BadLog", ["at", "name"], [.int (j : Int), .str []]⟩
def hbd : List S := [.iff (.nt (.call 4 [(.var 4)]))
         [.raise "BadLog" ["name", "at"] [(.var 0), (.var 3)]]
         [],
       .asg (.nm 2) (.or (.var 2) (.prim .eq [(.prim .ix [(.var 4), (.int 0)]), (.str [102, 97, 99, 101])])),
       .iff (.and (.nt (.var 2)) (.prim .notin [(.prim .ix [(.var 4), (.int 0)]), (.glob 29)]))
         [.raise "BadLog" ["name", "at"] [(.var 0), (.var 3)]]
         []]
theorem h_step (lv : Nat) {n : Nat} (hn : n ≤ 1000) {d : D} (hd : Ent n d) (k : Nat) (b : Bool) (e c3 c4 : Cell) (h3 : c3.pin = false) (h4 : c4.pin = false) :
    ∃ ρ, ρ = [.fz (.str []), e, .fz (.bl (b || isF d)), .fz (.int (k : Int)), .fz d] ∧ (if entB d = true ∧ ((b || isF d) || isBl d) = true then fStep (run (tbE es) (lv + 4)) (.tp [.nm 3, .nm 4]) hbd (.tup [.int (k : Int), d]) [.fz (.str []), e, .fz (.bl b), c3, c4] = .nx ρ
      else ∃ ρ', (∃ b', ρ' = [.fz (.str []), e, .fz (.bl b'), .fz (.int (k : Int)), .fz d]) ∧ fStep (run (tbE es) (lv + 4)) (.tp [.nm 3, .nm 4]) hbd (.tup [.int (k : Int), d]) [.fz (.str []), e, .fz (.bl b), c3, c4] = .ex (BL k) ρ') := by
  refine ⟨_, rfl, ?_⟩
  have hg := run_val (es := es) (lv + 4) 29 (.tup (BLINDW.map .str)) rfl []
  simp only [BLINDW, List.map_cons, List.map_nil] at hg
  cases he : entB d with
  | false =>
    have hc := entry lv hn hd
    rw [he] at hc
    rw [if_neg (by simp)]
    refine ⟨_, ⟨b, rfl⟩, ?_⟩
    simp [runFn, wx_for, w_lc, w_meth, w_glob, w_dsp, w_gdix, w_gdin, wt_gdin, w_ch, wt_ch, wx_par, wx_aug, wx_retN, wx_raise, wx_tryH, hd_0, hd_n, hd_s, wx_tr, noEx, unname, isxS, fldS, lookF, wx_brk, wx_cont, st_tl, st_tt, st_0, st_1, evc_0, evc_1, lcStep, fStep, argOf, onVar, isVar, Cell.on, gets, Ag.get, Cell.val, P.pk, P.sem, P.rcv, M.rcv, M.pk, semAt, tyn, isiS, isiOne, tyNames, tru, isN, callK, pks, nodupB, agCells, agCell, giv, backs, back, locks, unlocks, unl, noOwn, wiped, putsAt, R.only, unbrk, stv, finOf, Cell.keep, pin_un, pin_fz, pin_ow, pin_pr, pin_pz, pin_lk, Cell.mt, Cell.put, Cell.lock, Cell.unlock, intS, cmpS, cmpI, ixS, lenS, hbd, h3, h4, hc, BL]
  | true =>
    have hc := entry lv hn hd
    rw [he] at hc
    obtain ⟨w, r, rfl, hw, hr, _, _⟩ := ent_of hd he
    have qF := nw hw (v := FACE) (by decide)
    have qB := in_words true w BLINDW
    simp only [FACE] at qF
    simp only [BLINDW, List.map_cons, List.map_nil] at qB
    have a0 : atd (.str w :: r) 0 = some (.str w) := at_0 _ _
    simp only [true_and]
    by_cases hF : w = FACE
    · have e1 : isF (.tup (.str w :: r)) = true := decide_eq_true hF
      rw [e1]
      unfold FACE at hF
      simp only [hF, decide_true] at qF
      subst hF
      rw [if_pos (by simp)]
      cases b <;> simp [runFn, wx_for, w_lc, w_meth, w_glob, w_dsp, w_gdix, w_gdin, wt_gdin, w_ch, wt_ch, wx_par, wx_aug, wx_retN, wx_raise, wx_tryH, hd_0, hd_n, hd_s, wx_tr, noEx, unname, isxS, fldS, lookF, wx_brk, wx_cont, st_tl, st_tt, st_0, st_1, evc_0, evc_1, lcStep, fStep, argOf, onVar, isVar, Cell.on, gets, Ag.get, Cell.val, P.pk, P.sem, P.rcv, M.rcv, M.pk, semAt, tyn, isiS, isiOne, tyNames, tru, isN, callK, pks, nodupB, agCells, agCell, giv, backs, back, locks, unlocks, unl, noOwn, wiped, putsAt, R.only, unbrk, stv, finOf, Cell.keep, pin_un, pin_fz, pin_ow, pin_pr, pin_pz, pin_lk, Cell.mt, Cell.put, Cell.lock, Cell.unlock, intS, cmpS, cmpI, ixS, lenS, hbd, h3, h4, hc, qF]
    · have e1 : isF (.tup (.str w :: r)) = false := decide_eq_false hF
      rw [e1]
      unfold FACE at hF
      simp only [hF, decide_false] at qF
      by_cases hB : w ∈ BLINDW
      · have e2 : isBl (.tup (.str w :: r)) = true := decide_eq_true hB
        rw [e2, if_pos (by simp)]
        unfold BLINDW at hB
        simp only [hB, decide_true, Bool.not_true, if_true] at qB
        cases b <;> simp [runFn, wx_for, w_lc, w_meth, w_glob, w_dsp, w_gdix, w_gdin, wt_gdin, w_ch, wt_ch, wx_par, wx_aug, wx_retN, wx_raise, wx_tryH, hd_0, hd_n, hd_s, wx_tr, noEx, unname, isxS, fldS, lookF, wx_brk, wx_cont, st_tl, st_tt, st_0, st_1, evc_0, evc_1, lcStep, fStep, argOf, onVar, isVar, Cell.on, gets, Ag.get, Cell.val, P.pk, P.sem, P.rcv, M.rcv, M.pk, semAt, tyn, isiS, isiOne, tyNames, tru, isN, callK, pks, nodupB, agCells, agCell, giv, backs, back, locks, unlocks, unl, noOwn, wiped, putsAt, R.only, unbrk, stv, finOf, Cell.keep, pin_un, pin_fz, pin_ow, pin_pr, pin_pz, pin_lk, Cell.mt, Cell.put, Cell.lock, Cell.unlock, intS, cmpS, cmpI, ixS, lenS, hbd, h3, h4, hc, qF, hg, qB]
      · have e2 : isBl (.tup (.str w :: r)) = false := decide_eq_false hB
        rw [e2]
        unfold BLINDW at hB
        simp only [hB, decide_false, Bool.not_false, if_true] at qB
        cases b with
        | true =>
          rw [if_pos (by simp)]
          simp [runFn, wx_for, w_lc, w_meth, w_glob, w_dsp, w_gdix, w_gdin, wt_gdin, w_ch, wt_ch, wx_par, wx_aug, wx_retN, wx_raise, wx_tryH, hd_0, hd_n, hd_s, wx_tr, noEx, unname, isxS, fldS, lookF, wx_brk, wx_cont, st_tl, st_tt, st_0, st_1, evc_0, evc_1, lcStep, fStep, argOf, onVar, isVar, Cell.on, gets, Ag.get, Cell.val, P.pk, P.sem, P.rcv, M.rcv, M.pk, semAt, tyn, isiS, isiOne, tyNames, tru, isN, callK, pks, nodupB, agCells, agCell, giv, backs, back, locks, unlocks, unl, noOwn, wiped, putsAt, R.only, unbrk, stv, finOf, Cell.keep, pin_un, pin_fz, pin_ow, pin_pr, pin_pz, pin_lk, Cell.mt, Cell.put, Cell.lock, Cell.unlock, intS, cmpS, cmpI, ixS, lenS, hbd, h3, h4, hc, qF, hg, qB]
        | false =>
          rw [if_neg (by simp)]
          refine ⟨_, ⟨false, rfl⟩, ?_⟩
          simp [runFn, wx_for, w_lc, w_meth, w_glob, w_dsp, w_gdix, w_gdin, wt_gdin, w_ch, wt_ch, wx_par, wx_aug, wx_retN, wx_raise, wx_tryH, hd_0, hd_n, hd_s, wx_tr, noEx, unname, isxS, fldS, lookF, wx_brk, wx_cont, st_tl, st_tt, st_0, st_1, evc_0, evc_1, lcStep, fStep, argOf, onVar, isVar, Cell.on, gets, Ag.get, Cell.val, P.pk, P.sem, P.rcv, M.rcv, M.pk, semAt, tyn, isiS, isiOne, tyNames, tru, isN, callK, pks, nodupB, agCells, agCell, giv, backs, back, locks, unlocks, unl, noOwn, wiped, putsAt, R.only, unbrk, stv, finOf, Cell.keep, pin_un, pin_fz, pin_ow, pin_pr, pin_pz, pin_lk, Cell.mt, Cell.put, Cell.lock, Cell.unlock, intS, cmpS, cmpI, ixS, lenS, hbd, h3, h4, hc, qF, hg, qB, BL]
def Lo (c : Cell) : Prop := c = .un ∨ ∃ d, c = .fz d
theorem Lo.pin {c : Cell} (h : Lo c) : c.pin = false := by rcases h with rfl | ⟨d, rfl⟩ <;> rfl
theorem h_for (lv : Nat) {n : Nat} (hn : n ≤ 1000) (e : Cell) : ∀ (xs : List D) (k : Nat) (b : Bool) (c3 c4 : Cell), c3.pin = false → Lo c4 → (∀ d ∈ xs, Ent n d) → ∃ b' c3' c4', Lo c4' ∧ forGo (fStep (run (tbE es) (lv + 4)) (.tp [.nm 3, .nm 4]) hbd) (enumF k xs) [.fz (.str []), e, .fz (.bl b), c3, c4] =
    match badAt k b xs with
    | none => .nx [.fz (.str []), e, .fz (.bl b'), c3', c4']
    | some j => .ex (BL j) [.fz (.str []), e, .fz (.bl b'), c3', c4']
  | [], k, b, c3, c4, _, h4, _ => ⟨b, c3, c4, h4, rfl⟩
  | d :: xs, k, b, c3, c4, h3, h4, h => by
    obtain ⟨ρ, hρ, hs⟩ := h_step lv hn (h d List.mem_cons_self) k b e c3 c4 h3 h4.pin
    unfold enumF badAt
    by_cases hc : entB d = true ∧ ((b || isF d) || isBl d) = true
    · rw [if_pos hc] at hs ⊢
      obtain ⟨b', c3', c4', h4', ih⟩ := h_for lv hn e xs (k + 1) (b || isF d) (.fz (.int (k : Int))) (.fz d) rfl (.inr ⟨_, rfl⟩) fun x hx => h x (List.mem_cons_of_mem _ hx)
      refine ⟨b', c3', c4', h4', ?_⟩
      rw [forGo, hs, hρ]
      exact ih
    · rw [if_neg hc] at hs ⊢
      obtain ⟨ρ', ⟨b', rfl⟩, hs⟩ := hs
      refine ⟨b', .fz (.int (k : Int)), .fz d, .inr ⟨_, rfl⟩, ?_⟩
      rw [forGo, hs]
def lbd : List S := [.iff (.nt (.call 12 [(.var 3)]))
         [.ret (.mv 2)]
         [],
       .asg (.nm 1) (.or (.var 1) (.prim .eq [(.prim .ix [(.var 3), (.int 0)]), (.str [102, 97, 99, 101])])),
       .iff (.and (.nt (.var 1)) (.prim .isin [(.prim .ix [(.var 3), (.int 0)]), (.prim .tup [(.str [108, 101, 102, 116]), (.str [114, 105, 103, 104, 116]), (.str [98, 97, 99, 107]), (.str [103, 111]), (.str [98, 117, 109, 112]), (.str [115, 112, 121])])]))
         [.ret (.mv 2)]
         []]
theorem l_step (lv : Nat) {n : Nat} (hn : n ≤ 1000) {d : D} (hd : Ent n d) (k : Nat) (b : Bool) (e c3 c4 : Cell) (h3 : c3.pin = false) (h4 : c4.pin = false) :
    if entB d = true ∧ ((b || isF d) || isBl d) = true then fStep (run (tbE es) (lv + 4)) (.tp [.nm 2, .nm 3]) lbd (.tup [.int (k : Int), d]) [e, .fz (.bl b), c3, c4] = .nx [e, .fz (.bl (b || isF d)), .fz (.int (k : Int)), .fz d]
      else ∃ ρ', (∃ b', ρ' = [e, .fz (.bl b'), .fz (.int (k : Int)), .fz d]) ∧ fStep (run (tbE es) (lv + 4)) (.tp [.nm 2, .nm 3]) lbd (.tup [.int (k : Int), d]) [e, .fz (.bl b), c3, c4] = .rt (.int (k : Int)) false ρ' := by
  cases he : entB d with
  | false =>
    have hc := lentry lv hn hd
    rw [he] at hc
    rw [if_neg (by simp)]
    refine ⟨_, ⟨b, rfl⟩, ?_⟩
    simp [runFn, wx_for, w_lc, w_meth, w_glob, w_dsp, w_gdix, w_gdin, wt_gdin, w_ch, wt_ch, wx_par, wx_aug, wx_retN, wx_raise, wx_tryH, hd_0, hd_n, hd_s, wx_tr, noEx, unname, isxS, fldS, lookF, wx_brk, wx_cont, st_tl, st_tt, st_0, st_1, evc_0, evc_1, lcStep, fStep, argOf, onVar, isVar, Cell.on, gets, Ag.get, Cell.val, P.pk, P.sem, P.rcv, M.rcv, M.pk, semAt, tyn, isiS, isiOne, tyNames, tru, isN, callK, pks, nodupB, agCells, agCell, giv, backs, back, locks, unlocks, unl, noOwn, wiped, putsAt, R.only, unbrk, stv, finOf, Cell.keep, pin_un, pin_fz, pin_ow, pin_pr, pin_pz, pin_lk, Cell.mt, Cell.put, Cell.lock, Cell.unlock, intS, cmpS, cmpI, ixS, lenS, lbd, h3, h4, hc]
  | true =>
    have hc := lentry lv hn hd
    rw [he] at hc
    obtain ⟨w, r, rfl, hw, hr, _, _⟩ := ent_of hd he
    have qF := nw hw (v := FACE) (by decide)
    have qB := in_words false w LOOKW
    rw [look_blind hr] at qB
    simp only [FACE] at qF
    simp only [LOOKW, List.map_cons, List.map_nil] at qB
    have a0 : atd (.str w :: r) 0 = some (.str w) := at_0 _ _
    simp only [true_and]
    by_cases hF : w = FACE
    · have e1 : isF (.tup (.str w :: r)) = true := decide_eq_true hF
      rw [e1]
      unfold FACE at hF
      simp only [hF, decide_true] at qF
      subst hF
      rw [if_pos (by simp)]
      cases b <;> simp [runFn, wx_for, w_lc, w_meth, w_glob, w_dsp, w_gdix, w_gdin, wt_gdin, w_ch, wt_ch, wx_par, wx_aug, wx_retN, wx_raise, wx_tryH, hd_0, hd_n, hd_s, wx_tr, noEx, unname, isxS, fldS, lookF, wx_brk, wx_cont, st_tl, st_tt, st_0, st_1, evc_0, evc_1, lcStep, fStep, argOf, onVar, isVar, Cell.on, gets, Ag.get, Cell.val, P.pk, P.sem, P.rcv, M.rcv, M.pk, semAt, tyn, isiS, isiOne, tyNames, tru, isN, callK, pks, nodupB, agCells, agCell, giv, backs, back, locks, unlocks, unl, noOwn, wiped, putsAt, R.only, unbrk, stv, finOf, Cell.keep, pin_un, pin_fz, pin_ow, pin_pr, pin_pz, pin_lk, Cell.mt, Cell.put, Cell.lock, Cell.unlock, intS, cmpS, cmpI, ixS, lenS, lbd, h3, h4, hc, qF]
    · have e1 : isF (.tup (.str w :: r)) = false := decide_eq_false hF
      rw [e1]
      unfold FACE at hF
      simp only [hF, decide_false] at qF
      by_cases hB : w ∈ BLINDW
      · have e2 : isBl (.tup (.str w :: r)) = true := decide_eq_true hB
        rw [e2, if_pos (by simp)]
        simp only [hB, decide_true, Bool.not_true, if_true] at qB
        cases b <;> simp [runFn, wx_for, w_lc, w_meth, w_glob, w_dsp, w_gdix, w_gdin, wt_gdin, w_ch, wt_ch, wx_par, wx_aug, wx_retN, wx_raise, wx_tryH, hd_0, hd_n, hd_s, wx_tr, noEx, unname, isxS, fldS, lookF, wx_brk, wx_cont, st_tl, st_tt, st_0, st_1, evc_0, evc_1, lcStep, fStep, argOf, onVar, isVar, Cell.on, gets, Ag.get, Cell.val, P.pk, P.sem, P.rcv, M.rcv, M.pk, semAt, tyn, isiS, isiOne, tyNames, tru, isN, callK, pks, nodupB, agCells, agCell, giv, backs, back, locks, unlocks, unl, noOwn, wiped, putsAt, R.only, unbrk, stv, finOf, Cell.keep, pin_un, pin_fz, pin_ow, pin_pr, pin_pz, pin_lk, Cell.mt, Cell.put, Cell.lock, Cell.unlock, intS, cmpS, cmpI, ixS, lenS, lbd, h3, h4, hc, qF, qB, LIM]
      · have e2 : isBl (.tup (.str w :: r)) = false := decide_eq_false hB
        rw [e2]
        simp only [hB, decide_false, Bool.not_false, if_true] at qB
        cases b with
        | true =>
          rw [if_pos (by simp)]
          simp [runFn, wx_for, w_lc, w_meth, w_glob, w_dsp, w_gdix, w_gdin, wt_gdin, w_ch, wt_ch, wx_par, wx_aug, wx_retN, wx_raise, wx_tryH, hd_0, hd_n, hd_s, wx_tr, noEx, unname, isxS, fldS, lookF, wx_brk, wx_cont, st_tl, st_tt, st_0, st_1, evc_0, evc_1, lcStep, fStep, argOf, onVar, isVar, Cell.on, gets, Ag.get, Cell.val, P.pk, P.sem, P.rcv, M.rcv, M.pk, semAt, tyn, isiS, isiOne, tyNames, tru, isN, callK, pks, nodupB, agCells, agCell, giv, backs, back, locks, unlocks, unl, noOwn, wiped, putsAt, R.only, unbrk, stv, finOf, Cell.keep, pin_un, pin_fz, pin_ow, pin_pr, pin_pz, pin_lk, Cell.mt, Cell.put, Cell.lock, Cell.unlock, intS, cmpS, cmpI, ixS, lenS, lbd, h3, h4, hc, qF, qB, LIM]
        | false =>
          rw [if_neg (by simp)]
          refine ⟨_, ⟨false, rfl⟩, ?_⟩
          simp [runFn, wx_for, w_lc, w_meth, w_glob, w_dsp, w_gdix, w_gdin, wt_gdin, w_ch, wt_ch, wx_par, wx_aug, wx_retN, wx_raise, wx_tryH, hd_0, hd_n, hd_s, wx_tr, noEx, unname, isxS, fldS, lookF, wx_brk, wx_cont, st_tl, st_tt, st_0, st_1, evc_0, evc_1, lcStep, fStep, argOf, onVar, isVar, Cell.on, gets, Ag.get, Cell.val, P.pk, P.sem, P.rcv, M.rcv, M.pk, semAt, tyn, isiS, isiOne, tyNames, tru, isN, callK, pks, nodupB, agCells, agCell, giv, backs, back, locks, unlocks, unl, noOwn, wiped, putsAt, R.only, unbrk, stv, finOf, Cell.keep, pin_un, pin_fz, pin_ow, pin_pr, pin_pz, pin_lk, Cell.mt, Cell.put, Cell.lock, Cell.unlock, intS, cmpS, cmpI, ixS, lenS, lbd, h3, h4, hc, qF, qB, LIM]
theorem l_for (lv : Nat) {n : Nat} (hn : n ≤ 1000) (e : Cell) : ∀ (xs : List D) (k : Nat) (b : Bool) (c3 c4 : Cell), c3.pin = false → c4.pin = false → (∀ d ∈ xs, Ent n d) → ∃ b' c3' c4', forGo (fStep (run (tbE es) (lv + 4)) (.tp [.nm 2, .nm 3]) lbd) (enumF k xs) [e, .fz (.bl b), c3, c4] =
    match badAt k b xs with
    | none => .nx [e, .fz (.bl b'), c3', c4']
    | some j => .rt (.int (j : Int)) false [e, .fz (.bl b'), c3', c4']
  | [], k, b, c3, c4, _, h4, _ => ⟨b, c3, c4, rfl⟩
  | d :: xs, k, b, c3, c4, h3, h4, h => by
    have hs := l_step lv hn (h d List.mem_cons_self) k b e c3 c4 h3 h4
    unfold enumF badAt
    by_cases hc : entB d = true ∧ ((b || isF d) || isBl d) = true
    · rw [if_pos hc] at hs ⊢
      obtain ⟨b', c3', c4', ih⟩ := l_for lv hn e xs (k + 1) (b || isF d) (.fz (.int (k : Int))) (.fz d) rfl rfl fun x hx => h x (List.mem_cons_of_mem _ hx)
      refine ⟨b', c3', c4', ?_⟩
      rw [forGo, hs]
      exact ih
    · rw [if_neg hc] at hs ⊢
      obtain ⟨ρ', ⟨b', rfl⟩, hs⟩ := hs
      refine ⟨b', .fz (.int (k : Int)), .fz d, ?_⟩
      rw [forGo, hs]
theorem bad_none : ∀ {xs : List D} {k : Nat} {b : Bool}, badAt k b xs = none → ∀ d ∈ xs, entB d = true
  | [], _, _, _ => by simp
  | d :: xs, k, b, h => by
    unfold badAt at h
    split at h
    · rename_i q
      intro x hx
      rcases List.mem_cons.mp hx with rfl | hx
      · exact q.1
      · exact bad_none h x hx
    · cases h
def SQ (xs : List D) (dl : D) : Prop := dl = .tup xs ∨ dl = .lst xs
theorem sq_enum {xs : List D} {dl : D} (h : SQ xs dl) : IK.enum.sem [dl] = some (enumF 0 xs) := by
  rw [← enum_F]
  rcases h with rfl | rfl <;> rfl
theorem sq_seq {xs : List D} {dl : D} (h : SQ xs dl) : IK.seq.sem [dl] = some xs := by rcases h with rfl | rfl <;> rfl
theorem tup_self {d : D} (h : entB d = true) : tupleS d = some (d, false) := by
  cases d <;> first | rfl | cases h
theorem lc5 {cs : CS} {xs : List D} (he : ∀ d ∈ xs, entB d = true) (hl : xs.length ≤ LIM) (c0 c1 c2 c3 : Cell) : ∃ c4, lcGo (lcStep cs [4] (.nm 4) [] (.prim .tuple [(.var 4)])) xs [] [c0, c1, c2, c3, .un] = .ok xs [c0, c1, c2, c3, c4] := by
  obtain ⟨ρ', h1, c4, h2⟩ := lc_map (step := lcStep cs [4] (.nm 4) [] (.prim .tuple [(.var 4)])) (g := fun d => d) (xs := xs) (ρ := [c0, c1, c2, c3, .un])
    (fun ρ => ∃ c4, ρ = [c0, c1, c2, c3, c4]) ⟨_, rfl⟩ hl (fun x hx ρ ⟨c4, e⟩ => by
      subst e
      have hs := tup_self (he x hx)
      refine ⟨[c0, c1, c2, c3, .fz x], ?_, _, rfl⟩
      simp [runFn, wx_for, w_lc, w_meth, w_glob, w_dsp, w_gdix, w_gdin, wt_gdin, w_ch, wt_ch, wx_par, wx_aug, wx_retN, wx_raise, wx_tryH, hd_0, hd_n, hd_s, wx_tr, noEx, unname, isxS, fldS, lookF, wx_brk, wx_cont, st_tl, st_tt, st_0, st_1, evc_0, evc_1, lcStep, fStep, argOf, onVar, isVar, Cell.on, gets, Ag.get, Cell.val, P.pk, P.sem, P.rcv, M.rcv, M.pk, semAt, tyn, isiS, isiOne, tyNames, tru, isN, callK, pks, nodupB, agCells, agCell, giv, backs, back, locks, unlocks, unl, noOwn, wiped, putsAt, R.only, unbrk, stv, finOf, Cell.keep, pin_un, pin_fz, pin_ow, pin_pr, pin_pz, pin_lk, Cell.mt, Cell.put, Cell.lock, Cell.unlock, intS, cmpS, cmpI, ixS, lenS, hs])
  subst h2
  exact ⟨c4, by rw [h1, List.map_id']⟩
theorem lc5f {cs : CS} {xs : List D} (he : ∀ d ∈ xs, entB d = true) (hl : xs.length ≤ LIM) (c0 c1 c2 c3 : Cell) (d0 : D) : ∃ c4, lcGo (lcStep cs [4] (.nm 4) [] (.prim .tuple [(.var 4)])) xs [] [c0, c1, c2, c3, .fz d0] = .ok xs [c0, c1, c2, c3, c4] := by
  obtain ⟨ρ', h1, c4, h2⟩ := lc_map (step := lcStep cs [4] (.nm 4) [] (.prim .tuple [(.var 4)])) (g := fun d => d) (xs := xs) (ρ := [c0, c1, c2, c3, .fz d0])
    (fun ρ => ∃ c4, ρ = [c0, c1, c2, c3, c4]) ⟨_, rfl⟩ hl (fun x hx ρ ⟨c4, e⟩ => by
      subst e
      have hs := tup_self (he x hx)
      refine ⟨[c0, c1, c2, c3, .fz x], ?_, _, rfl⟩
      simp [runFn, wx_for, w_lc, w_meth, w_glob, w_dsp, w_gdix, w_gdin, wt_gdin, w_ch, wt_ch, wx_par, wx_aug, wx_retN, wx_raise, wx_tryH, hd_0, hd_n, hd_s, wx_tr, noEx, unname, isxS, fldS, lookF, wx_brk, wx_cont, st_tl, st_tt, st_0, st_1, evc_0, evc_1, lcStep, fStep, argOf, onVar, isVar, Cell.on, gets, Ag.get, Cell.val, P.pk, P.sem, P.rcv, M.rcv, M.pk, semAt, tyn, isiS, isiOne, tyNames, tru, isN, callK, pks, nodupB, agCells, agCell, giv, backs, back, locks, unlocks, unl, noOwn, wiped, putsAt, R.only, unbrk, stv, finOf, Cell.keep, pin_un, pin_fz, pin_ow, pin_pr, pin_pz, pin_lk, Cell.mt, Cell.put, Cell.lock, Cell.unlock, intS, cmpS, cmpI, ixS, lenS, hs])
  subst h2
  exact ⟨c4, by rw [h1, List.map_id']⟩
theorem logof (lv : Nat) {n : Nat} (hn : n ≤ 1000) {xs : List D} {dl : D} (hq : SQ xs dl) (hx : ∀ d ∈ xs, Ent n d) (hl : xs.length ≤ LIM) : run (tbE es) (lv + 5) 5 [.fz (.str []), .fz dl] = match badAt 0 false xs with
    | none => some (.ok (.tup xs) false, [.un, .un])
    | some j => some (.ex (BL j), [.un, .un]) := by
  rw [run_fn (lv + 4) 5 f5 rfl]
  have h1 := sq_enum hq
  have h2 := sq_seq hq
  obtain ⟨b', c3', c4', h4', e⟩ := h_for lv hn (.fz dl) xs 0 false .un .un rfl (.inl rfl) hx
  unfold hbd at e
  obtain ⟨Q, hQ⟩ : ∃ Q, Q = enumF 0 xs := ⟨_, rfl⟩
  rw [← hQ] at h1 e
  cases hb : badAt 0 false xs with
  | some j =>
    rw [hb] at e
    simp [runFn, wx_for, w_lc, w_meth, w_glob, w_dsp, w_gdix, w_gdin, wt_gdin, w_ch, wt_ch, wx_par, wx_aug, wx_retN, wx_raise, wx_tryH, hd_0, hd_n, hd_s, wx_tr, noEx, unname, isxS, fldS, lookF, wx_brk, wx_cont, st_tl, st_tt, st_0, st_1, evc_0, evc_1, lcStep, fStep, argOf, onVar, isVar, Cell.on, gets, Ag.get, Cell.val, P.pk, P.sem, P.rcv, M.rcv, M.pk, semAt, tyn, isiS, isiOne, tyNames, tru, isN, callK, pks, nodupB, agCells, agCell, giv, backs, back, locks, unlocks, unl, noOwn, wiped, putsAt, R.only, unbrk, stv, finOf, Cell.keep, pin_un, pin_fz, pin_ow, pin_pr, pin_pz, pin_lk, Cell.mt, Cell.put, Cell.lock, Cell.unlock, intS, cmpS, cmpI, ixS, lenS, f5, b5, h1, e]
  | none =>
    rw [hb] at e
    have he := bad_none hb
    rcases h4' with rfl | ⟨d0, rfl⟩
    · obtain ⟨c4, g⟩ := lc5 (cs := run (tbE es) (lv + 4)) he hl (.fz (.str [])) (.fz dl) (.fz (.bl b')) c3'
      simp [runFn, wx_for, w_lc, w_meth, w_glob, w_dsp, w_gdix, w_gdin, wt_gdin, w_ch, wt_ch, wx_par, wx_aug, wx_retN, wx_raise, wx_tryH, hd_0, hd_n, hd_s, wx_tr, noEx, unname, isxS, fldS, lookF, wx_brk, wx_cont, st_tl, st_tt, st_0, st_1, evc_0, evc_1, lcStep, fStep, argOf, onVar, isVar, Cell.on, gets, Ag.get, Cell.val, P.pk, P.sem, P.rcv, M.rcv, M.pk, semAt, tyn, isiS, isiOne, tyNames, tru, isN, callK, pks, nodupB, agCells, agCell, giv, backs, back, locks, unlocks, unl, noOwn, wiped, putsAt, R.only, unbrk, stv, finOf, Cell.keep, pin_un, pin_fz, pin_ow, pin_pr, pin_pz, pin_lk, Cell.mt, Cell.put, Cell.lock, Cell.unlock, intS, cmpS, cmpI, ixS, lenS, f5, b5, h1, e, h2, g, tupleS]
    · obtain ⟨c4, g⟩ := lc5f (cs := run (tbE es) (lv + 4)) he hl (.fz (.str [])) (.fz dl) (.fz (.bl b')) c3' d0
      simp [runFn, wx_for, w_lc, w_meth, w_glob, w_dsp, w_gdix, w_gdin, wt_gdin, w_ch, wt_ch, wx_par, wx_aug, wx_retN, wx_raise, wx_tryH, hd_0, hd_n, hd_s, wx_tr, noEx, unname, isxS, fldS, lookF, wx_brk, wx_cont, st_tl, st_tt, st_0, st_1, evc_0, evc_1, lcStep, fStep, argOf, onVar, isVar, Cell.on, gets, Ag.get, Cell.val, P.pk, P.sem, P.rcv, M.rcv, M.pk, semAt, tyn, isiS, isiOne, tyNames, tru, isN, callK, pks, nodupB, agCells, agCell, giv, backs, back, locks, unlocks, unl, noOwn, wiped, putsAt, R.only, unbrk, stv, finOf, Cell.keep, pin_un, pin_fz, pin_ow, pin_pr, pin_pz, pin_lk, Cell.mt, Cell.put, Cell.lock, Cell.unlock, intS, cmpS, cmpI, ixS, lenS, f5, b5, h1, e, h2, g, tupleS]
def LOGW : D := .str [108, 111, 103]
def BADW : D := .str [98, 97, 100]
def ans (xs : List D) : Option Nat → D
  | none => .tup [.str [108, 111, 103], .tup xs]
  | some j => .tup [.str [98, 97, 100], .str [], .int (j : Int)]
theorem own (j : Nat) : run (tbE es) 10 16 [.fz (.ins "BadLog" ["at", "name"] [.int (j : Int), .str []])] = some (.ok (.bl true) false, [.un]) := by kernel_rfl
theorem held {n : Nat} (hn : n ≤ 1000) {xs : List D} {dl : D} (hq : SQ xs dl) (hx : ∀ d ∈ xs, Ent n d) (hl : xs.length ≤ LIM) : run (tbE es) 11 24 [.fz dl] = some (.ok (ans xs (badAt 0 false xs)) false, [.un]) := by
  have e5 := logof 4 hn hq hx hl
  have e6 : run (tbE es) 10 6 [.fz dl] = match badAt 0 false xs with
    | none => some (.ok (.tup xs) false, [.un])
    | some j => some (.ex (BL j), [.un]) := by
    rw [run_fn 9 6 f6 rfl]
    cases hb : badAt 0 false xs with
    | none =>
      rw [hb] at e5
      simp [runFn, wx_for, w_lc, w_meth, w_glob, w_dsp, w_gdix, w_gdin, wt_gdin, w_ch, wt_ch, wx_par, wx_aug, wx_retN, wx_raise, wx_tryH, hd_0, hd_n, hd_s, wx_tr, noEx, unname, isxS, fldS, lookF, wx_brk, wx_cont, st_tl, st_tt, st_0, st_1, evc_0, evc_1, lcStep, fStep, argOf, onVar, isVar, Cell.on, gets, Ag.get, Cell.val, P.pk, P.sem, P.rcv, M.rcv, M.pk, semAt, tyn, isiS, isiOne, tyNames, tru, isN, callK, pks, nodupB, agCells, agCell, giv, backs, back, locks, unlocks, unl, noOwn, wiped, putsAt, R.only, unbrk, stv, finOf, Cell.keep, pin_un, pin_fz, pin_ow, pin_pr, pin_pz, pin_lk, Cell.mt, Cell.put, Cell.lock, Cell.unlock, intS, cmpS, cmpI, ixS, lenS, f6, b6, e5]
    | some j =>
      rw [hb] at e5
      simp [runFn, wx_for, w_lc, w_meth, w_glob, w_dsp, w_gdix, w_gdin, wt_gdin, w_ch, wt_ch, wx_par, wx_aug, wx_retN, wx_raise, wx_tryH, hd_0, hd_n, hd_s, wx_tr, noEx, unname, isxS, fldS, lookF, wx_brk, wx_cont, st_tl, st_tt, st_0, st_1, evc_0, evc_1, lcStep, fStep, argOf, onVar, isVar, Cell.on, gets, Ag.get, Cell.val, P.pk, P.sem, P.rcv, M.rcv, M.pk, semAt, tyn, isiS, isiOne, tyNames, tru, isN, callK, pks, nodupB, agCells, agCell, giv, backs, back, locks, unlocks, unl, noOwn, wiped, putsAt, R.only, unbrk, stv, finOf, Cell.keep, pin_un, pin_fz, pin_ow, pin_pr, pin_pz, pin_lk, Cell.mt, Cell.put, Cell.lock, Cell.unlock, intS, cmpS, cmpI, ixS, lenS, f6, b6, e5]
  rw [run_fn 10 24 f24 rfl]
  cases hb : badAt 0 false xs with
  | none =>
    rw [hb] at e6
    simp [runFn, wx_for, w_lc, w_meth, w_glob, w_dsp, w_gdix, w_gdin, wt_gdin, w_ch, wt_ch, wx_par, wx_aug, wx_retN, wx_raise, wx_tryH, hd_0, hd_n, hd_s, wx_tr, noEx, unname, isxS, fldS, lookF, wx_brk, wx_cont, st_tl, st_tt, st_0, st_1, evc_0, evc_1, lcStep, fStep, argOf, onVar, isVar, Cell.on, gets, Ag.get, Cell.val, P.pk, P.sem, P.rcv, M.rcv, M.pk, semAt, tyn, isiS, isiOne, tyNames, tru, isN, callK, pks, nodupB, agCells, agCell, giv, backs, back, locks, unlocks, unl, noOwn, wiped, putsAt, R.only, unbrk, stv, finOf, Cell.keep, pin_un, pin_fz, pin_ow, pin_pr, pin_pz, pin_lk, Cell.mt, Cell.put, Cell.lock, Cell.unlock, intS, cmpS, cmpI, ixS, lenS, f24, b24, e6, ans, LIM]
  | some j =>
    rw [hb] at e6
    simp only [BL] at e6
    have ho := own j
    simp [runFn, wx_for, w_lc, w_meth, w_glob, w_dsp, w_gdix, w_gdin, wt_gdin, w_ch, wt_ch, wx_par, wx_aug, wx_retN, wx_raise, wx_tryH, hd_0, hd_n, hd_s, wx_tr, noEx, unname, isxS, fldS, lookF, wx_brk, wx_cont, st_tl, st_tt, st_0, st_1, evc_0, evc_1, lcStep, fStep, argOf, onVar, isVar, Cell.on, gets, Ag.get, Cell.val, P.pk, P.sem, P.rcv, M.rcv, M.pk, semAt, tyn, isiS, isiOne, tyNames, tru, isN, callK, pks, nodupB, agCells, agCell, giv, backs, back, locks, unlocks, unl, noOwn, wiped, putsAt, R.only, unbrk, stv, finOf, Cell.keep, pin_un, pin_fz, pin_ow, pin_pr, pin_pz, pin_lk, Cell.mt, Cell.put, Cell.lock, Cell.unlock, intS, cmpS, cmpI, ixS, lenS, f24, b24, e6, ans, ho, LIM]
theorem bad_at (lv : Nat) {n : Nat} (hn : n ≤ 1000) {xs : List D} (hx : ∀ d ∈ xs, Ent n d) : run (tbE es) (lv + 5) 13 [.pr (.lst xs)] = some (.ok (match badAt 0 false xs with | none => .non | some j => .int (j : Int)) false, [.pr (.lst xs)]) := by
  rw [run_fn (lv + 4) 13 f13 rfl]
  have h1 := sq_enum (.inr rfl : SQ xs (.lst xs))
  obtain ⟨b', c3', c4', e⟩ := l_for lv hn (.lk true (.lst xs)) xs 0 false .un .un rfl rfl hx
  unfold lbd at e
  obtain ⟨Q, hQ⟩ : ∃ Q, Q = enumF 0 xs := ⟨_, rfl⟩
  rw [← hQ] at h1 e
  cases hb : badAt 0 false xs with
  | some j =>
    rw [hb] at e
    simp [runFn, wx_for, w_lc, w_meth, w_glob, w_dsp, w_gdix, w_gdin, wt_gdin, w_ch, wt_ch, wx_par, wx_aug, wx_retN, wx_raise, wx_tryH, hd_0, hd_n, hd_s, wx_tr, noEx, unname, isxS, fldS, lookF, wx_brk, wx_cont, st_tl, st_tt, st_0, st_1, evc_0, evc_1, lcStep, fStep, argOf, onVar, isVar, Cell.on, gets, Ag.get, Cell.val, P.pk, P.sem, P.rcv, M.rcv, M.pk, semAt, tyn, isiS, isiOne, tyNames, tru, isN, callK, pks, nodupB, agCells, agCell, giv, backs, back, locks, unlocks, unl, noOwn, wiped, putsAt, R.only, unbrk, stv, finOf, Cell.keep, pin_un, pin_fz, pin_ow, pin_pr, pin_pz, pin_lk, Cell.mt, Cell.put, Cell.lock, Cell.unlock, intS, cmpS, cmpI, ixS, lenS, f13, b13, h1, e]
  | none =>
    rw [hb] at e
    simp [runFn, wx_for, w_lc, w_meth, w_glob, w_dsp, w_gdix, w_gdin, wt_gdin, w_ch, wt_ch, wx_par, wx_aug, wx_retN, wx_raise, wx_tryH, hd_0, hd_n, hd_s, wx_tr, noEx, unname, isxS, fldS, lookF, wx_brk, wx_cont, st_tl, st_tt, st_0, st_1, evc_0, evc_1, lcStep, fStep, argOf, onVar, isVar, Cell.on, gets, Ag.get, Cell.val, P.pk, P.sem, P.rcv, M.rcv, M.pk, semAt, tyn, isiS, isiOne, tyNames, tru, isN, callK, pks, nodupB, agCells, agCell, giv, backs, back, locks, unlocks, unl, noOwn, wiped, putsAt, R.only, unbrk, stv, finOf, Cell.keep, pin_un, pin_fz, pin_ow, pin_pr, pin_pz, pin_lk, Cell.mt, Cell.put, Cell.lock, Cell.unlock, intS, cmpS, cmpI, ixS, lenS, f13, b13, h1, e]
theorem plain_part {n : Nat} {x : D} (h : Part n x) (hs : manyB x = true ∨ signB x = true ∨ letB x = true) : BV.plain 0 x = true := by
  rcases h with ⟨i, rfl⟩ | ⟨s, rfl, _, h⟩ | h
  · rfl
  · show (s.all fun c => decide (c < 1114112)) = true
    exact h
  · rw [(odd_no h).1, (odd_no h).2.1, (odd_no h).2.2.1] at hs
    rcases hs with h | h | h <;> cases h
theorem m1_of {f : D → Bool} {r : List D} (h : m1 f r = true) : ∃ x, r = [x] ∧ f x = true := by
  unfold m1 at h
  split at h
  · exact ⟨_, rfl, h⟩
  · cases h
theorem m2_of {f : D → D → Bool} {r : List D} (h : m2 f r = true) : ∃ x y, r = [x, y] ∧ f x y = true := by
  unfold m2 at h
  split at h
  · exact ⟨_, _, rfl, h⟩
  · cases h
theorem plain_rest {n : Nat} {w : List Nat} {r : List D} (h : restB w r = true) (hr : ∀ x ∈ r, Part n x) : plains 0 r = true := by
  unfold restB at h
  split at h
  · rw [List.isEmpty_iff.mp h]; rfl
  · split at h
    · obtain ⟨x, rfl, q⟩ := m1_of h
      rw [plains, plain_part (hr x List.mem_cons_self) (.inr (.inr q))]; rfl
    · split at h
      · obtain ⟨x, rfl, q⟩ := m1_of h
        rw [plains, plain_part (hr x List.mem_cons_self) (.inl q)]; rfl
      · split at h
        · obtain ⟨x, rfl, q⟩ := m1_of h
          rw [plains, plain_part (hr x List.mem_cons_self) (.inr (.inl q))]; rfl
        · split at h
          · obtain ⟨x, y, rfl, q⟩ := m2_of h
            rw [Bool.and_eq_true] at q
            rw [plains, plain_part (hr x List.mem_cons_self) (.inl q.1), plains, plain_part (hr y (by simp)) (.inr (.inl q.2))]; rfl
          · cases h
theorem plain_ents {n : Nat} (hn : n ≤ 1000) : ∀ {xs : List D}, (∀ d ∈ xs, Ent n d) → (∀ d ∈ xs, entB d = true) → plains 1 xs = true
  | [], _, _ => rfl
  | d :: xs, h, he => by
    obtain ⟨w, r, rfl, hw, hr, hl, hp⟩ := ent_of (h d List.mem_cons_self) (he d List.mem_cons_self)
    have hlim : (D.str w :: r).length ≤ LIM := by rw [List.length_cons]; unfold LIM; omega
    rw [plains, BV.plain, plains, plain_rest hr hp, plain_ents hn (fun x hx => h x (List.mem_cons_of_mem _ hx)) (fun x hx => he x (List.mem_cons_of_mem _ hx)), decide_eq_true hlim]
    show ((true && ((w.all fun c => decide (c < 1114112)) && true)) && true) = true
    rw [show (w.all fun c => decide (c < 1114112)) = true from hw]; rfl
theorem same (n : Nat) (d : D) (h : BV.plain n d = true) (hn : n ≤ 8) : run (tbE es) 11 20 [.fz d, .fz d] = some (.ok (.bl true) false, [.un, .un]) :=
  run_le (show n + 2 ≤ 11 by omega) _ _ _ (same_self (s := 20) (w := 19) rfl rfl n d h)
theorem same_ans {n : Nat} (hn : n ≤ 1000) {xs : List D} (hx : ∀ d ∈ xs, Ent n d) (hl : xs.length ≤ LIM) : run (tbE es) 11 20 [.fz (ans xs (badAt 0 false xs)), .fz (ans xs (badAt 0 false xs))] = some (.ok (.bl true) false, [.un, .un]) := by
  cases hb : badAt 0 false xs with
  | none =>
    have hp := plain_ents hn hx (bad_none hb)
    refine same 3 _ ?_ (by decide)
    have hz : BV.plain 2 (.str [108, 111, 103]) = true := by decide
    rw [ans, BV.plain, plains, plains, plains, hz, BV.plain, hp, decide_eq_true hl]
    rfl
  | some j =>
    refine same 1 _ ?_ (by decide)
    have h1 : BV.plain 0 (.str [98, 97, 100]) = true := by decide
    have h2 : BV.plain 0 (.str []) = true := by decide
    rw [ans, BV.plain, plains, plains, plains, plains, h1, h2]
    rfl
/-! ### spoilt texts -/
def SIGNS : List Nat := [32, 33, 34, 35, 36, 38, 39, 40, 41, 42, 43, 44, 45, 46, 47, 48, 49, 50, 51, 52, 53, 54, 55, 56, 57, 58, 59, 60, 61, 62, 63, 64, 65, 66, 67, 68, 69, 70, 71, 72, 73, 74, 75, 76, 77, 78, 79, 80, 81, 82, 83, 84, 85, 86, 87, 88, 89, 90, 91, 92, 93, 94, 95, 96, 97, 98, 99, 100, 101, 102, 103, 104, 105, 106, 107, 108, 109, 110, 111, 112, 113, 114, 115, 116, 117, 118, 119, 120, 121, 122, 123, 124, 125, 126]
theorem cut_ok {s : List Nat} {a b : Option Int} (h : okS s = true) : okS (cut s a b) = true := by
  unfold okS at h ⊢
  rw [List.all_eq_true] at h ⊢
  exact fun c hc => h c (List.mem_of_mem_drop (List.mem_of_mem_take hc))
theorem cut_len {s : List Nat} {a b : Option Int} : (cut s a b).length ≤ s.length := by
  unfold cut
  rw [List.length_take, List.length_drop]
  omega
theorem okS_app {a b : List Nat} : okS (a ++ b) = (okS a && okS b) := by unfold okS; rw [List.all_append]
def g5 : Fn := ⟨2, 6, [.asg (.nm 2) (.str SIGNS),
    .asg (.nm 3) (.prim .ix [(.var 2), (.call 18 [(.var 0), (.prim .len [(.var 2)])])]),
    .asg (.nm 4) (.call 18 [(.var 0), (.prim .add [(.prim .len [(.var 1)]), (.int 1)])]),
    .asg (.nm 5) (.call 18 [(.var 0), (.int 4)]),
    .iff (.prim .eq [(.var 5), (.int 0)])
      [.ret (.prim .add [(.prim .add [(.prim (.sl false true) [(.var 1), (.var 4)]), (.var 3)]), (.prim (.sl true false) [(.var 1), (.var 4)])])]
      [],
    .iff (.prim .eq [(.var 5), (.int 1)])
      [.ret (.prim .add [(.prim .add [(.prim (.sl false true) [(.var 1), (.var 4)]), (.var 3)]), (.prim (.sl true false) [(.var 1), (.prim .add [(.var 4), (.int 1)])])])]
      [],
    .iff (.prim .eq [(.var 5), (.int 2)])
      [.ret (.prim .add [(.prim (.sl false true) [(.var 1), (.var 4)]), (.prim (.sl true false) [(.var 1), (.prim .add [(.var 4), (.int 1)])])])]
      [],
    .ret (.prim .add [(.var 1), (.prim .rep [(.str [97]), (.prim .add [(.int 1), (.call 18 [(.var 0), (.int 9)])])])])]⟩
theorem rep_a {m : Nat} (h : m ≤ 9) : repS (.str [97]) (.int (m : Int)) = some (.str (List.replicate m 97), false) := by
  have : m = 0 ∨ m = 1 ∨ m = 2 ∨ m = 3 ∨ m = 4 ∨ m = 5 ∨ m = 6 ∨ m = 7 ∨ m = 8 ∨ m = 9 := by omega
  rcases this with rfl | rfl | rfl | rfl | rfl | rfl | rfl | rfl | rfl | rfl <;> rfl
theorem spoilt_ok {cs : CS} {p : D} (ht : Takes1 cs 18) (hp : isPool p) (s : List Nat) {N : Nat} (hN : N ≤ 900) (hl : s.length ≤ N) (ho : okS s = true) : ∃ (r : List Nat) (p' : D), runFn cs g5 [.pr p, .fz (.str s)] = some (.ok (.str r) false, [.pr p', .un]) ∧ r.length ≤ 2 * N + 9 ∧ okS r = true ∧ isPool p' := by
  obtain ⟨z, p1, e1, a1, b1, i1⟩ := ht p (SIGNS.length : Int) hp (by decide) (by decide)
  obtain ⟨x, p2, e2, a2, b2, i2⟩ := ht p1 ((s.length : Int) + 1) i1 (by omega) (by omega)
  obtain ⟨k, p3, e3, a3, b3, i3⟩ := ht p2 4 i2 (by decide) (by decide)
  obtain ⟨c, hc, hm⟩ : ∃ c, atd SIGNS z = some c ∧ c ∈ SIGNS := atd_ok a1 b1
  have hc4 : okS [c] = true := by
    unfold okS
    have : ∀ c ∈ SIGNS, decide (c < 1114112) = true := by decide
    rw [List.all_cons, this c hm]; rfl
  have hsl2 : SIGNS.length ≤ LIM := by decide
  have hsl : SIGNS.length ≤ 1000000 := by decide
  have hL : s.length ≤ LIM := by unfold LIM; omega
  have hL1 : s.length ≤ 1000000 := by omega
  have l1 : ∀ a b, (cut s a b).length ≤ N := fun a b => Nat.le_trans cut_len hl
  have o1 : ∀ a b, okS (cut s a b) = true := fun a b => cut_ok ho
  have A1 : ∀ a b a' b', addS (.str (cut s a b)) (.str (cut s a' b')) = some (.str (cut s a b ++ cut s a' b'), false) := fun a b a' b' => add_str (by have := l1 a b; have := l1 a' b'; unfold LIM; omega)
  have A2 : ∀ a b, addS (.str (cut s a b)) (.str [c]) = some (.str (cut s a b ++ [c]), false) := fun a b => add_str (by have := l1 a b; unfold LIM; simp; omega)
  have A3 : ∀ a b a' b', addS (.str (cut s a b ++ [c])) (.str (cut s a' b')) = some (.str (cut s a b ++ [c] ++ cut s a' b'), false) := fun a b a' b' => add_str (by have := l1 a b; have := l1 a' b'; unfold LIM; simp; omega)
  have sl : ∀ a b, slS a b (.str s) = some (.str (cut s a b), false) := fun a b => by show (if s.length ≤ LIM then _ else _) = _; rw [if_pos hL]
  have k4 : k = 0 ∨ k = 1 ∨ k = 2 ∨ k = 3 := by omega
  rcases k4 with rfl | rfl | rfl | rfl
  · refine ⟨cut s none (some x) ++ [c] ++ cut s (some x) none, p3, ?_, ?_, by rw [okS_app, okS_app, o1, o1, hc4]; rfl, i3⟩
    · simp [runFn, wx_for, w_lc, w_meth, w_glob, w_dsp, w_gdix, w_gdin, wt_gdin, w_ch, wt_ch, wx_par, wx_aug, wx_retN, wx_raise, wx_tryH, hd_0, hd_n, hd_s, wx_tr, noEx, unname, isxS, fldS, lookF, wx_brk, wx_cont, st_tl, st_tt, st_0, st_1, evc_0, evc_1, lcStep, fStep, argOf, onVar, isVar, Cell.on, gets, Ag.get, Cell.val, P.pk, P.sem, P.rcv, M.rcv, M.pk, semAt, tyn, isiS, isiOne, tyNames, tru, isN, callK, pks, nodupB, agCells, agCell, giv, backs, back, locks, unlocks, unl, noOwn, wiped, putsAt, R.only, unbrk, stv, finOf, Cell.keep, pin_un, pin_fz, pin_ow, pin_pr, pin_pz, pin_lk, Cell.mt, Cell.put, Cell.lock, Cell.unlock, intS, cmpS, cmpI, ixS, lenS, g5, hsl2, hsl, e1, hc, hL1, add_ii, e2, e3, eq_int, sl, A1, A2, A3, LIM]
    · have := l1 none (some x); have := l1 (some x) none; simp; omega
  · refine ⟨cut s none (some x) ++ [c] ++ cut s (some (x + 1)) none, p3, ?_, ?_, by rw [okS_app, okS_app, o1, o1, hc4]; rfl, i3⟩
    · simp [runFn, wx_for, w_lc, w_meth, w_glob, w_dsp, w_gdix, w_gdin, wt_gdin, w_ch, wt_ch, wx_par, wx_aug, wx_retN, wx_raise, wx_tryH, hd_0, hd_n, hd_s, wx_tr, noEx, unname, isxS, fldS, lookF, wx_brk, wx_cont, st_tl, st_tt, st_0, st_1, evc_0, evc_1, lcStep, fStep, argOf, onVar, isVar, Cell.on, gets, Ag.get, Cell.val, P.pk, P.sem, P.rcv, M.rcv, M.pk, semAt, tyn, isiS, isiOne, tyNames, tru, isN, callK, pks, nodupB, agCells, agCell, giv, backs, back, locks, unlocks, unl, noOwn, wiped, putsAt, R.only, unbrk, stv, finOf, Cell.keep, pin_un, pin_fz, pin_ow, pin_pr, pin_pz, pin_lk, Cell.mt, Cell.put, Cell.lock, Cell.unlock, intS, cmpS, cmpI, ixS, lenS, g5, hsl2, hsl, e1, hc, hL1, add_ii, e2, e3, eq_int, sl, A1, A2, A3, LIM]
    · have := l1 none (some x); have := l1 (some (x + 1)) none; simp; omega
  · refine ⟨cut s none (some x) ++ cut s (some (x + 1)) none, p3, ?_, ?_, by rw [okS_app, o1, o1]; rfl, i3⟩
    · simp [runFn, wx_for, w_lc, w_meth, w_glob, w_dsp, w_gdix, w_gdin, wt_gdin, w_ch, wt_ch, wx_par, wx_aug, wx_retN, wx_raise, wx_tryH, hd_0, hd_n, hd_s, wx_tr, noEx, unname, isxS, fldS, lookF, wx_brk, wx_cont, st_tl, st_tt, st_0, st_1, evc_0, evc_1, lcStep, fStep, argOf, onVar, isVar, Cell.on, gets, Ag.get, Cell.val, P.pk, P.sem, P.rcv, M.rcv, M.pk, semAt, tyn, isiS, isiOne, tyNames, tru, isN, callK, pks, nodupB, agCells, agCell, giv, backs, back, locks, unlocks, unl, noOwn, wiped, putsAt, R.only, unbrk, stv, finOf, Cell.keep, pin_un, pin_fz, pin_ow, pin_pr, pin_pz, pin_lk, Cell.mt, Cell.put, Cell.lock, Cell.unlock, intS, cmpS, cmpI, ixS, lenS, g5, hsl2, hsl, e1, hc, hL1, add_ii, e2, e3, eq_int, sl, A1, A2, A3, LIM]
    · have := l1 none (some x); have := l1 (some (x + 1)) none; simp; omega
  · obtain ⟨q, p4, e4, a4, b4, i4⟩ := ht p3 9 i3 (by decide) (by decide)
    obtain ⟨m, rfl⟩ := Int.eq_ofNat_of_zero_le a4
    have hr := rep_a (m := m + 1) (by omega)
    have e : (1 : Int) + (m : Int) = ((m + 1 : Nat) : Int) := by omega
    have hrl : (List.replicate (m + 1) 97).length = m + 1 := List.length_replicate
    have A4 : addS (.str s) (.str (List.replicate (m + 1) 97)) = some (.str (s ++ List.replicate (m + 1) 97), false) := add_str (by rw [hrl]; unfold LIM; omega)
    obtain ⟨R9, hR9⟩ : ∃ R9, R9 = List.replicate (m + 1) 97 := ⟨_, rfl⟩
    rw [← hR9] at hr A4 hrl
    refine ⟨s ++ R9, p4, ?_, by rw [List.length_append, hrl]; omega, ?_, i4⟩
    · simp only [g5]
      have hadd : addS (.int 1) (.int (m : Int)) = some (.int ((m + 1 : Nat) : Int), false) := by rw [← e]; rfl
      obtain ⟨mm, hmm⟩ : ∃ mm : Int, mm = ((m + 1 : Nat) : Int) := ⟨_, rfl⟩
      rw [← hmm] at hadd hr
      simp [runFn, wx_for, w_lc, w_meth, w_glob, w_dsp, w_gdix, w_gdin, wt_gdin, w_ch, wt_ch, wx_par, wx_aug, wx_retN, wx_raise, wx_tryH, hd_0, hd_n, hd_s, wx_tr, noEx, unname, isxS, fldS, lookF, wx_brk, wx_cont, st_tl, st_tt, st_0, st_1, evc_0, evc_1, lcStep, fStep, argOf, onVar, isVar, Cell.on, gets, Ag.get, Cell.val, P.pk, P.sem, P.rcv, M.rcv, M.pk, semAt, tyn, isiS, isiOne, tyNames, tru, isN, callK, pks, nodupB, agCells, agCell, giv, backs, back, locks, unlocks, unl, noOwn, wiped, putsAt, R.only, unbrk, stv, finOf, Cell.keep, pin_un, pin_fz, pin_ow, pin_pr, pin_pz, pin_lk, Cell.mt, Cell.put, Cell.lock, Cell.unlock, intS, cmpS, cmpI, ixS, lenS, hsl2, hsl, e1, hc, hL1, add_ii, e2, e3, eq_int, e4, hadd, hr, A4, LIM]
    · rw [okS_app, ho, Bool.true_and, hR9]
      unfold okS
      rw [List.all_replicate]
      simp
/-! ### spoilt entries -/
def ANY : List D := [.non, .bl true, .bl false, .str [], .str [110], .str [78], .str [110, 111, 114, 116, 104], .int 0, .int 1, .int (-1), .int 7, .int 8, .int 100000000000000000000000000000, .str [48], .tup [], .tup [.int 0], .tup [.str [110]], .lst [], .lst [.int 0], .tup [.str [97], .int 0]]
theorem any_part : ∀ d ∈ ANY, Part 10 d := by
  intro d hd
  simp only [ANY, List.mem_cons, List.not_mem_nil, or_false] at hd
  rcases hd with rfl | rfl | rfl | rfl | rfl | rfl | rfl | rfl | rfl | rfl | rfl | rfl | rfl | rfl | rfl | rfl | rfl | rfl | rfl | rfl <;>
    first | exact .inl ⟨_, rfl⟩ | exact .inr (.inl ⟨_, rfl, by decide, by decide⟩) | (refine .inr (.inr ?_); unfold ODD; simp)
theorem p29 : powI 10 29 = some 100000000000000000000000000000 := by unfold powI; rw [if_pos (by decide)]; rfl
theorem anything_ok {cs : CS} {p : D} (ht : Takes1 cs 18) (hp : isPool p) : ∃ (d : D) (p' : D), runFn cs f21 [.pr p] = some (.ok d false, [.pr p']) ∧ Part 10 d ∧ isPool p' := by
  obtain ⟨z, p1, e1, a1, b1, i1⟩ := ht p 20 hp (by decide) (by decide)
  obtain ⟨d, hd, hm⟩ : ∃ d, atd ANY z = some d ∧ d ∈ ANY := atd_ok a1 (by show z < (20 : Int); exact b1)
  refine ⟨d, p1, ?_, any_part d hm, i1⟩
  unfold ANY at hd
  have hneg : negS (.int 1) = some (.int (-1), false) := rfl
  simp [runFn, wx_for, w_lc, w_meth, w_glob, w_dsp, w_gdix, w_gdin, wt_gdin, w_ch, wt_ch, wx_par, wx_aug, wx_retN, wx_raise, wx_tryH, hd_0, hd_n, hd_s, wx_tr, noEx, unname, isxS, fldS, lookF, wx_brk, wx_cont, st_tl, st_tt, st_0, st_1, evc_0, evc_1, lcStep, fStep, argOf, onVar, isVar, Cell.on, gets, Ag.get, Cell.val, P.pk, P.sem, P.rcv, M.rcv, M.pk, semAt, tyn, isiS, isiOne, tyNames, tru, isN, callK, pks, nodupB, agCells, agCell, giv, backs, back, locks, unlocks, unl, noOwn, wiped, putsAt, R.only, unbrk, stv, finOf, Cell.keep, pin_un, pin_fz, pin_ow, pin_pr, pin_pz, pin_lk, Cell.mt, Cell.put, Cell.lock, Cell.unlock, intS, cmpS, cmpI, ixS, lenS, f21, b21, p29, hneg, addS, e1, hd, LIM]
def BARE8 : List D := [.non, .int 7, .str [108, 101, 102, 116], .bl true, .tup [], .lst [], .str [], .tup [.str [103, 111]]]
theorem bare8 {d : D} (h : d ∈ BARE8) : Ent 10 d := by
  simp only [BARE8, List.mem_cons, List.not_mem_nil, or_false] at h
  rcases h with rfl | rfl | rfl | rfl | rfl | rfl | rfl | rfl <;> first
    | (refine .inr ?_; unfold BARE; simp; done)
    | exact .inl ⟨[], rfl, by decide, by simp⟩
    | exact .inl ⟨[.str [103, 111]], rfl, by decide, fun x hx => by rw [List.mem_singleton] at hx; subst hx; exact .inr (.inl ⟨_, rfl, by decide, by decide⟩)⟩
def WORD8 : List D := [.str [103, 111], .str [102, 97, 99, 101], .str [115, 105, 103, 110], .str [115, 112, 121], .str [108, 101, 102, 116], .str [115, 119, 97, 112], .str [71, 111], .str [116, 117, 114, 110]]
theorem word8 {d : D} (h : d ∈ WORD8) : Part 10 d := by
  simp only [WORD8, List.mem_cons, List.not_mem_nil, or_false] at h
  rcases h with rfl | rfl | rfl | rfl | rfl | rfl | rfl | rfl <;> exact .inr (.inl ⟨_, rfl, by decide, by decide⟩)
def TEN : List D := [.int 0, .int 10, .int (-1), .bl true, .str [51], .int 100000000000000000000000000000, .str [78], .str [110, 101], .int 9, .int 1]
theorem ten10 {d : D} (h : d ∈ TEN) : Part 10 d := by
  simp only [TEN, List.mem_cons, List.not_mem_nil, or_false] at h
  rcases h with rfl | rfl | rfl | rfl | rfl | rfl | rfl | rfl | rfl | rfl <;> first | exact .inl ⟨_, rfl⟩ | exact .inr (.inl ⟨_, rfl, by decide, by decide⟩) | (refine .inr (.inr ?_); unfold ODD; simp)
theorem set_ok {ps : List D} {j : Nat} (hj : j < ps.length) (y : D) : setIx (.lst ps) (.int (j : Int)) y = some (.lst (ps.set j y)) := by
  show (ixd ps.length (j : Int)).map _ = _
  unfold ixd
  rw [if_pos (by omega), if_pos (by omega)]
  rfl
theorem set_parts {n m : Nat} {ps : List D} (h : ∀ x ∈ ps, Part n x) (hn : n ≤ m) {y : D} (hy : Part m y) (j : Nat) : ∀ x ∈ ps.set j y, Part m x := fun x hx => by
  rcases List.mem_or_eq_of_mem_set hx with hx | rfl
  · exact (h x hx).mono hn
  · exact hy
theorem nine {k : Int} (h0 : 0 ≤ k) (h1 : k < 9) : k = 0 ∨ k = 1 ∨ k = 2 ∨ k = 3 ∨ k = 4 ∨ k = 5 ∨ k = 6 ∨ k = 7 ∨ k = 8 := by omega
theorem spoil_ok {cs : CS} (tk : Takes1 cs 18) (ha : ∀ p, isPool p → ∃ (d : D) (p' : D), cs 21 [.pr p] = some (.ok d false, [.pr p']) ∧ Part 10 d ∧ isPool p')
    (hs : ∀ p s N, isPool p → N ≤ 900 → s.length ≤ N → okS s = true → ∃ (r : List Nat) (p' : D), cs 14 [.pr p, .fz (.str s)] = some (.ok (.str r) false, [.pr p', .un]) ∧ r.length ≤ 2 * N + 9 ∧ okS r = true ∧ isPool p')
    {p : D} (hp : isPool p) {n : Nat} (h10 : 10 ≤ n) (hn : n ≤ 400) {ps : List D} (h0 : 0 < ps.length) (hl : ps.length ≤ n) (hx : ∀ x ∈ ps, Part n x) :
    ∃ (d : D) (p' : D), runFn cs f15 [.pr p, .fz (.tup ps)] = some (.ok d false, [.pr p', .un]) ∧ Ent (2 * n + 10) d ∧ isPool p' := by
  obtain ⟨k, p1, e1, a1, b1, i1⟩ := tk p 9 hp (by decide) (by decide)
  obtain ⟨at_, p2, e2, a2, b2, i2⟩ := tk p1 (ps.length : Int) i1 (by omega) (by omega)
  obtain ⟨j, rfl⟩ := Int.eq_ofNat_of_zero_le a2
  have hj : j < ps.length := by omega
  obtain ⟨x, hx1, hx2⟩ := atd_ok (xs := ps) a2 b2
  have hp1 := hx x hx2
  have ix := isi_str hp1
  have n1 : lenS (.lst ps) = some (.int (ps.length : Int), false) := rfl
  obtain ⟨z, hz⟩ : ∃ z : Int, z = (ps.length : Int) := ⟨_, rfl⟩
  rw [← hz] at n1 e2
  have hneg : negS (.int 1) = some (.int (-1), false) := rfl
  have hneg5 : negS (.int 5) = some (.int (-5), false) := rfl
  have fin : ∀ {y : D}, Part (2 * n + 10) y → Ent (2 * n + 10) (.tup (ps.set j y)) := fun hy => .inl ⟨_, rfl, by rw [List.length_set]; omega, set_parts hx (by omega) hy j⟩
  have so := fun y => set_ok hj y
  have key : ∀ k : Int, (k = 7 ∨ k = 8 ∨ ((k = 3 ∨ k = 4) ∧ strB x = false)) → cs 18 [.pr p, .fz (.int 9)] = some (.ok (.int k) false, [.pr p1, .un]) → ∃ (d : D) (p' : D), runFn cs f15 [.pr p, .fz (.tup ps)] = some (.ok d false, [.pr p', .un]) ∧ Ent (2 * n + 10) d ∧ isPool p' := fun k hk e1 => by
    obtain ⟨y, p3, e3, hy, i3⟩ := ha p2 i2
    refine ⟨_, p3, ?_, fin (hy.mono (by omega)), i3⟩
    rcases hk with rfl | rfl | ⟨rfl | rfl, hsx⟩
    · simp [runFn, wx_for, w_lc, w_meth, w_glob, w_dsp, w_gdix, w_gdin, wt_gdin, w_ch, wt_ch, wx_par, wx_aug, wx_retN, wx_raise, wx_tryH, hd_0, hd_n, hd_s, wx_tr, noEx, unname, isxS, fldS, lookF, wx_brk, wx_cont, st_tl, st_tt, st_0, st_1, evc_0, evc_1, lcStep, fStep, argOf, onVar, isVar, Cell.on, gets, Ag.get, Cell.val, P.pk, P.sem, P.rcv, M.rcv, M.pk, semAt, tru, isN, callK, pks, nodupB, agCells, agCell, giv, backs, back, locks, unlocks, unl, noOwn, wiped, putsAt, R.only, unbrk, stv, finOf, Cell.keep, pin_un, pin_fz, pin_ow, pin_pr, pin_pz, pin_lk, Cell.mt, Cell.put, Cell.lock, Cell.unlock, intS, cmpS, cmpI, ixS, f15, b15, e1, listS, n1, e2, eq_int, e3, so, tupleS]
    · simp [runFn, wx_for, w_lc, w_meth, w_glob, w_dsp, w_gdix, w_gdin, wt_gdin, w_ch, wt_ch, wx_par, wx_aug, wx_retN, wx_raise, wx_tryH, hd_0, hd_n, hd_s, wx_tr, noEx, unname, isxS, fldS, lookF, wx_brk, wx_cont, st_tl, st_tt, st_0, st_1, evc_0, evc_1, lcStep, fStep, argOf, onVar, isVar, Cell.on, gets, Ag.get, Cell.val, P.pk, P.sem, P.rcv, M.rcv, M.pk, semAt, tru, isN, callK, pks, nodupB, agCells, agCell, giv, backs, back, locks, unlocks, unl, noOwn, wiped, putsAt, R.only, unbrk, stv, finOf, Cell.keep, pin_un, pin_fz, pin_ow, pin_pr, pin_pz, pin_lk, Cell.mt, Cell.put, Cell.lock, Cell.unlock, intS, cmpS, cmpI, ixS, f15, b15, e1, listS, n1, e2, eq_int, e3, so, tupleS]
    · rw [hsx] at ix
      simp [runFn, wx_for, w_lc, w_meth, w_glob, w_dsp, w_gdix, w_gdin, wt_gdin, w_ch, wt_ch, wx_par, wx_aug, wx_retN, wx_raise, wx_tryH, hd_0, hd_n, hd_s, wx_tr, noEx, unname, isxS, fldS, lookF, wx_brk, wx_cont, st_tl, st_tt, st_0, st_1, evc_0, evc_1, lcStep, fStep, argOf, onVar, isVar, Cell.on, gets, Ag.get, Cell.val, P.pk, P.sem, P.rcv, M.rcv, M.pk, semAt, tru, isN, callK, pks, nodupB, agCells, agCell, giv, backs, back, locks, unlocks, unl, noOwn, wiped, putsAt, R.only, unbrk, stv, finOf, Cell.keep, pin_un, pin_fz, pin_ow, pin_pr, pin_pz, pin_lk, Cell.mt, Cell.put, Cell.lock, Cell.unlock, intS, cmpS, cmpI, ixS, f15, b15, e1, listS, n1, e2, eq_int, hx1, ix, e3, so, tupleS]
    · rw [hsx] at ix
      simp [runFn, wx_for, w_lc, w_meth, w_glob, w_dsp, w_gdix, w_gdin, wt_gdin, w_ch, wt_ch, wx_par, wx_aug, wx_retN, wx_raise, wx_tryH, hd_0, hd_n, hd_s, wx_tr, noEx, unname, isxS, fldS, lookF, wx_brk, wx_cont, st_tl, st_tt, st_0, st_1, evc_0, evc_1, lcStep, fStep, argOf, onVar, isVar, Cell.on, gets, Ag.get, Cell.val, P.pk, P.sem, P.rcv, M.rcv, M.pk, semAt, tru, isN, callK, pks, nodupB, agCells, agCell, giv, backs, back, locks, unlocks, unl, noOwn, wiped, putsAt, R.only, unbrk, stv, finOf, Cell.keep, pin_un, pin_fz, pin_ow, pin_pr, pin_pz, pin_lk, Cell.mt, Cell.put, Cell.lock, Cell.unlock, intS, cmpS, cmpI, ixS, f15, b15, e1, listS, n1, e2, eq_int, hx1, ix, e3, so, tupleS]
  have key2 : ∀ k : Int, (k = 3 ∨ k = 4) → strB x = true → cs 18 [.pr p, .fz (.int 9)] = some (.ok (.int k) false, [.pr p1, .un]) → ∃ (d : D) (p' : D), runFn cs f15 [.pr p, .fz (.tup ps)] = some (.ok d false, [.pr p', .un]) ∧ Ent (2 * n + 10) d ∧ isPool p' := fun k hk hsx e1 => by
    rcases hp1 with ⟨i, rfl⟩ | ⟨s, rfl, s1, s2⟩ | ho
    · cases hsx
    · obtain ⟨r, p3, e3, r1, r2, i3⟩ := hs p2 s n i2 (by omega) s1 s2
      refine ⟨_, p3, ?_, fin (y := .str r) (.inr (.inl ⟨r, rfl, by omega, r2⟩)), i3⟩
      rw [hsx] at ix
      rcases hk with rfl | rfl <;> simp [runFn, wx_for, w_lc, w_meth, w_glob, w_dsp, w_gdix, w_gdin, wt_gdin, w_ch, wt_ch, wx_par, wx_aug, wx_retN, wx_raise, wx_tryH, hd_0, hd_n, hd_s, wx_tr, noEx, unname, isxS, fldS, lookF, wx_brk, wx_cont, st_tl, st_tt, st_0, st_1, evc_0, evc_1, lcStep, fStep, argOf, onVar, isVar, Cell.on, gets, Ag.get, Cell.val, P.pk, P.sem, P.rcv, M.rcv, M.pk, semAt, tru, isN, callK, pks, nodupB, agCells, agCell, giv, backs, back, locks, unlocks, unl, noOwn, wiped, putsAt, R.only, unbrk, stv, finOf, Cell.keep, pin_un, pin_fz, pin_ow, pin_pr, pin_pz, pin_lk, Cell.mt, Cell.put, Cell.lock, Cell.unlock, intS, cmpS, cmpI, ixS, f15, b15, e1, listS, n1, e2, eq_int, hx1, ix, e3, so, tupleS]
    · rw [(odd_no ho).2.2.2.1] at hsx; cases hsx
  rcases nine a1 b1 with rfl | rfl | rfl | rfl | rfl | rfl | rfl | rfl | rfl
  · obtain ⟨q, p3, e3, a3, b3, i3⟩ := tk p2 8 i2 (by decide) (by decide)
    obtain ⟨y, y1, y2⟩ : ∃ y, atd BARE8 q = some y ∧ y ∈ BARE8 := atd_ok a3 (by show q < (8 : Int); exact b3)
    refine ⟨y, p3, ?_, (bare8 y2).mono (by omega), i3⟩
    unfold BARE8 at y1
    simp [runFn, wx_for, w_lc, w_meth, w_glob, w_dsp, w_gdix, w_gdin, wt_gdin, w_ch, wt_ch, wx_par, wx_aug, wx_retN, wx_raise, wx_tryH, hd_0, hd_n, hd_s, wx_tr, noEx, unname, isxS, fldS, lookF, wx_brk, wx_cont, st_tl, st_tt, st_0, st_1, evc_0, evc_1, lcStep, fStep, argOf, onVar, isVar, Cell.on, gets, Ag.get, Cell.val, P.pk, P.sem, P.rcv, M.rcv, M.pk, semAt, tru, isN, callK, pks, nodupB, agCells, agCell, giv, backs, back, locks, unlocks, unl, noOwn, wiped, putsAt, R.only, unbrk, stv, finOf, Cell.keep, pin_un, pin_fz, pin_ow, pin_pr, pin_pz, pin_lk, Cell.mt, Cell.put, Cell.lock, Cell.unlock, intS, cmpS, cmpI, ixS, f15, b15, e1, listS, n1, e2, eq_int, e3, y1, LIM]
  · obtain ⟨y, p3, e3, hy, i3⟩ := ha p2 i2
    have hadd : addS (.tup ps) (.tup [y]) = some (.tup (ps ++ [y]), false) := add_tt (by simp; unfold LIM; omega)
    refine ⟨.tup (ps ++ [y]), p3, ?_, .inl ⟨_, rfl, by simp; omega, fun x hx' => ?_⟩, i3⟩
    · simp [runFn, wx_for, w_lc, w_meth, w_glob, w_dsp, w_gdix, w_gdin, wt_gdin, w_ch, wt_ch, wx_par, wx_aug, wx_retN, wx_raise, wx_tryH, hd_0, hd_n, hd_s, wx_tr, noEx, unname, isxS, fldS, lookF, wx_brk, wx_cont, st_tl, st_tt, st_0, st_1, evc_0, evc_1, lcStep, fStep, argOf, onVar, isVar, Cell.on, gets, Ag.get, Cell.val, P.pk, P.sem, P.rcv, M.rcv, M.pk, semAt, tru, isN, callK, pks, nodupB, agCells, agCell, giv, backs, back, locks, unlocks, unl, noOwn, wiped, putsAt, R.only, unbrk, stv, finOf, Cell.keep, pin_un, pin_fz, pin_ow, pin_pr, pin_pz, pin_lk, Cell.mt, Cell.put, Cell.lock, Cell.unlock, intS, cmpS, cmpI, ixS, f15, b15, e1, listS, n1, e2, eq_int, e3, hadd, LIM]
    · rw [List.mem_append, List.mem_singleton] at hx'
      rcases hx' with hx' | rfl
      · exact (hx x hx').mono (by omega)
      · exact hy.mono (by omega)
  · have hcut : (cut ps none (some (-1))).length ≤ ps.length := by
      unfold cut
      rw [List.length_take, List.length_drop]
      omega
    refine ⟨.tup (cut ps none (some (-1))), p2, ?_, .inl ⟨_, rfl, by omega, fun x hx' => ?_⟩, i2⟩
    · simp [runFn, wx_for, w_lc, w_meth, w_glob, w_dsp, w_gdix, w_gdin, wt_gdin, w_ch, wt_ch, wx_par, wx_aug, wx_retN, wx_raise, wx_tryH, hd_0, hd_n, hd_s, wx_tr, noEx, unname, isxS, fldS, lookF, wx_brk, wx_cont, st_tl, st_tt, st_0, st_1, evc_0, evc_1, lcStep, fStep, argOf, onVar, isVar, Cell.on, gets, Ag.get, Cell.val, P.pk, P.sem, P.rcv, M.rcv, M.pk, semAt, tru, isN, callK, pks, nodupB, agCells, agCell, giv, backs, back, locks, unlocks, unl, noOwn, wiped, putsAt, R.only, unbrk, stv, finOf, Cell.keep, pin_un, pin_fz, pin_ow, pin_pr, pin_pz, pin_lk, Cell.mt, Cell.put, Cell.lock, Cell.unlock, intS, cmpS, cmpI, ixS, f15, b15, e1, listS, n1, e2, eq_int, hneg, slS]
    · exact (hx x (List.mem_of_mem_drop (List.mem_of_mem_take hx'))).mono (by omega)
  · cases hsx : strB x with
    | true => exact key2 3 (.inl rfl) hsx e1
    | false => exact key 3 (.inr (.inr ⟨.inl rfl, hsx⟩)) e1
  · cases hsx : strB x with
    | true => exact key2 4 (.inr rfl) hsx e1
    | false => exact key 4 (.inr (.inr ⟨.inr rfl, hsx⟩)) e1
  · obtain ⟨q, p3, e3, a3, b3, i3⟩ := tk p2 8 i2 (by decide) (by decide)
    obtain ⟨y, y1, y2⟩ : ∃ y, atd WORD8 q = some y ∧ y ∈ WORD8 := atd_ok a3 (by show q < (8 : Int); exact b3)
    have so0 : setIx (.lst ps) (.int 0) y = some (.lst (ps.set 0 y)) := set_ok h0 y
    refine ⟨.tup (ps.set 0 y), p3, ?_, .inl ⟨_, rfl, by rw [List.length_set]; omega, set_parts hx (by omega) ((word8 y2).mono (by omega)) 0⟩, i3⟩
    unfold WORD8 at y1
    simp [runFn, wx_for, w_lc, w_meth, w_glob, w_dsp, w_gdix, w_gdin, wt_gdin, w_ch, wt_ch, wx_par, wx_aug, wx_retN, wx_raise, wx_tryH, hd_0, hd_n, hd_s, wx_tr, noEx, unname, isxS, fldS, lookF, wx_brk, wx_cont, st_tl, st_tt, st_0, st_1, evc_0, evc_1, lcStep, fStep, argOf, onVar, isVar, Cell.on, gets, Ag.get, Cell.val, P.pk, P.sem, P.rcv, M.rcv, M.pk, semAt, tru, isN, callK, pks, nodupB, agCells, agCell, giv, backs, back, locks, unlocks, unl, noOwn, wiped, putsAt, R.only, unbrk, stv, finOf, Cell.keep, pin_un, pin_fz, pin_ow, pin_pr, pin_pz, pin_lk, Cell.mt, Cell.put, Cell.lock, Cell.unlock, intS, cmpS, cmpI, ixS, f15, b15, e1, listS, n1, e2, eq_int, e3, y1, so0, tupleS, LIM]
  · obtain ⟨q, p3, e3, a3, b3, i3⟩ := tk p2 10 i2 (by decide) (by decide)
    obtain ⟨y, y1, y2⟩ : ∃ y, atd TEN q = some y ∧ y ∈ TEN := atd_ok a3 (by show q < (10 : Int); exact b3)
    refine ⟨_, p3, ?_, fin ((ten10 y2).mono (by omega)), i3⟩
    unfold TEN at y1
    simp [runFn, wx_for, w_lc, w_meth, w_glob, w_dsp, w_gdix, w_gdin, wt_gdin, w_ch, wt_ch, wx_par, wx_aug, wx_retN, wx_raise, wx_tryH, hd_0, hd_n, hd_s, wx_tr, noEx, unname, isxS, fldS, lookF, wx_brk, wx_cont, st_tl, st_tt, st_0, st_1, evc_0, evc_1, lcStep, fStep, argOf, onVar, isVar, Cell.on, gets, Ag.get, Cell.val, P.pk, P.sem, P.rcv, M.rcv, M.pk, semAt, tru, isN, callK, pks, nodupB, agCells, agCell, giv, backs, back, locks, unlocks, unl, noOwn, wiped, putsAt, R.only, unbrk, stv, finOf, Cell.keep, pin_un, pin_fz, pin_ow, pin_pr, pin_pz, pin_lk, Cell.mt, Cell.put, Cell.lock, Cell.unlock, intS, cmpS, cmpI, ixS, f15, b15, e1, listS, n1, e2, eq_int, e3, y1, so, p29, hneg, tupleS, LIM]
  · exact key 7 (.inl rfl) e1
  · exact key 8 (.inr (.inl rfl)) e1
/-! ### a round -/
theorem ent_en {e : En} (h : e.ok) : Ent 10 e.d := by
  have sg : ∀ {s : List Nat}, isSignB s = true → Part 10 (.str s) := fun {s} hs => .inr (.inl ⟨s, rfl, by have := (sign_all hs).2.1; omega, sign_okS hs⟩)
  have wd : ∀ {s : List Nat}, s.length ≤ 10 → okS s = true → Part 10 (.str s) := fun {s} h1 h2 => .inr (.inl ⟨s, rfl, h1, h2⟩)
  refine .inl ⟨e.l, rfl, ?_, ?_⟩
  · cases e <;> simp [En.l]
  · intro x hx
    cases e with
    | face c =>
      simp only [En.l, List.mem_cons, List.not_mem_nil, or_false] at hx
      rcases hx with rfl | rfl
      · exact wd (by decide) (by decide)
      · exact wd (by simp) (by
          have := nesw_lt h
          unfold okS
          rw [List.all_cons, decide_eq_true this]; rfl)
    | go n =>
      simp only [En.l, List.mem_cons, List.not_mem_nil, or_false] at hx
      rcases hx with rfl | rfl
      · exact wd (by decide) (by decide)
      · exact .inl ⟨_, rfl⟩
    | sign s =>
      simp only [En.l, List.mem_cons, List.not_mem_nil, or_false] at hx
      rcases hx with rfl | rfl
      · exact wd (by decide) (by decide)
      · exact sg h
    | spy n s =>
      simp only [En.l, List.mem_cons, List.not_mem_nil, or_false] at hx
      rcases hx with rfl | rfl | rfl
      · exact wd (by decide) (by decide)
      · exact .inl ⟨_, rfl⟩
      · exact sg h.2
    | _ =>
      simp only [En.l, List.mem_cons, List.not_mem_nil, or_false] at hx
      subst hx
      exact wd (by decide) (by decide)
theorem seen_ok : ∀ {es : List En} {b : Bool}, Seen b es → ∀ e ∈ es, e.ok
  | [], _, _ => by simp
  | e :: es, b, h => fun x hx => by
    rcases List.mem_cons.mp hx with rfl | hx
    · exact h.1
    · exact seen_ok h.2.2 x hx
def Bd : Nat → Nat
  | 0 => 150
  | 1 => 70
  | 2 => 30
  | _ => 10
def Es (n : Nat) (xs : List D) : Prop := (∀ d ∈ xs, Ent n d) ∧ 0 < xs.length ∧ xs.length ≤ 8
theorem segA (ns : List Int) (k : Int) (c2 c3 c4 c5 c6 c7 c8 : Cell) (h2 : c2.pin = false) (h3 : c3.pin = false) : ∃ p xs, isPool p ∧ Es 10 xs ∧
    exs (run (tbE es) 11) [.asg (.nm 2) (.call 17 [(.var 0), (.var 1)]),
       .asg (.nm 3) (.prim .list [(.call 8 [(.var 2), (.prim .add [(.int 1), (.call 18 [(.var 2), (.int 8)])]), (.int 2)])])] [.fz (.scr ns), .fz (.int k), c2, c3, c4, c5, c6, c7, c8] = .nx [.fz (.scr ns), .fz (.int k), .ow p, .ow (.lst xs), c4, c5, c6, c7, c8] := by
  have tk : Takes1 (run (tbE es) 11) 18 := takes_at (t := 18) rfl 10
  have en : Entries1 (run (tbE es) 10) 7 := entries_at (t := 18) (n := 22) (g := 23) (a := 7) rfl rfl rfl rfl 6
  obtain ⟨p, hp, ip⟩ := pool_ok (cs := run (tbE es) 10) ns k
  have e0 : run (tbE es) 11 17 [.fz (.scr ns), .fz (.int k)] = some (.ok p true, [.un, .un]) := (run_fn 10 17 f17 rfl _).trans hp
  obtain ⟨m, p2, e2, a2, b2, i2⟩ := tk p 8 ip (by decide) (by decide)
  obtain ⟨el, p4, e4, g1, g2, g3, i4⟩ := anylog_ok en i2 (1 + m) (by omega) (by omega) 2
  have e4 : run (tbE es) 11 8 [.pr p2, .fz (.int (1 + m)), .fz (.int 2)] = some (.ok (.tup (el.map En.d)) false, [.pr p4, .un, .un]) := (run_fn 10 8 (fAnyLog 7) rfl _).trans e4
  refine ⟨p4, el.map En.d, i4, ⟨fun d hd => ?_, by rw [List.length_map]; omega, by rw [List.length_map]; omega⟩, ?_⟩
  · obtain ⟨e, he, rfl⟩ := List.mem_map.mp hd
    exact ent_en (seen_ok g1 e he)
  obtain ⟨Q, hQ⟩ : ∃ Q, Q = el.map En.d := ⟨_, rfl⟩
  rw [← hQ] at e4 ⊢
  simp [runFn, wx_for, w_lc, w_meth, w_glob, w_dsp, w_gdix, w_gdin, wt_gdin, w_ch, wt_ch, wx_par, wx_aug, wx_retN, wx_raise, wx_tryH, hd_0, hd_n, hd_s, wx_tr, noEx, unname, isxS, fldS, lookF, wx_brk, wx_cont, st_tl, st_tt, st_0, st_1, evc_0, evc_1, lcStep, fStep, argOf, onVar, isVar, Cell.on, gets, Ag.get, Cell.val, P.pk, P.sem, P.rcv, M.rcv, M.pk, semAt, tyn, isiS, isiOne, tyNames, tru, isN, callK, pks, nodupB, agCells, agCell, giv, backs, back, locks, unlocks, unl, noOwn, wiped, putsAt, R.only, unbrk, stv, finOf, Cell.keep, pin_un, pin_fz, pin_ow, pin_pr, pin_pz, pin_lk, Cell.mt, Cell.put, Cell.lock, Cell.unlock, intS, cmpS, cmpI, ixS, lenS, h2, h3, e0, e2, e4, listS, add_ii]
def tupB : D → Bool
  | .tup _ => true
  | _ => false
theorem isi_tup {n : Nat} {d : D} (h : Ent n d) : isiS ["tuple"] d = some (.bl (tupB d), false) := by
  rcases h with ⟨ps, rfl, _, _⟩ | h
  · rfl
  · simp only [BARE, List.mem_cons, List.not_mem_nil, or_false] at h
    rcases h with rfl | rfl | rfl | rfl | rfl | rfl <;> rfl
def sbd : List S := [.asg (.nm 5) (.call 18 [(.var 2), (.prim .len [(.var 3)])]),
          .iff (.and (.prim (.isi ["tuple"]) [(.prim .ix [(.var 3), (.var 5)])]) (.prim .gt [(.prim .len [(.prim .ix [(.var 3), (.var 5)])]), (.int 0)]))
            [.setix 3 (.var 5) (.call 15 [(.var 2), (.prim .ix [(.var 3), (.var 5)])])]
            []]
theorem s_step {p : D} (ip : isPool p) {n : Nat} (h10 : 10 ≤ n) (hn : n ≤ 400) {xs : List D} (hx : Es n xs) (x : D) (c0 c1 c4 c5 c6 c7 c8 : Cell) (h4 : c4.pin = false) (h5 : c5.pin = false) : ∃ p' xs' j, isPool p' ∧ Es (2 * n + 10) xs' ∧
    fStep (run (tbE es) 11) (.nm 4) sbd x [c0, c1, .ow p, .ow (.lst xs), c4, c5, c6, c7, c8] = .nx [c0, c1, .ow p', .ow (.lst xs'), .fz x, .fz (.int j), c6, c7, c8] := by
  have tk : Takes1 (run (tbE es) 11) 18 := takes_at (t := 18) rfl 10
  have tk9 : Takes1 (run (tbE es) 10) 18 := takes_at (t := 18) rfl 9
  have tk8 : Takes1 (run (tbE es) 9) 18 := takes_at (t := 18) rfl 8
  have hA : ∀ p, isPool p → ∃ (d : D) (p' : D), run (tbE es) 10 21 [.pr p] = some (.ok d false, [.pr p']) ∧ Part 10 d ∧ isPool p' := fun p ip => by
    obtain ⟨d, p', e, h⟩ := anything_ok tk8 ip
    exact ⟨d, p', (run_fn 9 21 f21 rfl _).trans e, h⟩
  have hS : ∀ p s N, isPool p → N ≤ 900 → s.length ≤ N → okS s = true → ∃ (r : List Nat) (p' : D), run (tbE es) 10 14 [.pr p, .fz (.str s)] = some (.ok (.str r) false, [.pr p', .un]) ∧ r.length ≤ 2 * N + 9 ∧ okS r = true ∧ isPool p' := fun p s N ip hN hl ho => by
    obtain ⟨r, p', e, h⟩ := spoilt_ok tk8 ip s hN hl ho
    exact ⟨r, p', (run_fn 9 14 g5 rfl _).trans e, h⟩
  obtain ⟨hE, l0, l8⟩ := hx
  obtain ⟨at_, p1, e1, a1, b1, i1⟩ := tk p (xs.length : Int) ip (by omega) (by omega)
  obtain ⟨j, rfl⟩ := Int.eq_ofNat_of_zero_le a1
  have hj : j < xs.length := by omega
  obtain ⟨d, hd1, hd2⟩ := atd_ok (xs := xs) a1 b1
  have n1 : lenS (.lst xs) = some (.int (xs.length : Int), false) := rfl
  obtain ⟨z, hz⟩ : ∃ z : Int, z = (xs.length : Int) := ⟨_, rfl⟩
  rw [← hz] at n1 e1
  have hup : Es (2 * n + 10) xs := ⟨fun d hd => (hE d hd).mono (by omega), l0, l8⟩
  rcases hE d hd2 with ⟨ps, rfl, q1, q2⟩ | hb
  · have it : isiS ["tuple"] (.tup ps) = some (.bl true, false) := rfl
    have n2 : lenS (.tup ps) = some (.int (ps.length : Int), false) := rfl
    by_cases hp0 : 0 < ps.length
    · obtain ⟨d', p2, e2, hd', i2⟩ := spoil_ok tk9 hA hS i1 h10 hn hp0 q1 q2
      have e2 : run (tbE es) 11 15 [.pr p1, .fz (.tup ps)] = some (.ok d' false, [.pr p2, .un]) := (run_fn 10 15 f15 rfl _).trans e2
      have so := set_ok hj d'
      have hgt : (0 : Int) < (ps.length : Int) := by omega
      obtain ⟨y, hy⟩ : ∃ y : Int, y = (ps.length : Int) := ⟨_, rfl⟩
      rw [← hy] at n2 hgt
      refine ⟨p2, xs.set j d', (j : Int), i2, ⟨fun x hx => ?_, by rw [List.length_set]; exact l0, by rw [List.length_set]; exact l8⟩, ?_⟩
      · rcases List.mem_or_eq_of_mem_set hx with hx | rfl
        · exact hup.1 x hx
        · exact hd'
      · simp [runFn, wx_for, w_lc, w_meth, w_glob, w_dsp, w_gdix, w_gdin, wt_gdin, w_ch, wt_ch, wx_par, wx_aug, wx_retN, wx_raise, wx_tryH, hd_0, hd_n, hd_s, wx_tr, noEx, unname, isxS, fldS, lookF, wx_brk, wx_cont, st_tl, st_tt, st_0, st_1, evc_0, evc_1, lcStep, fStep, argOf, onVar, isVar, Cell.on, gets, Ag.get, Cell.val, P.pk, P.sem, P.rcv, M.rcv, M.pk, semAt, tru, isN, callK, pks, nodupB, agCells, agCell, giv, backs, back, locks, unlocks, unl, noOwn, wiped, putsAt, R.only, unbrk, stv, finOf, Cell.keep, pin_un, pin_fz, pin_ow, pin_pr, pin_pz, pin_lk, Cell.mt, Cell.put, Cell.lock, Cell.unlock, intS, cmpS, cmpI, ixS, sbd, h4, h5, n1, e1, hd1, it, n2, hgt, e2, so]
    · have hps : ps = [] := List.length_eq_zero_iff.mp (by omega)
      subst hps
      have n2 : lenS (.tup []) = some (.int 0, false) := rfl
      exact ⟨p1, xs, (j : Int), i1, hup, by simp [runFn, wx_for, w_lc, w_meth, w_glob, w_dsp, w_gdix, w_gdin, wt_gdin, w_ch, wt_ch, wx_par, wx_aug, wx_retN, wx_raise, wx_tryH, hd_0, hd_n, hd_s, wx_tr, noEx, unname, isxS, fldS, lookF, wx_brk, wx_cont, st_tl, st_tt, st_0, st_1, evc_0, evc_1, lcStep, fStep, argOf, onVar, isVar, Cell.on, gets, Ag.get, Cell.val, P.pk, P.sem, P.rcv, M.rcv, M.pk, semAt, tru, isN, callK, pks, nodupB, agCells, agCell, giv, backs, back, locks, unlocks, unl, noOwn, wiped, putsAt, R.only, unbrk, stv, finOf, Cell.keep, pin_un, pin_fz, pin_ow, pin_pr, pin_pz, pin_lk, Cell.mt, Cell.put, Cell.lock, Cell.unlock, intS, cmpS, cmpI, ixS, sbd, h4, h5, n1, e1, hd1, it, n2]⟩
  · have it := isi_tup (n := n) (d := d) (.inr hb)
    have ht : tupB d = false := by
      have := bare_of (fun d => !tupB d) (by decide) hb
      simpa using this
    rw [ht] at it
    exact ⟨p1, xs, (j : Int), i1, hup, by simp [runFn, wx_for, w_lc, w_meth, w_glob, w_dsp, w_gdix, w_gdin, wt_gdin, w_ch, wt_ch, wx_par, wx_aug, wx_retN, wx_raise, wx_tryH, hd_0, hd_n, hd_s, wx_tr, noEx, unname, isxS, fldS, lookF, wx_brk, wx_cont, st_tl, st_tt, st_0, st_1, evc_0, evc_1, lcStep, fStep, argOf, onVar, isVar, Cell.on, gets, Ag.get, Cell.val, P.pk, P.sem, P.rcv, M.rcv, M.pk, semAt, tru, isN, callK, pks, nodupB, agCells, agCell, giv, backs, back, locks, unlocks, unl, noOwn, wiped, putsAt, R.only, unbrk, stv, finOf, Cell.keep, pin_un, pin_fz, pin_ow, pin_pr, pin_pz, pin_lk, Cell.mt, Cell.put, Cell.lock, Cell.unlock, intS, cmpS, cmpI, ixS, sbd, h4, h5, n1, e1, hd1, it]⟩
theorem segB {p : D} (ip : isPool p) {xs : List D} (hx : Es 10 xs) (c0 c1 c4 c5 c6 c7 c8 : Cell) (h4 : c4.pin = false) (h5 : c5.pin = false) : ∃ p' xs' c4' c5', isPool p' ∧ Es 150 xs' ∧ c4'.pin = false ∧ c5'.pin = false ∧
    ex (run (tbE es) 11) (.for (.nm 4) .range [(.prim .add [(.int 1), (.call 18 [(.var 2), (.int 3)])])] sbd) [c0, c1, .ow p, .ow (.lst xs), c4, c5, c6, c7, c8] = .nx [c0, c1, .ow p', .ow (.lst xs'), c4', c5', c6, c7, c8] := by
  have tk : Takes1 (run (tbE es) 11) 18 := takes_at (t := 18) rfl 10
  obtain ⟨r, p1, e1, a1, b1, i1⟩ := tk p 3 ip (by decide) (by decide)
  have hlen : (rng (1 + r).toNat).length ≤ 3 := by rw [rng_len]; omega
  have hB : Es (Bd (rng (1 + r).toNat).length) xs := ⟨fun d hd => (hx.1 d hd).mono (by
    generalize (rng (1 + r).toNat).length = m
    unfold Bd
    split <;> omega), hx.2⟩
  obtain ⟨ρ', hf, hl0, p', xs', c4', c5', i', hx', h4', h5', rfl⟩ := for_inv (step := fStep (run (tbE es) 11) (.nm 4) sbd) (fun r ρ => r.length ≤ 3 ∧ ∃ p xs c4 c5, isPool p ∧ Es (Bd r.length) xs ∧ c4.pin = false ∧ c5.pin = false ∧ ρ = [c0, c1, .ow p, .ow (.lst xs), c4, c5, c6, c7, c8])
    (rng (1 + r).toNat) [c0, c1, .ow p1, .ow (.lst xs), c4, c5, c6, c7, c8] ⟨hlen, p1, xs, c4, c5, i1, hB, h4, h5, rfl⟩ (fun x r ρ ⟨hl, p, xs, c4, c5, ip, hx, h4, h5, e⟩ => by
      subst e
      rw [List.length_cons] at hl hx
      have hb : 10 ≤ Bd (r.length + 1) ∧ Bd (r.length + 1) ≤ 400 ∧ 2 * Bd (r.length + 1) + 10 ≤ Bd r.length := by
        have : r.length = 0 ∨ r.length = 1 ∨ r.length = 2 := by omega
        rcases this with h | h | h <;> rw [h] <;> decide
      obtain ⟨p', xs', j, ip', hx', e⟩ := s_step ip hb.1 hb.2.1 hx x c0 c1 c4 c5 c6 c7 c8 h4 h5
      exact ⟨_, e, by omega, p', xs', .fz x, .fz (.int j), ip', ⟨fun d hd => (hx'.1 d hd).mono hb.2.2, hx'.2⟩, rfl, rfl, rfl⟩)
  refine ⟨p', xs', c4', c5', i', hx', h4', h5', ?_⟩
  have hr : IK.range.sem [.int (1 + r)] = some (rng (1 + r).toNat) := s_rng (by omega) (by omega)
  simp [runFn, wx_for, w_lc, w_meth, w_glob, w_dsp, w_gdix, w_gdin, wt_gdin, w_ch, wt_ch, wx_par, wx_aug, wx_retN, wx_raise, wx_tryH, hd_0, hd_n, hd_s, wx_tr, noEx, unname, isxS, fldS, lookF, wx_brk, wx_cont, st_tl, st_tt, st_0, st_1, evc_0, evc_1, lcStep, fStep, argOf, onVar, isVar, Cell.on, gets, Ag.get, Cell.val, P.pk, P.sem, P.rcv, M.rcv, M.pk, semAt, tyn, isiS, isiOne, tyNames, tru, isN, callK, pks, nodupB, agCells, agCell, giv, backs, back, locks, unlocks, unl, noOwn, wiped, putsAt, R.only, unbrk, stv, finOf, Cell.keep, pin_un, pin_fz, pin_ow, pin_pr, pin_pz, pin_lk, Cell.mt, Cell.put, Cell.lock, Cell.unlock, intS, cmpS, cmpI, ixS, lenS, e1, add_ii, hr, hf]
theorem lc8 {cs : CS} {xs : List D} (he : ∀ d ∈ xs, entB d = true) (hl : xs.length ≤ LIM) (c0 c1 c2 c3 c4 c5 c6 c7 c8 : Cell) (h8 : c8.pin = false) : ∃ c8', lcGo (lcStep cs [8] (.nm 8) [] (.prim .tuple [(.var 8)])) xs [] [c0, c1, c2, c3, c4, c5, c6, c7, c8] = .ok xs [c0, c1, c2, c3, c4, c5, c6, c7, c8'] := by
  obtain ⟨ρ', h1, c8', hp8, h2⟩ := lc_map (step := lcStep cs [8] (.nm 8) [] (.prim .tuple [(.var 8)])) (g := fun d => d) (xs := xs) (ρ := [c0, c1, c2, c3, c4, c5, c6, c7, c8])
    (fun ρ => ∃ c8 : Cell, c8.pin = false ∧ ρ = [c0, c1, c2, c3, c4, c5, c6, c7, c8]) ⟨_, h8, rfl⟩ hl (fun x hx ρ ⟨c8, h8, e⟩ => by
      subst e
      have hs := tup_self (he x hx)
      refine ⟨[c0, c1, c2, c3, c4, c5, c6, c7, .fz x], ?_, _, rfl, rfl⟩
      simp [runFn, wx_for, w_lc, w_meth, w_glob, w_dsp, w_gdix, w_gdin, wt_gdin, w_ch, wt_ch, wx_par, wx_aug, wx_retN, wx_raise, wx_tryH, hd_0, hd_n, hd_s, wx_tr, noEx, unname, isxS, fldS, lookF, wx_brk, wx_cont, st_tl, st_tt, st_0, st_1, evc_0, evc_1, lcStep, fStep, argOf, onVar, isVar, Cell.on, gets, Ag.get, Cell.val, P.pk, P.sem, P.rcv, M.rcv, M.pk, semAt, tyn, isiS, isiOne, tyNames, tru, isN, callK, pks, nodupB, agCells, agCell, giv, backs, back, locks, unlocks, unl, noOwn, wiped, putsAt, R.only, unbrk, stv, finOf, Cell.keep, pin_un, pin_fz, pin_ow, pin_pr, pin_pz, pin_lk, Cell.mt, Cell.put, Cell.lock, Cell.unlock, intS, cmpS, cmpI, ixS, lenS, hs, h8])
  subst h2
  exact ⟨c8', by rw [h1, List.map_id']⟩
def wbd : List S := [.iff (.nt (.call 20 [(.call 24 [(.var 7)]), (.var 6)]))
            [.ret (.bl false)]
            []]
theorem w_step {xs : List D} (hx : Es 150 xs) {dl : D} (hq : SQ xs dl) (c0 c1 c2 c3 c4 c5 c7 c8 : Cell) (h7 : c7.pin = false) :
    fStep (run (tbE es) 11) (.nm 7) wbd dl [c0, c1, c2, c3, c4, c5, .fz (ans xs (badAt 0 false xs)), c7, c8] = .nx [c0, c1, c2, c3, c4, c5, .fz (ans xs (badAt 0 false xs)), .fz dl, c8] := by
  have hl : xs.length ≤ LIM := by have := hx.2.2; unfold LIM; omega
  have e1 := held (n := 150) (by decide) hq hx.1 hl
  have e2 := same_ans (n := 150) (by decide) hx.1 hl
  obtain ⟨A, hA⟩ : ∃ A, A = ans xs (badAt 0 false xs) := ⟨_, rfl⟩
  rw [← hA] at e1 e2
  rw [← hA]
  simp [runFn, wx_for, w_lc, w_meth, w_glob, w_dsp, w_gdix, w_gdin, wt_gdin, w_ch, wt_ch, wx_par, wx_aug, wx_retN, wx_raise, wx_tryH, hd_0, hd_n, hd_s, wx_tr, noEx, unname, isxS, fldS, lookF, wx_brk, wx_cont, st_tl, st_tt, st_0, st_1, evc_0, evc_1, lcStep, fStep, argOf, onVar, isVar, Cell.on, gets, Ag.get, Cell.val, P.pk, P.sem, P.rcv, M.rcv, M.pk, semAt, tyn, isiS, isiOne, tyNames, tru, isN, callK, pks, nodupB, agCells, agCell, giv, backs, back, locks, unlocks, unl, noOwn, wiped, putsAt, R.only, unbrk, stv, finOf, Cell.keep, pin_un, pin_fz, pin_ow, pin_pr, pin_pz, pin_lk, Cell.mt, Cell.put, Cell.lock, Cell.unlock, intS, cmpS, cmpI, ixS, lenS, wbd, h7, e1, e2]
def tl : List S := [.asg (.nm 5) (.call 13 [(.var 3)]),
       .asg (.nm 6) (.prim .tup [(.str [98, 97, 100]), (.str []), (.var 5)]),
       .iff (.prim .isN [(.var 5)])
         [.asg (.nm 6) (.prim .tup [(.str [108, 111, 103]), (.prim .tuple [(.lc [8] (.nm 8) .seq [(.var 3)] [] (.prim .tuple [(.var 8)]))])])]
         [],
       .for (.nm 7) .seq [(.prim .tup [(.var 3), (.prim .tuple [(.var 3)])])] wbd]
theorem tl_ok {xs : List D} (hx : Es 150 xs) (p : D) (c0 c1 c4 c5 c6 c7 c8 : Cell) (h5 : c5.pin = false) (h6 : c6.pin = false) (h7 : c7.pin = false) (h8 : Lo c8) : ∃ c5' c6' c7' : Cell, c5'.pin = false ∧ c6'.pin = false ∧ c7'.pin = false ∧
    exs (run (tbE es) 11) tl [c0, c1, .ow p, .ow (.lst xs), c4, c5, c6, c7, c8] = .nx [c0, c1, .ow p, .fz (.lst xs), c4, c5', c6', c7', c8] := by
  have hl : xs.length ≤ LIM := by have := hx.2.2; unfold LIM; omega
  have eb := bad_at 6 (n := 150) (by decide) hx.1
  have hq2 : IK.seq.sem [.tup [.lst xs, .tup xs]] = some [.lst xs, .tup xs] := rfl
  have q3 : IK.seq.sem [.lst xs] = some xs := rfl
  have hf : ∀ (c5 : Cell), forGo (fStep (run (tbE es) 11) (.nm 7) wbd) [.lst xs, .tup xs] [c0, c1, .ow p, .fz (.lst xs), c4, c5, .fz (ans xs (badAt 0 false xs)), c7, c8] = .nx [c0, c1, .ow p, .fz (.lst xs), c4, c5, .fz (ans xs (badAt 0 false xs)), .fz (.tup xs), c8] := fun c5 => by
    rw [forGo, w_step hx (.inr rfl) c0 c1 (.ow p) (.fz (.lst xs)) c4 c5 c7 c8 h7]
    show forGo _ _ _ = _
    rw [forGo, w_step hx (.inl rfl) c0 c1 (.ow p) (.fz (.lst xs)) c4 c5 (.fz (.lst xs)) c8 rfl]
    rfl
  cases hb : badAt 0 false xs with
  | some j =>
    rw [hb] at eb hf
    have hf := hf (.fz (.int (j : Int)))
    unfold ans at hf
    exact ⟨.fz (.int (j : Int)), .fz (.tup [.str [98, 97, 100], .str [], .int (j : Int)]), .fz (.tup xs), rfl, rfl, rfl, by simp [runFn, wx_for, w_lc, w_meth, w_glob, w_dsp, w_gdix, w_gdin, wt_gdin, w_ch, wt_ch, wx_par, wx_aug, wx_retN, wx_raise, wx_tryH, hd_0, hd_n, hd_s, wx_tr, noEx, unname, isxS, fldS, lookF, wx_brk, wx_cont, st_tl, st_tt, st_0, st_1, evc_0, evc_1, lcStep, fStep, argOf, onVar, isVar, Cell.on, gets, Ag.get, Cell.val, P.pk, P.sem, P.rcv, M.rcv, M.pk, semAt, tyn, isiS, isiOne, tyNames, tru, isN, callK, pks, nodupB, agCells, agCell, giv, backs, back, locks, unlocks, unl, noOwn, wiped, putsAt, R.only, unbrk, stv, finOf, Cell.keep, pin_un, pin_fz, pin_ow, pin_pr, pin_pz, pin_lk, Cell.mt, Cell.put, Cell.lock, Cell.unlock, intS, cmpS, cmpI, ixS, lenS, tl, h5, h6, eb, LIM, tupleS, hq2, hf]⟩
  | none =>
    rw [hb] at eb hf
    have hf := hf (.fz .non)
    unfold ans at hf
    have he := bad_none hb
    obtain ⟨c8', g⟩ := lc8 (cs := run (tbE es) 11) he hl c0 c1 (.ow p) (.lk false (.lst xs)) c4 (.fz .non) (.fz (.tup [.str [98, 97, 100], .str [], .non])) c7 c8 h8.pin
    refine ⟨.fz .non, .fz (.tup [.str [108, 111, 103], .tup xs]), .fz (.tup xs), rfl, rfl, rfl, ?_⟩
    rcases h8 with rfl | ⟨d8, rfl⟩
    · simp [runFn, wx_for, w_lc, w_meth, w_glob, w_dsp, w_gdix, w_gdin, wt_gdin, w_ch, wt_ch, wx_par, wx_aug, wx_retN, wx_raise, wx_tryH, hd_0, hd_n, hd_s, wx_tr, noEx, unname, isxS, fldS, lookF, wx_brk, wx_cont, st_tl, st_tt, st_0, st_1, evc_0, evc_1, lcStep, fStep, argOf, onVar, isVar, Cell.on, gets, Ag.get, Cell.val, P.pk, P.sem, P.rcv, M.rcv, M.pk, semAt, tyn, isiS, isiOne, tyNames, tru, isN, callK, pks, nodupB, agCells, agCell, giv, backs, back, locks, unlocks, unl, noOwn, wiped, putsAt, R.only, unbrk, stv, finOf, Cell.keep, pin_un, pin_fz, pin_ow, pin_pr, pin_pz, pin_lk, Cell.mt, Cell.put, Cell.lock, Cell.unlock, intS, cmpS, cmpI, ixS, lenS, tl, h5, h6, eb, LIM, tupleS, hq2, hf, q3, g]
    · simp [runFn, wx_for, w_lc, w_meth, w_glob, w_dsp, w_gdix, w_gdin, wt_gdin, w_ch, wt_ch, wx_par, wx_aug, wx_retN, wx_raise, wx_tryH, hd_0, hd_n, hd_s, wx_tr, noEx, unname, isxS, fldS, lookF, wx_brk, wx_cont, st_tl, st_tt, st_0, st_1, evc_0, evc_1, lcStep, fStep, argOf, onVar, isVar, Cell.on, gets, Ag.get, Cell.val, P.pk, P.sem, P.rcv, M.rcv, M.pk, semAt, tyn, isiS, isiOne, tyNames, tru, isN, callK, pks, nodupB, agCells, agCell, giv, backs, back, locks, unlocks, unl, noOwn, wiped, putsAt, R.only, unbrk, stv, finOf, Cell.keep, pin_un, pin_fz, pin_ow, pin_pr, pin_pz, pin_lk, Cell.mt, Cell.put, Cell.lock, Cell.unlock, intS, cmpS, cmpI, ixS, lenS, tl, h5, h6, eb, LIM, tupleS, hq2, hf, q3, g]
def bd : List S := [.asg (.nm 2) (.call 17 [(.var 0), (.var 1)]),
       .asg (.nm 3) (.prim .list [(.call 8 [(.var 2), (.prim .add [(.int 1), (.call 18 [(.var 2), (.int 8)])]), (.int 2)])])] ++
       (.for (.nm 4) .range [(.prim .add [(.int 1), (.call 18 [(.var 2), (.int 3)])])] sbd :: tl)
theorem exs_app (cs : CS) : ∀ (a b : List S) (ρ ρ' : Rho), exs cs a ρ = .nx ρ' → exs cs (a ++ b) ρ = exs cs b ρ'
  | [], b, ρ, ρ', h => by
    rw [ws_nil] at h
    cases h
    rfl
  | s :: a, b, ρ, ρ', h => by
    rw [List.cons_append, ws_cons]
    rw [ws_cons] at h
    cases q : ex cs s ρ with
    | nx ρ1 =>
      rw [q] at h
      exact exs_app cs a b ρ1 ρ' h
    | _ => rw [q] at h; cases h
theorem round (ns : List Int) (k : Int) (c1 c2 c3 c4 c5 c6 c7 c8 : Cell) (h1 : c1.pin = false) (h2 : c2.pin = false) (h3 : c3.pin = false) (h4 : c4.pin = false) (h5 : c5.pin = false) (h6 : c6.pin = false) (h7 : c7.pin = false) (h8 : Lo c8) : ∃ d1 d2 d3 d4 d5 d6 d7 d8 : Cell, d1.pin = false ∧ d2.pin = false ∧ d3.pin = false ∧ d4.pin = false ∧ d5.pin = false ∧ d6.pin = false ∧ d7.pin = false ∧ Lo d8 ∧
    fStep (run (tbE es) 11) (.nm 1) bd (.int k) [.fz (.scr ns), c1, c2, c3, c4, c5, c6, c7, c8] = .nx [.fz (.scr ns), d1, d2, d3, d4, d5, d6, d7, d8] := by
  obtain ⟨p, xs, ip, hx, e1⟩ := segA ns k c2 c3 c4 c5 c6 c7 c8 h2 h3
  obtain ⟨p2, xs2, c4', c5', i2, hx2, h4', h5', e2⟩ := segB ip hx (.fz (.scr ns)) (.fz (.int k)) c4 c5 c6 c7 c8 h4 h5
  obtain ⟨c5'', c6'', c7'', g5, g6, g7, e3⟩ := tl_ok hx2 p2 (.fz (.scr ns)) (.fz (.int k)) c4' c5' c6 c7 c8 h5' h6 h7 h8
  refine ⟨.fz (.int k), .ow p2, .fz (.lst xs2), c4', c5'', c6'', c7'', c8, rfl, rfl, rfl, h4', g5, g6, g7, h8, ?_⟩
  show O.fl (stt (.nm 1) (.int k) false _) (fun ρ => exs _ bd ρ) = _
  rw [s_nm]
  have : stv [.fz (.scr ns), c1, c2, c3, c4, c5, c6, c7, c8] 1 (.int k) false = some [.fz (.scr ns), .fz (.int k), c2, c3, c4, c5, c6, c7, c8] := by simp [stv, h1]
  rw [this, o_some]
  unfold bd
  rw [exs_app _ _ _ _ _ e1, ws_cons, e2, t_nx, e3]
theorem pure_law (ns : List Int) (hl : ns.length ≤ 63) : ∃ b fin, run (tbE es) 12 25 [.fz (.scr ns)] = some (.ok (.bl true) b, fin) := by
  obtain ⟨ρ', hf, hr, c1, c2, c3, c4, c5, c6, c7, c8, q1, q2, q3, q4, q5, q6, q7, q8, rfl⟩ := for_inv (step := fStep (run (tbE es) 11) (.nm 1) bd) (fun r ρ => (∀ x ∈ r, x ∈ rng 3) ∧ ∃ c1 c2 c3 c4 c5 c6 c7 c8 : Cell, c1.pin = false ∧ c2.pin = false ∧ c3.pin = false ∧ c4.pin = false ∧ c5.pin = false ∧ c6.pin = false ∧ c7.pin = false ∧ Lo c8 ∧ ρ = [.fz (.scr ns), c1, c2, c3, c4, c5, c6, c7, c8])
    (rng 3) [.fz (.scr ns), .un, .un, .un, .un, .un, .un, .un, .un] ⟨fun _ h => h, .un, .un, .un, .un, .un, .un, .un, .un, rfl, rfl, rfl, rfl, rfl, rfl, rfl, .inl rfl, rfl⟩ (fun x r ρ ⟨hr, c1, c2, c3, c4, c5, c6, c7, c8, q1, q2, q3, q4, q5, q6, q7, q8, e⟩ => by
      subst e
      obtain ⟨k, _, rfl⟩ := rng_mem (hr x List.mem_cons_self)
      obtain ⟨d1, d2, d3, d4, d5, d6, d7, d8, g1, g2, g3, g4, g5, g6, g7, g8, e⟩ := round ns k c1 c2 c3 c4 c5 c6 c7 c8 q1 q2 q3 q4 q5 q6 q7 q8
      exact ⟨_, e, fun y hy => hr y (List.mem_cons_of_mem _ hy), d1, d2, d3, d4, d5, d6, d7, d8, g1, g2, g3, g4, g5, g6, g7, g8, rfl⟩)
  refine ⟨false, [.un], ?_⟩
  rw [run_fn 11 25 f25 rfl]
  have hb : f25 = ⟨1, 9, [.for (.nm 1) .range [(.int 3)] bd, .ret (.bl true)]⟩ := rfl
  rw [hb]
  have hr3 : IK.range.sem [.int 3] = some (rng 3) := s_rng (by decide) (by decide)
  simp [runFn, wx_for, w_lc, w_meth, w_glob, w_dsp, w_gdix, w_gdin, wt_gdin, w_ch, wt_ch, wx_par, wx_aug, wx_retN, wx_raise, wx_tryH, hd_0, hd_n, hd_s, wx_tr, noEx, unname, isxS, fldS, lookF, wx_brk, wx_cont, st_tl, st_tt, st_0, st_1, evc_0, evc_1, lcStep, fStep, argOf, onVar, isVar, Cell.on, gets, Ag.get, Cell.val, P.pk, P.sem, P.rcv, M.rcv, M.pk, semAt, tyn, isiS, isiOne, tyNames, tru, isN, callK, pks, nodupB, agCells, agCell, giv, backs, back, locks, unlocks, unl, noOwn, wiped, putsAt, R.only, unbrk, stv, finOf, Cell.keep, pin_un, pin_fz, pin_ow, pin_pr, pin_pz, pin_lk, Cell.mt, Cell.put, Cell.lock, Cell.unlock, intS, cmpS, cmpI, ixS, lenS, hr3, hf]
end Lk08

namespace Lk08
open PySem L2 BV
theorem c0 : d0.chk es = true := by decide +kernel
theorem c1 : d1.chk es = true := by decide +kernel
theorem c2 : d2.chk es = true := by decide +kernel
theorem c3 : d3.chk es = true := by decide +kernel
theorem c4 : d4.chk es = true := by decide +kernel
theorem c5 : d5.chk es = true := by decide +kernel
theorem c6 : d6.chk es = true := by decide +kernel
theorem c7 : d7.chk es = true := by decide +kernel
theorem c8 : d8.chk es = true := by decide +kernel
theorem c9 : d9.chk es = true := by decide +kernel
theorem c10 : d10.chk es = true := by decide +kernel
theorem c11 : d11.chk es = true := by decide +kernel
theorem c12 : d12.chk es = true := by decide +kernel
theorem c13 : d13.chk es = true := by decide +kernel
theorem c14 : d14.chk es = true := by decide +kernel
theorem c15 : d15.chk es = true := by decide +kernel
theorem c16 : d16.chk es = true := by decide +kernel
theorem c17 : d17.chk es = true := by decide +kernel
theorem c18 : d18.chk es = true := by decide +kernel
theorem c19 : d19.chk es = true := by decide +kernel
theorem c20 : d20.chk es = true := by decide +kernel
theorem c21 : d21.chk es = true := by decide +kernel
theorem c22 : d22.chk es = true := by decide +kernel
theorem c23 : d23.chk es = true := by decide +kernel
theorem c24 : d24.chk es = true := by decide +kernel
theorem c25 : d25.chk es = true := by decide +kernel
theorem chk : ∀ d ∈ ds, d.chk es = true := by
  intro d hd
  unfold ds at hd
  simp only [List.mem_cons, List.not_mem_nil, or_false] at hd
  rcases hd with rfl | rfl | rfl | rfl | rfl | rfl | rfl | rfl | rfl | rfl | rfl | rfl | rfl | rfl | rfl | rfl | rfl | rfl | rfl | rfl | rfl | rfl | rfl | rfl | rfl | rfl
  · exact c0
  · exact c1
  · exact c2
  · exact c3
  · exact c4
  · exact c5
  · exact c6
  · exact c7
  · exact c8
  · exact c9
  · exact c10
  · exact c11
  · exact c12
  · exact c13
  · exact c14
  · exact c15
  · exact c16
  · exact c17
  · exact c18
  · exact c19
  · exact c20
  · exact c21
  · exact c22
  · exact c23
  · exact c24
  · exact c25
theorem ix : ixB ds ys = true := by decide +kernel
theorem mth : mthB es ds = true := by decide +kernel
theorem xin : xinB es xi = true := by decide +kernel
theorem xc0 : x0.chk es = true := by decide +kernel
theorem xn0 : BndXi x0 := fun _ _ _ _ _ _ us hl => match us, hl with | [_, _], _ => rfl
theorem xc1 : x1.chk es = true := by decide +kernel
theorem xn1 : BndXi x1 := fun _ _ _ _ _ _ us hl => match us, hl with | [_, _, _], _ => rfl
theorem xc2 : x2.chk es = true := by decide +kernel
theorem xn2 : BndXi x2 := fun _ _ _ _ _ _ us hl => match us, hl with | [_, _], _ => rfl
theorem xc3 : x3.chk es = true := by decide +kernel
theorem xn3 : BndXi x3 := fun _ _ _ _ _ _ us hl => match us, hl with | [_, _], _ => rfl
theorem xc4 : x4.chk es = true := by decide +kernel
theorem xn4 : BndXi x4 := fun _ _ _ _ _ _ us hl => match us, hl with | [_, _], _ => rfl
theorem xc5 : x5.chk es = true := by decide +kernel
theorem xn5 : BndXi x5 := fun _ _ _ _ _ _ us hl => match us, hl with | [_, _], _ => rfl
theorem xc6 : x6.chk es = true := by decide +kernel
theorem xn6 : BndXi x6 := fun _ _ _ _ _ _ us hl => match us, hl with | [_, _], _ => rfl
theorem xck : ∀ d ∈ xi, d.chk es = true := by
  intro d hd
  unfold xi at hd
  simp only [List.mem_cons, List.not_mem_nil, or_false] at hd
  rcases hd with rfl | rfl | rfl | rfl | rfl | rfl | rfl
  · exact xc0
  · exact xc1
  · exact xc2
  · exact xc3
  · exact xc4
  · exact xc5
  · exact xc6
theorem xbd : BndOkX xi := by
  intro d hd
  unfold xi at hd
  simp only [List.mem_cons, List.not_mem_nil, or_false] at hd
  rcases hd with rfl | rfl | rfl | rfl | rfl | rfl | rfl
  · exact xn0
  · exact xn1
  · exact xn2
  · exact xn3
  · exact xn4
  · exact xn5
  · exact xn6
theorem n0 : BndAt d0 := fun _ _ _ _ _ _ us hl => match us, hl with | [_], _ => rfl
theorem n1 : BndAt d1 := fun _ _ _ _ _ _ us hl => match us, hl with | [_], _ => rfl
theorem n2 : BndAt d2 := fun _ _ _ _ _ _ us hl => match us, hl with | [_], _ => rfl
theorem n3 : BndAt d3 := fun _ _ _ _ _ _ us hl => match us, hl with | [_], _ => rfl
theorem n4 : BndAt d4 := fun _ _ _ _ _ _ us hl => match us, hl with | [_], _ => rfl
theorem n5 : BndAt d5 := fun _ _ _ _ _ _ us hl => match us, hl with | [_, _], _ => rfl
theorem n6 : BndAt d6 := fun _ _ _ _ _ _ us hl => match us, hl with | [_], _ => rfl
theorem n7 : BndAt d7 := fun _ _ _ _ _ _ us hl => match us, hl with | [_, _], _ => rfl
theorem n8 : BndAt d8 := fun _ _ _ _ _ _ us hl => match us, hl with | [_, _, _], _ => rfl
theorem n9 : BndAt d9 := fun _ _ _ _ _ _ us hl => match us, hl with | [_], _ => rfl
theorem n10 : BndAt d10 := fun _ _ _ _ _ _ us hl => match us, hl with | [_], _ => rfl
theorem n11 : BndAt d11 := fun _ _ _ _ _ _ us hl => match us, hl with | [_], _ => rfl
theorem n12 : BndAt d12 := fun _ _ _ _ _ _ us hl => match us, hl with | [_], _ => rfl
theorem n13 : BndAt d13 := fun _ _ _ _ _ _ us hl => match us, hl with | [_], _ => rfl
theorem n14 : BndAt d14 := fun _ _ _ _ _ _ us hl => match us, hl with | [_, _], _ => rfl
theorem n15 : BndAt d15 := fun _ _ _ _ _ _ us hl => match us, hl with | [_, _], _ => rfl
theorem n16 : BndAt d16 := fun _ _ _ _ _ _ us hl => match us, hl with | [_], _ => rfl
theorem n17 : BndAt d17 := fun _ _ _ _ _ _ us hl => match us, hl with | [_, _], _ => rfl
theorem n18 : BndAt d18 := fun _ _ _ _ _ _ us hl => match us, hl with | [_, _], _ => rfl
theorem n19 : BndAt d19 := fun _ _ _ _ _ _ us hl => match us, hl with | [_], _ => rfl
theorem n20 : BndAt d20 := fun _ _ _ _ _ _ us hl => match us, hl with | [_, _], _ => rfl
theorem n21 : BndAt d21 := fun _ _ _ _ _ _ us hl => match us, hl with | [_], _ => rfl
theorem n22 : BndAt d22 := fun _ _ _ _ _ _ us hl => match us, hl with | [_], _ => rfl
theorem n23 : BndAt d23 := fun _ _ _ _ _ _ us hl => match us, hl with | [_, _], _ => rfl
theorem n24 : BndAt d24 := fun _ _ _ _ _ _ us hl => match us, hl with | [_], _ => rfl
theorem n25 : BndAt d25 := fun _ _ _ _ _ _ us hl => match us, hl with | [_], _ => rfl
theorem bnd : BndOk ds := by
  intro d hd
  unfold ds at hd
  simp only [List.mem_cons, List.not_mem_nil, or_false] at hd
  rcases hd with rfl | rfl | rfl | rfl | rfl | rfl | rfl | rfl | rfl | rfl | rfl | rfl | rfl | rfl | rfl | rfl | rfl | rfl | rfl | rfl | rfl | rfl | rfl | rfl | rfl | rfl
  · exact n0
  · exact n1
  · exact n2
  · exact n3
  · exact n4
  · exact n5
  · exact n6
  · exact n7
  · exact n8
  · exact n9
  · exact n10
  · exact n11
  · exact n12
  · exact n13
  · exact n14
  · exact n15
  · exact n16
  · exact n17
  · exact n18
  · exact n19
  · exact n20
  · exact n21
  · exact n22
  · exact n23
  · exact n24
  · exact n25
end Lk08

namespace Lk08
open PySem PySem.Spec PyProof.Rows L2 BV
def loose0 : List Str := ["NeedleError", "NoLot", "BadLog", "NoDealing", "BadBox", "NoName", "Twice", "NoWalker", "LETTERS", "SMALL", "LONGEST", "BLIND", "is_name", "is_sign", "is_lone", "is_many"]
def loose1 : List Str := ["is_entry", "log_of", "held_log", "_law_any_entry", "_law_any_log", "_law_is_name", "_law_is_sign", "_law_is_many", "_law_is_entry", "_law_bad_at", "_law_spoilt_text", "_law_spoilt_entry", "_law_own", "_law_pool", "_law_take", "_law_whole"]
def loose2 : List Str := ["_law_same", "_law_anything", "_law_name", "_law_sign", "_law_held"]
def loose : List Str := loose0 ++ loose1 ++ loose2
abbrev R : PySem.W.OpenRow := PySem.W.OpenLaw.row PySem.Challenge.rw_wayneedle_k08_logs_nearly_right
abbrev fn : List He.DefD := fnsOf ds xi
abbrev hk : PySem.W.Hook := hookY 5 faB fn (tabsOf es) (exE es)
def ob (s : PySem.W.SharedT) : He.AlX := obsY 5 faB fn (tabsOf es) (exE es) (HandSHeadRun.getT s)
theorem ob_eq (s : PySem.W.SharedT) : ob s = hk.obs s.abs := obsY_eq (HandSHeadRun.getT_eq s)
theorem run_top (w : World) : HandSHeadRun.RunEq R (PySem.W.view R.prog [40]) hk ob 4000 loose w := by
  intro os
  kernel_rfl
theorem facts {P : Program} {w : World} {K : PySem.W.Frag} {h : Heap} {mg : Str → Option Value} {f : Addr} (X : K.In h) (G : h.Ns mainGlobals mg) (hfa : mg ("law" : Str) = some (.ref f)) (c : He.SaysX faB fn (tabsOf es) [] (exE es) w h K) :
    ∃ fd : FuncData, (∀ (s : Shared) (v : Value), BindsTo s fd ⟨[v], []⟩ [("_law_script", v)]) ∧ ∀ base : Heap, K.In base → base.Ns mainGlobals mg → FnOk P w K mg base (CXA P) 16 f fd ["_law_script"] (spF (surE K mg es 12) 25) := by
  have T : TxtOk K w mg es ds xi := txt_okE X G c ix chk bnd mth xin xck xbd
  have hm : d25 ∈ ds := by unfold ds; simp only [List.mem_cons, true_or, or_true]
  have e := hfa.symm.trans (T.glo d25 hm rfl)
  cases e
  obtain ⟨fd, h1, h2⟩ := law_fact (P := P) (w := w) (k := 11) T hm rfl
  exact ⟨fd, h1, fun base _ _ => h2 base⟩
end Lk08
open PySem PySem.W PySem.Calls PyProof.Rows
set_option maxHeartbeats 0 in
theorem PySem.Challenge.cw_wayneedle_k08_logs_nearly_right_holds : PySem.Challenge.rw_wayneedle_k08_logs_nearly_right.Holds := by
  w_on; o_law
  refine HandSHeadRun.head_any (r := OpenLaw.row PySem.Challenge.rw_wayneedle_k08_logs_nearly_right) (q := view (OpenLaw.row PySem.Challenge.rw_wayneedle_k08_logs_nearly_right).prog [40]) (H := Lk08.hk) (ob := Lk08.ob) (M := 4000) (loose := Lk08.loose) (d := HandSHeadRun.topDef (OpenLaw.row PySem.Challenge.rw_wayneedle_k08_logs_nearly_right).prog 40) (kwd := []) Lk08.ob_eq
    (by kernel_rfl) (fun s => by kernel_rfl) Lk08.run_top (by kernel_rfl) (by kernel_rfl) (by kernel_rfl) (by rfl) (by first | assumption | decide +kernel) (by decide +kernel) ⟨rfl, rfl, rfl, rfl, rfl, by decide +kernel⟩ ?hw ?hc
  case hw => w_witness2
  case hc =>
    refine L2.walk_ofE (l := PySem.Challenge.rw_wayneedle_k08_logs_nearly_right) (n := 63) (k := 16) (x := "_law_script") (CX := BV.CXA PySem.Challenge.rw_wayneedle_k08_logs_nearly_right.prog) rfl (by decide) (by kernel_rfl) ⟨rfl, by decide, by decide⟩ ?F (fun H s e s' z => BV.cxa_end H s e s' z)
    intro w mg fa h Y G hmg0
    obtain ⟨K, KX, c⟩ := Y
    have hmg : mg ("law" : PySem.Str) = some (.ref fa) := by
      have e : (HandSHeadRun.topDef (OpenLaw.row PySem.Challenge.rw_wayneedle_k08_logs_nearly_right).prog 40).name = ("law" : PySem.Str) := by kernel_rfl
      rw [← e]
      exact hmg0
    obtain ⟨fd, hb, hF⟩ := Lk08.facts (P := (PySem.Challenge.rw_wayneedle_k08_logs_nearly_right).prog) (w := w) KX G hmg c
    exact ⟨K, fd, BV.spF (BV.surE K mg Lk08.es 12) 25, KX, hb, fun H a ns hl _ hS => BV.law_sp hS (Lk08.pure_law ns hl), hF⟩
