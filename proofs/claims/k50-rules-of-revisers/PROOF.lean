import PyProof.Rows.All
import HandS.ForMost
import KE.SortKeyHeap
import KE.DataMinKey
import HandS.Lambda
import HandS.Exc
import HandS.TupAny
import HandS.Codes
import HandS.Deep
import HandS.Walk
import HandS.Small
import HandS.Wide
import HandS.Star
import HandS.Flow
import HandS.IsInst
import HandS.More
import HandS.FStr
import HandS.Text
import HandS.WordsDict
import PyProof.Rows.ReprOcc
import HandS.Zip
import HandS.Style
import HandS.Defaults
import HandS.MakeKw
import KE.LtData
import HandS.TryMany
import HandS.HeadHook3
import HandS.HeadHook4
import HandS.HeadWalk
import HandS.Words
import HandS.NestedK
import KE.KSuper
import HandS.Head0
import HandS.Head1
import HandS.Head2
import HandS.HeadEnd
import Wide.All
import OpenK.AllK
import Wide.FinOn
import KE.KStateDown
import PySem.Challenge.RW_namehold_k50_rules_of_revisers
set_option Elab.async false
set_option linter.all false
set_option maxRecDepth 100000
set_option maxHeartbeats 0
section
namespace NH
open PySem L2

/-- abstract values; classes, defs, attributes are numbers of one fixed table of names -/
inductive T where
  | non | bl (b : Bool) | int (i : Int) | str (x : Str)
  | ty (n : String) | cls (c : Nat) | fn (f : Nat)
  | ref (k : Nat) | scr (ns : List Int)
  | lst (xs : List T) | tup (xs : List T)
  | dct (kvs : List (Str × T))
  | ins (c : Nat) (fs : List (Nat × T))
  | exc (c : Nat) (fs : List (Nat × T))
  deriving Inhabited

inductive Nd where
  | lst (xs : List T) | dct (kvs : List (Str × T)) | ins (c : Nat) (fs : List (Nat × T))
  deriving Inhabited
abbrev Store := List (Option Nd)
abbrev Fr := List (Option T)

inductive R (α : Type) where
  | ok (a : α) (S : Store)
  | exc (x : T) (S : Store)
  | no
def R.bind {α β : Type} (r : R α) (k : α → Store → R β) : R β := match r with
  | .ok a S => k a S
  | .exc x S => .exc x S
  | .no => .no
def R.of {α : Type} (o : Option α) (S : Store) : R α := match o with
  | some a => .ok a S
  | none => .no

def R.ofP {α : Type} (o : Option (α × Store)) : R α := match o with
  | some (a, S) => .ok a S
  | none => .no

def R.noX {α : Type} (r : R α) : R α := match r with
  | .ok a S => .ok a S
  | _ => .no

/-! ### data -/
mutual
/-- plain data of at most this depth -/
def T.data : Nat → T → Bool
  | _, .non => true
  | _, .bl _ => true
  | _, .int _ => true
  | _, .str _ => true
  | n + 1, .lst xs => T.dataL n xs
  | n + 1, .tup xs => T.dataL n xs
  | _, _ => false
def T.dataL : Nat → List T → Bool
  | _, [] => true
  | n, x :: xs => T.data n x && T.dataL n xs
end
mutual
/-- Python's == of data -/
def T.eqv : T → T → Bool
  | .non, .non => true
  | .bl a, .bl b => a == b
  | .bl a, .int j => (if a then 1 else 0) == j
  | .int i, .bl b => i == (if b then 1 else 0)
  | .int i, .int j => i == j
  | .str x, .str y => x == y
  | .lst xs, .lst ys => T.eqvL xs ys
  | .tup xs, .tup ys => T.eqvL xs ys
  | _, _ => false
def T.eqvL : List T → List T → Bool
  | [], [] => true
  | x :: xs, y :: ys => T.eqv x y && T.eqvL xs ys
  | _, _ => false
end
mutual
/-- all references are below n -/
def T.old (n : Nat) : T → Bool
  | .ref k => decide (k < n)
  | .lst xs => T.oldL n xs
  | .tup xs => T.oldL n xs
  | .dct kvs => T.oldD n kvs
  | .ins _ fs => T.oldF n fs
  | .exc _ fs => T.oldF n fs
  | _ => true
def T.oldL (n : Nat) : List T → Bool
  | [] => true
  | x :: xs => T.old n x && T.oldL n xs
def T.oldD (n : Nat) : List (Str × T) → Bool
  | [] => true
  | (_, x) :: xs => T.old n x && T.oldD n xs
def T.oldF (n : Nat) : List (Nat × T) → Bool
  | [] => true
  | (_, x) :: xs => T.old n x && T.oldF n xs
end
def Nd.old (n : Nat) : Nd → Bool
  | .lst xs => T.oldL n xs
  | .dct kvs => T.oldD n kvs
  | .ins _ fs => T.oldF n fs
def Nd.tree : Nd → T
  | .lst xs => .lst xs
  | .dct kvs => .dct kvs
  | .ins c fs => .ins c fs

/-- what a list, a tuple, an object holds, by the store -/
def Store.nd (S : Store) (k : Nat) : Option Nd := match S[k]? with
  | some o => o
  | none => none
/-- a value with its outermost node read off -/
def view (S : Store) : T → T
  | .ref k => match S.nd k with
    | some x => x.tree
    | none => .ref k
  | t => t

/-! ### freezing -/
def mapS {α : Type} (f : α → Store → Option (α × Store)) : List α → Store → Option (List α × Store)
  | [], S => some ([], S)
  | x :: xs, S => match f x S with
    | some (y, S1) => (match mapS f xs S1 with
      | some (ys, S2) => some (y :: ys, S2)
      | none => none)
    | none => none
def sndS {κ : Type} (f : T → Store → Option (T × Store)) (p : κ × T) (S : Store) : Option ((κ × T) × Store) := match f p.2 S with
  | some (y, S1) => some ((p.1, y), S1)
  | none => none
/-- references from n on are replaced by what they hold, for good -/
def frz (n : Nat) : Nat → T → Store → Option (T × Store)
  | 0, t, S => if t.old n then some (t, S) else none
  | d + 1, t, S => if t.old n then some (t, S) else match t with
    | .ref k => (match S.nd k with
      | some (.lst xs) => (match mapS (frz n d) xs (S.set k none) with
        | some (ys, S1) => some (.lst ys, S1)
        | none => none)
      | some (.dct kvs) => (match mapS (sndS (frz n d)) kvs (S.set k none) with
        | some (ys, S1) => some (.dct ys, S1)
        | none => none)
      | some (.ins c fs) => (match mapS (sndS (frz n d)) fs (S.set k none) with
        | some (ys, S1) => some (.ins c ys, S1)
        | none => none)
      | none => none)
    | _ => none
/-- the old nodes hold old references alone -/
def oldAll (n : Nat) (S : Store) : Bool := S.all fun o => match o with
  | some x => x.old n
  | none => true
/-- behind a def that keeps nothing: the result frozen, the new nodes let go -/
def sealR (S : Store) (r : R T) : R T := match r with
  | .ok v S1 => (match frz S.length 8 v S1 with
    | some (v', S2) => if oldAll S.length (S2.take S.length) then .ok v' (S2.take S.length) else .no
    | none => .no)
  | .exc v S1 => if v.old S.length && oldAll S.length (S1.take S.length) then .exc v (S1.take S.length) else .no
  | .no => .no

/-! ### syntax -/
inductive Op2 where | add | sub | mul | fdiv | mod | pow
  deriving DecidableEq
inductive Cm where | eq | ne | lt | le | gt | ge | isin | notin | is | isnot
  deriving DecidableEq
/-- the names that a for stores: one, or those of a tuple -/
inductive Tg where | nm (i : Nat) | tp (is : List Nat)
/-- built-in functions and types that are called by their names -/
inductive Bi where | len | int | str | tuple | isinstance | all | any | min | max | repr
  deriving DecidableEq
/-- methods of built-in types -/
inductive Bm where | append | insert | index | join
  deriving DecidableEq
mutual
inductive E where
  | var (i : Nat)
  | non | bl (b : Bool) | int (i : Int) | str (x : Str)
  | glo (x : Nat)
  | tup (es : List E)
  | tupS (es : List (Bool × E))
  | al (m : Bool) (a : A)
  | and (a b : E) | or (a b : E) | not (a : E) | neg (a : E)
  | ite (c a b : E)
  | cmp (op : Cm) (a b : E)
  | cmp2 (op op' : Cm) (a b c : E)
  | bin (op : Op2) (a b : E)
  | sub (a b : E)
  | cut (a : E) (lo hi : Option E)
  | attr (e : E) (f : Nat)
  | call (f : Nat) (es : List E) (kws : List (Nat × E))
  | make (c : Nat) (es : List E) (kws : List (Nat × E))
  | meth (e : E) (f : Nat) (es : List E) (kws : List (Nat × E))
  | bi (b : Bi) (es : List E)
  | bm (e : E) (b : Bm) (es : List E)
  | no
  | frz (e : E)
  | fstr (es : List E)
  | sup (c f : Nat) (es : List E)
  | minK (e : E) (b : E) (caps : List Nat)
/-- expressions that make a new list or dict -/
inductive A where
  | lst (es : List E)
  | lstS (es : List (Bool × E))
  | dct0
  | lc (elt : E) (tg : Tg) (it : It) (ifs : Option E) (own : List Nat)
  | lc2 (elt : E) (tg : Tg) (it : It) (tg1 : Tg) (it1 : It) (ifs1 : Option E) (own own1 : List Nat)
  | list (e : E)
  | srt (e : E)
  | srtK (e : E) (b : E) (caps : List Nat)
inductive It where
  | seq (e : E) | enum (e : E) | zip (a b : E) | rng1 (a : E) | rng2 (a b : E)
  | keys (i : Nat) (f : Option Nat)
end
inductive Lv where
  | nm (i : Nat) | tp (is : List Nat) | at (o : E) (f : Nat) | sbL (o i : E) | sbD (o i : E)
inductive St where
  | pass
  | ex (e : E)
  | asg (t : Lv) (e : E)
  | par (is : List Nat) (es : List E)
  | ret (e : E) | retN
  | ifS (c : E) (a b : List St)
  | forS (tg : Tg) (it : It) (body : List St)
  | no
  | settle (i f : Nat)
  | hard (i : Nat)

structure Fn where
  pos : List Nat
  dfl : List T
  kwo : List (Nat × Option T)
  slots : Nat
  pure : Bool
  body : List St
structure Cl where
  /-- 0: never changes, 1: may change, 2: an exception -/
  kind : Nat
  init : Option Nat
  meth : List (Nat × Nat)
  con : List (Nat × T)
  mro : List Nat
  flds : List Nat
/-- the program: defs, classes, the module's names -/
structure Gam where
  fns : Nat → Option Fn
  cls : Nat → Option Cl
  glo : Nat → Option T
/-- how a def is run, its arguments bound -/
abbrev Run := Nat → List T → Store → R T
abbrev nmBool : Nat := 0
abbrev nmLen : Nat := 1
abbrev nmEq : Nat := 2
abbrev nmContains : Nat := 3
abbrev nmRepr : Nat := 4

/-! ### calls -/
def bindPos (fn : Fn) (args : List T) (kws : List (Nat × T)) : Nat → List Nat → Option (List T)
  | _, [] => some []
  | i, x :: xs => match (match args[i]? with
      | some v => some v
      | none => (match kws.lookup x with
        | some v => some v
        | none => if fn.pos.length ≤ i + fn.dfl.length then fn.dfl[i + fn.dfl.length - fn.pos.length]? else none)) with
    | some v => (match bindPos fn args kws (i + 1) xs with
      | some vs => some (v :: vs)
      | none => none)
    | none => none
def bindKw (kws : List (Nat × T)) : List (Nat × Option T) → Option (List T)
  | [] => some []
  | (x, d) :: xs => match (match kws.lookup x with
      | some v => some v
      | none => d) with
    | some v => (match bindKw kws xs with
      | some vs => some (v :: vs)
      | none => none)
    | none => none
/-- no keyword twice, none that is not wanted -/
def kwsOk (fn : Fn) (m : Nat) (kws : List (Nat × T)) : Bool := decide (kws.map (·.1)).Nodup && kws.all fun k => (fn.pos.drop m).contains k.1 || (fn.kwo.map (·.1)).contains k.1
/-- the arguments in the parameters' order -/
def bind (fn : Fn) (args : List T) (kws : List (Nat × T)) : Option (List T) :=
  if args.length ≤ fn.pos.length ∧ kwsOk fn args.length kws = true then match bindPos fn args kws 0 fn.pos with
    | some vs => (match bindKw kws fn.kwo with
      | some ws => some (vs ++ ws)
      | none => none)
    | none => none
  else none
section
variable (G : Gam) (D : Run)
def callF (f : Nat) (args : List T) (kws : List (Nat × T)) (S : Store) : R T := match G.fns f with
  | some fn => (match bind fn args kws with
    | some vs => D f vs S
    | none => .no)
  | none => .no
def methOf (c : Nat) (m : Nat) : Option Nat := match G.cls c with
  | some cl => cl.meth.lookup m
  | none => none
/-- a new object of a class -/
def makeR (c f : Nat) (args : List T) (kws : List (Nat × T)) (S : Store) : R T := (callF G D f (.ref S.length :: args) kws (S ++ [some (.ins c [])])).bind fun v S1 => match v with
  | .non => .ok (.ref S.length) S1
  | _ => .no
def makeC (c : Nat) (args : List T) (kws : List (Nat × T)) (S : Store) : R T := match G.cls c with
  | some cl => (match cl.init with
    | some f => (match cl.kind with
      | 0 => sealR S (makeR G D c f args kws S)
      | 1 => makeR G D c f args kws S
      | _ => .no)
    | none => .no)
  | none => .no
/-- the def behind o.m of one's own class -/
def methPre (o : T) (m : Nat) (S : Store) : R Nat := match view S o with
  | .ins c fs => (match fs.lookup m, methOf G c m with
    | none, some f => .ok f S
    | _, _ => .no)
  | _ => .no
def truthO (S : Store) (v : T) : Option Bool := match view S v with
  | .non => some false
  | .bl b => some b
  | .int i => some (i != 0)
  | .str x => if x.length ≤ sizeLine then some ((x.length : Int) != 0) else none
  | .lst xs => some (!xs.isEmpty)
  | .tup xs => some (!xs.isEmpty)
  | _ => none
def truthT (v : T) (S : Store) : R Bool := R.of (truthO S v) S
def attrT (v : T) (f : Nat) (S : Store) : R T := match view S v with
  | .ins c fs => (match G.cls c with
    | some cl => if cl.flds.contains f then R.of (fs.lookup f) S else (match fs.lookup f with
      | none => R.of (cl.con.lookup f) S
      | some _ => .no)
    | none => .no)
  | _ => .no
def lenT (v : T) (S : Store) : R T := match view S v with
  | .str x => if x.length ≤ sizeLine then .ok (.int x.length) S else .no
  | .lst xs => .ok (.int xs.length) S
  | .tup xs => .ok (.int xs.length) S
  | .dct xs => .ok (.int xs.length) S
  | .ins c _ => (match methOf G c nmLen with
    | some f => (callF G D f [v] [] S).bind fun r S1 => match r with
      | .int i => if 0 ≤ i ∧ i < 2 ^ 63 then .ok (.int i) S1 else .no
      | _ => .no
    | none => .no)
  | _ => .no
/-- the part of == that is about data -/
def eqD (a b : T) (S : Store) : R T := if (view S a).data 60 && (view S b).data 60 then .ok (.bl ((view S a).eqv (view S b))) S else .no
def neD (a b : T) (S : Store) : R T := if (view S a).data 60 && (view S b).data 60 then .ok (.bl (!(view S a).eqv (view S b))) S else .no
def getS (l : List (Str × T)) (k : Str) : Option T := (l.find? fun kv => decide (kv.1 = k)).map (·.2)
/-- the part of in that is about built-in things -/
def inD (neg : Bool) (a b : T) (S : Store) : R T := match view S b with
  | .str y => (match a with
    | .str x => .ok (.bl (if neg then !(!(Builtin.Str.occurrences y x 0 y.length 1).isEmpty) else !(Builtin.Str.occurrences y x 0 y.length 1).isEmpty)) S
    | _ => .no)
  | .lst ys => if (view S a).data 60 && T.dataL 59 ys then .ok (.bl (if neg then !(ys.any fun y => y.eqv (view S a)) else ys.any fun y => y.eqv (view S a))) S else .no
  | .tup ys => if (view S a).data 60 && T.dataL 59 ys then .ok (.bl (if neg then !(ys.any fun y => y.eqv (view S a)) else ys.any fun y => y.eqv (view S a))) S else .no
  | .dct kvs => (match a with
    | .str x => .ok (.bl (if neg then !(getS kvs x).isSome else (getS kvs x).isSome)) S
    | _ => .no)
  | _ => .no
/-- is None -/
def isT (neg : Bool) (a b : T) (S : Store) : R T := match b with
  | .non => .ok (.bl (match a with
    | .non => !neg
    | _ => neg)) S
  | _ => .no
/-- a comparison by one's own method -/
def ownB (m : Nat) (neg : Bool) (o a : T) (S : Store) : R T := match view S o with
  | .ins c _ => (match methOf G c m with
    | some f => (callF G D f [o, a] [] S).bind fun r S1 => match r with
      | .bl k => .ok (.bl (if neg then !k else k)) S1
      | _ => .no
    | none => .no)
  | _ => .no
def isIns (S : Store) (t : T) : Bool := match view S t with
  | .ins _ _ => true
  | _ => false
def intsOf : List T → Option (List Int)
  | [] => some []
  | .int i :: r => (match intsOf r with
    | some is => some (i :: is)
    | none => none)
  | _ => none
/-- <: ints, texts, tuples of ints -/
def ltD (a b : T) (S : Store) : R T := match a, b with
  | .int i, .int j => .ok (.bl (decide (i < j))) S
  | .str x, .str y => .ok (.bl (decide (x.cps.toList < y.cps.toList))) S
  | .tup xs, .tup ys => (match intsOf xs, intsOf ys with
    | some ns, some ms => .ok (.bl (HT.lexLt ns ms)) S
    | _, _ => .no)
  | _, _ => .no
def leD (a b : T) (S : Store) : R T := match a, b with
  | .int i, .int j => .ok (.bl (decide (i ≤ j))) S
  | _, _ => .no
def gtD (a b : T) (S : Store) : R T := match a, b with
  | .int i, .int j => .ok (.bl (decide (j < i))) S
  | _, _ => .no
def geD (a b : T) (S : Store) : R T := match a, b with
  | .int i, .int j => .ok (.bl (decide (j ≤ i))) S
  | _, _ => .no
def cmpT (op : Cm) (a b : T) (S : Store) : R T := match op with
  | .eq => eqD a b S
  | .ne => neD a b S
  | .isin => if isIns S b then ownB G D nmContains false b a S else inD false a b S
  | .notin => if isIns S b then ownB G D nmContains true b a S else inD true a b S
  | .is => isT false a b S
  | .isnot => isT true a b S
  | .lt => ltD a b S
  | .gt => gtD a b S
  | .le => leD a b S
  | .ge => geD a b S
/-- what an int operation wants -/
def binT (op : Op2) (a b : T) (S : Store) : R T := match op, view S a, view S b with
  | .add, .int i, .int j => .ok (.int (i + j)) S
  | .add, .str x, .str y => if x.length + y.length ≤ sizeLine then .ok (.str (x ++ y)) S else .no
  | .add, .lst xs, .lst ys => if xs.length + ys.length ≤ sizeLine then .ok (.lst (xs ++ ys)) S else .no
  | .sub, .int i, .int j => .ok (.int (i - j)) S
  | .mul, .int i, .int j => if i.natAbs < 2 ^ 64 ∨ j.natAbs < 2 ^ 64 then .ok (.int (i * j)) S else .no
  | .mul, .lst xs, .int j => if 0 ≤ j ∧ j < 2 ^ 62 ∧ xs.length * j.toNat ≤ sizeLine then .ok (.lst (List.replicate j.toNat xs).flatten) S else .no
  | .fdiv, .int i, .int j => if 0 < j ∧ j < 1073741824 then .ok (.int (i / j)) S else .no
  | .mod, .int i, .int j => if 0 < j then .ok (.int (i % j)) S else .no
  | .pow, .int i, .int j => if 0 ≤ j ∧ j ≤ 1000000 ∧ i.natAbs < 2 ^ 64 then .ok (.int (i ^ j.toNat)) S else .no
  | _, _, _ => .no
def subT (a b : T) (S : Store) : R T := match view S a, b with
  | .lst xs, .int i => R.of (atI xs i) S
  | .tup xs, .int i => R.of (atI xs i) S
  | .str x, .int i => if x.length ≤ sizeLine then R.of ((atI x.cps.toList i).map fun c => T.str ⟨#[c]⟩) S else .no
  | .dct kvs, .str k => R.of (getS kvs k) S
  | _, _ => .no
def cutL {α : Type} (xs : List α) (lo hi : Option Int) : List α := (xs.drop (HT.sIx xs.length 0 lo)).take (HT.sIx xs.length xs.length hi - HT.sIx xs.length 0 lo)
def cutT (a : T) (lo hi : Option Int) (S : Store) : R T := match view S a with
  | .lst xs => .ok (.lst (cutL xs lo hi)) S
  | .tup xs => .ok (.tup (cutL xs lo hi)) S
  | .str x => if x.length ≤ sizeLine then .ok (.str ⟨(cutL x.cps.toList lo hi).toArray⟩) S else .no
  | .scr ns => .ok (.lst (cutL (ns.map T.int) lo hi)) S
  | _ => .no
def bools : List T → Option (List Bool)
  | [] => some []
  | .bl b :: r => (match bools r with
    | some bs => some (b :: bs)
    | none => none)
  | _ => none
/-- the type of a value: a built-in one, or a class -/
def tyOf (S : Store) (v : T) : Option (String ⊕ Nat) := match view S v with
  | .non => some (.inl "NoneType")
  | .bl _ => some (.inl "bool")
  | .int _ => some (.inl "int")
  | .str _ => some (.inl "str")
  | .lst _ => some (.inl "list")
  | .tup _ => some (.inl "tuple")
  | .dct _ => some (.inl "dict")
  | .ins d _ => some (.inr d)
  | _ => none
def tyNames : List String := ["int", "str", "bool", "list", "tuple", "dict"]
def isKind (S : Store) (v : T) (t : T) : Option Bool := match tyOf S v, t with
  | some (.inl a), .ty b => if b ∈ tyNames then some (decide (a = b) || (decide (a = "bool") && decide (b = "int"))) else none
  | some (.inr d), .ty b => (match G.cls d with
    | some cl => if b ∈ tyNames ∧ cl.kind ≠ 2 then some false else none
    | none => none)
  | some (.inl _), .cls c => if (G.cls c).isSome then some false else none
  | some (.inr d), .cls c => (match G.cls d, G.cls c with
    | some cl, some _ => if cl.kind ≠ 2 then some (cl.mro.contains c) else none
    | _, _ => none)
  | _, _ => none
def isAny (S : Store) (v : T) : List T → Option Bool
  | [] => some false
  | t :: ts => match isKind G S v t, isAny S v ts with
    | some a, some b => some (a || b)
    | _, _ => none
def intT (v : T) (S : Store) : R T := match v with
  | .int i => .ok (.int i) S
  | .bl b => .ok (.int (if b then 1 else 0)) S
  | _ => .no
def strT (v : T) (S : Store) : R T := match v with
  | .int i => if i.natAbs < 2 ^ 64 then .ok (.str (toString i : String)) S else .no
  | _ => .no
def tupleT (v : T) (S : Store) : R T := match view S v with
  | .lst xs => .ok (.tup xs) S
  | .tup xs => .ok (.tup xs) S
  | _ => .no
def allT (v : T) (S : Store) : R T := match view S v with
  | .lst xs => R.of ((bools xs).map fun bs => T.bl (bs.all id)) S
  | _ => .no
def anyT (v : T) (S : Store) : R T := match view S v with
  | .lst xs => R.of ((bools xs).map fun bs => T.bl (bs.any id)) S
  | _ => .no
def reprT (v : T) (S : Store) : R T := match view S v with
  | .ins c _ => (match methOf G c nmRepr with
    | some f => (callF G D f [v] [] S).bind fun r S1 => match r with
      | .str x => .ok (.str x) S1
      | _ => .no
    | none => .no)
  | _ => .no
def isiT (v t : T) (S : Store) : R T := match t with
  | .tup ts => if ts.isEmpty = false then R.of ((isAny G S v ts).map T.bl) S else .no
  | t => R.of ((isKind G S v t).map T.bl) S
def maxT (v w : T) (S : Store) : R T := match v, w with
  | .int i, .int j => .ok (.int (if j > i then j else i)) S
  | _, _ => .no
def minT (v w : T) (S : Store) : R T := match v, w with
  | .int i, .int j => .ok (.int (if j < i then j else i)) S
  | _, _ => .no
def bi1 (b : Bi) (v : T) (S : Store) : R T := match b with
  | .len => lenT G D v S
  | .int => intT v S
  | .str => strT v S
  | .tuple => tupleT v S
  | .all => allT v S
  | .any => anyT v S
  | .repr => reprT G D v S
  | _ => .no
def bi2 (b : Bi) (v w : T) (S : Store) : R T := match b with
  | .isinstance => isiT G v w S
  | .max => maxT v w S
  | .min => minT v w S
  | _ => .no
def biT (b : Bi) (vs : List T) (S : Store) : R T := match vs with
  | [v] => bi1 G D b v S
  | [v, w] => bi2 G b v w S
  | _ => .no
def strsOf : List T → Option (List Str)
  | [] => some []
  | .str x :: r => (match strsOf r with
    | some xs => some (x :: xs)
    | none => none)
  | _ => none
def appendT (o v : T) (S : Store) : R T := match view S o with
  | .lst xs => (match o with
    | .ref k => if xs.length < sizeLine then .ok .non (S.set k (some (.lst (xs ++ [v])))) else .no
    | _ => .no)
  | _ => .no
def insertT (o j v : T) (S : Store) : R T := match view S o, j with
  | .lst xs, .int i => (match o with
    | .ref k => if xs.length < sizeLine ∧ 0 ≤ i ∧ i < 2 ^ 63 then .ok .non (S.set k (some (.lst (xs.take i.toNat ++ [v] ++ xs.drop i.toNat)))) else .no
    | _ => .no)
  | _, _ => .no
def indexT (o v : T) (S : Store) : R T := match view S o with
  | .lst xs => if (v.data 60 && T.dataL 59 xs) = true then R.of ((xs.findIdx? fun y => y.eqv v).map fun i => T.int i) S else .no
  | _ => .no
def joinT (o v : T) (S : Store) : R T := match o, view S v with
  | .str x, .lst xs => (match strsOf xs with
    | some ys => if (ys.map (·.length)).sum + ys.length * x.length ≤ 16777216 then .ok (.str (Str.join x ys)) S else .no
    | none => .no)
  | _, _ => .no
def bmT (o : T) (b : Bm) (vs : List T) (S : Store) : R T := match vs with
  | [v] => (match b with
    | .append => appendT o v S
    | .index => indexT o v S
    | .join => joinT o v S
    | _ => .no)
  | [v, w] => (match b with
    | .insert => insertT o v w S
    | _ => .no)
  | _ => .no
/-- the method is one of the object's type -/
def bmOk (o : T) (b : Bm) (S : Store) : Bool := match b, view S o with
  | .join, .str _ => true
  | .append, .lst _ => true
  | .insert, .lst _ => true
  | .index, .lst _ => true
  | _, _ => false

/-! ### sorting -/
mutual
def T.toD : T → PyData
  | .bl b => .bool b
  | .int i => .int i
  | .str x => .str x
  | .lst xs => .list (T.toDs xs)
  | .tup xs => .tuple (T.toDs xs)
  | _ => .none
def T.toDs : List T → List PyData
  | [] => []
  | x :: xs => T.toD x :: T.toDs xs
end
/-- keys that one another are compared with -/
def keysOk (ks : List T) : Prop := ks.length ≤ sizeLine ∧ (∀ k ∈ ks, k.data 20 = true) ∧ PySem.W.AllAlike (ks.map T.toD) ∧ PySem.W.Sortable (ks.map T.toD)
noncomputable def sortBy (xs ks : List T) : List T := ((xs.zip ks).mergeSort (PySem.W.dataLe false fun p => p.2.toD)).map (·.1)
/-- the first one with a least key -/
def leastBy : T × T → List (T × T) → T × T
  | p, [] => p
  | p, q :: r => if PySem.W.dataLt q.2.toD p.2.toD = true then leastBy q r else leastBy p r
open Classical in
/-- the key of each, by a lambda that changes nothing -/
noncomputable def keysBy (turn : T → R T) (S : Store) : List T → Option (List T)
  | [] => some []
  | x :: xs => match turn x with
    | .ok k S1 => if S1 = S then (match keysBy turn S xs with
      | some ks => some (k :: ks)
      | none => none) else none
    | _ => none
def capsOf (ρ : Fr) : List Nat → Option (List T)
  | [] => some []
  | i :: r => match ρ[i]?, capsOf ρ r with
    | some (some v), some vs => some (v :: vs)
    | _, _ => none
/-- a part of an f-string -/
def partS : T → Option Str
  | .str x => if x.length ≤ sizeLine then some x else none
  | .int i => if i.natAbs < 2 ^ 64 then some (toString i : String) else none
  | _ => none

/-! ### expressions -/
/-- a source of items: the items, and the objects that must stand as they are while they are walked -/
abbrev Src := List T × List (Nat × List T)
def keepL (v : T) (xs : List T) : List (Nat × List T) := match v with
  | .ref k => [(k, xs)]
  | _ => []
def srcOf (S : Store) (v : T) : Option Src := match view S v with
  | .lst xs => some (xs, keepL v xs)
  | .tup xs => some (xs, [])
  | .str x => some (x.cps.toList.map fun c => T.str ⟨#[c]⟩, [])
  | _ => none
def pairT (p : T × T) : T := .tup [p.1, p.2]
def zipTo (xs ys : List T) : List T := (xs.zip ys).map pairT
def numT (p : T × Nat) : T := .tup [.int (p.2 : Nat), p.1]
def enumTo (xs : List T) : List T := xs.zipIdx.map numT
def enumSrc (S : Store) (v : T) : Option Src := match view S v with
  | .lst xs => some (enumTo xs, keepL v xs)
  | _ => none
def zipSrc (S : Store) (v w : T) : Option Src := match view S v, view S w with
  | .lst xs, .lst ys => some (zipTo xs ys, keepL v xs ++ keepL w ys)
  | .tup xs, .tup ys => some (zipTo xs ys, [])
  | _, _ => none
/-- the dict that is walked: what a slot holds, or its field; it is frozen -/
def keysDct (G : Gam) (ρ : Fr) (S : Store) (i : Nat) (f : Option Nat) : Option (List (Str × T)) := match ρ[i]? with
  | some (some v) => (match f with
    | none => (match v with
      | .dct kvs => some kvs
      | _ => none)
    | some f => (match view S v with
      | .ins c fs => (match G.cls c with
        | some cl => if cl.flds.contains f = true ∧ cl.kind ≠ 2 then (match fs.lookup f with
          | some (.dct kvs) => some kvs
          | _ => none) else none
        | none => none)
      | _ => none))
  | _ => none
def keysSrc (G : Gam) (ρ : Fr) (S : Store) (i : Nat) (f : Option Nat) : Option Src := (keysDct G ρ S i f).map fun kvs => (kvs.map fun kv => T.str kv.1, [])
def rngTo (lo hi : Int) : List T := (List.range (hi - lo).toNat).map fun i => T.int (lo + (i : Nat))
/-- the objects stand as they are -/
def still (S : Store) : List (Nat × List T) → Prop
  | [] => True
  | p :: r => S.nd p.1 = some (.lst p.2) ∧ still S r
def setTg (S : Store) (tg : Tg) (v : T) (ρ : Fr) : Option Fr := match tg with
  | .nm i => some (ρ.set i (some v))
  | .tp is => (match v with
    | .tup vs => if vs.length = is.length then some ((is.zip vs).foldl (fun ρ p => ρ.set p.1 (some p.2)) ρ) else none
    | _ => none)
def wipeF (ρ : Fr) : List Nat → Fr
  | [] => ρ
  | i :: r => wipeF (ρ.set i none) r
open Classical in
/-- the turns of a comprehension -/
noncomputable def lcLoop (ks : List (Nat × List T)) (turn : T → Store → R (List T)) : List T → List T → Store → R (List T)
  | [], acc, S => if still S ks then .ok acc S else .no
  | x :: xs, acc, S => if still S ks ∧ acc.length < sizeLine then match turn x S with
    | .ok ys S1 => lcLoop ks turn xs (acc ++ ys) S1
    | _ => .no else .no
open Classical in
mutual
noncomputable def ev : E → Fr → Store → R T
  | .var i, ρ, S => (match ρ[i]? with
    | some (some v) => .ok v S
    | _ => .no)
  | .non, _, S => .ok .non S
  | .bl b, _, S => .ok (.bl b) S
  | .int i, _, S => .ok (.int i) S
  | .str x, _, S => .ok (.str x) S
  | .glo x, _, S => R.of (G.glo x) S
  | .tup es, ρ, S => (evs es ρ S).bind fun vs S1 => .ok (.tup vs) S1
  | .tupS es, ρ, S => (evSt es ρ S).bind fun vs S1 => if vs.length ≤ sizeLine then .ok (.tup vs) S1 else .no
  | .al m a, ρ, S => (evA a ρ S).bind fun nd S1 => match m with
    | false => .ok nd.tree S1
    | true => .ok (.ref S1.length) (S1 ++ [some nd])
  | .and a b, ρ, S => (ev a ρ S).bind fun v S1 => (truthT v S1).bind fun k S2 => match k with
    | true => ev b ρ S2
    | false => .ok v S2
  | .or a b, ρ, S => (ev a ρ S).bind fun v S1 => (truthT v S1).bind fun k S2 => match k with
    | true => .ok v S2
    | false => ev b ρ S2
  | .not a, ρ, S => (ev a ρ S).bind fun v S1 => (truthT v S1).bind fun k S2 => .ok (.bl (!k)) S2
  | .neg a, ρ, S => (ev a ρ S).bind fun v S1 => match v with
    | .int i => .ok (.int (-i)) S1
    | _ => .no
  | .ite c a b, ρ, S => (tst c ρ S).bind fun k S2 => match k with
    | true => ev a ρ S2
    | false => ev b ρ S2
  | .cmp op a b, ρ, S => (ev a ρ S).bind fun v S1 => (ev b ρ S1).bind fun w S2 => (cmpT G D op v w S2).noX
  | .cmp2 op op' a b c, ρ, S => (ev a ρ S).bind fun v S1 => (ev b ρ S1).bind fun w S2 => (cmpT G D op v w S2).noX.bind fun k S3 => match k with
    | .bl true => (ev c ρ S3).bind fun u S4 => (cmpT G D op' w u S4).noX
    | .bl false => .ok (.bl false) S3
    | _ => .no
  | .bin op a b, ρ, S => (ev a ρ S).bind fun v S1 => (ev b ρ S1).bind fun w S2 => (binT op v w S2).noX
  | .sub a b, ρ, S => (ev a ρ S).bind fun v S1 => (ev b ρ S1).bind fun w S2 => (subT v w S2).noX
  | .cut a lo hi, ρ, S => (ev a ρ S).bind fun v S1 => (evO lo ρ S1).bind fun l S2 => (evO hi ρ S2).bind fun h S3 => (cutT v l h S3).noX
  | .attr e f, ρ, S => (ev e ρ S).bind fun v S1 => (attrT G v f S1).noX
  | .call f es kws, ρ, S => (evs es ρ S).bind fun vs S1 => (evK kws ρ S1).bind fun ws S2 => callF G D f vs ws S2
  | .make c es kws, ρ, S => (evs es ρ S).bind fun vs S1 => (evK kws ρ S1).bind fun ws S2 => makeC G D c vs ws S2
  | .meth e m es kws, ρ, S => (ev e ρ S).bind fun o S1 => (methPre G o m S1).bind fun f S1 => (evs es ρ S1).bind fun vs S2 => (evK kws ρ S2).bind fun ws S3 => callF G D f (o :: vs) ws S3
  | .bi b es, ρ, S => (evs es ρ S).bind fun vs S1 => (biT G D b vs S1).noX
  | .bm e b es, ρ, S => (ev e ρ S).bind fun o S1 => if bmOk o b S1 = true then (evs es ρ S1).bind fun vs S2 => (bmT o b vs S2).noX else .no
  | .no, _, _ => .no
  | .frz e, ρ, S => (ev e ρ S).bind fun v S1 => R.ofP (frz 0 8 v S1)
  | .fstr es, ρ, S => (evF es Str.empty ρ S).noX.bind fun x S1 => .ok (.str x) S1
  | .sup c f es, ρ, S => (match ρ[0]? with
    | some (some o) => (match view S o with
      | .ins d _ => if d = c then (evs es ρ S).bind fun vs S1 => callF G D f (o :: vs) [] S1 else .no
      | _ => .no)
    | _ => .no)
  | .minK e b caps, ρ, S => (ev e ρ S).bind fun v S1 => (match view S1 v, capsOf ρ caps with
    | .lst (x :: xs), some cv => (match keysBy (fun y => ev b (some y :: cv.map some) S1) S1 (x :: xs) with
      | some (k :: ks) => if keysOk (k :: ks) then .ok (leastBy (x, k) (xs.zip ks)).1 S1 else .no
      | _ => .no)
    | _, _ => .no)
/-- an expression as a test -/
noncomputable def tst : E → Fr → Store → R Bool
  | .and a b, ρ, S => (tst a ρ S).bind fun k S1 => match k with
    | true => tst b ρ S1
    | false => .ok false S1
  | .or a b, ρ, S => (tst a ρ S).bind fun k S1 => match k with
    | true => .ok true S1
    | false => tst b ρ S1
  | .not a, ρ, S => (tst a ρ S).bind fun k S1 => .ok (!k) S1
  | .var i, ρ, S => (match ρ[i]? with
    | some (some v) => truthT v S
    | _ => .no)
  | .cmp op a b, ρ, S => ((ev a ρ S).bind fun v S1 => (ev b ρ S1).bind fun w S2 => (cmpT G D op v w S2).noX).bind fun r S3 => match r with
    | .bl k => .ok k S3
    | _ => .no
  | .cmp2 op op' a b c, ρ, S => ((ev a ρ S).bind fun v S1 => (ev b ρ S1).bind fun w S2 => (cmpT G D op v w S2).noX.bind fun k S3 => match k with
    | .bl true => (ev c ρ S3).bind fun u S4 => (cmpT G D op' w u S4).noX
    | .bl false => .ok (.bl false) S3
    | _ => .no).bind fun r S3 => match r with
    | .bl k => .ok k S3
    | _ => .no
  | .call f es kws, ρ, S => ((evs es ρ S).bind fun vs S1 => (evK kws ρ S1).bind fun ws S2 => callF G D f vs ws S2).bind fun v S3 => truthT v S3
  | .meth e m es kws, ρ, S => ((ev e ρ S).bind fun o S1 => (methPre G o m S1).bind fun f S1 => (evs es ρ S1).bind fun vs S2 => (evK kws ρ S2).bind fun ws S3 => callF G D f (o :: vs) ws S3).bind fun v S4 => truthT v S4
  | .bi b es, ρ, S => ((evs es ρ S).bind fun vs S1 => (biT G D b vs S1).noX).bind fun v S2 => truthT v S2
  | .bm e b es, ρ, S => ((ev e ρ S).bind fun o S1 => if bmOk o b S1 = true then (evs es ρ S1).bind fun vs S2 => (bmT o b vs S2).noX else .no).bind fun v S2 => truthT v S2
  | .sub a b, ρ, S => ((ev a ρ S).bind fun v S1 => (ev b ρ S1).bind fun w S2 => (subT v w S2).noX).bind fun v S2 => truthT v S2
  | .attr e f, ρ, S => ((ev e ρ S).bind fun v S1 => (attrT G v f S1).noX).bind fun v S2 => truthT v S2
  | _, _, _ => .no
noncomputable def evs : List E → Fr → Store → R (List T)
  | [], _, S => .ok [] S
  | e :: es, ρ, S => (ev e ρ S).bind fun v S1 => (evs es ρ S1).bind fun vs S2 => .ok (v :: vs) S2
noncomputable def evSt : List (Bool × E) → Fr → Store → R (List T)
  | [], _, S => .ok [] S
  | (b, e) :: es, ρ, S => (ev e ρ S).bind fun v S1 => match (if b then (match view S1 v with
      | .lst xs => some xs
      | .tup xs => some xs
      | _ => none) else some [v]) with
    | some xs => (evSt es ρ S1).bind fun vs S2 => .ok (xs ++ vs) S2
    | none => .no
noncomputable def evF : List E → Str → Fr → Store → R Str
  | [], acc, _, S => .ok acc S
  | e :: es, acc, ρ, S => (ev e ρ S).bind fun v S1 => match partS v with
    | some y => if (acc ++ y).length ≤ sizeLine then evF es (acc ++ y) ρ S1 else .no
    | none => .no
noncomputable def evK : List (Nat × E) → Fr → Store → R (List (Nat × T))
  | [], _, S => .ok [] S
  | (k, e) :: es, ρ, S => (ev e ρ S).bind fun v S1 => (evK es ρ S1).bind fun vs S2 => .ok ((k, v) :: vs) S2
noncomputable def evO : Option E → Fr → Store → R (Option Int)
  | none, _, S => .ok none S
  | some e, ρ, S => (ev e ρ S).bind fun v S1 => match v with
    | .int i => .ok (some i) S1
    | _ => .no
noncomputable def evA : A → Fr → Store → R Nd
  | .lst es, ρ, S => (evs es ρ S).bind fun vs S1 => .ok (.lst vs) S1
  | .lstS es, ρ, S => (evSt es ρ S).bind fun vs S1 => if vs.length ≤ sizeLine then .ok (.lst vs) S1 else .no
  | .dct0, _, S => .ok (.dct []) S
  | .srt e, ρ, S => (ev e ρ S).bind fun v S1 => (match view S1 v with
    | .lst xs => if keysOk xs then .ok (.lst (sortBy xs xs)) S1 else .no
    | _ => .no)
  | .srtK e b caps, ρ, S => (ev e ρ S).bind fun v S1 => (match view S1 v, capsOf ρ caps with
    | .lst xs, some cv => (match keysBy (fun y => ev b (some y :: cv.map some) S1) S1 xs with
      | some ks => if keysOk ks then .ok (.lst (sortBy xs ks)) S1 else .no
      | none => .no)
    | _, _ => .no)
  | .list e, ρ, S => (ev e ρ S).bind fun v S1 => match view S1 v with
    | .lst xs => .ok (.lst xs) S1
    | .tup xs => .ok (.lst xs) S1
    | .dct kvs => .ok (.lst (kvs.map fun kv => .str kv.1)) S1
    | _ => .no
  | .lc elt tg it ifs own, ρ, S => (evI it ρ S).bind fun (xs, ks) S1 => (lcLoop ks (fun x S => match setTg S tg x (wipeF ρ own) with
      | some ρ1 => (match ifs with
        | none => (ev elt ρ1 S).bind fun y S3 => .ok [y] S3
        | some c => (tst c ρ1 S).bind fun k S3 => match k with
          | true => (ev elt ρ1 S3).bind fun y S4 => .ok [y] S4
          | false => .ok [] S3)
      | none => .no) xs [] S1).bind fun ys S2 => .ok (.lst ys) S2
  | .lc2 elt tg it tg1 it1 ifs1 own own1, ρ, S => (evI it ρ S).bind fun (xs, ks) S1 => (lcLoop ks (fun x S => match setTg S tg x (wipeF ρ own) with
      | some ρ1 => (evI it1 ρ1 S).bind fun (xs1, ks1) S2 => lcLoop ks1 (fun x1 S => match setTg S tg1 x1 (wipeF ρ1 own1) with
        | some ρ2 => (match ifs1 with
          | none => (ev elt ρ2 S).bind fun y S3 => .ok [y] S3
          | some c => (tst c ρ2 S).bind fun k S3 => match k with
            | true => (ev elt ρ2 S3).bind fun y S4 => .ok [y] S4
            | false => .ok [] S3)
        | none => .no) xs1 [] S2
      | none => .no) xs [] S1).bind fun ys S2 => if ys.length ≤ sizeLine then .ok (.lst ys) S2 else .no
noncomputable def evI : It → Fr → Store → R Src
  | .keys i f, ρ, S => R.of (keysSrc G ρ S i f) S
  | .seq e, ρ, S => (ev e ρ S).bind fun v S1 => R.of (srcOf S1 v) S1
  | .enum e, ρ, S => (ev e ρ S).bind fun v S1 => R.of (enumSrc S1 v) S1
  | .zip a b, ρ, S => (ev a ρ S).bind fun v S1 => (ev b ρ S1).bind fun w S2 => R.of (zipSrc S2 v w) S2
  | .rng1 a, ρ, S => (ev a ρ S).bind fun v S1 => match v with
    | .int j => if -(2 ^ 62) ≤ j ∧ j < 2 ^ 62 then .ok (rngTo 0 j, []) S1 else .no
    | _ => .no
  | .rng2 a b, ρ, S => (ev a ρ S).bind fun v S1 => (ev b ρ S1).bind fun w S2 => match v, w with
    | .int i, .int j => if -(2 ^ 62) ≤ i ∧ i < 2 ^ 62 ∧ -(2 ^ 62) ≤ j ∧ j < 2 ^ 62 then .ok (rngTo i j, []) S2 else .no
    | _, _ => .no
end

/-! ### statements -/
inductive O where
  | nx (ρ : Fr) (S : Store)
  | rt (v : T) (S : Store)
  | xc (x : T) (ρ : Fr) (S : Store)
  | no
def R.thn {α : Type} (r : R α) (ρ : Fr) (k : α → Store → O) : O := match r with
  | .ok a S => k a S
  | .exc x S => .xc x ρ S
  | .no => .no
def O.thn (o : O) (k : Fr → Store → O) : O := match o with
  | .nx ρ S => k ρ S
  | o => o
def putN (f : Nat) (v : T) : List (Nat × T) → List (Nat × T)
  | [] => [(f, v)]
  | (g, w) :: r => if g = f then (g, v) :: r else (g, w) :: putN f v r
def putS (f : Str) (v : T) (l : List (Str × T)) : List (Str × T) :=
  if (l.any fun kv => decide (kv.1 = f)) = true then l.map (fun kv => if kv.1 = f then (kv.1, v) else kv) else l ++ [(f, v)]
/-- a field of a mutable object: the dict or list that it holds is frozen from now on -/
def settleS (ρ : Fr) (S : Store) (i f : Nat) : Option Store := match ρ[i]? with
  | some (some (.ref k)) => (match S.nd k with
    | some (.ins c fs) => (match fs.lookup f with
      | some (.ref j) => if j = k then none else (match S.nd j with
        | some (.dct kvs) => some ((S.set j none).set k (some (.ins c (putN f (.dct kvs) fs))))
        | some (.lst xs) => some ((S.set j none).set k (some (.ins c (putN f (.lst xs) fs))))
        | _ => none)
      | _ => none)
    | _ => none)
  | _ => none
/-- a slot's new list or dict is frozen from now on -/
def hardS (ρ : Fr) (S : Store) (i : Nat) : Option (Fr × Store) := match ρ[i]? with
  | some (some v) => (match frz 0 8 v S with
    | some (v', S1) => some (ρ.set i (some v'), S1)
    | none => none)
  | _ => none
def setAll (ρ : Fr) (is : List Nat) (vs : List T) : Fr := (is.zip vs).foldl (fun ρ p => ρ.set p.1 (some p.2)) ρ
/-- a target's store -/
noncomputable def stLv (t : Lv) (v : T) (ρ : Fr) (S : Store) : O := match t with
  | .nm i => .nx (ρ.set i (some v)) S
  | .tp is => (match v with
    | .tup vs => if vs.length = is.length then .nx (setAll ρ is vs) S else .no
    | _ => .no)
  | .at o f => (ev G D o ρ S).thn ρ fun w S1 => match w with
    | .ref k => (match S1.nd k with
      | some (.ins c fs) => (match G.cls c with
        | some cl => if fs.length < 1000 ∧ cl.flds.contains f = true ∧ cl.kind ≠ 2 then .nx ρ (S1.set k (some (.ins c (putN f v fs)))) else .no
        | none => .no)
      | _ => .no)
    | _ => .no
  | .sbL o i => (ev G D o ρ S).thn ρ fun w S1 => (ev G D i ρ S1).thn ρ fun j S2 => match w, j with
    | .ref k, .int n => (match S2.nd k with
      | some (.lst xs) => (match ixN xs.length n with
        | some m => .nx ρ (S2.set k (some (.lst (xs.set m v))))
        | none => .no)
      | _ => .no)
    | _, _ => .no
  | .sbD o i => (ev G D o ρ S).thn ρ fun w S1 => (ev G D i ρ S1).thn ρ fun j S2 => match w, j with
    | .ref k, .str x => (match S2.nd k with
      | some (.dct kvs) => if kvs.length < sizeLine then .nx ρ (S2.set k (some (.dct (putS x v kvs)))) else .no
      | _ => .no)
    | _, _ => .no
open Classical in
/-- the turns of a for -/
noncomputable def forLoop (ks : List (Nat × List T)) (turn : T → Fr → Store → O) : List T → Fr → Store → O
  | [], ρ, S => if still S ks then .nx ρ S else .no
  | x :: xs, ρ, S => if still S ks then (turn x ρ S).thn fun ρ1 S1 => forLoop ks turn xs ρ1 S1 else .no
mutual
noncomputable def exec : St → Fr → Store → O
  | .pass, ρ, S => .nx ρ S
  | .ex e, ρ, S => (ev G D e ρ S).thn ρ fun _ S1 => .nx ρ S1
  | .asg t e, ρ, S => (ev G D e ρ S).thn ρ fun v S1 => stLv G D t v ρ S1
  | .par is es, ρ, S => (evs G D es ρ S).thn ρ fun vs S1 => if vs.length = is.length then .nx (setAll ρ is vs) S1 else .no
  | .ret e, ρ, S => (ev G D e ρ S).thn ρ fun v S1 => .rt v S1
  | .retN, _, S => .rt .non S
  | .ifS c a b, ρ, S => (tst G D c ρ S).thn ρ fun k S1 => match k with
    | true => execs a ρ S1
    | false => execs b ρ S1
  | .forS tg it body, ρ, S => (evI G D it ρ S).thn ρ fun (xs, ks) S1 => forLoop ks (fun x ρ1 S => match setTg S tg x ρ1 with
    | some ρ2 => execs body ρ2 S
    | none => .no) xs ρ S1
  | .no, _, _ => .no
  | .settle i f, ρ, S => (match settleS ρ S i f with
    | some S1 => .nx ρ S1
    | none => .no)
  | .hard i, ρ, S => (match hardS ρ S i with
    | some (ρ1, S1) => .nx ρ1 S1
    | none => .no)
noncomputable def execs : List St → Fr → Store → O
  | [], ρ, S => .nx ρ S
  | s :: r, ρ, S => (exec s ρ S).thn fun ρ1 S1 => execs r ρ1 S1
end
end
def O.toR : O → R T
  | .nx _ S => .ok .non S
  | .rt v S => .ok v S
  | .xc x _ S => .exc x S
  | .no => .no
def startF (n : Nat) (vs : List T) : Fr := vs.map some ++ List.replicate (n - vs.length) none
/-- the program, to a depth of calls -/
noncomputable def runN (G : Gam) : Nat → Run
  | 0, _, _, _ => .no
  | n + 1, f, vs, S => match G.fns f with
    | some fn => if fn.pure = true then sealR S (execs G (runN G n) fn.body (startF fn.slots vs) S).toR else (execs G (runN G n) fn.body (startF fn.slots vs) S).toR
    | none => .no
end NH
end
section
namespace NH
open PySem L2

/-- where the classes and defs stand; the table of names -/
structure Ad where
  c : Nat → Addr
  f : Nat → Addr
  nm : Nat → Str
  n : Nat
  inj : ∀ i j, i < n → j < n → nm i = nm j → i = j
  /-- the defs' tables of code objects, with the names that they make -/
  T : List (Addr × Str)
/-- what is frozen for good; where the store's nodes stand -/
structure Gh where
  F : Addr → Prop
  m : Nat → Option Addr

/-- a tuple of the written part -/
def KTup (K : PySem.W.Frag) (a : Addr) (xs : List V) : Prop :=
  ∃ (o : Obj) (its : Array Value) (n : Nat), K.lookup a = some o ∧ o.cls = .type "tuple" ∧ o.data = .seq its n ∧ its.size ≤ sizeLine ∧ Vals xs its.toList

/-- a list of the written part -/
def KLst (K : PySem.W.Frag) (a : Addr) (xs : List V) : Prop :=
  ∃ (o : Obj) (its : Array Value) (n : Nat), K.lookup a = some o ∧ o.cls = .type "list" ∧ o.dict = none ∧ o.data = .seq its n ∧ its.size ≤ sizeLine ∧ Vals xs its.toList

mutual
inductive Rep (K : PySem.W.Frag) (A : Ad) (H : Hp) (g : Gh) : V → T → Prop
  | non : Rep K A H g .non .non
  | bl (b : Bool) : Rep K A H g (.bl b) (.bl b)
  | int (i : Int) : Rep K A H g (.int i) (.int i)
  | str (x : Str) : PyData.strOk x = true → Rep K A H g (.str x) (.str x)
  | ty (n : String) : Rep K A H g (.ty n) (.ty n)
  | cls (c : Nat) : Rep K A H g (.ref (A.c c)) (.cls c)
  | fn (f : Nat) : Rep K A H g (.ref (A.f f)) (.fn f)
  | ref {k : Nat} {a : Addr} : g.m k = some a → Rep K A H g (.ref a) (.ref k)
  | scr {a : Addr} {ns : List Int} : (g.F a ∧ Rd H a (.lst (ns.map V.int))) ∨ KLst K a (ns.map V.int) → Rep K A H g (.ref a) (.scr ns)
  | lst {a : Addr} {vs : List V} {ts : List T} : g.F a → H a = some (.lst vs) → Reps K A H g vs ts → Rep K A H g (.ref a) (.lst ts)
  | tup {a : Addr} {vs : List V} {ts : List T} : (g.F a ∧ H a = some (.tup vs)) ∨ KTup K a vs → Reps K A H g vs ts → Rep K A H g (.ref a) (.tup ts)
  | dct {a : Addr} {kvs : List (Key × V)} {ts : List (Str × T)} : g.F a → Rd H a (.dK kvs) → RepD K A H g kvs ts → Rep K A H g (.ref a) (.dct ts)
  | ins {a dx : Addr} {c : Nat} {fs : List (Str × V)} {ts : List (Nat × T)} : g.F a → H a = some (.ins (A.c c) dx fs) → RepF K A H g fs ts → Rep K A H g (.ref a) (.ins c ts)
inductive Reps (K : PySem.W.Frag) (A : Ad) (H : Hp) (g : Gh) : List V → List T → Prop
  | nil : Reps K A H g [] []
  | cons {v : V} {vs : List V} {t : T} {ts : List T} : Rep K A H g v t → Reps K A H g vs ts → Reps K A H g (v :: vs) (t :: ts)
inductive RepD (K : PySem.W.Frag) (A : Ad) (H : Hp) (g : Gh) : List (Key × V) → List (Str × T) → Prop
  | nil : RepD K A H g [] []
  | cons {k : Str} {v : V} {vs : List (Key × V)} {t : T} {ts : List (Str × T)} : PyData.strOk k = true → Rep K A H g v t → RepD K A H g vs ts → RepD K A H g ((.inr k, v) :: vs) ((k, t) :: ts)
inductive RepF (K : PySem.W.Frag) (A : Ad) (H : Hp) (g : Gh) : List (Str × V) → List (Nat × T) → Prop
  | nil : RepF K A H g [] []
  | cons {f : Nat} {v : V} {vs : List (Str × V)} {t : T} {ts : List (Nat × T)} : f < A.n → Rep K A H g v t → RepF K A H g vs ts → RepF K A H g ((A.nm f, v) :: vs) ((f, t) :: ts)
end
/-- a store's node at its place -/
inductive NdR (K : PySem.W.Frag) (A : Ad) (H : Hp) (g : Gh) (a : Addr) : Nd → Prop
  | lst {vs : List V} {ts : List T} : H a = some (.lst vs) → Reps K A H g vs ts → NdR K A H g a (.lst ts)
  | dct {kvs : List (Key × V)} {ts : List (Str × T)} : H a = some (.dK kvs) → RepD K A H g kvs ts → NdR K A H g a (.dct ts)
  | ins {dx : Addr} {c : Nat} {fs : List (Str × V)} {ts : List (Nat × T)} : H a = some (.ins (A.c c) dx fs) → RepF K A H g fs ts → NdR K A H g a (.ins c ts)

/-- from one state to a later one -/
structure Ex (g : Gh) (H : Hp) (g' : Gh) (H' : Hp) : Prop where
  fk : ∀ a, g.F a → g'.F a ∧ H' a = H a
  km : ∀ k a, g.m k = some a → g'.m k = some a
  ok : ∀ a o, H a = some o → (∀ k, g.m k ≠ some a) → (∀ ps, o ≠ .tbl ps) → H' a = some o
  nw : ∀ k a, g'.m k = some a → g.m k = some a ∨ H a = none
  lv : ∀ a, H a ≠ none → H' a ≠ none
  nf : ∀ a, g'.F a → g.F a ∨ H a = none ∨ ∃ k, g.m k = some a
  cd : ∀ a c q, H a = some (LamX.CodeO c q) → H' a = some (LamX.CodeO c q)
theorem Ex.refl {g : Gh} {H : Hp} : Ex g H g H := ⟨fun _ h => ⟨h, rfl⟩, fun _ _ h => h, fun _ _ h _ _ => h, fun _ _ h => .inl h, fun _ h => h, fun _ h => .inl h, fun _ _ _ h => h⟩
theorem Ex.trans {g g' g'' : Gh} {H H' H'' : Hp} (x : Ex g H g' H') (y : Ex g' H' g'' H'') : Ex g H g'' H'' where
  fk := fun a h => ⟨(y.fk a (x.fk a h).1).1, (y.fk a (x.fk a h).1).2.trans (x.fk a h).2⟩
  km := fun k a h => y.km k a (x.km k a h)
  ok := fun a o h hn ht => y.ok a o (x.ok a o h hn ht) (fun k e => (x.nw k a e).elim (hn k) fun z => by rw [h] at z; cases z) ht
  nw := fun k a h => (y.nw k a h).elim (fun z => x.nw k a z) fun z => .inr (by
    cases e : H a with
    | none => rfl
    | some o => exact absurd z (x.lv a (by rw [e]; simp)))
  lv := fun a h => y.lv a (x.lv a h)
  nf := fun a h => by
    have hn : H' a = none → H a = none := fun z => by
      cases e : H a with
      | none => rfl
      | some o => exact absurd z (x.lv a (by rw [e]; simp))
    rcases y.nf a h with z | z | ⟨k, z⟩
    · exact x.nf a z
    · exact .inr (.inl (hn z))
    · rcases x.nw k a z with q | q
      · exact .inr (.inr ⟨k, q⟩)
      · exact .inr (.inl q)
  cd := fun a c q h => y.cd a c q (x.cd a c q h)

section
variable {K : PySem.W.Frag} {A : Ad} {g g' : Gh} {H H' : Hp}
theorem Rd.ex {a : Addr} {o : HO} (x : Ex g H g' H') (f : g.F a) (h : Rd H a o) : Rd H' a o := by
  unfold Rd
  rw [(x.fk a f).2]
  exact h
mutual
theorem Rep.gen (km : ∀ k a, g.m k = some a → g'.m k = some a) (fk : ∀ a, g.F a → g'.F a ∧ H' a = H a) : ∀ {t : T} {v : V}, Rep K A H g v t → Rep K A H' g' v t
  | .non, _, h => by cases h; exact .non
  | .bl _, _, h => by cases h; exact .bl _
  | .int _, _, h => by cases h; exact .int _
  | .str _, _, h => by cases h with | str _ q => exact .str _ q
  | .ty _, _, h => by cases h; exact .ty _
  | .cls _, _, h => by cases h; exact .cls _
  | .fn _, _, h => by cases h; exact .fn _
  | .ref _, _, h => by cases h with | ref q => exact .ref (km _ _ q)
  | .scr ns, _, h => by cases h with | scr q => exact .scr (q.elim (fun z => .inl ⟨(fk _ z.1).1, by have := z.2; unfold Rd at *; rw [(fk _ z.1).2]; exact this⟩) .inr)
  | .lst ts, _, h => by cases h with | lst f q r => exact .lst (fk _ f).1 ((fk _ f).2.trans q) (Reps.gen km fk r)
  | .tup ts, _, h => by
    cases h with
    | tup q r => exact .tup (q.elim (fun z => .inl ⟨(fk _ z.1).1, (fk _ z.1).2.trans z.2⟩) .inr) (Reps.gen km fk r)
  | .dct ts, _, h => by cases h with | dct f q r => exact .dct (fk _ f).1 (by unfold Rd at *; rw [(fk _ f).2]; exact q) (RepD.gen km fk r)
  | .ins _ ts, _, h => by cases h with | ins f q r => exact .ins (fk _ f).1 ((fk _ f).2.trans q) (RepF.gen km fk r)
  | .exc _ _, _, h => by cases h
theorem Reps.gen (km : ∀ k a, g.m k = some a → g'.m k = some a) (fk : ∀ a, g.F a → g'.F a ∧ H' a = H a) : ∀ {ts : List T} {vs : List V}, Reps K A H g vs ts → Reps K A H' g' vs ts
  | [], _, h => by cases h; exact .nil
  | _ :: _, _, h => by cases h with | cons a b => exact .cons (Rep.gen km fk a) (Reps.gen km fk b)
theorem RepD.gen (km : ∀ k a, g.m k = some a → g'.m k = some a) (fk : ∀ a, g.F a → g'.F a ∧ H' a = H a) : ∀ {ts : List (Str × T)} {vs : List (Key × V)}, RepD K A H g vs ts → RepD K A H' g' vs ts
  | [], _, h => by cases h; exact .nil
  | (_, _) :: _, _, h => by cases h with | cons k a b => exact .cons k (Rep.gen km fk a) (RepD.gen km fk b)
theorem RepF.gen (km : ∀ k a, g.m k = some a → g'.m k = some a) (fk : ∀ a, g.F a → g'.F a ∧ H' a = H a) : ∀ {ts : List (Nat × T)} {vs : List (Str × V)}, RepF K A H g vs ts → RepF K A H' g' vs ts
  | [], _, h => by cases h; exact .nil
  | (_, _) :: _, _, h => by cases h with | cons k a b => exact .cons k (Rep.gen km fk a) (RepF.gen km fk b)
end
theorem Rep.ex (x : Ex g H g' H') {t : T} {v : V} (h : Rep K A H g v t) : Rep K A H' g' v t := h.gen x.km x.fk
theorem Reps.ex (x : Ex g H g' H') {ts : List T} {vs : List V} (h : Reps K A H g vs ts) : Reps K A H' g' vs ts := h.gen x.km x.fk
theorem RepD.ex (x : Ex g H g' H') {ts : List (Str × T)} {vs : List (Key × V)} (h : RepD K A H g vs ts) : RepD K A H' g' vs ts := h.gen x.km x.fk
theorem RepF.ex (x : Ex g H g' H') {ts : List (Nat × T)} {vs : List (Str × V)} (h : RepF K A H g vs ts) : RepF K A H' g' vs ts := h.gen x.km x.fk
theorem Reps.length : ∀ {vs : List V} {ts : List T}, Reps K A H g vs ts → vs.length = ts.length
  | _, _, .nil => rfl
  | _, _, .cons _ r => congrArg Nat.succ (Reps.length r)
theorem RepD.length : ∀ {vs : List (Key × V)} {ts : List (Str × T)}, RepD K A H g vs ts → vs.length = ts.length
  | _, _, .nil => rfl
  | _, _, .cons _ _ r => congrArg Nat.succ (RepD.length r)
theorem RepF.length : ∀ {vs : List (Str × V)} {ts : List (Nat × T)}, RepF K A H g vs ts → vs.length = ts.length
  | _, _, .nil => rfl
  | _, _, .cons _ _ r => congrArg Nat.succ (RepF.length r)
theorem Reps.get : ∀ {vs : List V} {ts : List T} {i : Nat} {t : T}, Reps K A H g vs ts → ts[i]? = some t → ∃ v, vs[i]? = some v ∧ Rep K A H g v t
  | _, _, _, _, .nil, e => by simp at e
  | _, _, 0, _, .cons a _, e => by simp at e; subst e; exact ⟨_, rfl, a⟩
  | _, _, i + 1, t, .cons _ r, e => by
    obtain ⟨v, h1, h2⟩ := Reps.get (i := i) r (by simpa using e)
    exact ⟨v, by simpa using h1, h2⟩
theorem Reps.get' : ∀ {vs : List V} {ts : List T} {i : Nat} {v : V}, Reps K A H g vs ts → vs[i]? = some v → ∃ t, ts[i]? = some t ∧ Rep K A H g v t
  | _, _, _, _, .nil, e => by simp at e
  | _, _, 0, _, .cons a _, e => by simp at e; subst e; exact ⟨_, rfl, a⟩
  | _, _, i + 1, t, .cons _ r, e => by
    obtain ⟨v, h1, h2⟩ := Reps.get' (i := i) r (by simpa using e)
    exact ⟨v, by simpa using h1, h2⟩
theorem Reps.append : ∀ {vs ws : List V} {ts us : List T}, Reps K A H g vs ts → Reps K A H g ws us → Reps K A H g (vs ++ ws) (ts ++ us)
  | _, _, _, _, .nil, s => s
  | _, _, _, _, .cons a r, s => .cons a (Reps.append r s)
theorem Reps.take : ∀ {vs : List V} {ts : List T} (n : Nat), Reps K A H g vs ts → Reps K A H g (vs.take n) (ts.take n)
  | _, _, 0, _ => .nil
  | _, _, _ + 1, .nil => .nil
  | _, _, n + 1, .cons a r => .cons a (Reps.take n r)
theorem Reps.drop : ∀ {vs : List V} {ts : List T} (n : Nat), Reps K A H g vs ts → Reps K A H g (vs.drop n) (ts.drop n)
  | _, _, 0, r => r
  | _, _, _ + 1, .nil => .nil
  | _, _, n + 1, .cons _ r => Reps.drop n r
theorem Reps.set {v : V} {t : T} (h : Rep K A H g v t) : ∀ {vs : List V} {ts : List T} (i : Nat), Reps K A H g vs ts → Reps K A H g (vs.set i v) (ts.set i t)
  | _, _, _, .nil => .nil
  | _, _, 0, .cons _ r => .cons h r
  | _, _, i + 1, .cons a r => .cons a (Reps.set h i r)
theorem RepF.look : ∀ {vs : List (Str × V)} {ts : List (Nat × T)} {f : Nat}, RepF K A H g vs ts → f < A.n → (∀ t, ts.lookup f = some t → ∃ v, vs.lookup (A.nm f) = some v ∧ Rep K A H g v t) ∧ (ts.lookup f = none → vs.lookup (A.nm f) = none)
  | _, _, _, .nil, _ => ⟨fun _ e => by simp at e, fun _ => rfl⟩
  | _, _, f, .cons (f := f') hk a r, hf => by
    obtain ⟨i1, i2⟩ := RepF.look (f := f) r hf
    by_cases e : f = f'
    · subst e
      refine ⟨fun t q => ?_, fun q => ?_⟩
      · simp [List.lookup_cons] at q ⊢
        subst q
        exact a
      · simp [List.lookup_cons] at q
    · have e' : A.nm f ≠ A.nm f' := fun z => e (A.inj _ _ hf hk z)
      have b1 : (f == f') = false := by simpa using e
      have b2 : (A.nm f == A.nm f') = false := by simpa using e'
      simp only [List.lookup_cons, b1, b2]
      exact ⟨i1, i2⟩
theorem RepF.put {f : Nat} {v : V} {t : T} (hf : f < A.n) (h : Rep K A H g v t) : ∀ {vs : List (Str × V)} {ts : List (Nat × T)}, RepF K A H g vs ts → RepF K A H g (putF (A.nm f) v vs) (putN f t ts)
  | _, _, .nil => .cons hf h .nil
  | _, _, .cons (f := f') hk a r => by
    unfold putF putN
    by_cases e : f' = f
    · subst e
      rw [if_pos rfl, if_pos rfl]
      exact .cons hk h r
    · rw [if_neg e, if_neg (fun z => e (A.inj _ _ hk hf z))]
      exact .cons hk a (RepF.put hf h r)
end

section
variable {K : PySem.W.Frag} {A : Ad} {g g' : Gh} {H : Hp}
mutual
/-- the same heap, more told -/
theorem Rep.weak (km : ∀ k a, g.m k = some a → g'.m k = some a) (fk : ∀ a, g.F a → g'.F a) : ∀ {t : T} {v : V}, Rep K A H g v t → Rep K A H g' v t
  | .non, _, h => by cases h; exact .non
  | .bl _, _, h => by cases h; exact .bl _
  | .int _, _, h => by cases h; exact .int _
  | .str _, _, h => by cases h with | str _ q => exact .str _ q
  | .ty _, _, h => by cases h; exact .ty _
  | .cls _, _, h => by cases h; exact .cls _
  | .fn _, _, h => by cases h; exact .fn _
  | .ref _, _, h => by cases h with | ref q => exact .ref (km _ _ q)
  | .scr ns, _, h => by cases h with | scr q => exact .scr (q.elim (fun z => .inl ⟨fk _ z.1, z.2⟩) .inr)
  | .lst ts, _, h => by cases h with | lst f q r => exact .lst (fk _ f) q (Reps.weak km fk r)
  | .tup ts, _, h => by
    cases h with
    | tup q r => exact .tup (q.elim (fun z => .inl ⟨fk _ z.1, z.2⟩) .inr) (Reps.weak km fk r)
  | .dct ts, _, h => by cases h with | dct f q r => exact .dct (fk _ f) q (RepD.weak km fk r)
  | .ins _ ts, _, h => by cases h with | ins f q r => exact .ins (fk _ f) q (RepF.weak km fk r)
  | .exc _ _, _, h => by cases h
theorem Reps.weak (km : ∀ k a, g.m k = some a → g'.m k = some a) (fk : ∀ a, g.F a → g'.F a) : ∀ {ts : List T} {vs : List V}, Reps K A H g vs ts → Reps K A H g' vs ts
  | [], _, h => by cases h; exact .nil
  | _ :: _, _, h => by cases h with | cons a b => exact .cons (Rep.weak km fk a) (Reps.weak km fk b)
theorem RepD.weak (km : ∀ k a, g.m k = some a → g'.m k = some a) (fk : ∀ a, g.F a → g'.F a) : ∀ {ts : List (Str × T)} {vs : List (Key × V)}, RepD K A H g vs ts → RepD K A H g' vs ts
  | [], _, h => by cases h; exact .nil
  | (_, _) :: _, _, h => by cases h with | cons k a b => exact .cons k (Rep.weak km fk a) (RepD.weak km fk b)
theorem RepF.weak (km : ∀ k a, g.m k = some a → g'.m k = some a) (fk : ∀ a, g.F a → g'.F a) : ∀ {ts : List (Nat × T)} {vs : List (Str × V)}, RepF K A H g vs ts → RepF K A H g' vs ts
  | [], _, h => by cases h; exact .nil
  | (_, _) :: _, _, h => by cases h with | cons k a b => exact .cons k (Rep.weak km fk a) (RepF.weak km fk b)
end
mutual
/-- old references are told by the old ghosts -/
theorem Rep.cut {n : Nat} (km : ∀ k a, k < n → g.m k = some a → g'.m k = some a) (fk : ∀ a, g.F a → g'.F a) : ∀ {t : T} {v : V}, t.old n = true → Rep K A H g v t → Rep K A H g' v t
  | .non, _, _, h => by cases h; exact .non
  | .bl _, _, _, h => by cases h; exact .bl _
  | .int _, _, _, h => by cases h; exact .int _
  | .str _, _, _, h => by cases h with | str _ q => exact .str _ q
  | .ty _, _, _, h => by cases h; exact .ty _
  | .cls _, _, _, h => by cases h; exact .cls _
  | .fn _, _, _, h => by cases h; exact .fn _
  | .ref _, _, o, h => by cases h with | ref q => exact .ref (km _ _ (by simpa [T.old] using o) q)
  | .scr ns, _, _, h => by cases h with | scr q => exact .scr (q.elim (fun z => .inl ⟨fk _ z.1, z.2⟩) .inr)
  | .lst ts, _, o, h => by cases h with | lst f q r => exact .lst (fk _ f) q (Reps.cut km fk (by simpa [T.old] using o) r)
  | .tup ts, _, o, h => by
    cases h with
    | tup q r => exact .tup (q.elim (fun z => .inl ⟨fk _ z.1, z.2⟩) .inr) (Reps.cut km fk (by simpa [T.old] using o) r)
  | .dct ts, _, o, h => by cases h with | dct f q r => exact .dct (fk _ f) q (RepD.cut km fk (by simpa [T.old] using o) r)
  | .ins _ ts, _, o, h => by cases h with | ins f q r => exact .ins (fk _ f) q (RepF.cut km fk (by simpa [T.old] using o) r)
  | .exc _ _, _, _, h => by cases h
theorem Reps.cut {n : Nat} (km : ∀ k a, k < n → g.m k = some a → g'.m k = some a) (fk : ∀ a, g.F a → g'.F a) : ∀ {ts : List T} {vs : List V}, T.oldL n ts = true → Reps K A H g vs ts → Reps K A H g' vs ts
  | [], _, _, h => by cases h; exact .nil
  | _ :: _, _, o, h => by
    simp only [T.oldL, Bool.and_eq_true] at o
    cases h with | cons a b => exact .cons (Rep.cut km fk o.1 a) (Reps.cut km fk o.2 b)
theorem RepD.cut {n : Nat} (km : ∀ k a, k < n → g.m k = some a → g'.m k = some a) (fk : ∀ a, g.F a → g'.F a) : ∀ {ts : List (Str × T)} {vs : List (Key × V)}, T.oldD n ts = true → RepD K A H g vs ts → RepD K A H g' vs ts
  | [], _, _, h => by cases h; exact .nil
  | (_, _) :: _, _, o, h => by
    simp only [T.oldD, Bool.and_eq_true] at o
    cases h with | cons k a b => exact .cons k (Rep.cut km fk o.1 a) (RepD.cut km fk o.2 b)
theorem RepF.cut {n : Nat} (km : ∀ k a, k < n → g.m k = some a → g'.m k = some a) (fk : ∀ a, g.F a → g'.F a) : ∀ {ts : List (Nat × T)} {vs : List (Str × V)}, T.oldF n ts = true → RepF K A H g vs ts → RepF K A H g' vs ts
  | [], _, _, h => by cases h; exact .nil
  | (_, _) :: _, _, o, h => by
    simp only [T.oldF, Bool.and_eq_true] at o
    cases h with | cons k a b => exact .cons k (Rep.cut km fk o.1 a) (RepF.cut km fk o.2 b)
end
end
theorem tabs_far {T : List (Addr × Str)} {H H' : Hp} (t : LamX.Tabs T H) (e : ∀ b o, H b = some o → (∀ vs, o ≠ .lst vs) → (∀ kv, o ≠ .dK kv) → (∀ a kv, o ≠ .frz a kv) → (∀ c dx fs, o ≠ .ins c dx fs) → H' b = some o) : LamX.Tabs T H' := fun q hq => by
  obtain ⟨ps, t1, t2, t3⟩ := t q hq
  refine ⟨ps, e _ _ t1 (by simp) (by simp) (by simp) (by simp), t2, fun pos cv hc => ?_⟩
  obtain ⟨c', e1, e2⟩ := t3 pos cv hc
  exact ⟨c', e1, e _ _ e2 (by unfold LamX.CodeO; simp) (by unfold LamX.CodeO; simp) (by unfold LamX.CodeO; simp) (by unfold LamX.CodeO; simp)⟩
/-- the store stands in the heap -/
structure Cn (K : PySem.W.Frag) (A : Ad) (g : Gh) (H : Hp) (S : Store) : Prop where
  live : ∀ a, g.F a → H a ≠ none
  mlive : ∀ k a, g.m k = some a → H a ≠ none
  nd : ∀ k x, S[k]? = some (some x) → ∃ a, g.m k = some a ∧ ¬ g.F a ∧ NdR K A H g a x
  inj : ∀ i j a, g.m i = some a → g.m j = some a → i = j
  len : ∀ k a, g.m k = some a → k < S.length
  tab : LamX.Tabs A.T H
  ft : ∀ a, g.F a → ∀ ps, H a ≠ some (.tbl ps)
end NH
end
section
namespace NH
open PySem L2

def Gh.addF (g : Gh) (p : Addr) : Gh := ⟨fun a => g.F a ∨ a = p, g.m⟩
def Gh.addM (g : Gh) (k : Nat) (p : Addr) : Gh := ⟨g.F, fun j => if j = k then some p else g.m j⟩
def Gh.cut (g : Gh) (n : Nat) : Gh := ⟨g.F, fun k => if k < n then g.m k else none⟩

section
variable {K : PySem.W.Frag} {A : Ad} {g g' : Gh} {H H' : Hp} {S S' : Store} {a p : Addr} {k : Nat} {x : Nd}

theorem NdR.ex (e : Ex g H g' H') (ha : H' a = H a) (h : NdR K A H g a x) : NdR K A H' g' a x := by
  cases h with
  | lst q r => exact .lst (ha.trans q) (r.ex e)
  | dct q r => exact .dct (ha.trans q) (r.ex e)
  | ins q r => exact .ins (ha.trans q) (r.ex e)
theorem NdR.there (h : NdR K A H g a x) : H a ≠ none := by
  cases h with
  | lst q r => rw [q]; simp
  | dct q r => rw [q]; simp
  | ins q r => rw [q]; simp
theorem NdR.nt (h : NdR K A H g a x) : ∀ ps, H a ≠ some (.tbl ps) := fun ps z => by
  cases h with
  | lst q r => rw [q] at z; cases z
  | dct q r => rw [q] at z; cases z
  | ins q r => rw [q] at z; cases z
theorem NdR.nc (h : NdR K A H g a x) : ∀ c q, H a ≠ some (LamX.CodeO c q) := fun c q z => by
  unfold LamX.CodeO at z
  cases h with
  | lst q r => rw [q] at z; cases z
  | dct q r => rw [q] at z; cases z
  | ins q r => rw [q] at z; cases z
theorem Cn.nF (c : Cn K A g H S) (hp : H p = none) : ¬ g.F p := fun h => c.live p h hp
theorem Cn.nM (c : Cn K A g H S) (hp : H p = none) : ∀ j, g.m j ≠ some p := fun j h => c.mlive j p h hp
theorem Cn.fresh (c : Cn K A g H S) : g.m S.length = none := by
  cases e : g.m S.length with
  | none => rfl
  | some a => exact absurd (c.len _ _ e) (Nat.lt_irrefl _)

/-- a new object that is not known to the store -/
theorem Cn.new (c : Cn K A g H S) {o : HO} (hp : H p = none) : Ex g H g (upd H p o) ∧ Cn K A g (upd H p o) S := by
  have ex : Ex g H g (upd H p o) :=
    ⟨fun b h => ⟨h, upd_ne fun e => c.nF hp (e ▸ h)⟩, fun _ _ h => h, fun b o' h _ _ => by rw [upd_ne (ne_of_none h hp)]; exact h, fun _ _ h => .inl h, fun b h => by
      by_cases e : b = p
      · subst e; exact absurd hp h
      · rw [upd_ne e]; exact h, fun _ h => .inl h, fun b _ _ h => by rw [upd_ne (ne_of_none h hp)]; exact h⟩
  refine ⟨ex, fun b h => ex.lv b (c.live b h), fun k b h => ex.lv b (c.mlive k b h), fun k x h => ?_, c.inj, c.len, c.tab.ext fun b o h => by rw [upd_ne (ne_of_none h hp)]; exact h, fun b h ps z => c.ft b h ps ((upd_ne fun e : b = p => c.nF hp (e ▸ h)).symm.trans z)⟩
  obtain ⟨b, h1, h2, h3⟩ := c.nd k x h
  exact ⟨b, h1, h2, h3.ex ex (upd_ne fun e => c.nM hp k (e ▸ h1))⟩
/-- an object that the store does not know is frozen -/
theorem Cn.keep (c : Cn K A g H S) (hp : H p ≠ none) (ht : ∀ ps, H p ≠ some (.tbl ps)) (hm : ∀ j x, S[j]? = some (some x) → g.m j ≠ some p) {g0 : Gh} {H0 : Hp} (e0 : Ex g0 H0 g H) (h0 : H0 p = none ∨ ∃ k, g0.m k = some p) : Ex g0 H0 (g.addF p) H ∧ Cn K A (g.addF p) H S := by
  have ex0 : Ex g0 H0 (g.addF p) H := ⟨fun b h => ⟨.inl (e0.fk b h).1, (e0.fk b h).2⟩, e0.km, e0.ok, e0.nw, e0.lv, fun b h => by
    rcases h with h | h
    · exact e0.nf b h
    · subst h; exact .inr h0, e0.cd⟩
  have up : ∀ {x : Nd} {b : Addr}, NdR K A H g b x → NdR K A H (g.addF p) b x := fun {x b} h => by
    cases h with
    | lst q r => exact .lst q (Reps.weak (g := g) (g' := g.addF p) (fun _ _ z => z) (fun _ z => Or.inl z) r)
    | dct q r => exact .dct q (RepD.weak (g := g) (g' := g.addF p) (fun _ _ z => z) (fun _ z => Or.inl z) r)
    | ins q r => exact .ins q (RepF.weak (g := g) (g' := g.addF p) (fun _ _ z => z) (fun _ z => Or.inl z) r)
  refine ⟨ex0, fun b h => ?_, fun k b h => c.mlive k b h, fun k x h => ?_, c.inj, c.len, c.tab, fun b h => ?_⟩
  rotate_right
  · rcases h with h | h
    · exact c.ft b h
    · subst h; exact ht
  · rcases h with h | h
    · exact c.live b h
    · subst h; exact hp
  · obtain ⟨b, h1, h2, h3⟩ := c.nd k x h
    refine ⟨b, h1, fun z => ?_, up h3⟩
    rcases z with z | z
    · exact h2 z
    · subst z; exact hm k x h h1
/-- .. is known to the store from now on -/
theorem Cn.own (c : Cn K A g H S) (hp : H p ≠ none) (hF : ¬ g.F p) (hm : ∀ j, g.m j ≠ some p) {H0 : Hp} {g0 : Gh} (e0 : Ex g0 H0 g H) (h0 : H0 p = none) (hx : NdR K A H g p x) :
    Ex g0 H0 (g.addM S.length p) H ∧ Cn K A (g.addM S.length p) H (S ++ [some x]) := by
  have hf := c.fresh
  have km : ∀ k a, g.m k = some a → (g.addM S.length p).m k = some a := fun k a h => by
    show (if k = S.length then some p else g.m k) = some a
    rw [if_neg (fun z => by rw [z, hf] at h; cases h)]
    exact h
  have up : ∀ {y : Nd} {b : Addr}, NdR K A H g b y → NdR K A H (g.addM S.length p) b y := fun {y b} hy => by
    cases hy with
    | lst q r => exact .lst q (Reps.weak km (fun _ z => z) r)
    | dct q r => exact .dct q (RepD.weak km (fun _ z => z) r)
    | ins q r => exact .ins q (RepF.weak km (fun _ z => z) r)
  refine ⟨⟨e0.fk, fun k a h => km k a (e0.km k a h), e0.ok, fun k a h => ?_, e0.lv, e0.nf, e0.cd⟩, c.live, fun k a h => ?_, fun k y h => ?_, fun i j a h1 h2 => ?_, fun k a h => ?_, c.tab, c.ft⟩
  · have h' : (if k = S.length then some p else g.m k) = some a := h
    split at h'
    · cases h'; exact .inr h0
    · exact e0.nw k a h'
  · have h' : (if k = S.length then some p else g.m k) = some a := h
    split at h'
    · cases h'; exact hp
    · exact c.mlive k a h'
  · by_cases hk : k < S.length
    · rw [List.getElem?_append_left hk] at h
      obtain ⟨b, h1, h2, h3⟩ := c.nd k y h
      exact ⟨b, km k b h1, h2, up h3⟩
    · rw [List.getElem?_append_right (by omega)] at h
      have e : k - S.length = 0 := by
        cases q : k - S.length with
        | zero => rfl
        | succ n => rw [q] at h; simp at h
      rw [e] at h
      simp at h
      subst h
      have ek : k = S.length := by omega
      exact ⟨p, by show (if k = S.length then some p else g.m k) = some p; rw [if_pos ek], hF, up hx⟩
  · have h1' : (if i = S.length then some p else g.m i) = some a := h1
    have h2' : (if j = S.length then some p else g.m j) = some a := h2
    split at h1'
    · split at h2'
      · omega
      · cases h1'; exact absurd h2' (hm j)
    · split at h2'
      · cases h2'; exact absurd h1' (hm i)
      · exact c.inj i j a h1' h2'
  · have h' : (if k = S.length then some p else g.m k) = some a := h
    rw [List.length_append]
    split at h'
    · simp; omega
    · have := c.len k a h'
      simp; omega
/-- the heap behind a change of a node -/
theorem Cn.wex (c : Cn K A g H S) {o : HO} (hk : S[k]? = some (some x)) (ha : g.m k = some a) : Ex g H g (upd H a o) := by
  obtain ⟨b, h1, h2, h3⟩ := c.nd k x hk
  have eb : b = a := Option.some.inj (h1.symm.trans ha)
  subst eb
  exact ⟨fun d h => ⟨h, upd_ne fun e => h2 (e ▸ h)⟩, fun _ _ h => h, fun d o' h n _ => by rw [upd_ne (fun e => n k (by rw [e]; exact h1))]; exact h, fun _ _ h => .inl h, fun d h => by
      by_cases e : d = b
      · subst e; rw [upd_same]; simp
      · rw [upd_ne e]; exact h, fun _ h => .inl h, fun d _ _ h => by
      rw [upd_ne]
      · exact h
      · intro e; subst e; exact h3.nc _ _ h⟩
/-- a node is changed in its place -/
theorem Cn.write (c : Cn K A g H S) {o : HO} {y : Nd} (hk : S[k]? = some (some x)) (ha : g.m k = some a) (hy : NdR K A (upd H a o) g a y) : Ex g H g (upd H a o) ∧ Cn K A g (upd H a o) (S.set k (some y)) := by
  obtain ⟨b, h1, h2, h3⟩ := c.nd k x hk
  have eb : b = a := Option.some.inj (h1.symm.trans ha)
  subst eb
  have ex : Ex g H g (upd H b o) := ⟨fun d h => ⟨h, upd_ne fun e => h2 (e ▸ h)⟩, fun _ _ h => h, fun d o' h n _ => by rw [upd_ne (fun e => n k (by rw [e]; exact h1))]; exact h, fun _ _ h => .inl h, fun d h => by
      by_cases e : d = b
      · subst e; rw [upd_same]; simp
      · rw [upd_ne e]; exact h, fun _ h => .inl h, fun d _ _ h => by
      rw [upd_ne]
      · exact h
      · intro e; subst e; exact h3.nc _ _ h⟩
  refine ⟨ex, fun d h => ex.lv d (c.live d h), fun j d h => ex.lv d (c.mlive j d h), fun j z h => ?_, c.inj, fun j d h => by rw [List.length_set]; exact c.len j d h, ?_, fun d h ps z => c.ft d h ps ((upd_ne fun e : d = b => h2 (e ▸ h)).symm.trans z)⟩
  rotate_right
  · refine tabs_far c.tab fun d o' hd q1 q2 _ q3 => ?_
    rw [upd_ne]
    · exact hd
    · intro e2
      subst e2
      cases h3 with
      | lst q r => exact q1 _ (Option.some.inj (hd.symm.trans q))
      | dct q r => exact q2 _ (Option.some.inj (hd.symm.trans q))
      | ins q r => exact q3 _ _ _ (Option.some.inj (hd.symm.trans q))
  by_cases e : j = k
  · subst e
    have hlt : j < S.length := by
      rcases Nat.lt_or_ge j S.length with q | q
      · exact q
      · rw [List.getElem?_eq_none (by rw [List.length_set]; exact q)] at h; cases h
    rw [List.getElem?_set_self hlt] at h
    cases h
    exact ⟨b, h1, h2, hy⟩
  · rw [List.getElem?_set_ne (Ne.symm e)] at h
    obtain ⟨d, q1, q2, q3⟩ := c.nd j z h
    exact ⟨d, q1, q2, q3.ex ex (upd_ne fun e2 => e (c.inj j k d q1 (by rw [e2]; exact h1)))⟩
/-- a node is let go -/
theorem Cn.drop (c : Cn K A g H S) (k : Nat) : Cn K A g H (S.set k none) := by
  refine ⟨c.live, c.mlive, fun j z h => ?_, c.inj, fun j d h => by rw [List.length_set]; exact c.len j d h, c.tab, c.ft⟩
  by_cases e : j = k
  · subst e
    by_cases hlt : j < S.length
    · rw [List.getElem?_set_self hlt] at h
      cases h
    · rw [List.getElem?_eq_none (by rw [List.length_set]; omega)] at h; cases h
  · rw [List.getElem?_set_ne (Ne.symm e)] at h
    exact c.nd j z h

/-! ### freezing -/
theorem nd_get {S : Store} {k : Nat} {x : Nd} (h : S.nd k = some x) : S[k]? = some (some x) := by
  unfold Store.nd at h
  cases e : S[k]? with
  | none => rw [e] at h; cases h
  | some o => rw [e] at h; exact congrArg _ h
theorem nd_of {S : Store} {k : Nat} {x : Nd} (h : S[k]? = some (some x)) : S.nd k = some x := by
  unfold Store.nd; rw [h]
theorem nd_drop {S : Store} {j k : Nat} (h : S.nd j = none ∨ j = k) : Store.nd (S.set k none) j = none := by
  unfold Store.nd
  by_cases e : j = k
  · subst e
    by_cases q : j < S.length
    · rw [List.getElem?_set_self q]
    · rw [List.getElem?_eq_none (by rw [List.length_set]; omega)]
  · rw [List.getElem?_set_ne (Ne.symm e)]
    rcases h with h | h
    · exact h
    · exact absurd h e
/-- what a step of freezing promises: from g, S to g', S' over the same heap -/
def FrzOk (K : PySem.W.Frag) (A : Ad) (n : Nat) (f : T → Store → Option (T × Store)) : Prop :=
  ∀ (H : Hp) (g : Gh) (S : Store) (t : T) (v : V) (t' : T) (S' : Store), Cn K A g H S → Rep K A H g v t → f t S = some (t', S') →
    t'.old n = true ∧ (S'.length = S.length ∧ ∀ j, S.nd j = none → S'.nd j = none) ∧ ∃ g', Ex g H g' H ∧ Cn K A g' H S' ∧ g'.m = g.m ∧ Rep K A H g' v t'
theorem mapS_ok {n : Nat} {f : T → Store → Option (T × Store)} (hf : FrzOk K A n f) : ∀ {ts : List T} {H : Hp} {g : Gh} {S : Store} {vs : List V} {ts' : List T} {S' : Store}, Cn K A g H S → Reps K A H g vs ts → mapS f ts S = some (ts', S') →
    T.oldL n ts' = true ∧ (S'.length = S.length ∧ ∀ j, S.nd j = none → S'.nd j = none) ∧ ∃ g', Ex g H g' H ∧ Cn K A g' H S' ∧ g'.m = g.m ∧ Reps K A H g' vs ts'
  | [], H, g, S, vs, ts', S', c, r, e => by
    cases r
    simp only [mapS, Option.some.injEq, Prod.mk.injEq] at e
    obtain ⟨rfl, rfl⟩ := e
    exact ⟨rfl, ⟨rfl, fun _ h => h⟩, g, .refl, c, rfl, .nil⟩
  | t :: ts, H, g, S, vs, ts', S', c, r, e => by
    cases r with
    | cons a b =>
      unfold mapS at e
      cases e1 : f t S with
      | none => rw [e1] at e; cases e
      | some p =>
        obtain ⟨y, S1⟩ := p
        rw [e1] at e
        simp only at e
        cases e2 : mapS f ts S1 with
        | none => rw [e2] at e; cases e
        | some q =>
          obtain ⟨ys, S2⟩ := q
          rw [e2] at e
          simp only [Option.some.injEq, Prod.mk.injEq] at e
          obtain ⟨rfl, rfl⟩ := e
          obtain ⟨o1, l1, g1, x1, c1, m1, r1⟩ := hf H g S t _ y S1 c a e1
          obtain ⟨o2, l2, g2, x2, c2, m2, r2⟩ := mapS_ok hf c1 (b.ex x1) e2
          exact ⟨by simp [T.oldL, o1, o2], ⟨l2.1.trans l1.1, fun j h => l2.2 j (l1.2 j h)⟩, g2, x1.trans x2, c2, m2.trans m1, .cons (r1.ex x2) r2⟩
theorem sndS_some {κ : Type} {f : T → Store → Option (T × Store)} {p q : κ × T} {S S1 : Store} (h : sndS f p S = some (q, S1)) : ∃ y, f p.2 S = some (y, S1) ∧ q = (p.1, y) := by
  unfold sndS at h
  cases e : f p.2 S with
  | none => rw [e] at h; cases h
  | some r =>
    obtain ⟨y, S2⟩ := r
    rw [e] at h
    simp only [Option.some.injEq, Prod.mk.injEq] at h
    obtain ⟨rfl, rfl⟩ := h
    exact ⟨y, rfl, rfl⟩
theorem mapD_ok {n : Nat} {f : T → Store → Option (T × Store)} (hf : FrzOk K A n f) : ∀ {ts : List (Str × T)} {H : Hp} {g : Gh} {S : Store} {vs : List (Key × V)} {ts' : List (Str × T)} {S' : Store}, Cn K A g H S → RepD K A H g vs ts → mapS (sndS f) ts S = some (ts', S') →
    T.oldD n ts' = true ∧ (S'.length = S.length ∧ ∀ j, S.nd j = none → S'.nd j = none) ∧ ∃ g', Ex g H g' H ∧ Cn K A g' H S' ∧ g'.m = g.m ∧ RepD K A H g' vs ts'
  | [], H, g, S, vs, ts', S', c, r, e => by
    cases r
    simp only [mapS, Option.some.injEq, Prod.mk.injEq] at e
    obtain ⟨rfl, rfl⟩ := e
    exact ⟨rfl, ⟨rfl, fun _ h => h⟩, g, .refl, c, rfl, .nil⟩
  | (k, t) :: ts, H, g, S, vs, ts', S', c, r, e => by
    cases r with
    | cons hk a b =>
      unfold mapS at e
      cases e1 : sndS f (k, t) S with
      | none => rw [e1] at e; cases e
      | some p =>
        obtain ⟨y, S1⟩ := p
        rw [e1] at e
        simp only at e
        obtain ⟨z, e3, rfl⟩ := sndS_some e1
        cases e2 : mapS (sndS f) ts S1 with
        | none => rw [e2] at e; cases e
        | some q =>
          obtain ⟨ys, S2⟩ := q
          rw [e2] at e
          simp only [Option.some.injEq, Prod.mk.injEq] at e
          obtain ⟨rfl, rfl⟩ := e
          obtain ⟨o1, l1, g1, x1, c1, m1, r1⟩ := hf H g S t _ z S1 c a e3
          obtain ⟨o2, l2, g2, x2, c2, m2, r2⟩ := mapD_ok hf c1 (b.ex x1) e2
          exact ⟨by simp [T.oldD, o1, o2], ⟨l2.1.trans l1.1, fun j h => l2.2 j (l1.2 j h)⟩, g2, x1.trans x2, c2, m2.trans m1, .cons hk (r1.ex x2) r2⟩
theorem mapF_ok {n : Nat} {f : T → Store → Option (T × Store)} (hf : FrzOk K A n f) : ∀ {ts : List (Nat × T)} {H : Hp} {g : Gh} {S : Store} {vs : List (Str × V)} {ts' : List (Nat × T)} {S' : Store}, Cn K A g H S → RepF K A H g vs ts → mapS (sndS f) ts S = some (ts', S') →
    T.oldF n ts' = true ∧ (S'.length = S.length ∧ ∀ j, S.nd j = none → S'.nd j = none) ∧ ∃ g', Ex g H g' H ∧ Cn K A g' H S' ∧ g'.m = g.m ∧ RepF K A H g' vs ts'
  | [], H, g, S, vs, ts', S', c, r, e => by
    cases r
    simp only [mapS, Option.some.injEq, Prod.mk.injEq] at e
    obtain ⟨rfl, rfl⟩ := e
    exact ⟨rfl, ⟨rfl, fun _ h => h⟩, g, .refl, c, rfl, .nil⟩
  | (k, t) :: ts, H, g, S, vs, ts', S', c, r, e => by
    cases r with
    | cons hk a b =>
      unfold mapS at e
      cases e1 : sndS f (k, t) S with
      | none => rw [e1] at e; cases e
      | some p =>
        obtain ⟨y, S1⟩ := p
        rw [e1] at e
        simp only at e
        obtain ⟨z, e3, rfl⟩ := sndS_some e1
        cases e2 : mapS (sndS f) ts S1 with
        | none => rw [e2] at e; cases e
        | some q =>
          obtain ⟨ys, S2⟩ := q
          rw [e2] at e
          simp only [Option.some.injEq, Prod.mk.injEq] at e
          obtain ⟨rfl, rfl⟩ := e
          obtain ⟨o1, l1, g1, x1, c1, m1, r1⟩ := hf H g S t _ z S1 c a e3
          obtain ⟨o2, l2, g2, x2, c2, m2, r2⟩ := mapF_ok hf c1 (b.ex x1) e2
          exact ⟨by simp [T.oldF, o1, o2], ⟨l2.1.trans l1.1, fun j h => l2.2 j (l1.2 j h)⟩, g2, x1.trans x2, c2, m2.trans m1, .cons hk (r1.ex x2) r2⟩
theorem frz_ok (n : Nat) : ∀ d : Nat, FrzOk K A n (frz n d)
  | 0, H, g, S, t, v, t', S', c, r, e => by
    unfold frz at e
    split at e
    · simp only [Option.some.injEq, Prod.mk.injEq] at e
      obtain ⟨rfl, rfl⟩ := e
      exact ⟨by assumption, ⟨rfl, fun _ h => h⟩, g, .refl, c, rfl, r⟩
    · cases e
  | d + 1, H, g, S, t, v, t', S', c, r, e => by
    unfold frz at e
    split at e
    · simp only [Option.some.injEq, Prod.mk.injEq] at e
      obtain ⟨rfl, rfl⟩ := e
      exact ⟨by assumption, ⟨rfl, fun _ h => h⟩, g, .refl, c, rfl, r⟩
    · cases t with
      | ref k =>
        cases r with
        | ref hk =>
          rename_i a
          simp only at e
          cases hn : S.nd k with
          | none => rw [hn] at e; cases e
          | some y =>
            have hs := nd_get hn
            obtain ⟨b, h1, h2, h3⟩ := c.nd k y hs
            have eb : b = a := Option.some.inj (h1.symm.trans hk)
            subst eb
            have c1 := c.drop k
            have len : (S.set k none).length = S.length := List.length_set ..
            -- the node itself is frozen last
            have fin : ∀ {g1 : Gh} {S1 : Store} {t1 : T}, Ex g H g1 H → Cn K A g1 H S1 → g1.m = g.m → (S1.length = (S.set k none).length ∧ ∀ j, Store.nd (S.set k none) j = none → S1.nd j = none) → (∀ g2 : Gh, (∀ a, g1.F a → g2.F a) → g2.m = g1.m → g2.F b → Rep K A H g2 (.ref b) t1) → t1.old n = true →
                t1.old n = true ∧ (S1.length = S.length ∧ ∀ j, S.nd j = none → S1.nd j = none) ∧ ∃ g', Ex g H g' H ∧ Cn K A g' H S1 ∧ g'.m = g.m ∧ Rep K A H g' (.ref b) t1 := by
              intro g1 S1 t1 x1 c2 m1 l1 hr o1
              obtain ⟨x2, c3⟩ := c2.keep (p := b) (NdR.there h3) (NdR.nt h3) (fun j z hz q => by
                rw [m1] at q
                have ej := c.inj j k b q h1
                have z1 := l1.2 j (nd_drop (.inr ej))
                rw [nd_of hz] at z1
                cases z1) x1 (.inr ⟨k, h1⟩)
              exact ⟨o1, ⟨l1.1.trans len, fun j h => l1.2 j (nd_drop (.inl h))⟩, _, x2, c3, m1, hr _ (fun _ z => .inl z) rfl (.inr rfl)⟩
            cases y with
            | lst xs =>
              rw [hn] at e
              simp only at e
              cases e1 : mapS (frz n d) xs (S.set k none) with
              | none => rw [e1] at e; cases e
              | some q =>
                obtain ⟨ys, S1⟩ := q
                rw [e1] at e
                simp only [Option.some.injEq, Prod.mk.injEq] at e
                obtain ⟨rfl, rfl⟩ := e
                cases h3 with
                | lst hb rs =>
                  obtain ⟨o1, l1, g1, x1, c2, m1, r1⟩ := mapS_ok (frz_ok n d) c1 rs e1
                  exact fin x1 c2 m1 l1 (fun g2 f2 m2 fb => .lst fb hb (r1.weak (fun k a z => by rw [m2]; exact z) f2)) (by simpa [T.old] using o1)
            | dct xs =>
              rw [hn] at e
              simp only at e
              cases e1 : mapS (sndS (frz n d)) xs (S.set k none) with
              | none => rw [e1] at e; cases e
              | some q =>
                obtain ⟨ys, S1⟩ := q
                rw [e1] at e
                simp only [Option.some.injEq, Prod.mk.injEq] at e
                obtain ⟨rfl, rfl⟩ := e
                cases h3 with
                | dct hb rs =>
                  obtain ⟨o1, l1, g1, x1, c2, m1, r1⟩ := mapD_ok (frz_ok n d) c1 rs e1
                  exact fin x1 c2 m1 l1 (fun g2 f2 m2 fb => .dct fb (.inl hb) (r1.weak (fun k a z => by rw [m2]; exact z) f2)) (by simpa [T.old] using o1)
            | ins cc xs =>
              rw [hn] at e
              simp only at e
              cases e1 : mapS (sndS (frz n d)) xs (S.set k none) with
              | none => rw [e1] at e; cases e
              | some q =>
                obtain ⟨ys, S1⟩ := q
                rw [e1] at e
                simp only [Option.some.injEq, Prod.mk.injEq] at e
                obtain ⟨rfl, rfl⟩ := e
                cases h3 with
                | ins hb rs =>
                  obtain ⟨o1, l1, g1, x1, c2, m1, r1⟩ := mapF_ok (frz_ok n d) c1 rs e1
                  exact fin x1 c2 m1 l1 (fun g2 f2 m2 fb => .ins fb hb (r1.weak (fun k a z => by rw [m2]; exact z) f2)) (by simpa [T.old] using o1)
      | _ => cases e
/-! ### the seal -/
theorem oldAll_get {n : Nat} {S : Store} (h : oldAll n S = true) {k : Nat} {x : Nd} (hk : S[k]? = some (some x)) : x.old n = true := by
  unfold oldAll at h
  have := List.all_eq_true.mp h (some x) (List.mem_of_getElem? hk)
  exact this
theorem Cn.cut {g0 : Gh} {H0 : Hp} {S0 : Store} (c0 : Cn K A g0 H0 S0) (x : Ex g0 H0 g H) (c : Cn K A g H S) (ho : oldAll S0.length (S.take S0.length) = true) (hl : S0.length ≤ S.length) :
    Ex g0 H0 (g.cut S0.length) H ∧ Cn K A (g.cut S0.length) H (S.take S0.length) := by
  have km : ∀ k a, k < S0.length → g.m k = some a → (g.cut S0.length).m k = some a := fun k a hk h => by
    show (if k < S0.length then g.m k else none) = some a
    rw [if_pos hk]; exact h
  have mk' : ∀ k a, (g.cut S0.length).m k = some a → k < S0.length ∧ g.m k = some a := fun k a h => by
    have h' : (if k < S0.length then g.m k else none) = some a := h
    split at h'
    · exact ⟨by assumption, h'⟩
    · cases h'
  refine ⟨⟨x.fk, fun k a h => km k a (c0.len k a h) (x.km k a h), x.ok, fun k a h => x.nw k a (mk' k a h).2, x.lv, x.nf, x.cd⟩, c.live, fun k a h => c.mlive k a (mk' k a h).2, fun k y h => ?_, fun i j a h1 h2 => c.inj i j a (mk' i a h1).2 (mk' j a h2).2, fun k a h => ?_, c.tab, c.ft⟩
  · have hk : k < S0.length := by
      rcases Nat.lt_or_ge k S0.length with q | q
      · exact q
      · rw [List.getElem?_eq_none (by rw [List.length_take]; omega)] at h; cases h
    have h' := h
    rw [List.getElem?_take_of_lt hk] at h'
    obtain ⟨b, h1, h2, h3⟩ := c.nd k y h'
    have oy := oldAll_get ho h
    refine ⟨b, km k b hk h1, h2, ?_⟩
    cases h3 with
    | lst q r => exact .lst q (r.cut km (fun _ z => z) (by simpa [Nd.old] using oy))
    | dct q r => exact .dct q (r.cut km (fun _ z => z) (by simpa [Nd.old] using oy))
    | ins q r => exact .ins q (r.cut km (fun _ z => z) (by simpa [Nd.old] using oy))
  · rw [List.length_take]
    have := (mk' k a h).1
    omega
theorem seal_ok {g0 : Gh} {H0 : Hp} {S0 S1 S2 : Store} {t t' : T} {v : V} (c0 : Cn K A g0 H0 S0) (x : Ex g0 H0 g H) (c : Cn K A g H S1) (r : Rep K A H g v t) (hl : S0.length ≤ S1.length) (h : sealR S0 (.ok t S1) = .ok t' S2) :
    ∃ g', Ex g0 H0 g' H ∧ Cn K A g' H S2 ∧ Rep K A H g' v t' ∧ S2.length = S0.length := by
  unfold sealR at h
  simp only at h
  cases e : frz S0.length 8 t S1 with
  | none => rw [e] at h; cases h
  | some p =>
    obtain ⟨t1, S3⟩ := p
    rw [e] at h
    simp only at h
    split at h
    · rename_i ho
      cases h
      obtain ⟨o1, l1, g1, x1, c1, m1, r1⟩ := frz_ok (A := A) (K := K) S0.length 8 H g S1 t v _ S3 c r e
      obtain ⟨x2, c2⟩ := c0.cut (x.trans x1) c1 ho (by rw [l1.1]; exact hl)
      refine ⟨_, x2, c2, Rep.cut (g := g1) (g' := g1.cut S0.length) (n := S0.length) (fun k a hk z => ?_) (fun _ z => z) o1 r1, ?_⟩
      · show (if k < S0.length then g1.m k else none) = some a
        rw [if_pos hk]; exact z
      · rw [List.length_take, l1.1]; omega
    · cases h
end
end NH
end
section
namespace NH
open PySem L2 PyProof.Rows

section
variable (K : PySem.W.Frag) (A : Ad)
/-- an exception: its class, its own dict -/
def XR (H : Hp) (g : Gh) (cls : Value) (d : Option Addr) (x : T) : Prop :=
  ∃ (c : Nat) (fs : List (Nat × T)) (da : Addr) (fs' : List (Str × V)), x = .exc c fs ∧ cls = .ref (A.c c) ∧ d = some da ∧ H da = some (.xd fs') ∧ RepF K A H g fs' fs
/-- the frame's slots -/
def FrR (H : Hp) (g : Gh) (σ : L2.St) (ρ : Fr) : Prop := ρ.length = σ.length ∧ ∀ (i : Nat) (t : T), ρ[i]? = some (some t) → ∃ v, σ[i]? = some (some v) ∧ Rep K A H g v t
/-- what must hold so that the result r, got from g, H, S on, gives Q -/
def Aft {α β : Type} (rep : Hp → Gh → β → α → Prop) (W : WX) (σ : L2.St) (r : R α) (g : Gh) (H : Hp) (S : Store) (Q : β → Hp → Prop) : Prop :=
  match r with
  | .ok t S' => ∀ (g' : Gh) (H' : Hp) (v : β), Ex g H g' H' → Cn K A g' H' S' → S.length ≤ S'.length → rep H' g' v t → Q v H'
  | .exc x S' => ∀ (g' : Gh) (H' : Hp) (cls : Value) (d : Option Addr), Ex g H g' H' → Cn K A g' H' S' → S.length ≤ S'.length → XR K A H' g' cls d x → W cls d σ H'
  | .no => False
def RdG {α β : Type} (rep : Hp → Gh → β → α → Prop) (W : WX) (f : Fr → Store → R α) : L2.St → Hp → (β → Hp → Prop) → Prop := fun σ H Q =>
  ∃ (g : Gh) (ρ : Fr) (S : Store), Cn K A g H S ∧ FrR K A H g σ ρ ∧ Aft K A rep W σ (f ρ S) g H S Q
abbrev repV : Hp → Gh → V → T → Prop := fun H g v t => Rep K A H g v t
abbrev repL : Hp → Gh → List V → List T → Prop := fun H g v t => Reps K A H g v t
abbrev repB : Hp → Gh → Bool → Bool → Prop := fun _ _ k b => k = b
abbrev RdE (W : WX) (f : Fr → Store → R T) : TE := RdG K A (repV K A) W f
abbrev RdA (W : WX) (f : Fr → Store → R (List T)) : TA := RdG K A (repL K A) W f
abbrev RdT (W : WX) (f : Fr → Store → R Bool) : TT := RdG K A repB W f
end
section
variable {K : PySem.W.Frag} {A : Ad} {W : WX} {σ : L2.St} {g g1 : Gh} {H H1 : Hp} {S S1 : Store} {α β γ δ : Type} {rep : Hp → Gh → β → α → Prop} {rep2 : Hp → Gh → δ → γ → Prop}
theorem FrR.ex {g' : Gh} {H' : Hp} {ρ : Fr} (f : FrR K A H g σ ρ) (x : Ex g H g' H') : FrR K A H' g' σ ρ := ⟨f.1, fun i t h => by
  obtain ⟨v, h1, h2⟩ := f.2 i t h
  exact ⟨v, h1, h2.ex x⟩⟩
theorem Aft.later {r : R α} {Q : β → Hp → Prop} (h : Aft K A rep W σ r g H S Q) (x : Ex g H g1 H1) (l : S.length ≤ S1.length) : Aft K A rep W σ r g1 H1 S1 Q := by
  cases r with
  | ok t S' => exact fun g' H' v x' c' l' q => h g' H' v (x.trans x') c' (Nat.le_trans l l') q
  | exc t S' => exact fun g' H' cls d x' c' l' q => h g' H' cls d (x.trans x') c' (Nat.le_trans l l') q
  | no => exact h
theorem Aft.bind {r : R α} {k : α → Store → R γ} {Q : δ → Hp → Prop} {Q1 : β → Hp → Prop} (h : Aft K A rep2 W σ (r.bind k) g H S Q)
    (hk : ∀ (t : α) (S1 : Store) (g1 : Gh) (H1 : Hp) (v : β), r = .ok t S1 → Ex g H g1 H1 → Cn K A g1 H1 S1 → S.length ≤ S1.length → rep H1 g1 v t → Aft K A rep2 W σ (k t S1) g1 H1 S1 Q → Q1 v H1) : Aft K A rep W σ r g H S Q1 := by
  cases r with
  | ok t S' => exact fun g' H' v x c l q => hk t S' g' H' v rfl x c l q (Aft.later (show Aft K A rep2 W σ (k t S') g H S Q from h) x l)
  | exc t S' => exact h
  | no => exact h
theorem Aft.use {t : α} {Q : β → Hp → Prop} {v : β} (h : Aft K A rep W σ (.ok t S) g H S Q) (c : Cn K A g H S) (q : rep H g v t) : Q v H := h g H v .refl c (Nat.le_refl _) q
theorem Aft.mono {r : R α} {Q Q' : β → Hp → Prop} (h : Aft K A rep W σ r g H S Q) (hq : ∀ v H', Q v H' → Q' v H') : Aft K A rep W σ r g H S Q' := by
  cases r with
  | ok t S' => exact fun g' H' v x c l q => hq _ _ (h g' H' v x c l q)
  | exc t S' => exact h
  | no => exact h
end

theorem _root_.L2.PE.imp {X : Cx} {e : Expr} {t t' : TE} (h : PE X e t) (i : ∀ σ H Q, t' σ H Q → t σ H Q) : PE X e t' := ⟨fun pins s σ H Q I q => h.run pins s σ H Q I (i σ H Q q)⟩
theorem _root_.L2.PT.imp {X : Cx} {e : Expr} {t t' : TT} (h : PT X e t) (i : ∀ σ H Q, t' σ H Q → t σ H Q) : PT X e t' := ⟨fun pins s σ H Q I q => h.run pins s σ H Q I (i σ H Q q)⟩
theorem _root_.L2.PW.imp {X : Cx} {e : Expr} {t t' : TT} (h : PW X e t) (i : ∀ σ H Q, t' σ H Q → t σ H Q) : PW X e t' := ⟨fun wh pins s σ H Q I q => h.run wh pins s σ H Q I (i σ H Q q)⟩
theorem _root_.L2.PA.imp {X : Cx} {es : List Expr} {t t' : TA} (h : PA X es t) (i : ∀ σ H Q, t' σ H Q → t σ H Q) : PA X es t' := ⟨fun pos pins s σ H Q I q => h.run pos pins s σ H Q I (i σ H Q q)⟩
theorem _root_.L2.PSs.imp {X : Cx} {st : List Stmt} {t t' : TS} (h : PSs X st t) (i : ∀ D σ H, t' D σ H → t D σ H) : PSs X st t' := ⟨fun pins s σ H D I q => h.run pins s σ H D I (i D σ H q)⟩
theorem _root_.L2.PS.imp {X : Cx} {st : Stmt} {t t' : TS} (h : PS X st t) (i : ∀ D σ H, t' D σ H → t D σ H) : PS X st t' := ⟨fun pins s σ H D I q => h.run pins s σ H D I (i D σ H q)⟩

section
variable {X : Cx} {A : Ad} {W : WX} {a b c : Expr} {pos : Pos} {fa fb fc : Fr → Store → R T} {es : List Expr} {fs : Fr → Store → R (List T)}

/-! ### names and constants -/
theorem snd_var {i : Nat} {x : Str} (hN : X.N[i]? = some x) (hv : Vis X.env.scope x) (hd : (x == ("__debug__" : Str)) = false) (hcd : (x == ("__classdict__" : Str)) = false) : PE X (.Name x pos) (RdE X.K A W fun ρ S => match ρ[i]? with
    | some (some v) => .ok v S
    | _ => .no) := by
  refine (pe_var hN hv hd hcd).imp fun σ H Q ⟨g, ρ, S, c, f, h⟩ => ?_
  cases e : ρ[i]? with
  | none => simp only [e] at h; exact h.elim
  | some o =>
    cases o with
    | none => simp only [e] at h; exact h.elim
    | some t =>
      simp only [e] at h
      obtain ⟨v, h1, h2⟩ := f.2 i t e
      exact ⟨v, h1, Aft.use h c h2⟩
theorem snd_const {v : V} {t : T} (h : PE X a (tC v)) (r : ∀ H g, Rep X.K A H g v t) : PE X a (RdE X.K A W fun _ S => .ok t S) :=
  h.imp fun σ H Q ⟨g, ρ, S, c, f, h⟩ => Aft.use h c (r H g)

/-! ### argument lists, displays -/
theorem snd_nil : PA X [] (RdA X.K A W fun _ S => .ok [] S) := pa_nil.imp fun σ H Q ⟨g, ρ, S, c, f, h⟩ => Aft.use h c .nil
theorem snd_cons (ha : PE X a (RdE X.K A W fa)) (hs : PA X es (RdA X.K A W fs)) (hst : starEach (a :: es) X.env = (false, eval a X.env) :: starEach es X.env) :
    PA X (a :: es) (RdA X.K A W fun ρ S => (fa ρ S).bind fun v S1 => (fs ρ S1).bind fun vs S2 => .ok (v :: vs) S2) := by
  refine (pa_cons ha hs hst).imp fun σ H Q ⟨g, ρ, S, c, f, h⟩ => ⟨g, ρ, S, c, f, h.bind fun t S1 g1 H1 v _ x1 c1 l1 r1 h1 => ⟨g1, ρ, S1, c1, f.ex x1, h1.bind fun ts S2 g2 H2 vs _ x2 c2 l2 r2 h2 => ?_⟩⟩
  exact h2.use c2 (.cons (r1.ex x2) r2)
/-- a new frozen tuple -/
theorem new_tup {g : Gh} {H : Hp} {S : Store} {vs : List V} {ts : List T} {p : Addr} (c : Cn X.K A g H S) (r : Reps X.K A H g vs ts) (hp : H p = none) :
    ∃ g', Ex g H g' (upd H p (.tup vs)) ∧ Cn X.K A g' (upd H p (.tup vs)) S ∧ Rep X.K A (upd H p (.tup vs)) g' (.ref p) (.tup ts) := by
  obtain ⟨x1, c1⟩ := c.new (o := .tup vs) hp
  obtain ⟨x2, c2⟩ := c1.keep (p := p) (by rw [upd_same]; simp) (by rw [upd_same]; simp) (fun j _ _ => c.nM hp j) x1 (.inl hp)
  exact ⟨_, x2, c2, .tup (.inl ⟨.inr rfl, upd_same⟩) (r.ex x2)⟩
theorem new_lst {g : Gh} {H : Hp} {S : Store} {vs : List V} {ts : List T} {p : Addr} (c : Cn X.K A g H S) (r : Reps X.K A H g vs ts) (hp : H p = none) :
    ∃ g', Ex g H g' (upd H p (.lst vs)) ∧ Cn X.K A g' (upd H p (.lst vs)) S ∧ Rep X.K A (upd H p (.lst vs)) g' (.ref p) (.lst ts) := by
  obtain ⟨x1, c1⟩ := c.new (o := .lst vs) hp
  obtain ⟨x2, c2⟩ := c1.keep (p := p) (by rw [upd_same]; simp) (by rw [upd_same]; simp) (fun j _ _ => c.nM hp j) x1 (.inl hp)
  exact ⟨_, x2, c2, .lst (.inr rfl) upd_same (r.ex x2)⟩
theorem snd_tup {k : Nat} (hs : PA X es (RdA X.K A W fs)) (hz : ∀ ρ S ts S', fs ρ S = .ok ts S' → ts.length ≤ sizeLine) : PE X (.Tuple es k pos) (RdE X.K A W fun ρ S => (fs ρ S).bind fun vs S1 => .ok (.tup vs) S1) := by
  refine (pe_tup hs).imp fun σ H Q ⟨g, ρ, S, c, f, h⟩ => ⟨g, ρ, S, c, f, h.bind fun ts S1 g1 H1 vs e x1 c1 l1 r1 h1 => ⟨by rw [r1.length]; exact hz ρ S ts S1 e, fun p hp => ?_⟩⟩
  obtain ⟨g2, x2, c2, r2⟩ := new_tup c1 r1 hp
  exact h1 g2 _ _ x2 c2 (Nat.le_refl _) r2

/-! ### new lists and dicts -/
/-- a new object at p, known to nobody, that is the node nd -/
def NewN (K : PySem.W.Frag) (A : Ad) (H0 : Hp) (H : Hp) (g : Gh) (v : V) (nd : Nd) : Prop :=
  ∃ p, v = .ref p ∧ H0 p = none ∧ ¬ g.F p ∧ (∀ j, g.m j ≠ some p) ∧ NdR K A H g p nd
def RdN (K : PySem.W.Frag) (A : Ad) (W : WX) (f : Fr → Store → R Nd) : TE := fun σ H Q =>
  ∃ (g : Gh) (ρ : Fr) (S : Store), Cn K A g H S ∧ FrR K A H g σ ρ ∧ Aft K A (NewN K A H) W σ (f ρ S) g H S Q
theorem NdR.tree {K : PySem.W.Frag} {g : Gh} {H : Hp} {p : Addr} {nd : Nd} (h : NdR K A H g p nd) (hF : g.F p) : Rep K A H g (.ref p) nd.tree := by
  cases h with
  | lst q r => exact .lst hF q r
  | dct q r => exact .dct hF (.inl q) r
  | ins q r => exact .ins hF q r
theorem NdR.weak {K : PySem.W.Frag} {g g' : Gh} {H : Hp} {p : Addr} {nd : Nd} (km : ∀ k a, g.m k = some a → g'.m k = some a) (fk : ∀ a, g.F a → g'.F a) (h : NdR K A H g p nd) : NdR K A H g' p nd := by
  cases h with
  | lst q r => exact .lst q (r.weak km fk)
  | dct q r => exact .dct q (r.weak km fk)
  | ins q r => exact .ins q (r.weak km fk)
theorem al_rd_f {K : PySem.W.Frag} {fn : Fr → Store → R Nd} {σ : L2.St} {H : Hp} {Q : VK} (h : RdE K A W (fun ρ S => (fn ρ S).bind fun nd S1 => .ok nd.tree S1) σ H Q) : RdN K A W fn σ H Q := by
  obtain ⟨g, ρ, S, c, f, h⟩ := h
  refine ⟨g, ρ, S, c, f, ?_⟩
  replace h : Aft K A (repV K A) W σ ((fn ρ S).bind fun nd S1 => .ok nd.tree S1) g H S Q := h
  cases e : fn ρ S with
  | ok nd S1 =>
    rw [e] at h
    intro g1 H1 v x1 c1 l1 ⟨p, ev, h0, hF, hm, hn⟩
    subst ev
    obtain ⟨x2, c2⟩ := c1.keep (p := p) hn.there hn.nt (fun j _ _ => hm j) x1 (.inl h0)
    exact h _ _ _ x2 c2 l1 (NdR.tree (g := g1.addF p) (NdR.weak (g := g1) (g' := g1.addF p) (fun _ _ z => z) (fun _ z => Or.inl z) hn) (Or.inr rfl))
  | exc x S1 => rw [e] at h; exact h
  | no => rw [e] at h; exact h.elim
theorem al_rd_t {K : PySem.W.Frag} {fn : Fr → Store → R Nd} {σ : L2.St} {H : Hp} {Q : VK} (h : RdE K A W (fun ρ S => (fn ρ S).bind fun nd S1 => .ok (.ref S1.length) (S1 ++ [some nd])) σ H Q) : RdN K A W fn σ H Q := by
  obtain ⟨g, ρ, S, c, f, h⟩ := h
  refine ⟨g, ρ, S, c, f, ?_⟩
  replace h : Aft K A (repV K A) W σ ((fn ρ S).bind fun nd S1 => .ok (.ref S1.length) (S1 ++ [some nd])) g H S Q := h
  cases e : fn ρ S with
  | ok nd S1 =>
    rw [e] at h
    intro g1 H1 v x1 c1 l1 ⟨p, ev, h0, hF, hm, hn⟩
    subst ev
    obtain ⟨x2, c2⟩ := c1.own hn.there hF hm x1 h0 hn
    refine h _ _ _ x2 c2 ?_ (.ref ?_)
    · rw [List.length_append]; omega
    · show (if S1.length = S1.length then some p else g1.m S1.length) = some p
      rw [if_pos rfl]
  | exc x S1 => rw [e] at h; exact h
  | no => rw [e] at h; exact h.elim
theorem snd_al_f {e : Expr} {fn : Fr → Store → R Nd} (h : PE X e (RdN X.K A W fn)) : PE X e (RdE X.K A W fun ρ S => (fn ρ S).bind fun nd S1 => .ok nd.tree S1) := h.imp fun _ _ _ h => al_rd_f h
theorem snd_al_t {e : Expr} {fn : Fr → Store → R Nd} (h : PE X e (RdN X.K A W fn)) : PE X e (RdE X.K A W fun ρ S => (fn ρ S).bind fun nd S1 => .ok (.ref S1.length) (S1 ++ [some nd])) := h.imp fun _ _ _ h => al_rd_t h
/-- a node for a new object -/
theorem newN {K : PySem.W.Frag} {g : Gh} {H H0 : Hp} {S : Store} {p : Addr} {o : HO} {nd : Nd} (c : Cn K A g H S) (hp : H p = none) (h0 : H0 p = none) (hn : NdR K A (upd H p o) g p nd) :
    Ex g H g (upd H p o) ∧ Cn K A g (upd H p o) S ∧ NewN K A H0 (upd H p o) g (.ref p) nd := by
  obtain ⟨x1, c1⟩ := c.new (o := o) hp
  exact ⟨x1, c1, p, rfl, h0, c.nF hp, c.nM hp, hn⟩
theorem Ex.none {g g' : Gh} {H H' : Hp} (x : Ex g H g' H') {p : Addr} (h : H' p = none) : H p = none := by
  cases e : H p with
  | none => rfl
  | some o => exact absurd h (x.lv p (by rw [e]; simp))
theorem snd_lst (hs : PA X es (RdA X.K A W fs)) (hz : ∀ ρ S ts S', fs ρ S = .ok ts S' → ts.length ≤ sizeLine) : PE X (.List es pos) (RdN X.K A W fun ρ S => (fs ρ S).bind fun vs S1 => .ok (.lst vs) S1) := by
  refine (pe_lst hs).imp fun σ H Q ⟨g, ρ, S, c, f, h⟩ => ⟨g, ρ, S, c, f, h.bind fun ts S1 g1 H1 vs e x1 c1 l1 r1 h1 => ⟨by rw [r1.length]; exact hz ρ S ts S1 e, fun p hp => ?_⟩⟩
  obtain ⟨x0, _⟩ := c1.new (o := .lst vs) hp
  obtain ⟨x2, c2, n2⟩ := newN (H0 := H) (nd := .lst ts) c1 hp (x1.none hp) (.lst upd_same (r1.ex x0))
  exact h1 g1 _ _ x2 c2 (Nat.le_refl _) n2
theorem snd_dct0 : PE X (.Dict [] [] pos) (RdN X.K A W fun _ S => .ok (.dct []) S) := by
  refine pe_dnewK.imp fun σ H Q ⟨g, ρ, S, c, f, h⟩ p hp => ?_
  obtain ⟨x2, c2, n2⟩ := newN (A := A) (H0 := H) (o := .dK []) (nd := .dct []) c hp hp (.dct upd_same .nil)
  exact h g _ _ x2 c2 (Nat.le_refl _) n2
/-! ### starred items -/
theorem Cn.lstV {K : PySem.W.Frag} {g : Gh} {H : Hp} {S : Store} {t : T} {ts : List T} {v : V} (c : Cn K A g H S) (r : Rep K A H g v t) (e : view S t = .lst ts) : ∃ a vs, v = .ref a ∧ H a = some (.lst vs) ∧ Reps K A H g vs ts := by
  cases t with
  | lst xs =>
    cases e
    cases r with
    | lst f q r => exact ⟨_, _, rfl, q, r⟩
  | ref k =>
    cases r with
    | ref hk =>
      rename_i a
      unfold view at e
      cases hn : S.nd k with
      | none => simp only [hn] at e; cases e
      | some y =>
        simp only [hn] at e
        obtain ⟨b, h1, h2, h3⟩ := c.nd k y (nd_get hn)
        obtain rfl : b = a := Option.some.inj (h1.symm.trans hk)
        cases y with
        | lst xs => cases e; cases h3 with | lst q r => exact ⟨_, _, rfl, q, r⟩
        | dct xs => cases e
        | ins _ xs => cases e
  | _ => cases e
theorem Cn.tupV {K : PySem.W.Frag} {g : Gh} {H : Hp} {S : Store} {t : T} {ts : List T} {v : V} (c : Cn K A g H S) (r : Rep K A H g v t) (e : view S t = .tup ts) : ∃ a vs, v = .ref a ∧ SqT K H a vs ∧ Reps K A H g vs ts := by
  cases t with
  | tup xs =>
    cases e
    cases r with
    | tup q r => exact ⟨_, _, rfl, q.elim (fun z => .inl (.inl z.2)) .inr, r⟩
  | ref k =>
    unfold view at e
    cases hn : S.nd k with
    | none => simp only [hn] at e; cases e
    | some y => simp only [hn] at e; cases y <;> cases e
  | _ => cases e
theorem Cn.dctV {K : PySem.W.Frag} {g : Gh} {H : Hp} {S : Store} {t : T} {ts : List (Str × T)} {v : V} (c : Cn K A g H S) (r : Rep K A H g v t) (e : view S t = .dct ts) : ∃ a kvs, v = .ref a ∧ Rd H a (.dK kvs) ∧ RepD K A H g kvs ts := by
  cases t with
  | dct xs =>
    cases e
    cases r with
    | dct f q r => exact ⟨_, _, rfl, q, r⟩
  | ref k =>
    cases r with
    | ref hk =>
      rename_i a
      unfold view at e
      cases hn : S.nd k with
      | none => simp only [hn] at e; cases e
      | some y =>
        simp only [hn] at e
        obtain ⟨b, h1, h2, h3⟩ := c.nd k y (nd_get hn)
        obtain rfl : b = a := Option.some.inj (h1.symm.trans hk)
        cases y with
        | lst xs => cases e
        | dct xs => cases e; cases h3 with | dct q r => exact ⟨_, _, rfl, .inl q, r⟩
        | ins _ xs => cases e
  | _ => cases e
theorem Cn.insV {K : PySem.W.Frag} {g : Gh} {H : Hp} {S : Store} {t : T} {cc : Nat} {ts : List (Nat × T)} {v : V} (c : Cn K A g H S) (r : Rep K A H g v t) (e : view S t = .ins cc ts) : ∃ a dx fs, v = .ref a ∧ H a = some (.ins (A.c cc) dx fs) ∧ RepF K A H g fs ts := by
  cases t with
  | ins _ xs =>
    cases e
    cases r with
    | ins f q r => exact ⟨_, _, _, rfl, q, r⟩
  | ref k =>
    cases r with
    | ref hk =>
      rename_i a
      unfold view at e
      cases hn : S.nd k with
      | none => simp only [hn] at e; cases e
      | some y =>
        simp only [hn] at e
        obtain ⟨b, h1, h2, h3⟩ := c.nd k y (nd_get hn)
        obtain rfl : b = a := Option.some.inj (h1.symm.trans hk)
        cases y with
        | lst xs => cases e
        | dct xs => cases e
        | ins _ xs => cases e; cases h3 with | ins q r => exact ⟨_, _, _, rfl, q, r⟩
  | _ => cases e
/-- what a star brings -/
def starOf (S : Store) (v : T) : Option (List T) := match view S v with
  | .lst xs => some xs
  | .tup xs => some xs
  | _ => none
theorem starOf_ok {K : PySem.W.Frag} {g : Gh} {H : Hp} {S : Store} {t : T} {ts : List T} {v : V} (c : Cn K A g H S) (r : Rep K A H g v t) (e : starOf S t = some ts) : ∃ a vs, v = .ref a ∧ (SqT K H a vs ∨ SqL K H a vs) ∧ Reps K A H g vs ts := by
  unfold starOf at e
  split at e
  · rename_i q
    cases e
    obtain ⟨a, vs, h1, h2, h3⟩ := c.lstV r q
    exact ⟨a, vs, h1, .inr (.of h2), h3⟩
  · rename_i q
    cases e
    obtain ⟨a, vs, h1, h2, h3⟩ := c.tupV r q
    exact ⟨a, vs, h1, .inl h2, h3⟩
  · cases e
theorem snd_consS {p : Pos} (ha : PE X a (RdE X.K A W fa)) (hs : PA X es (RdA X.K A W fs)) (hst : starEach (.Starred a p :: es) X.env = (true, eval a X.env) :: starEach es X.env) :
    PA X (.Starred a p :: es) (RdA X.K A W fun ρ S => (fa ρ S).bind fun v S1 => match starOf S1 v with
      | some xs => (fs ρ S1).bind fun vs S2 => .ok (xs ++ vs) S2
      | none => .no) := by
  refine (StX.pa_star ha hs hst).imp fun σ H Q ⟨g, ρ, S, c, f, h⟩ => ⟨g, ρ, S, c, f, h.bind fun t S1 g1 H1 v _ x1 c1 l1 r1 h1 => ?_⟩
  cases e : starOf S1 t with
  | none => simp only [e] at h1; exact h1.elim
  | some xs =>
    simp only [e] at h1
    obtain ⟨a, vs, ev, h2, h3⟩ := starOf_ok c1 r1 e
    refine ⟨a, vs, ev, h2, g1, ρ, S1, c1, f.ex x1, h1.bind fun ts S2 g2 H2 ws _ x2 c2 l2 r2 h4 => ?_⟩
    exact h4.use c2 ((h3.ex x2).append r2)
end
end NH
end
section
namespace NH
open PySem L2 PyProof.Rows

section
variable {K : PySem.W.Frag} {A : Ad} {g : Gh} {H : Hp} {S : Store} {t : T} {v : V}
theorem view_int {i : Int} (h : view S t = .int i) : t = .int i := by
  cases t with
  | ref k =>
    unfold view at h
    cases e : S.nd k with
    | none => simp only [e] at h; cases h
    | some x => simp only [e] at h; cases x <;> cases h
  | _ => exact h
theorem view_str {x : Str} (h : view S t = .str x) : t = .str x := by
  cases t with
  | ref k =>
    unfold view at h
    cases e : S.nd k with
    | none => simp only [e] at h; cases h
    | some x => simp only [e] at h; cases x <;> cases h
  | _ => exact h
theorem view_bl {b : Bool} (h : view S t = .bl b) : t = .bl b := by
  cases t with
  | ref k =>
    unfold view at h
    cases e : S.nd k with
    | none => simp only [e] at h; cases h
    | some x => simp only [e] at h; cases x <;> cases h
  | _ => exact h
theorem view_non (h : view S t = .non) : t = .non := by
  cases t with
  | ref k =>
    unfold view at h
    cases e : S.nd k with
    | none => simp only [e] at h; cases h
    | some x => simp only [e] at h; cases x <;> cases h
  | _ => exact h
theorem view_scr {ns : List Int} (h : view S t = .scr ns) : t = .scr ns := by
  cases t with
  | ref k =>
    unfold view at h
    cases e : S.nd k with
    | none => simp only [e] at h; cases h
    | some x => simp only [e] at h; cases x <;> cases h
  | _ => exact h
theorem Rep.int_inv {i : Int} (r : Rep K A H g v (.int i)) : v = .int i := by cases r; rfl
theorem Rep.bl_inv {b : Bool} (r : Rep K A H g v (.bl b)) : v = .bl b := by cases r; rfl
theorem Rep.non_inv (r : Rep K A H g v .non) : v = .non := by cases r; rfl
theorem Rep.str_inv {x : Str} (r : Rep K A H g v (.str x)) : v = .str x ∧ PyData.strOk x = true := by cases r with | str _ h => exact ⟨rfl, h⟩
/-- no exception leaves -/
def AftP (K : PySem.W.Frag) (A : Ad) {α β : Type} (rep : Hp → Gh → β → α → Prop) (r : R α) (g : Gh) (H : Hp) (S : Store) (Q : β → Hp → Prop) : Prop :=
  match r with
  | .ok t S' => ∀ (g' : Gh) (H' : Hp) (v : β), Ex g H g' H' → Cn K A g' H' S' → S.length ≤ S'.length → rep H' g' v t → Q v H'
  | _ => False
theorem Aft.noX {α β : Type} {rep : Hp → Gh → β → α → Prop} {W : WX} {σ : L2.St} {r : R α} {Q : β → Hp → Prop} (h : Aft K A rep W σ r.noX g H S Q) : AftP K A rep r g H S Q := by
  cases r with
  | ok t S' => exact h
  | exc x S' => exact h
  | no => exact h
theorem AftP.use {α β : Type} {rep : Hp → Gh → β → α → Prop} {a : α} {b : β} {Q : β → Hp → Prop} (h : AftP K A rep (.ok a S) g H S Q) (c : Cn K A g H S) (q : rep H g b a) : Q b H := h g H b .refl c (Nat.le_refl _) q
end
theorem AftP.ite {K : PySem.W.Frag} {A : Ad} {g : Gh} {H : Hp} {S : Store} {α β : Type} {rep : Hp → Gh → β → α → Prop} {p : Prop} [Decidable p] {r : R α} {Q : β → Hp → Prop} (h : AftP K A rep (if p then r else .no) g H S Q) : p ∧ AftP K A rep r g H S Q := by
  split at h
  · exact ⟨by assumption, h⟩
  · exact False.elim h
/-- a two-place operation of values -/
def PV (K : PySem.W.Frag) (A : Ad) (f : T → T → Store → R T) : R2 := fun x y H Q =>
  ∃ (g : Gh) (S : Store) (t u : T), Cn K A g H S ∧ Rep K A H g x t ∧ Rep K A H g y u ∧ AftP K A (repV K A) (f t u S) g H S Q
theorem strOk_append {x y : Str} (h1 : PyData.strOk x = true) (h2 : PyData.strOk y = true) : PyData.strOk (x ++ y) = true := by
  unfold PyData.strOk at *
  show ((x.cps ++ y.cps).all _) = true
  rw [Array.all_append, h1, h2]; rfl
section
variable {X : Cx} {A : Ad}
theorem opr_add : OpR X (binaryOp .Add) (PV X.K A (binT .add)) := by
  rintro pins s σ H x y v u Q I rx ry ⟨g, S, t, w, c, r1, r2, h⟩
  cases e1 : view S t <;> cases e2 : view S w <;> simp only [binT, e1, e2] at h <;> try exact False.elim h
  · obtain rfl := view_int e1; obtain rfl := view_int e2
    obtain rfl := r1.int_inv; obtain rfl := r2.int_inv
    exact op_add pins s σ H _ _ v u Q I rx ry ⟨_, _, rfl, rfl, h g H _ .refl c (Nat.le_refl _) (.int _)⟩
  · obtain rfl := view_str e1; obtain rfl := view_str e2
    obtain ⟨rfl, o1⟩ := r1.str_inv; obtain ⟨rfl, o2⟩ := r2.str_inv
    obtain ⟨hz, h⟩ := h.ite
    exact op_add_str pins s σ H _ _ v u Q I rx ry ⟨_, _, rfl, rfl, hz, h g H _ .refl c (Nat.le_refl _) (.str _ (strOk_append o1 o2))⟩
  · obtain ⟨a, vs, rfl, ha, q1⟩ := c.lstV r1 e1
    obtain ⟨b, ws, rfl, hb, q2⟩ := c.lstV r2 e2
    obtain ⟨hz, h⟩ := h.ite
    refine op_cat pins s σ H _ _ v u Q I rx ry ⟨a, b, vs, ws, rfl, rfl, ha, hb, by rw [q1.length, q2.length]; exact hz, fun p hp => ?_⟩
    obtain ⟨g2, x2, c2, r3⟩ := new_lst (X := X) c (q1.append q2) hp
    exact h g2 _ _ x2 c2 (Nat.le_refl _) r3
theorem opr_sub : OpR X (binaryOp .Sub) (PV X.K A (binT .sub)) := by
  rintro pins s σ H x y v u Q I rx ry ⟨g, S, t, w, c, r1, r2, h⟩
  cases e1 : view S t <;> cases e2 : view S w <;> simp only [binT, e1, e2] at h <;> try exact False.elim h
  obtain rfl := view_int e1; obtain rfl := view_int e2
  obtain rfl := r1.int_inv; obtain rfl := r2.int_inv
  exact op_sub pins s σ H _ _ v u Q I rx ry ⟨_, _, rfl, rfl, h g H _ .refl c (Nat.le_refl _) (.int _)⟩
theorem abs64 {i : Int} (h : i.natAbs < 2 ^ 64) : -(2 ^ 64) < i ∧ i < 2 ^ 64 := by omega
theorem Reps.rep {K : PySem.W.Frag} {g : Gh} {H : Hp} {vs : List V} {ts : List T} (r : Reps K A H g vs ts) : ∀ n : Nat, Reps K A H g (List.replicate n vs).flatten (List.replicate n ts).flatten
  | 0 => .nil
  | n + 1 => by
    rw [List.replicate_succ, List.replicate_succ, List.flatten_cons, List.flatten_cons]
    exact r.append (r.rep n)
theorem opr_mul : OpR X (binaryOp .Mult) (PV X.K A (binT .mul)) := by
  rintro pins s σ H x y v u Q I rx ry ⟨g, S, t, w, c, r1, r2, h⟩
  cases e1 : view S t <;> cases e2 : view S w <;> simp only [binT, e1, e2] at h <;> try exact False.elim h
  · obtain rfl := view_int e1; obtain rfl := view_int e2
    obtain rfl := r1.int_inv; obtain rfl := r2.int_inv
    obtain ⟨hz, h⟩ := h.ite
    exact op_mul pins s σ H _ _ v u Q I rx ry ⟨_, _, rfl, rfl, hz.elim (fun z => .inl (abs64 z)) fun z => .inr (abs64 z), h g H _ .refl c (Nat.le_refl _) (.int _)⟩
  · obtain ⟨a, vs, rfl, ha, q1⟩ := c.lstV r1 e1
    obtain rfl := view_int e2
    obtain rfl := r2.int_inv
    obtain ⟨hz, h⟩ := h.ite
    refine op_rep pins s σ H _ _ v u Q I rx ry ⟨a, _, vs, rfl, rfl, ha, by omega, by omega, by rw [q1.length]; exact hz.2.2, fun p hp => ?_⟩
    obtain ⟨g2, x2, c2, r3⟩ := new_lst (X := X) c (q1.rep _) hp
    exact h g2 _ _ x2 c2 (Nat.le_refl _) r3
theorem opr_fdiv : OpR X (binaryOp .FloorDiv) (PV X.K A (binT .fdiv)) := by
  rintro pins s σ H x y v u Q I rx ry ⟨g, S, t, w, c, r1, r2, h⟩
  cases e1 : view S t <;> cases e2 : view S w <;> simp only [binT, e1, e2] at h <;> try exact False.elim h
  obtain rfl := view_int e1; obtain rfl := view_int e2
  obtain rfl := r1.int_inv; obtain rfl := r2.int_inv
  obtain ⟨hz, h⟩ := h.ite
  exact op_fdiv pins s σ H _ _ v u Q I rx ry ⟨_, _, rfl, rfl, hz, h g H _ .refl c (Nat.le_refl _) (.int _)⟩
theorem opr_mod : OpR X (binaryOp .Mod) (PV X.K A (binT .mod)) := by
  rintro pins s σ H x y v u Q I rx ry ⟨g, S, t, w, c, r1, r2, h⟩
  cases e1 : view S t <;> cases e2 : view S w <;> simp only [binT, e1, e2] at h <;> try exact False.elim h
  obtain rfl := view_int e1; obtain rfl := view_int e2
  obtain rfl := r1.int_inv; obtain rfl := r2.int_inv
  obtain ⟨hz, h⟩ := h.ite
  exact op_mod pins s σ H _ _ v u Q I rx ry ⟨_, _, rfl, rfl, hz, h g H _ .refl c (Nat.le_refl _) (.int _)⟩
theorem opr_pow : OpR X (binaryOp .Pow) (PV X.K A (binT .pow)) := by
  rintro pins s σ H x y v u Q I rx ry ⟨g, S, t, w, c, r1, r2, h⟩
  cases e1 : view S t <;> cases e2 : view S w <;> simp only [binT, e1, e2] at h <;> try exact False.elim h
  obtain rfl := view_int e1; obtain rfl := view_int e2
  obtain rfl := r1.int_inv; obtain rfl := r2.int_inv
  obtain ⟨hz, h⟩ := h.ite
  exact op_pow pins s σ H _ _ v u Q I rx ry ⟨_, _, rfl, rfl, hz, h g H _ .refl c (Nat.le_refl _) (.int _)⟩
/-- the model's operator -/
def Op2.op : Op2 → Operator
  | .add => .Add | .sub => .Sub | .mul => .Mult | .fdiv => .FloorDiv | .mod => .Mod | .pow => .Pow
theorem opr_bin : ∀ op : Op2, OpR X (binaryOp op.op) (PV X.K A (binT op))
  | .add => opr_add | .sub => opr_sub | .mul => opr_mul | .fdiv => opr_fdiv | .mod => opr_mod | .pow => opr_pow
/-- two parts, then an operation of values -/
theorem snd_op2 {W : WX} {a b : Expr} {fa fb : Fr → Store → R T} {f : T → T → Store → R T} {σ : L2.St} {H : Hp} {Q : VK} (h : RdE X.K A W (fun ρ S => (fa ρ S).bind fun v S1 => (fb ρ S1).bind fun w S2 => (f v w S2).noX) σ H Q) :
    tOp (PV X.K A f) (RdE X.K A W fa) (RdE X.K A W fb) σ H Q := by
  obtain ⟨g, ρ, S, c, f, h⟩ := h
  refine ⟨g, ρ, S, c, f, h.bind fun t S1 g1 H1 v _ x1 c1 l1 r1 h1 => ⟨g1, ρ, S1, c1, f.ex x1, h1.bind fun u S2 g2 H2 w _ x2 c2 l2 r2 h2 => ?_⟩⟩
  exact ⟨g2, S2, t, u, c2, r1.ex x2, r2, h2.noX⟩
theorem snd_bin {W : WX} {a b : Expr} {fa fb : Fr → Store → R T} {op : Op2} {pos : Pos} (ha : PE X a (RdE X.K A W fa)) (hb : PE X b (RdE X.K A W fb)) :
    PE X (.BinOp a op.op b pos) (RdE X.K A W fun ρ S => (fa ρ S).bind fun v S1 => (fb ρ S1).bind fun w S2 => (binT op v w S2).noX) :=
  (pe_op (opr_bin op) ha hb).imp fun σ H Q h => snd_op2 (a := a) (b := b) h
end
end NH
end
section
namespace NH
open PySem L2 PyProof.Rows

section
variable {K : PySem.W.Frag} {A : Ad} {g : Gh} {H : Hp} {S : Store}
mutual
theorem Rep.dp : ∀ {n : Nat} {t : T} {v : V}, t.data n = true → Rep K A H g v t → Dp K H v t.toD ∧ t.toD.canLay0 = true ∧ t.toD.depth ≤ n
  | n, .non, _, _, r => by cases r; exact ⟨.non, by cases n <;> rfl, Nat.zero_le _⟩
  | n, .bl b, _, _, r => by cases r; exact ⟨.bl _, by cases n <;> rfl, Nat.zero_le _⟩
  | n, .int i, _, _, r => by cases r; exact ⟨.int _, by cases n <;> rfl, Nat.zero_le _⟩
  | n, .str x, _, _, r => by cases r with | str _ h => exact ⟨.str _, by simpa [T.toD, PyData.canLay0] using h, Nat.zero_le _⟩
  | 0, .lst xs, _, d, _ => by simp [T.data] at d
  | 0, .tup xs, _, d, _ => by simp [T.data] at d
  | n + 1, .lst xs, _, d, r => by
    cases r with
    | lst f q r =>
      obtain ⟨h1, h2, h3⟩ := Reps.dp (n := n) (by simpa [T.data] using d) r
      exact ⟨.lst (.of q) h1, by simpa [T.toD, PyData.canLay0] using h2, by simp only [T.toD, PyData.depth]; omega⟩
  | n + 1, .tup xs, _, d, r => by
    cases r with
    | tup q r =>
      obtain ⟨h1, h2, h3⟩ := Reps.dp (n := n) (by simpa [T.data] using d) r
      exact ⟨.tup (q.elim (fun z => .of z.2) .inr) h1, by simpa [T.toD, PyData.canLay0] using h2, by simp only [T.toD, PyData.depth]; omega⟩
  | n, .ty _, _, d, _ => by cases n <;> simp [T.data] at d
  | n, .cls _, _, d, _ => by cases n <;> simp [T.data] at d
  | n, .fn _, _, d, _ => by cases n <;> simp [T.data] at d
  | n, .ref _, _, d, _ => by cases n <;> simp [T.data] at d
  | n, .scr _, _, d, _ => by cases n <;> simp [T.data] at d
  | n, .dct _, _, d, _ => by cases n <;> simp [T.data] at d
  | n, .ins _ _, _, d, _ => by cases n <;> simp [T.data] at d
  | n, .exc _ _, _, d, _ => by cases n <;> simp [T.data] at d
theorem Reps.dp : ∀ {n : Nat} {ts : List T} {vs : List V}, T.dataL n ts = true → Reps K A H g vs ts → DpAll K H vs (T.toDs ts) ∧ PyData.canLayAll0 (T.toDs ts) = true ∧ PyData.depthAll (T.toDs ts) ≤ n
  | n, [], _, _, r => by cases r; exact ⟨.nil, rfl, Nat.zero_le _⟩
  | n, t :: ts, _, d, r => by
    cases r with
    | cons a b =>
      simp only [T.dataL, Bool.and_eq_true] at d
      obtain ⟨h1, h2, h3⟩ := Rep.dp d.1 a
      obtain ⟨k1, k2, k3⟩ := Reps.dp d.2 b
      exact ⟨.cons h1 k1, by simp [T.toDs, PyData.canLayAll0, h2, k2], by simp only [T.toDs, PyData.depthAll]; omega⟩
end
mutual
theorem T.eqv_toD : ∀ {n m : Nat} {a b : T}, a.data n = true → b.data m = true → PyData.eqv a.toD b.toD = a.eqv b
  | n, m, a, b, ha, hb => by
    cases a with
    | lst xs =>
      cases n with
      | zero => simp [T.data] at ha
      | succ n =>
        cases b with
        | lst ys =>
          cases m with
          | zero => simp [T.data] at hb
          | succ m => simpa [T.toD, PyData.eqv, T.eqv] using T.eqvL_toD (n := n) (m := m) (by simpa [T.data] using ha) (by simpa [T.data] using hb)
        | _ => first | (simp [T.toD, PyData.eqv, T.eqv]; done) | (cases m <;> simp [T.data] at hb)
    | tup xs =>
      cases n with
      | zero => simp [T.data] at ha
      | succ n =>
        cases b with
        | tup ys =>
          cases m with
          | zero => simp [T.data] at hb
          | succ m => simpa [T.toD, PyData.eqv, T.eqv] using T.eqvL_toD (n := n) (m := m) (by simpa [T.data] using ha) (by simpa [T.data] using hb)
        | _ => first | (simp [T.toD, PyData.eqv, T.eqv]; done) | (cases m <;> simp [T.data] at hb)
    | _ => first
      | (cases n <;> simp [T.data] at ha; done)
      | (cases b <;> first | (simp [T.toD, PyData.eqv, T.eqv]; done) | (cases m <;> simp [T.data] at hb))
theorem T.eqvL_toD : ∀ {n m : Nat} {a b : List T}, T.dataL n a = true → T.dataL m b = true → PyData.eqvAll (T.toDs a) (T.toDs b) = T.eqvL a b
  | n, m, [], [], _, _ => rfl
  | n, m, [], _ :: _, _, _ => rfl
  | n, m, _ :: _, [], _, _ => rfl
  | n, m, a :: as, b :: bs, ha, hb => by
    simp only [T.dataL, Bool.and_eq_true] at ha hb
    simp only [T.toDs, PyData.eqvAll, T.eqvL]
    rw [T.eqv_toD ha.1 hb.1, T.eqvL_toD ha.2 hb.2]
end
theorem shaped_of {d : PyData} (h1 : d.canLay0 = true) (h2 : d.depth ≤ 61) : SeqAt.shaped d = true := by
  unfold SeqAt.shaped
  rw [h1]
  simp
  omega
/-- data behind a view -/
theorem Cn.dp {t : T} {v : V} {n : Nat} (c : Cn K A g H S) (r : Rep K A H g v t) (d : (view S t).data (n + 1) = true) : Dp K H v (view S t).toD ∧ (view S t).toD.canLay0 = true ∧ (view S t).toD.depth ≤ n + 1 := by
  cases t with
  | ref k =>
    cases e : view S (.ref k) with
    | lst ts =>
      obtain ⟨a, vs, rfl, ha, q⟩ := c.lstV r e
      rw [e] at d
      obtain ⟨h1, h2, h3⟩ := Reps.dp (n := n) (by simpa [T.data] using d) q
      exact ⟨.lst (.of ha) h1, by simpa [T.toD, PyData.canLay0] using h2, by simp only [T.toD, PyData.depth]; omega⟩
    | tup ts =>
      obtain ⟨a, vs, rfl, ha, q⟩ := c.tupV r e
      rw [e] at d
      obtain ⟨h1, h2, h3⟩ := Reps.dp (n := n) (by simpa [T.data] using d) q
      exact ⟨.tup ha h1, by simpa [T.toD, PyData.canLay0] using h2, by simp only [T.toD, PyData.depth]; omega⟩
    | non => exact absurd (view_non e) (by simp)
    | bl b => exact absurd (view_bl e) (by simp)
    | int i => exact absurd (view_int e) (by simp)
    | str i => exact absurd (view_str e) (by simp)
    | _ => rw [e] at d; simp [T.data] at d
  | _ => exact Rep.dp d r
end
section
variable {X : Cx} {A : Ad}
theorem opr_eqD (hu : X.A.units + 64 < cLine) : OpR X (compareOp .Eq) (PV X.K A eqD) := by
  rintro pins s σ H x y v u Q I rx ry ⟨g, S, t, w, c, r1, r2, h⟩
  obtain ⟨hd, h⟩ := AftP.ite h
  obtain ⟨d1, d2⟩ := Bool.and_eq_true_iff.mp hd
  obtain ⟨p1, p2, p3⟩ := c.dp r1 d1
  obtain ⟨q1, q2, q3⟩ := c.dp r2 d2
  exact op_eqD hu pins s σ H x y v u Q I rx ry ⟨_, _, p1, q1, shaped_of p2 (by omega), shaped_of q2 (by omega), by rw [T.eqv_toD d1 d2]; exact h.use c (.bl _)⟩
theorem opr_neD (hu : X.A.units + 64 < cLine) : OpR X (compareOp .NotEq) (PV X.K A neD) := by
  rintro pins s σ H x y v u Q I rx ry ⟨g, S, t, w, c, r1, r2, h⟩
  obtain ⟨hd, h⟩ := AftP.ite h
  obtain ⟨d1, d2⟩ := Bool.and_eq_true_iff.mp hd
  obtain ⟨p1, p2, p3⟩ := c.dp r1 d1
  obtain ⟨q1, q2, q3⟩ := c.dp r2 d2
  exact op_neD hu pins s σ H x y v u Q I rx ry ⟨_, _, p1, q1, shaped_of p2 (by omega), shaped_of q2 (by omega), by rw [T.eqv_toD d1 d2]; exact h.use c (.bl _)⟩
theorem toDs_any {n m : Nat} {d : T} (hd : d.data m = true) : ∀ {ys : List T}, T.dataL n ys = true → ((T.toDs ys).any fun z => PyData.eqv z d.toD) = ys.any fun y => y.eqv d
  | [], _ => rfl
  | y :: ys, h => by
    simp only [T.dataL, Bool.and_eq_true] at h
    simp only [T.toDs, List.any_cons, T.eqv_toD h.1 hd, toDs_any hd h.2]
/-- membership in a tuple -/
theorem op_inT (hu : X.A.units + 65 < cLine) (neg : Bool) {pins : List (Addr × Obj)} {s : Shared} {σ : L2.St} {H : Hp} {x y : V} {v u : Value} {Q : VK} (I : Inv X pins σ H s) (rx : RelV x v) (ry : RelV y u) {d : PyData} {ds : List PyData} (hd : Dp X.K H x d) (he : Dp X.K H y (.tuple ds))
    (sd : SeqAt.shaped d = true) (se : SeqAt.shaped (.tuple ds) = true) (q : Q (.bl (if neg then !(ds.any fun z => PyData.eqv z d) else ds.any fun z => PyData.eqv z d)) H) : wpAny (model X.prog X.w) X.A (compareOp (if neg then .NotIn else .In) v u) (EP X pins σ Q) X.xe s := by
  obtain ⟨as, r1⟩ := Dp.reads I d x v hd rx
  obtain ⟨bs, r2⟩ := Dp.reads I (.tuple ds) y u he ry
  cases neg with
  | false => exact SeqAt.in_tuple_reads r2 r1 (SeqAt.canLay_of_shaped se) (SeqAt.canLay_of_shaped sd) (room_in_shaped sd hu) ⟨.bl _, H, I, rfl, q⟩
  | true => exact SeqAt.notIn_tuple_reads r2 r1 (SeqAt.canLay_of_shaped se) (SeqAt.canLay_of_shaped sd) (room_in_shaped sd hu) ⟨.bl _, H, I, rfl, q⟩
theorem RepD.valV {K : PySem.W.Frag} {g : Gh} {H : Hp} {k : Str} : ∀ {kvs : List (Key × V)} {ts : List (Str × T)}, RepD K A H g kvs ts → (∀ t, getS ts k = some t → ∃ v, valV kvs (Sum.inr k) = some v ∧ Rep K A H g v t) ∧ (getS ts k = none → valV kvs (Sum.inr k) = none)
  | _, _, .nil => ⟨fun _ e => by simp [getS] at e, fun _ => rfl⟩
  | _, _, .cons (k := k') (v := v') hk a r => by
    obtain ⟨i1, i2⟩ := RepD.valV (k := k) r
    by_cases e : k' = k
    · subst e
      rw [valV_pos (k := (Sum.inr k' : Key)) rfl]
      refine ⟨fun t q => ?_, fun q => by simp [getS, List.find?_cons] at q⟩
      simp [getS, List.find?_cons] at q
      subst q
      exact ⟨_, rfl, a⟩
    · rw [valV_neg (k := (Sum.inr k : Key)) (fun z => e (Sum.inr.inj z))]
      have e2 : ∀ (t' : T) (l : List (Str × T)), getS ((k', t') :: l) k = getS l k := fun t' l => by simp [getS, List.find?_cons, e]
      rw [e2]
      exact ⟨i1, i2⟩
theorem opr_inD (hu : X.A.units + 65 < cLine) (neg : Bool) : OpR X (compareOp (if neg then .NotIn else .In)) (PV X.K A (inD neg)) := by
  rintro pins s σ H x y v u Q I rx ry ⟨g, S, t, w, c, r1, r2, h⟩
  unfold inD at h
  cases e2 : view S w <;> simp only [e2] at h <;> try exact False.elim h
  · obtain rfl := view_str e2
    obtain ⟨rfl, o2⟩ := r2.str_inv
    cases t <;> try exact False.elim h
    obtain ⟨rfl, o1⟩ := r1.str_inv
    cases neg with
    | false => exact op_in_str pins s σ H _ _ v u Q I rx ry ⟨_, _, rfl, rfl, h.use c (.bl _)⟩
    | true => exact op_notin_str pins s σ H _ _ v u Q I rx ry ⟨_, _, rfl, rfl, h.use c (.bl _)⟩
  · rename_i ys
    obtain ⟨hd, h⟩ := AftP.ite h
    obtain ⟨d1, d2⟩ := Bool.and_eq_true_iff.mp hd
    obtain ⟨p1, p2, p3⟩ := c.dp r1 d1
    have d2' : (view S w).data 60 = true := by rw [e2]; exact d2
    obtain ⟨q1, q2, q3⟩ := c.dp r2 d2'
    rw [e2] at q1 q2 q3
    simp only [T.toD] at q1 q2 q3
    have ea := toDs_any (n := 59) d1 d2
    cases neg with
    | false => exact op_inD hu pins s σ H x y v u Q I rx ry ⟨_, _, p1, q1, shaped_of p2 (by omega), shaped_of q2 (by omega), by rw [ea]; exact h.use c (.bl _)⟩
    | true => exact op_notInD hu pins s σ H x y v u Q I rx ry ⟨_, _, p1, q1, shaped_of p2 (by omega), shaped_of q2 (by omega), by rw [ea]; exact h.use c (.bl _)⟩
  · rename_i ys
    obtain ⟨hd, h⟩ := AftP.ite h
    obtain ⟨d1, d2⟩ := Bool.and_eq_true_iff.mp hd
    obtain ⟨p1, p2, p3⟩ := c.dp r1 d1
    have d2' : (view S w).data 60 = true := by rw [e2]; exact d2
    obtain ⟨q1, q2, q3⟩ := c.dp r2 d2'
    rw [e2] at q1 q2 q3
    simp only [T.toD] at q1 q2 q3
    have ea := toDs_any (n := 59) d1 d2
    exact op_inT hu neg I rx ry p1 q1 (shaped_of p2 (by omega)) (shaped_of q2 (by omega)) (by rw [ea]; exact h.use c (.bl _))
  · rename_i kvs
    obtain ⟨a, kvs', rfl, ha, q⟩ := c.dctV r2 e2
    cases t <;> try exact False.elim h
    rename_i k
    obtain ⟨rfl, o1⟩ := r1.str_inv
    obtain ⟨i1, i2⟩ := q.valV (k := k)
    have eg : (valV kvs' (Sum.inr k)).isSome = (getS kvs k).isSome := by
      cases e : getS kvs k with
      | none => rw [i2 e]; rfl
      | some t => obtain ⟨v1, e1, _⟩ := i1 t e; rw [e1]; rfl
    obtain rfl : u = Value.ref a := ry
    have dg : DGet H a (V.str k) (valV kvs' (Sum.inr k)) := .inl ⟨kvs', Sum.inr k, ha, rfl, rfl⟩
    cases neg with
    | false => exact d_in (o := valV kvs' (Sum.inr k)) (y := V.str k) (by omega) I dg rx fun s3 I3 => ⟨.bl _, H, I3, rfl, by rw [eg]; exact h.use c (.bl _)⟩
    | true => exact d_notIn (o := valV kvs' (Sum.inr k)) (y := V.str k) (by omega) I dg rx fun s3 I3 => ⟨.bl _, H, I3, rfl, by rw [eg]; exact h.use c (.bl _)⟩
theorem opr_is : OpR X (compareOp .Is) (PV X.K A (isT false)) := by
  rintro pins s σ H x y v u Q I rx ry ⟨g, S, t, w, c, r1, r2, h⟩
  unfold isT at h
  cases w <;> try exact False.elim h
  obtain rfl := r2.non_inv
  refine op_isN pins s σ H _ _ v u Q I rx ry ⟨rfl, ?_⟩
  have := h.use c (.bl _)
  cases t <;> cases r1 <;> simpa using this
theorem opr_isnot : OpR X (compareOp .IsNot) (PV X.K A (isT true)) := by
  rintro pins s σ H x y v u Q I rx ry ⟨g, S, t, w, c, r1, r2, h⟩
  unfold isT at h
  cases w <;> try exact False.elim h
  obtain rfl := r2.non_inv
  refine op_notN pins s σ H _ _ v u Q I rx ry ⟨rfl, ?_⟩
  have := h.use c (.bl _)
  cases t <;> cases r1 <;> simpa using this
end
end NH
end
section
namespace NH
open PySem L2 PyProof.Rows

/-- what stands of the program in the written part -/
structure Lay (K : PySem.W.Frag) (A : Ad) (G : Gam) : Prop where
  cls : ∀ c cl, G.cls c = some cl → cl.kind ≠ 2 → Cls K (A.c c)
  fld : ∀ c cl f, G.cls c = some cl → cl.kind ≠ 2 → f ∈ cl.flds → f < A.n ∧ NoAttr K (A.c c) (A.nm f)
  con : ∀ c cl f t, G.cls c = some cl → cl.kind ≠ 2 → cl.con.lookup f = some t → f < A.n ∧ ∃ v u, Con K (A.c c) (A.nm f) v u ∧ ∀ H g, Rep K A H g v t
  meth : ∀ c cl m f, G.cls c = some cl → cl.kind ≠ 2 → cl.meth.lookup m = some f → m < A.n ∧ Meth K (A.c c) (A.nm m) (A.f f)
  mkr : ∀ c cl f, G.cls c = some cl → cl.kind ≠ 2 → cl.init = some f → Mk K (A.c c) (A.f f)
  isi : ∀ c cl, G.cls c = some cl → cl.kind ≠ 2 → PySem.W.findIn K (.ref (A.c c)) "__class__" = some (some (.builtin "object.__class__")) ∧ PySem.W.mroIn K (A.c c) (.type "object") = some true
  isiG : PySem.W.specialIn K (.builtin "object.__class__") "__get__" = some (some (.builtin "getset_descriptor.__get__")) ∧ PySem.W.takesIn K (.builtin "object.__class__") = some true
  kOO : ∀ d cl c, G.cls d = some cl → cl.kind ≠ 2 → (G.cls c).isSome = true → PySem.W.kitOne K (.ref (A.c d)) (.ref (A.c c)) = some (cl.mro.contains c)
  kOT : ∀ d cl n, G.cls d = some cl → cl.kind ≠ 2 → n ∈ tyNames → PySem.W.kitOne K (.ref (A.c d)) (.type n) = some false
  kTO : ∀ n c, n ∈ "NoneType" :: tyNames → (G.cls c).isSome = true → PySem.W.kitOne K (.type n) (.ref (A.c c)) = some false
  nLen : A.nm nmLen = "__len__" ∧ nmLen < A.n
  nCon : A.nm nmContains = "__contains__" ∧ nmContains < A.n
  nRep : A.nm nmRepr = "__repr__" ∧ nmRepr < A.n
  /-- objects are no exceptions -/
  ord : ∀ c cl m, G.cls c = some cl → (cl.meth.lookup m).isSome = true → cl.kind ≠ 2

section
variable {K : PySem.W.Frag} {A : Ad} {g : Gh} {H : Hp} {S : Store}
theorem atI_of {vs : List V} {ts : List T} {i : Int} {t : T} (r : Reps K A H g vs ts) (e : atI ts i = some t) : ∃ v, atI vs i = some v ∧ Rep K A H g v t := by
  unfold atI at *
  rw [r.length]
  cases h : ixN ts.length i with
  | none => rw [h] at e; cases e
  | some j => rw [h] at e; exact r.get e
theorem Reps.cutL {vs : List V} {ts : List T} (lo hi : Option Int) (r : Reps K A H g vs ts) : Reps K A H g (cutV vs lo hi) (NH.cutL ts lo hi) := by
  unfold cutV NH.cutL
  rw [r.length]
  exact (r.drop _).take _
theorem intsOf_ok : ∀ {ts : List T} {ns : List Int} {vs : List V}, intsOf ts = some ns → Reps K A H g vs ts → vs = ns.map V.int
  | [], ns, _, e, r => by cases e; cases r; rfl
  | .int i :: ts, ns, _, e, r => by
    unfold intsOf at e
    cases h : intsOf ts with
    | none => rw [h] at e; cases e
    | some is =>
      rw [h] at e
      cases e
      cases r with
      | cons a b => rw [a.int_inv, intsOf_ok h b]; rfl
  | .non :: _, _, _, e, _ => by cases e
  | .bl _ :: _, _, _, e, _ => by cases e
  | .str _ :: _, _, _, e, _ => by cases e
  | .ty _ :: _, _, _, e, _ => by cases e
  | .cls _ :: _, _, _, e, _ => by cases e
  | .fn _ :: _, _, _, e, _ => by cases e
  | .ref _ :: _, _, _, e, _ => by cases e
  | .scr _ :: _, _, _, e, _ => by cases e
  | .lst _ :: _, _, _, e, _ => by cases e
  | .tup _ :: _, _, _, e, _ => by cases e
  | .dct _ :: _, _, _, e, _ => by cases e
  | .ins _ _ :: _, _, _, e, _ => by cases e
  | .exc _ _ :: _, _, _, e, _ => by cases e
theorem reps_ints : ∀ ns : List Int, Reps K A H g (ns.map V.int) (ns.map T.int)
  | [] => .nil
  | n :: ns => .cons (.int n) (reps_ints ns)
theorem view_tup {t : T} {ts : List T} (h : view S t = .tup ts) : t = .tup ts := by
  cases t with
  | ref k =>
    unfold view at h
    cases e : S.nd k with
    | none => simp only [e] at h; cases h
    | some x => simp only [e] at h; cases x <;> cases h
  | _ => exact h
theorem strOk_mem {x : Str} {c : Nat} (h : PyData.strOk x = true) (hc : c ∈ x.cps.toList) : PyData.strOk ⟨#[c]⟩ = true := by
  unfold PyData.strOk at *
  have h' := Array.all_eq_true_iff_forall_mem.mp h c (by simpa using hc)
  simpa using h'
theorem strOk_list {x : Str} {l : List Nat} (h : PyData.strOk x = true) (hl : ∀ c ∈ l, c ∈ x.cps.toList) : PyData.strOk ⟨l.toArray⟩ = true := by
  unfold PyData.strOk at *
  rw [Array.all_eq_true_iff_forall_mem] at *
  intro c hc
  exact h c (by simpa using hl c (by simpa using hc))
end
section
variable {X : Cx} {A : Ad}
theorem ix_all (hu : X.A.units + 65 < cLine) : IxR X (PV X.K A subT) := by
  rintro value slice pins s σ H x y v u Q I rx ry ⟨g, S, t, w, c, r1, r2, h⟩ hs
  unfold subT at h
  cases e1 : view S t <;> simp only [e1] at h <;> try exact False.elim h
  · obtain rfl := view_str e1
    obtain ⟨rfl, o1⟩ := r1.str_inv
    cases w <;> try exact False.elim h
    obtain rfl := r2.int_inv
    rename_i z i
    change AftP X.K A _ (if z.length ≤ sizeLine then R.of ((atI z.cps.toList i).map fun c => T.str ⟨#[c]⟩) S else .no) g H S Q at h
    obtain ⟨hz, h⟩ := h.ite
    cases e : atI z.cps.toList i with
    | none => rw [e] at h; exact False.elim h
    | some cc =>
      rw [e] at h
      refine ix_str value slice pins s σ H _ _ v u Q I rx ry ⟨_, _, cc, rfl, rfl, hz, e, h.use c (.str _ (strOk_mem o1 ?_))⟩ hs
      unfold atI at e
      cases e3 : ixN z.cps.toList.length i with
      | none => rw [e3] at e; cases e
      | some j => rw [e3] at e; exact List.mem_of_getElem? e
  · obtain ⟨a, vs, rfl, ha, q⟩ := c.lstV r1 e1
    cases w <;> try exact False.elim h
    obtain rfl := r2.int_inv
    rename_i xs i
    change AftP X.K A _ (R.of (atI xs i) S) g H S Q at h
    cases e : atI xs i with
    | none => rw [e] at h; exact False.elim h
    | some cc =>
      rw [e] at h
      obtain ⟨v1, q1, q2⟩ := atI_of q e
      exact ix_list value slice pins s σ H _ _ v u Q I rx ry ⟨a, vs, _, v1, rfl, rfl, .of ha, q1, h.use c q2⟩ hs
  · obtain ⟨a, vs, rfl, ha, q⟩ := c.tupV r1 e1
    cases w <;> try exact False.elim h
    obtain rfl := r2.int_inv
    rename_i xs i
    change AftP X.K A _ (R.of (atI xs i) S) g H S Q at h
    cases e : atI xs i with
    | none => rw [e] at h; exact False.elim h
    | some cc =>
      rw [e] at h
      obtain ⟨v1, q1, q2⟩ := atI_of q e
      exact ix_tup value slice pins s σ H _ _ v u Q I rx ry ⟨a, vs, _, v1, rfl, rfl, ha, q1, h.use c q2⟩ hs
  · obtain ⟨a, kvs', rfl, ha, q⟩ := c.dctV r1 e1
    cases w <;> try exact False.elim h
    rename_i kvs k
    obtain ⟨rfl, o1⟩ := r2.str_inv
    change AftP X.K A _ (R.of (getS kvs k) S) g H S Q at h
    cases e : getS kvs k with
    | none => rw [e] at h; exact False.elim h
    | some cc =>
      rw [e] at h
      obtain ⟨v1, q1, q2⟩ := (q.valV (k := k)).1 cc e
      obtain rfl : v = Value.ref a := rx
      have dg : DGet H a (V.str k) (valV kvs' (Sum.inr k)) := .inl ⟨kvs', Sum.inr k, ha, rfl, rfl⟩
      rw [q1] at dg
      exact tail_any (dict_typeIs I dg) PySem.F.slot_dict_getitem.lookup (d_getItem (y := V.str k) (by omega) I dg ry fun w' s3 I3 rw' => ⟨v1, H, I3, rw', h.use c q2⟩) hs
theorem snd_sub {W : WX} {a b : Expr} {fa fb : Fr → Store → R T} {pos : Pos} (hu : X.A.units + 65 < cLine) (ha : PE X a (RdE X.K A W fa)) (hb : PE X b (RdE X.K A W fb)) (hs : PlainIx b) :
    PE X (.Subscript a b pos) (RdE X.K A W fun ρ S => (fa ρ S).bind fun v S1 => (fb ρ S1).bind fun w S2 => (subT v w S2).noX) :=
  (pe_ix (ix_all hu) ha hb hs).imp fun σ H Q h => snd_op2 (a := a) (b := b) h
/-! ### slices -/
def PVc (K : PySem.W.Frag) (A : Ad) : V → Option Int → Option Int → Hp → VK → Prop := fun x lo hi H Q =>
  ∃ (g : Gh) (S : Store) (t : T), Cn K A g H S ∧ Rep K A H g x t ∧ AftP K A (repV K A) (cutT t lo hi S) g H S Q
theorem sl_all : SlR X (PVc X.K A) := by
  rintro pins s σ H x v vl vu lo hi sl Q I rx hs pl pu ⟨g, S, t, c, r1, h⟩
  unfold cutT at h
  cases e1 : view S t <;> simp only [e1] at h <;> try exact False.elim h
  · obtain rfl := view_str e1
    obtain ⟨rfl, o1⟩ := r1.str_inv
    obtain ⟨hz, h⟩ := h.ite
    refine sl_str pins s σ H _ v vl vu lo hi sl Q I rx hs pl pu ⟨_, rfl, hz, ?_⟩
    refine h.use c (.str _ (strOk_list o1 fun d hd => ?_))
    exact List.mem_of_mem_drop (List.mem_of_mem_take hd)
  · obtain rfl := view_scr e1
    rename_i ns
    cases r1 with
    | scr q =>
      rename_i a
      refine sl_list pins s σ H _ v vl vu lo hi sl Q I rx hs pl pu ⟨a, _, rfl, q.elim (fun z => .inl z.2) .inr, fun p hp => ?_⟩
      have q := reps_ints (K := X.K) (A := A) (g := g) (H := H) ns
      obtain ⟨g2, x2, c2, r3⟩ := new_lst (X := X) c (q.cutL lo hi) hp
      exact h g2 _ _ x2 c2 (Nat.le_refl _) r3
  · obtain ⟨a, vs, rfl, ha, q⟩ := c.lstV r1 e1
    refine sl_list pins s σ H _ v vl vu lo hi sl Q I rx hs pl pu ⟨a, _, rfl, .of ha, fun p hp => ?_⟩
    obtain ⟨g2, x2, c2, r3⟩ := new_lst (X := X) c (q.cutL lo hi) hp
    exact h g2 _ _ x2 c2 (Nat.le_refl _) r3
  · obtain ⟨a, vs, rfl, ha, q⟩ := c.tupV r1 e1
    have qc := q.cutL lo hi
    refine sl_tupA pins s σ H _ v vl vu lo hi sl Q I rx hs pl pu ⟨a, _, rfl, ha, fun hw => ?_, fun hw p hp => ?_⟩
    · have e : cutV vs lo hi = vs := by
        unfold cutV
        rw [hw.1, hw.2, List.drop_zero, Nat.sub_zero, List.take_length]
      have e' : NH.cutL ‹List T› lo hi = ‹List T› := by
        unfold NH.cutL
        rw [← q.length, hw.1, hw.2, List.drop_zero, Nat.sub_zero, q.length, List.take_length]
      rw [e'] at h
      obtain rfl := view_tup e1
      exact h.use c r1
    · obtain ⟨g2, x2, c2, r3⟩ := new_tup (X := X) c qc hp
      exact h g2 _ _ x2 c2 (Nat.le_refl _) r3
end
end NH
end
section
namespace NH
open PySem L2 PyProof.Rows

def Fn.np (fn : Fn) : Nat := fn.pos.length + fn.kwo.length
/-- what a def promises: what the interpreter gives -/
def spF (K : PySem.W.Frag) (A : Ad) (G : Gam) (n f : Nat) (fn : Fn) : Sp := fun vs H Q E =>
  ∃ (g : Gh) (S : Store) (ts : List T), Cn K A g H S ∧ Reps K A H g vs ts ∧ ts.length = fn.np ∧ Aft K A (repV K A) (fun cls d _ H' => E cls d H') [] (runN G n f ts S) g H S Q
/-- how calls are bound -/
def BindOk (K : PySem.W.Frag) (A : Ad) (fd : FuncData) (ps : List Str) (fn : Fn) : Prop :=
  ∀ (s : Shared) (H : Hp) (g : Gh) (us : List Value) (vs : List V) (ts : List T) (ks : List Nat) (ws : List Value) (wvs : List V) (tws zts : List T), K.In s.heap → Vals vs us → Reps K A H g vs ts → Vals wvs ws → Reps K A H g wvs tws → ks.length = tws.length → (∀ k ∈ ks, k < A.n) →
    bind fn ts (ks.zip tws) = some zts → ∃ (zvs : List V) (zus : List Value), Vals zvs zus ∧ Reps K A H g zvs zts ∧ zus.length = ps.length ∧ BindsTo s fd ⟨us, (ks.map A.nm).zip ws⟩ (ps.zip zus)
structure FnI (X : Cx) (A : Ad) (G : Gam) (n f : Nat) (fn : Fn) : Prop where
  kp : PySem.W.keepIn X.K (.ref (A.f f)) = true
  ex : ∃ (fd : FuncData) (ps : List Str), FnOk X.prog X.w X.K X.mg X.base (L2.CX X.prog X.w) (5 * n) (A.f f) fd ps (spF X.K A G n f fn) ∧ BindOk X.K A fd ps fn ∧ ps.length = fn.np
theorem bindPos_length {fn : Fn} {args : List T} {kws : List (Nat × T)} : ∀ {xs : List Nat} {i : Nat} {vs : List T}, bindPos fn args kws i xs = some vs → vs.length = xs.length
  | [], _, _, h => by cases h; rfl
  | x :: xs, i, vs, h => by
    unfold bindPos at h
    split at h
    · split at h
      · rename_i h2
        cases h
        exact congrArg Nat.succ (bindPos_length h2)
      · cases h
    · cases h
theorem bindKw_length {kws : List (Nat × T)} : ∀ {xs : List (Nat × Option T)} {vs : List T}, bindKw kws xs = some vs → vs.length = xs.length
  | [], _, h => by cases h; rfl
  | (x, d) :: xs, vs, h => by
    unfold bindKw at h
    split at h
    · split at h
      · rename_i h2
        cases h
        exact congrArg Nat.succ (bindKw_length h2)
      · cases h
    · cases h
theorem bind_length {fn : Fn} {args : List T} {kws : List (Nat × T)} {vs : List T} (h : bind fn args kws = some vs) : vs.length = fn.np := by
  unfold bind at h
  split at h
  · split at h
    · split at h
      · rename_i h1 _ _ h2
        cases h
        rw [List.length_append, bindPos_length (by assumption), bindKw_length (by assumption)] <;> rfl
      · cases h
    · cases h
  · cases h
section
variable {X : Cx} {A : Ad} {G : Gam} {W : WX} {n : Nat}
theorem Aft.toE {K : PySem.W.Frag} {α β : Type} {rep : Hp → Gh → β → α → Prop} {σ : L2.St} {r : R α} {g : Gh} {H : Hp} {S : Store} {Q : β → Hp → Prop} (h : Aft K A rep W σ r g H S Q) : Aft K A rep (fun cls d _ H' => W cls d σ H') [] r g H S Q := by
  cases r with
  | ok t S' => exact h
  | exc x S' => exact h
  | no => exact h
/-- a def is called by values -/
theorem run_call {f : Nat} {fn : Fn} (F : FnI X A G n f fn) (hr : Room (5 * n) X.A) (tk : Takes X W) {pins : List (Addr × Obj)} {σ : L2.St} {H : Hp} {s : Shared} {Q : VK} {g : Gh} {S : Store} {us ws : List Value} {vs wvs : List V} {ts tws zts : List T} {ks : List Nat}
    (I : Inv X pins σ H s) (rv : Vals vs us) (rt : Reps X.K A H g vs ts) (rw' : Vals wvs ws) (rtw : Reps X.K A H g wvs tws) (hk : ks.length = tws.length) (hkn : ∀ k ∈ ks, k < A.n) (hb : bind fn ts (ks.zip tws) = some zts) (c : Cn X.K A g H S)
    (h : Aft X.K A (repV X.K A) W σ (runN G n f zts S) g H S Q) : wpAny (model X.prog X.w) X.A (call (.ref (A.f f)) us ((ks.map A.nm).zip ws)) (EP X pins σ Q) X.xe s := by
  obtain ⟨fd, ps, FO, B, hp⟩ := F.ex
  obtain ⟨zvs, zus, r1, r2, hl, bt⟩ := B s H g us vs ts ks ws wvs tws zts I.kIn rv rt rw' rtw hk hkn hb
  have hsp : spF X.K A G n f fn zvs H Q (fun cls d H' => W cls d σ H') := ⟨g, S, zts, c, r2, bind_length hb, h.toE⟩
  refine wpAny_call (codeAny_mono (FO.run X.A X.stack s H ⟨us, (ks.map A.nm).zip ws⟩ zus zvs Q _ hr I.env0 bt r1 hsp) fun r s' hq => ?_)
  cases r with
  | error e => exact tk e s' (XE.of_call I (fun cls d H' h => h) hq)
  | ok fl =>
    cases fl with
    | ret u => exact I.after hq
    | next => exact False.elim hq
    | brk => exact False.elim hq
    | cont => exact False.elim hq
/-- keyword arguments -/
abbrev RdK (K : PySem.W.Frag) (A : Ad) (W : WX) (f : Fr → Store → R (List (Nat × T))) : TA := RdG K A (fun H g (vs : List V) (ts : List (Nat × T)) => Reps K A H g vs (ts.map (·.2))) W f
def isStar : Expr → Bool
  | .Starred _ _ => true
  | _ => false
theorem starEach_plain {e : Expr} {es : List Expr} {env : Env} (h : isStar e = false) : starEach (e :: es) env = (false, eval e env) :: starEach es env := by
  cases e <;> first | rfl | cases h
theorem star_any {es : List Expr} {env : Env} {pos : Pos} (h : es.all (fun e => !isStar e) = true) : (backTo pos (starEach es env)).any (·.1) = false := by
  induction es with
  | nil => rfl
  | cons e es ih =>
    simp only [List.all_cons, Bool.and_eq_true, Bool.not_eq_true'] at h
    rw [starEach_plain h.1]
    show (false || (backTo pos (starEach es env)).any (·.1)) = false
    rw [ih h.2]; rfl
theorem kw_each {kws : List Keyword} {env : Env} {pos : Pos} (h : kws.all (fun k => k.arg.isSome) = true) : (backToKw pos (keywordEach kws env)).all (·.1.isSome) = true ∧ (backToKw pos (keywordEach kws env)).any (·.1.isNone) = false ∧ (backToKw pos (keywordEach kws env)).filterMap (·.1) = kws.filterMap (·.arg) := by
  induction kws with
  | nil => exact ⟨rfl, rfl, rfl⟩
  | cons k kws ih =>
    obtain ⟨a, e, p⟩ := k
    simp only [List.all_cons, Bool.and_eq_true] at h
    obtain ⟨i1, i2, i3⟩ := ih h.2
    cases a with
    | none => exact absurd h.1 (by decide)
    | some a =>
      refine ⟨?_, ?_, ?_⟩
      · show (true && (backToKw pos (keywordEach kws env)).all (·.1.isSome)) = true
        rw [i1]; rfl
      · show (false || (backToKw pos (keywordEach kws env)).any (·.1.isNone)) = false
        rw [i2]; rfl
      · show a :: (backToKw pos (keywordEach kws env)).filterMap (·.1) = a :: kws.filterMap (·.arg)
        rw [i3]
/-- a callee that is kept by the written part, its arguments -/
theorem cw_any {es : List Expr} {kws : List Keyword} {fv : Value} {first : List Value} {pos : Pos} {fs : Fr → Store → R (List T)} {fk : Fr → Store → R (List (Nat × T))} {γ : Type} {rep2 : Hp → Gh → V → γ → Prop} {k : List T → List (Nat × T) → Store → R γ} (hk : PySem.W.keepIn X.K fv = true) (hs : es.all (fun e => !isStar e) = true) (hkw : kws.all (fun k => k.arg.isSome) = true)
    (ha : PA X es (RdA X.K A W fs)) (hn : es = [] → ∀ ρ S, fs ρ S = .ok [] S) (hkk : PK X kws (RdK X.K A W fk)) {pins : List (Addr × Obj)} {s : Shared} {σ : L2.St} {H : Hp} {Q : VK} {g : Gh} {ρ : Fr} {S : Store} (I : Inv X pins σ H s) (c : Cn X.K A g H S) (f : FrR X.K A H g σ ρ)
    (h : Aft X.K A rep2 W σ ((fs ρ S).bind fun vs S1 => (fk ρ S1).bind fun ws S2 => k vs ws S2) g H S Q)
    (hc : ∀ (s2 : Shared) (g2 : Gh) (H2 : Hp) (S2 : Store) (us ws : List Value) (vs wvs : List V) (ts : List T) (tws : List (Nat × T)), Inv X pins σ H2 s2 → Cn X.K A g2 H2 S2 → Ex g H g2 H2 → S.length ≤ S2.length → Vals vs us → Reps X.K A H2 g2 vs ts → Vals wvs ws → Reps X.K A H2 g2 wvs (tws.map (·.2)) →
      (∃ S1, fk ρ S1 = .ok tws S2) → Aft X.K A rep2 W σ (k ts tws S2) g2 H2 S2 Q → wpAny (model X.prog X.w) X.A (call fv (first ++ us) ((kws.filterMap (·.arg)).zip ws)) (EP X pins σ Q) X.xe s2) :
    wpAny (model X.prog X.w) X.A (callWith pos fv first (backTo pos (starEach es X.env)) (backToKw pos (keywordEach kws X.env))) (EP X pins σ Q) X.xe s := by
  obtain ⟨k1, k2, k3⟩ := kw_each (env := X.env) (pos := pos) hkw
  -- the keywords' values behind the positional ones
  have tail : ∀ (us : List Value) (s1 : Shared) (g1 : Gh) (H1 : Hp) (S1 : Store) (vs : List V) (ts : List T), Inv X pins σ H1 s1 → Cn X.K A g1 H1 S1 → Ex g H g1 H1 → S.length ≤ S1.length → Vals vs us → Reps X.K A H1 g1 vs ts → Aft X.K A rep2 W σ ((fk ρ S1).bind fun ws S2 => k ts ws S2) g1 H1 S1 Q →
      wpAny (model X.prog X.w) X.A (evalAll ((backToKw pos (keywordEach kws X.env)).map (·.2))) (fun ws s2 => X.K.In s2.heap ∧ wpAny (model X.prog X.w) X.A (call fv (first ++ us) (((backToKw pos (keywordEach kws X.env)).filterMap (·.1)).zip ws)) (EP X pins σ Q) X.xe s2) X.xe s1 := by
    intro us s1 g1 H1 S1 vs ts I1 c1 x1 l1 rv r1 h1
    refine thn (hkk.run pos pins s1 σ H1 (fun wvs H2 => ∀ ws s2, Inv X pins σ H2 s2 → Vals wvs ws → wpAny (model X.prog X.w) X.A (call fv (first ++ us) (((backToKw pos (keywordEach kws X.env)).filterMap (·.1)).zip ws)) (EP X pins σ Q) X.xe s2) I1 ⟨g1, ρ, S1, c1, f.ex x1, h1.bind fun tws S2 g2 H2 wvs e2 x2 c2 l2 r2 h2 => ?_⟩) fun ws s2 ⟨wvs, H2, I2, r2, q2⟩ => ⟨I2.kIn, q2 ws s2 I2 r2⟩
    intro ws s2 I2 rw'
    rw [k3]
    exact hc s2 g2 H2 S2 us ws vs wvs ts tws I2 c2 (x1.trans x2) (Nat.le_trans l1 l2) rv (r1.ex x2) rw' r2 ⟨S1, e2⟩ h2
  cases es with
  | nil =>
    refine PySem.W.callWith_KW0 (h₀ := X.base) I.ok.mod.kin hk k1 ?_ (by
      show (false || (backToKw pos (keywordEach kws X.env)).any (·.1.isNone)) = false
      rw [k2]; rfl)
    rw [hn rfl] at h
    exact tail [] s g H S [] [] I c .refl (Nat.le_refl _) .nil .nil h
  | cons e rest =>
    simp only [List.all_cons, Bool.and_eq_true, Bool.not_eq_true'] at hs
    refine PySem.W.callWith_KW (h₀ := X.base) I.ok.mod.kin hk k1 ?_ (by
      have := star_any (env := X.env) (pos := pos) (es := e :: rest) (by simp only [List.all_cons, hs.1, hs.2]; rfl)
      rw [this, k2]; rfl) (starEach_plain hs.1)
    refine thn (ha.run pos pins s σ H (fun vs H1 => ∀ us s1, Inv X pins σ H1 s1 → Vals vs us → wpAny (model X.prog X.w) X.A (evalAll ((backToKw pos (keywordEach kws X.env)).map (·.2))) (fun ws s2 => X.K.In s2.heap ∧
      wpAny (model X.prog X.w) X.A (call fv (first ++ us) (((backToKw pos (keywordEach kws X.env)).filterMap (·.1)).zip ws)) (EP X pins σ Q) X.xe s2) X.xe s1) I ⟨g, ρ, S, c, f, h.bind fun ts S1 g1 H1 vs _ x1 c1 l1 r1 h1 => ?_⟩) fun us s1 ⟨vs, H1, I1, r1, q1⟩ => q1 us s1 I1 r1
    intro us s1 I1 rv
    exact tail us s1 g1 H1 S1 vs ts I1 c1 x1 l1 rv r1 h1
end
end NH
end
section
namespace NH
open PySem L2 PyProof.Rows

theorem star_all {es : List Expr} {env : Env} {pos : Pos} (h : es.all (fun e => !isStar e) = true) : (backTo pos (starEach es env)).all (!·.1) = true ∧ (starEach es env).length = es.length := by
  induction es with
  | nil => exact ⟨rfl, rfl⟩
  | cons e es ih =>
    simp only [List.all_cons, Bool.and_eq_true, Bool.not_eq_true'] at h
    rw [starEach_plain h.1]
    exact ⟨by show (true && (backTo pos (starEach es env)).all (!·.1)) = true; rw [(ih h.2).1]; rfl, by simp [(ih h.2).2]⟩
/-- a method call's tree -/
theorem meth_eval {o : Expr} {m : Str} {apos pos : Pos} {es : List Expr} {kws : List Keyword} {env : Env} (hb : attributeBase o m env (eval o env) = eval o env) (hs : es.all (fun e => !isStar e) = true) (hkw : kws.all (fun k => k.arg.isSome) = true)
    (hn : es.length + kws.length + 1 < 30) (hl : (apos.endLine == pos.line) = true) :
    eval (.Call (.Attribute o m apos) es kws pos) env = (do
      let ov ← eval o env
      standAt apos.atName
      let (f, first) ← holding [ov] (getMethod ov m (do return (← importBound o env).getD true))
      callWith pos f first (backTo pos (starEach es env)) (backToKw pos (keywordEach kws env))) := by
  obtain ⟨k1, k2, k3⟩ := kw_each (env := env) (pos := pos) hkw
  obtain ⟨s1, s2⟩ := star_all (env := env) (pos := pos) hs
  have form : methodCallForm (es.length + kws.length) (backTo pos (starEach es env)) (backToKw pos (keywordEach kws env)) = true := by
    unfold methodCallForm
    rw [s1, k1]
    simp only [Bool.true_and, decide_eq_true_eq]
    split <;> omega
  show (do
    let ov ← attributeBase o m env (eval o env)
    standAt apos.atName
    methodCall o m apos pos env ov (es.length + kws.length) (backTo pos (starEach es env)) (backToKw pos (keywordEach kws env))) = _
  rw [hb]
  unfold methodCall calleeOf methodCallPos
  rw [form]
  simp only [hl, Bool.not_true, Bool.false_or, if_true, pure_bind, bind_assoc, Bool.true_eq_false]
section
variable {X : Cx} {A : Ad} {G : Gam} {W : WX} {n : Nat}
theorem zip_fst_snd {α β : Type} : ∀ l : List (α × β), (l.map (·.1)).zip (l.map (·.2)) = l
  | [] => rfl
  | (a, b) :: l => by simp [zip_fst_snd l]
/-- from a def's result as the interpreter has it to its call -/
theorem call_of {f : Nat} {ts : List T} {tws : List (Nat × T)} {S : Store} (hF : ∀ fn, G.fns f = some fn → FnI X A G n f fn) (hr : Room (5 * n) X.A) (tk : Takes X W) {pins : List (Addr × Obj)} {σ : L2.St} {H : Hp} {s : Shared} {Q : VK} {g : Gh} {us ws : List Value} {vs wvs : List V}
    (I : Inv X pins σ H s) (rv : Vals vs us) (rt : Reps X.K A H g vs ts) (rw' : Vals wvs ws) (rtw : Reps X.K A H g wvs (tws.map (·.2))) {names : List Str} (hn : names = (tws.map (·.1)).map A.nm) (hkn : ∀ k ∈ tws.map (·.1), k < A.n) (c : Cn X.K A g H S)
    (h : Aft X.K A (repV X.K A) W σ (callF G (runN G n) f ts tws S) g H S Q) : wpAny (model X.prog X.w) X.A (call (.ref (A.f f)) us (names.zip ws)) (EP X pins σ Q) X.xe s := by
  unfold callF at h
  cases e : G.fns f with
  | none => rw [e] at h; exact False.elim h
  | some fn =>
    rw [e] at h
    simp only at h
    cases eb : bind fn ts tws with
    | none => rw [eb] at h; exact False.elim h
    | some zts =>
      rw [eb] at h
      subst hn
      exact run_call (hF fn e) hr tk I rv rt rw' rtw (by simp) hkn (by rw [zip_fst_snd]; exact eb) c h
theorem snd_call {f : Nat} {x : Str} {p pos : Pos} {es : List Expr} {kws : List Keyword} {fs : Fr → Store → R (List T)} {fk : Fr → Store → R (List (Nat × T))} (hF : ∀ fn, G.fns f = some fn → FnI X A G n f fn) (hr : Room (5 * n) X.A) (tk : Takes X W) (hg : Gl X x) (hm : X.mg x = some (.ref (A.f f))) (hk : PySem.W.keepIn X.K (.ref (A.f f)) = true)
    (hs : es.all (fun e => !isStar e) = true) (hkw : kws.all (fun k => k.arg.isSome) = true) (ha : PA X es (RdA X.K A W fs)) (hn : es = [] → ∀ ρ S, fs ρ S = .ok [] S) (hkk : PK X kws (RdK X.K A W fk))
    (hks : ∀ ρ S tws S', fk ρ S = .ok tws S' → kws.filterMap (·.arg) = (tws.map (·.1)).map A.nm ∧ ∀ k ∈ tws.map (·.1), k < A.n) (hdb : (x == ("__debug__" : Str)) = false) :
    PE X (.Call (.Name x p) es kws pos) (RdE X.K A W fun ρ S => (fs ρ S).bind fun vs S1 => (fk ρ S1).bind fun ws S2 => callF G (runN G n) f vs ws S2) := by
  refine ⟨fun pins s σ H Q I ⟨g, ρ, S, c, fr, h⟩ => ?_⟩
  refine wpAny_Call_Name_kw (ld_glob I hg hm ?_ hdb)
  refine cw_any (first := []) hk hs hkw ha hn hkk I c fr h fun s2 g2 H2 S2 us ws vs wvs ts tws I2 c2 x2 l2 rv r1 rw' r2 ⟨S1, e2⟩ h2 => ?_
  obtain ⟨n1, n2⟩ := hks ρ S1 tws S2 e2
  exact call_of hF hr tk I2 rv r1 rw' r2 n1 n2 c2 h2
/-- o.m(..) of one's own class -/
theorem snd_meth {o : Expr} {m : Nat} {apos pos : Pos} {es : List Expr} {kws : List Keyword} {fo : Fr → Store → R T} {fs : Fr → Store → R (List T)} {fk : Fr → Store → R (List (Nat × T))} (L : Lay X.K A G) (hknd : ∀ c cl, G.cls c = some cl → (∃ f, cl.meth.lookup m = some f) → cl.kind ≠ 2) (hF : ∀ f fn, G.fns f = some fn → FnI X A G n f fn) (hr : Room (5 * n) X.A) (tk : Takes X W)
    (hb : attributeBase o (A.nm m) X.env (eval o X.env) = eval o X.env) (hlen : es.length + kws.length + 1 < 30) (hl : (apos.endLine == pos.line) = true) (hs : es.all (fun e => !isStar e) = true) (hkw : kws.all (fun k => k.arg.isSome) = true)
    (ho : PE X o (RdE X.K A W fo)) (ha : PA X es (RdA X.K A W fs)) (hn : es = [] → ∀ ρ S, fs ρ S = .ok [] S) (hkk : PK X kws (RdK X.K A W fk))
    (hks : ∀ ρ S tws S', fk ρ S = .ok tws S' → kws.filterMap (·.arg) = (tws.map (·.1)).map A.nm ∧ ∀ k ∈ tws.map (·.1), k < A.n) :
    PE X (.Call (.Attribute o (A.nm m) apos) es kws pos) (RdE X.K A W fun ρ S => (fo ρ S).bind fun v S0 => (methPre G v m S0).bind fun f S0 => (fs ρ S0).bind fun vs S1 => (fk ρ S1).bind fun ws S2 => callF G (runN G n) f (v :: vs) ws S2) := by
  refine ⟨fun pins s σ H Q I ⟨g, ρ, S, c, fr, h⟩ => ?_⟩
  refine PySem.W.methodCall_KW (thn (ho.run pins s σ H (fun x H1 => ∀ u s1, Inv X pins σ H1 s1 → RelV x u → wpAny (model X.prog X.w) X.A (getMethod u (A.nm m) (do return (← importBound o X.env).getD true)) (fun fx s₂ => wpAny (model X.prog X.w) X.A (callWith pos fx.1 fx.2 (backTo pos (starEach es X.env)) (backToKw pos (keywordEach kws X.env))) (EP X pins σ Q) X.xe s₂) X.xe s1) I
    ⟨g, ρ, S, c, fr, h.bind fun t S1 g1 H1 v _ x1 c1 l1 r1 h1 => ?_⟩) fun u s1 ⟨x, H1, I1, rx, q1⟩ => q1 u s1 I1 rx) (meth_eval hb hs hkw hlen hl)
  intro u s1 I1 ru
  unfold methPre at h1
  cases ev : view S1 t <;> rw [ev] at h1 <;> try exact False.elim h1
  rename_i cc fields
  simp only at h1
  cases el : fields.lookup m with
  | some _ => rw [el] at h1; exact False.elim h1
  | none =>
    rw [el] at h1
    cases em : methOf G cc m with
    | none => rw [em] at h1; exact False.elim h1
    | some f =>
      rw [em] at h1
      obtain ⟨a, dx, fs', rfl, ha', q⟩ := c1.insV r1 ev
      obtain rfl : u = Value.ref a := ru
      unfold methOf at em
      cases ec : G.cls cc with
      | none => rw [ec] at em; cases em
      | some cl =>
        rw [ec] at em
        simp only at em
        have k2 := hknd cc cl ec ⟨f, em⟩
        obtain ⟨hmn, hM⟩ := L.meth cc cl m f ec k2 em
        refine getmeth_ok I1 ha' (L.cls cc cl ec k2) hM ((q.look hmn).2 el) ?_
        refine cw_any (first := [.ref a]) hM.kp hs hkw ha hn hkk I1 c1 (fr.ex x1) h1 fun s2 g2 H2 S2 us ws vs wvs ts tws I2 c2 x2 l2 rv r1' rw' r2 ⟨S1', e2⟩ h2 => ?_
        obtain ⟨n1, n2⟩ := hks ρ S1' tws S2 e2
        exact call_of (us := .ref a :: us) (vs := .ref a :: vs) (ts := t :: ts) (hF f) hr tk I2 (.cons rfl rv) (.cons (r1.ex x2) r1') rw' r2 n1 n2 c2 h2
end
end NH
end
section
namespace NH
open PySem L2 PyProof.Rows

section
variable {X : Cx} {A : Ad} {G : Gam} {W : WX} {n : Nat}
/-! ### slices -/
def RdO (K : PySem.W.Frag) (A : Ad) (W : WX) (f : Fr → Store → R (Option Int)) : TO := RdG K A (fun _ _ o p => o = p) W f
theorem _root_.L2.PO.imp {X : Cx} {e : Option Expr} {t t' : TO} (h : PO X e t) (i : ∀ σ H Q, t' σ H Q → t σ H Q) : PO X e t' := ⟨fun pins s σ H Q I q => h.run pins s σ H Q I (i σ H Q q)⟩
theorem snd_po_none : PO X none (RdO X.K A W fun _ S => .ok none S) := po_none.imp fun σ H Q ⟨g, ρ, S, c, f, h⟩ => Aft.use (rep := fun _ _ o p => o = p) h c rfl
theorem snd_po_some {e : Expr} {fe : Fr → Store → R T} (h : PE X e (RdE X.K A W fe)) : PO X (some e) (RdO X.K A W fun ρ S => (fe ρ S).bind fun v S1 => match v with
    | .int i => .ok (some i) S1
    | _ => .no) := by
  refine (po_some h).imp fun σ H Q ⟨g, ρ, S, c, f, h⟩ => ⟨g, ρ, S, c, f, h.bind fun t S1 g1 H1 v _ x1 c1 l1 r1 h1 => ?_⟩
  cases t with
  | int i => exact ⟨i, r1.int_inv, Aft.use (rep := fun _ _ o p => o = p) h1 c1 rfl⟩
  | _ => exact False.elim h1
theorem snd_cut {e : Expr} {lo hi : Option Expr} {fe : Fr → Store → R T} {fl fh : Fr → Store → R (Option Int)} {pos p2 : Pos} (he : PE X e (RdE X.K A W fe)) (hl : PO X lo (RdO X.K A W fl)) (hh : PO X hi (RdO X.K A W fh)) :
    PE X (.Subscript e (.Slice lo hi none p2) pos) (RdE X.K A W fun ρ S => (fe ρ S).bind fun v S1 => (fl ρ S1).bind fun l S2 => (fh ρ S2).bind fun h S3 => (cutT v l h S3).noX) := by
  refine (pe_slice (sl_all (A := A)) he hl hh).imp fun σ H Q ⟨g, ρ, S, c, f, h⟩ => ⟨g, ρ, S, c, f, h.bind fun t S1 g1 H1 v _ x1 c1 l1 r1 h1 => ⟨g1, ρ, S1, c1, f.ex x1, h1.bind fun o S2 g2 H2 lo2 _ x2 c2 l2 r2 h2 => ⟨g2, ρ, S2, c2, (f.ex x1).ex x2, h2.bind fun o3 S3 g3 H3 hi3 _ x3 c3 l3 r3 h3 => ?_⟩⟩⟩
  obtain rfl : lo2 = o := r2
  obtain rfl : hi3 = o3 := r3
  exact ⟨g3, S3, t, c3, (r1.ex x2).ex x3, h3.noX⟩

/-! ### attributes -/
theorem snd_attr {e : Expr} {f : Nat} {fe : Fr → Store → R T} {pos : Pos} (L : Lay X.K A G) (hk : ∀ c cl, G.cls c = some cl → (cl.flds.contains f = true ∨ (cl.con.lookup f).isSome) → cl.kind ≠ 2) (hf : f < A.n) (he : PE X e (RdE X.K A W fe)) (hb : attributeBase e (A.nm f) X.env (eval e X.env) = eval e X.env) :
    PE X (.Attribute e (A.nm f) pos) (RdE X.K A W fun ρ S => (fe ρ S).bind fun v S1 => (attrT G v f S1).noX) := by
  refine ⟨fun pins s σ H Q I ⟨g, ρ, S, c, fr, h⟩ => ?_⟩
  refine attr_of hb (thn (he.run pins s σ H (fun x H1 => ∀ u s1, Inv X pins σ H1 s1 → RelV x u → wpAny (model X.prog X.w) X.A (getAttr u (A.nm f) true) (EP X pins σ Q) X.xe s1) I ⟨g, ρ, S, c, fr, h.bind fun t S1 g1 H1 v _ x1 c1 l1 r1 h1 => ?_⟩) fun u s1 ⟨x, H1, I1, rx, q1⟩ => q1 u s1 I1 rx)
  intro u s1 I1 ru
  replace h1 := h1.noX
  unfold attrT at h1
  cases ev : view S1 t <;> rw [ev] at h1 <;> try exact False.elim h1
  rename_i cc fs
  obtain ⟨a, dx, fs', rfl, ha, q⟩ := c1.insV r1 ev
  obtain rfl : u = Value.ref a := ru
  simp only at h1
  cases ec : G.cls cc with
  | none => rw [ec] at h1; exact False.elim h1
  | some cl =>
    rw [ec] at h1
    simp only at h1
    by_cases hfl : cl.flds.contains f = true
    · rw [if_pos hfl] at h1
      have k2 := hk cc cl ec (.inl hfl)
      cases el : fs.lookup f with
      | none => rw [el] at h1; exact False.elim h1
      | some t1 =>
        rw [el] at h1
        obtain ⟨v1, e1, e2⟩ := (q.look hf).1 t1 el
        exact getattr_ok I1 ha (L.cls cc cl ec k2) (L.fld cc cl f ec k2 (by simpa using hfl)).2 e1 fun u' s2 I2 ru => ⟨v1, H1, I2, ru, h1.use c1 e2⟩
    · rw [if_neg hfl] at h1
      cases el : fs.lookup f with
      | some t1 => rw [el] at h1; exact False.elim h1
      | none =>
        rw [el] at h1
        cases ek : cl.con.lookup f with
        | none => rw [ek] at h1; exact False.elim h1
        | some t1 =>
          rw [ek] at h1
          have k2 := hk cc cl ec (.inr (by rw [ek]; rfl))
          obtain ⟨_, v1, u1, k3, k4⟩ := L.con cc cl f t1 ec k2 ek
          exact getcon_ok I1 ha (L.cls cc cl ec k2) k3 ((q.look hf).2 el) fun s2 I2 => ⟨v1, H1, I2, k3.rel, h1.use c1 (k4 _ _)⟩

/-! ### orders -/
theorem opr_lt (hu : X.A.units < cLine) : OpR X (compareOp .Lt) (PV X.K A ltD) := by
  rintro pins s σ H x y v u Q I rx ry ⟨g, S, t, w, c, r1, r2, h⟩
  cases t with
  | int i =>
    cases w with
    | int j =>
      obtain rfl := r1.int_inv; obtain rfl := r2.int_inv
      exact op_lt pins s σ H _ _ v u Q I rx ry ⟨_, _, rfl, rfl, AftP.use (show AftP X.K A (repV X.K A) (.ok (.bl (decide (i < j))) S) g H S Q from h) c (.bl _)⟩
    | _ => exact False.elim h
  | str i =>
    cases w with
    | str j =>
      obtain ⟨rfl, o1⟩ := r1.str_inv; obtain ⟨rfl, o2⟩ := r2.str_inv
      exact op_lt_str pins s σ H _ _ v u Q I rx ry ⟨_, _, rfl, rfl, AftP.use (show AftP X.K A (repV X.K A) (.ok (.bl (decide (i.cps.toList < j.cps.toList))) S) g H S Q from h) c (.bl _)⟩
    | _ => exact False.elim h
  | tup xs =>
    cases w with
    | tup ys =>
      replace h : AftP X.K A (repV X.K A) (match intsOf xs, intsOf ys with
        | some ns, some ms => .ok (.bl (HT.lexLt ns ms)) S
        | _, _ => .no) g H S Q := h
      cases e1 : intsOf xs with
      | none => rw [e1] at h; exact False.elim h
      | some ns =>
        cases e2 : intsOf ys with
        | none => rw [e1, e2] at h; exact False.elim h
        | some ms =>
          rw [e1, e2] at h
          obtain ⟨a, vs, rfl, ha, q1⟩ := c.tupV (ts := xs) r1 rfl
          obtain ⟨b, ws, rfl, hb, q2⟩ := c.tupV (ts := ys) r2 rfl
          obtain rfl := intsOf_ok e1 q1
          obtain rfl := intsOf_ok e2 q2
          exact op_ltT hu pins s σ H _ _ v u Q I rx ry ⟨_, _, _, _, rfl, rfl, ha, hb, h.use c (.bl _)⟩
    | _ => exact False.elim h
  | _ => exact False.elim h
theorem opr_le : OpR X (compareOp .LtE) (PV X.K A leD) := by
  rintro pins s σ H x y v u Q I rx ry ⟨g, S, t, w, c, r1, r2, h⟩
  cases t with
  | int i =>
    cases w with
    | int j =>
      obtain rfl := r1.int_inv; obtain rfl := r2.int_inv
      exact op_le pins s σ H _ _ v u Q I rx ry ⟨_, _, rfl, rfl, AftP.use (show AftP X.K A (repV X.K A) (.ok (.bl (decide (i ≤ j))) S) g H S Q from h) c (.bl _)⟩
    | _ => exact False.elim h
  | _ => exact False.elim h
theorem opr_gt : OpR X (compareOp .Gt) (PV X.K A gtD) := by
  rintro pins s σ H x y v u Q I rx ry ⟨g, S, t, w, c, r1, r2, h⟩
  cases t with
  | int i =>
    cases w with
    | int j =>
      obtain rfl := r1.int_inv; obtain rfl := r2.int_inv
      exact op_gt pins s σ H _ _ v u Q I rx ry ⟨_, _, rfl, rfl, AftP.use (show AftP X.K A (repV X.K A) (.ok (.bl (decide (j < i))) S) g H S Q from h) c (.bl _)⟩
    | _ => exact False.elim h
  | _ => exact False.elim h
theorem opr_ge : OpR X (compareOp .GtE) (PV X.K A geD) := by
  rintro pins s σ H x y v u Q I rx ry ⟨g, S, t, w, c, r1, r2, h⟩
  cases t with
  | int i =>
    cases w with
    | int j =>
      obtain rfl := r1.int_inv; obtain rfl := r2.int_inv
      exact op_ge pins s σ H _ _ v u Q I rx ry ⟨_, _, rfl, rfl, AftP.use (show AftP X.K A (repV X.K A) (.ok (.bl (decide (j ≤ i))) S) g H S Q from h) c (.bl _)⟩
    | _ => exact False.elim h
  | _ => exact False.elim h

/-! ### comparisons by one's own methods -/
theorem AftP.aft {K : PySem.W.Frag} {A : Ad} {α β : Type} {rep : Hp → Gh → β → α → Prop} {σ : L2.St} {r : R α} {g : Gh} {H : Hp} {S : Store} {Q : β → Hp → Prop} (h : AftP K A rep r g H S Q) (W : WX) : Aft K A rep W σ r g H S Q := by
  cases r with
  | ok t S' => exact h
  | exc x S' => exact False.elim h
  | no => exact False.elim h
theorem AftP.bind {K : PySem.W.Frag} {A : Ad} {g : Gh} {H : Hp} {S : Store} {α β γ δ : Type} {rep : Hp → Gh → β → α → Prop} {rep2 : Hp → Gh → δ → γ → Prop} {r : R α} {k : α → Store → R γ} {Q : δ → Hp → Prop} {Q1 : β → Hp → Prop} (h : AftP K A rep2 (r.bind k) g H S Q)
    (hk : ∀ (t : α) (S1 : Store) (g1 : Gh) (H1 : Hp) (v : β), Ex g H g1 H1 → Cn K A g1 H1 S1 → S.length ≤ S1.length → rep H1 g1 v t → AftP K A rep2 (k t S1) g1 H1 S1 Q → Q1 v H1) : AftP K A rep r g H S Q1 := by
  cases r with
  | ok t S' =>
    intro g1 H1 v x c l q
    refine hk t S' g1 H1 v x c l q ?_
    have h' : AftP K A rep2 (k t S') g H S Q := h
    cases e : k t S' with
    | ok t2 S2 => rw [e] at h'; exact fun g' H' v' x' c' l' q' => h' g' H' v' (x.trans x') c' (Nat.le_trans l l') q'
    | exc t2 S2 => rw [e] at h'; exact h'
    | no => rw [e] at h'; exact h'
  | exc t S' => exact h
  | no => exact h
/-- a def is called by values, anywhere in the frame; it lets no exception out -/
theorem run_callP {f : Nat} {fn : Fn} (F : FnI X A G n f fn) {A' : Around} (hA : A'.frames = X.A.frames) (hr : Room (5 * n) A') {pins : List (Addr × Obj)} {σ : L2.St} {H : Hp} {s : Shared} {Q : VK} {E : Value → Shared → Prop} {g : Gh} {S : Store} {us : List Value} {vs : List V} {ts zts : List T}
    (I : Inv X pins σ H s) (rv : Vals vs us) (rt : Reps X.K A H g vs ts) (hb : bind fn ts [] = some zts) (c : Cn X.K A g H S)
    (h : AftP X.K A (repV X.K A) (runN G n f zts S) g H S Q) : wpAny (model X.prog X.w) A' (call (.ref (A.f f)) us) (EP X pins σ Q) E s := by
  obtain ⟨fd, ps, FO, B, hp⟩ := F.ex
  obtain ⟨zvs, zus, r1, r2, hl, bt⟩ := B s H g us vs ts [] [] [] [] zts I.kIn rv rt .nil .nil rfl (by simp) hb
  have hsp : spF X.K A G n f fn zvs H Q (fun _ _ _ => False) := ⟨g, S, zts, c, r2, bind_length hb, h.aft _⟩
  have e := I.env0
  have e0 : Env0 X.prog X.w X.K X.mg X.base A' X.stack s H := ⟨by rw [hA]; exact e.frames, e.mod, e.bs, e.bsz, e.funs, e.frf, e.hok, e.bare⟩
  refine wpAny_call (codeAny_mono (FO.run A' X.stack s H ⟨us, []⟩ zus zvs Q _ hr e0 (by simpa using bt) r1 hsp) fun r s' hq => ?_)
  cases r with
  | error e =>
    obtain ⟨_, _, _, _, _, _, _, _, _, _, _, _, w⟩ := hq
    exact w.elim
  | ok fl =>
    cases fl with
    | ret u => exact I.after hq
    | next => exact False.elim hq
    | brk => exact False.elim hq
    | cont => exact False.elim hq
theorem callP_of {f : Nat} {ts : List T} {S : Store} (hF : ∀ fn, G.fns f = some fn → FnI X A G n f fn) {A' : Around} (hA : A'.frames = X.A.frames) (hr : Room (5 * n) A') {pins : List (Addr × Obj)} {σ : L2.St} {H : Hp} {s : Shared} {Q : VK} {E : Value → Shared → Prop} {g : Gh} {us : List Value} {vs : List V}
    (I : Inv X pins σ H s) (rv : Vals vs us) (rt : Reps X.K A H g vs ts) (c : Cn X.K A g H S)
    (h : AftP X.K A (repV X.K A) (callF G (runN G n) f ts [] S) g H S Q) : wpAny (model X.prog X.w) A' (call (.ref (A.f f)) us) (EP X pins σ Q) E s := by
  unfold callF at h
  cases e : G.fns f with
  | none => rw [e] at h; exact False.elim h
  | some fn =>
    rw [e] at h
    simp only at h
    cases eb : bind fn ts [] with
    | none => rw [eb] at h; exact False.elim h
    | some zts =>
      rw [eb] at h
      exact run_callP (hF fn e) hA hr I rv rt eb c h
end
end NH
end
section
namespace NH
open PySem L2 PyProof.Rows

section
variable {X : Cx} {A : Ad} {G : Gam} {W : WX} {n : Nat}
/-- own methods behind an operation: the object, the def, the call -/
theorem own_meth (L : Lay X.K A G) {g : Gh} {H : Hp} {S : Store} {t : T} {v : V} {u : Value} {m f : Nat} {cc : Nat} {fs : List (Nat × T)} (c : Cn X.K A g H S) (r : Rep X.K A H g v t) (ru : RelV v u) (ev : view S t = .ins cc fs) (em : methOf G cc m = some f) :
    ∃ a dx fs', v = .ref a ∧ u = .ref a ∧ H a = some (.ins (A.c cc) dx fs') ∧ Cls X.K (A.c cc) ∧ Meth X.K (A.c cc) (A.nm m) (A.f f) := by
  obtain ⟨a, dx, fs', rfl, ha, q⟩ := c.insV r ev
  obtain rfl : u = Value.ref a := ru
  unfold methOf at em
  cases ec : G.cls cc with
  | none => rw [ec] at em; cases em
  | some cl =>
    rw [ec] at em
    simp only at em
    have k2 := L.ord cc cl m ec (by rw [em]; rfl)
    exact ⟨a, dx, fs', rfl, rfl, ha, L.cls cc cl ec k2, (L.meth cc cl m f ec k2 em).2⟩
def inT (G : Gam) (D : Run) (neg : Bool) (a b : T) (S : Store) : R T := if isIns S b then ownB G D nmContains neg b a S else inD neg a b S
theorem ownB_run {neg : Bool} {g : Gh} {H : Hp} {S : Store} {o a : T} {m : Nat} {Q : VK} (h : AftP X.K A (repV X.K A) (ownB G (runN G n) m neg o a S) g H S Q) : ∃ cc fs f, view S o = .ins cc fs ∧ methOf G cc m = some f ∧ AftP X.K A (repV X.K A) (callF G (runN G n) f [o, a] [] S) g H S (fun v H' => ∃ k, v = .bl k ∧ Q (.bl (if neg then !k else k)) H') := by
  unfold ownB at h
  split at h
  · rename_i cc fs ev
    cases em : methOf G cc m with
    | none => rw [em] at h; exact False.elim h
    | some f =>
      rw [em] at h
      refine ⟨cc, fs, f, ev, em, AftP.bind h fun t S1 g1 H1 v x1 c1 l1 r1 h1 => ?_⟩
      cases t with
      | bl k => exact ⟨k, r1.bl_inv, h1.use c1 (.bl _)⟩
      | _ => exact False.elim h1
  · exact False.elim h
theorem opr_in (L : Lay X.K A G) (hF : ∀ f fn, G.fns f = some fn → FnI X A G n f fn) (hr : Room (5 * n) X.A) (neg : Bool) : OpR X (compareOp (if neg then .NotIn else .In)) (PV X.K A (inT G (runN G n) neg)) := by
  have hu := hr.units
  rintro pins s σ H x y v u Q I rx ry ⟨g, S, t, w, c, r1, r2, h⟩
  unfold inT at h
  split at h
  · obtain ⟨cc, fs, f, ev, em, h⟩ := ownB_run h
    obtain ⟨a, dx, fs', rfl, rfl, ha, hC, hM⟩ := own_meth L c r2 ry ev em
    obtain ⟨mA, J, _⟩ := ins_get I.hok ha
    obtain ⟨od, J, _⟩ := J.look
    obtain ⟨m, hFr⟩ := I.fr
    have hs := hM.at_
    rw [L.nCon.1] at hs
    have run := callP_of (E := X.xe) (hF f) rfl hr I (show Vals [V.ref a, x] [Value.ref a, v] from .cons rfl (.cons rx .nil)) (.cons r2 (.cons r1 .nil)) c h
    cases neg with
    | false =>
      refine PySem.W.in_K hFr I.ok.mod.kin J hs hM.fn (thn run fun r s' ⟨v', H', I', rv, k, e, q⟩ => ?_)
      subst e
      cases rv
      exact wpAny_truthy_bool ⟨.bl k, H', I', rfl, q⟩
    | true =>
      refine PySem.W.notIn_K hFr I.ok.mod.kin J hs hM.fn (thn run fun r s' ⟨v', H', I', rv, k, e, q⟩ => ?_)
      subst e
      cases rv
      exact wpAny_truthy_bool ⟨.bl (!k), H', I', rfl, q⟩
  · exact opr_inD (by have := hr.un; omega) neg pins s σ H x y v u Q I rx ry ⟨g, S, t, w, c, r1, r2, h⟩
/-- the model's comparison -/
def Cm.op : Cm → CmpOp
  | .eq => .Eq | .ne => .NotEq | .lt => .Lt | .le => .LtE | .gt => .Gt | .ge => .GtE | .isin => .In | .notin => .NotIn | .is => .Is | .isnot => .IsNot
theorem opr_cmp (L : Lay X.K A G) (hF : ∀ f fn, G.fns f = some fn → FnI X A G n f fn) (hr : Room (5 * n) X.A) : ∀ op : Cm, OpR X (compareOp op.op) (PV X.K A (cmpT G (runN G n) op))
  | .eq => opr_eqD hr.units
  | .ne => opr_neD hr.units
  | .lt => opr_lt hr.units0
  | .le => opr_le
  | .gt => opr_gt
  | .ge => opr_ge
  | .isin => opr_in L hF hr false
  | .notin => opr_in L hF hr true
  | .is => opr_is
  | .isnot => opr_isnot
theorem snd_cmp {a b : Expr} {fa fb : Fr → Store → R T} {op : Cm} {pos : Pos} (L : Lay X.K A G) (hF : ∀ f fn, G.fns f = some fn → FnI X A G n f fn) (hr : Room (5 * n) X.A) (ha : PE X a (RdE X.K A W fa)) (hb : PE X b (RdE X.K A W fb)) (hm : behindInMarks op.op b = false) :
    PE X (.Compare a [op.op] [b] pos) (RdE X.K A W fun ρ S => (fa ρ S).bind fun v S1 => (fb ρ S1).bind fun w S2 => (cmpT G (runN G n) op v w S2).noX) :=
  (pe_cmpR (opr_cmp L hF hr op) ha hb hm).imp fun σ H Q h => snd_op2 (a := a) (b := b) h
theorem snd_cmp2 {a b c : Expr} {fa fb fc : Fr → Store → R T} {op op' : Cm} {pos : Pos} (L : Lay X.K A G) (hF : ∀ f fn, G.fns f = some fn → FnI X A G n f fn) (hr : Room (5 * n) X.A) (ha : PE X a (RdE X.K A W fa)) (hb : PE X b (RdE X.K A W fb)) (hc : PE X c (RdE X.K A W fc)) (hm : lastMarks [op.op, op'.op] [b, c] = false) :
    PE X (.Compare a [op.op, op'.op] [b, c] pos) (RdE X.K A W fun ρ S => (fa ρ S).bind fun v S1 => (fb ρ S1).bind fun w S2 => (cmpT G (runN G n) op v w S2).noX.bind fun k S3 => match k with
      | .bl true => (fc ρ S3).bind fun u S4 => (cmpT G (runN G n) op' w u S4).noX
      | .bl false => .ok (.bl false) S3
      | _ => .no) := by
  refine (pe_chain (opr_cmp L hF hr op) (opr_cmp L hF hr op') ha hb hc hm).imp fun σ H Q ⟨g, ρ, S, cn, f, h⟩ => ⟨g, ρ, S, cn, f, h.bind fun t S1 g1 H1 v _ x1 c1 l1 r1 h1 => ⟨g1, ρ, S1, c1, f.ex x1, h1.bind fun u S2 g2 H2 w _ x2 c2 l2 r2 h2 => ?_⟩⟩
  refine ⟨g2, S2, t, u, c2, r1.ex x2, r2, (h2.bind (rep := repV X.K A) fun k S3 g3 H3 v3 _ x3 c3 l3 r3 h3 => ?_).noX⟩
  cases k with
  | bl k =>
    refine ⟨k, r3.bl_inv, ?_⟩
    cases k with
    | false => exact Aft.use (W := W) (σ := σ) h3 c3 (.bl _)
    | true => exact ⟨g3, ρ, S3, c3, ((f.ex x1).ex x2).ex x3, Aft.bind h3 fun z S4 g4 H4 v4 _ x4 c4 l4 r4 h4 => ⟨g4, S4, u, z, c4, (r2.ex x3).ex x4, r4, h4.noX⟩⟩
  | _ => exact False.elim h3
/-- a comparison as a test -/
theorem RdT_of {K : PySem.W.Frag} {f : Fr → Store → R T} {σ : L2.St} {H : Hp} {Q : Bool → Hp → Prop} (h : RdT K A W (fun ρ S => (f ρ S).bind fun r S3 => match r with
    | .bl k => .ok k S3
    | _ => .no) σ H Q) : tTest (RdE K A W f) σ H Q := by
  obtain ⟨g, ρ, S, c, fr, h⟩ := h
  refine ⟨g, ρ, S, c, fr, h.bind fun t S1 g1 H1 v _ x1 c1 l1 r1 h1 => ?_⟩
  cases t with
  | bl k => exact ⟨k, r1.bl_inv, Aft.use (rep := repB) (W := W) (σ := σ) h1 c1 rfl⟩
  | _ => exact False.elim h1
end
end NH
end
section
namespace NH
open PySem L2 PyProof.Rows

section
variable {X : Cx} {A : Ad} {G : Gam} {W : WX} {n : Nat} {a b c : Expr} {fa fb fc : Fr → Store → R T} {ta tb tc : Fr → Store → R Bool}
theorem tru_of {K : PySem.W.Frag} {g : Gh} {H : Hp} {S : Store} {t : T} {v : V} {k : Bool} (cn : Cn K A g H S) (r : Rep K A H g v t) (h : truthO S t = some k) : TruV K v H k := by
  unfold truthO at h
  cases e : view S t with
  | non => rw [e] at h; obtain rfl := view_non e; obtain rfl := r.non_inv; cases h; rfl
  | bl k => rw [e] at h; obtain rfl := view_bl e; obtain rfl := r.bl_inv; cases h; rfl
  | int i => rw [e] at h; obtain rfl := view_int e; obtain rfl := r.int_inv; cases h; rfl
  | str x =>
    rw [e] at h; obtain rfl := view_str e; obtain ⟨rfl, _⟩ := r.str_inv
    by_cases hz : x.length ≤ sizeLine
    · simp only [if_pos hz] at h
      cases h
      exact ⟨hz, rfl⟩
    · simp only [if_neg hz] at h
      cases h
  | lst xs =>
    rw [e] at h
    obtain ⟨p, vs, rfl, hp, q⟩ := cn.lstV r e
    have : vs.isEmpty = xs.isEmpty := by have := q.length; cases vs <;> cases xs <;> first | rfl | simp at this
    cases h
    exact .inl ⟨vs, .of hp, by rw [this]⟩
  | tup xs =>
    rw [e] at h
    obtain ⟨p, vs, rfl, hp, q⟩ := cn.tupV r e
    have : vs.isEmpty = xs.isEmpty := by have := q.length; cases vs <;> cases xs <;> first | rfl | simp at this
    cases h
    exact .inr (.inl ⟨vs, hp, by rw [this]⟩)
  | _ => rw [e] at h; cases h
theorem truth_bind {γ δ : Type} {rep2 : Hp → Gh → δ → γ → Prop} {σ : L2.St} {g : Gh} {H : Hp} {S : Store} {t : T} {v : V} {k : Bool → Store → R γ} {Q : δ → Hp → Prop} (cn : Cn X.K A g H S) (r : Rep X.K A H g v t) (h : Aft X.K A rep2 W σ ((truthT t S).bind k) g H S Q) :
    ∃ c, TruV X.K v H c ∧ Aft X.K A rep2 W σ (k c S) g H S Q := by
  unfold truthT at h
  cases e : truthO S t with
  | none => rw [e] at h; exact False.elim h
  | some c => rw [e] at h; exact ⟨c, tru_of cn r e, h⟩
theorem snd_truth (ha : PE X a (RdE X.K A W fa)) (he : ∀ whole, isTrue a X.env whole = (do let v ← whole; standAt a.pos; holding [v] (truthy v))) :
    PT X a (RdT X.K A W fun ρ S => (fa ρ S).bind fun v S1 => truthT v S1) :=
  (pt_truth ha he).imp fun σ H Q ⟨g, ρ, S, cn, f, h⟩ => ⟨g, ρ, S, cn, f, h.bind fun t S1 g1 H1 v _ x1 c1 l1 r1 h1 => by
    unfold truthT at h1
    cases e : truthO S1 t with
    | none => rw [e] at h1; exact False.elim h1
    | some k => rw [e] at h1; exact ⟨k, tru_of c1 r1 e, Aft.use (rep := repB) (W := W) (σ := σ) h1 c1 rfl⟩⟩
theorem pt_of_cmpR {op : CmpOp} {r : R2} {fr : T → T → Store → R T} (ho : OpR X (compareOp op) (PV X.K A fr)) (ha : PE X a (RdE X.K A W fa)) (hb : PE X b (RdE X.K A W fb)) (hm : behindInMarks op b = false) {pos : Pos} :
    PT X (.Compare a [op] [b] pos) (RdT X.K A W fun ρ S => ((fa ρ S).bind fun v S1 => (fb ρ S1).bind fun w S2 => (fr v w S2).noX).bind fun r S3 => match r with
      | .bl k => .ok k S3
      | _ => .no) := by
  refine (pt_cmpR ho ha hb hm).imp fun σ H Q h => ?_
  have := RdT_of (f := fun ρ S => (fa ρ S).bind fun v S1 => (fb ρ S1).bind fun w S2 => (fr v w S2).noX) h
  exact snd_op2 (a := a) (b := b) this
theorem snd_tcmp {op : Cm} {pos : Pos} (L : Lay X.K A G) (hF : ∀ f fn, G.fns f = some fn → FnI X A G n f fn) (hr : Room (5 * n) X.A) (ha : PE X a (RdE X.K A W fa)) (hb : PE X b (RdE X.K A W fb)) (hm : behindInMarks op.op b = false) :
    PT X (.Compare a [op.op] [b] pos) (RdT X.K A W fun ρ S => ((fa ρ S).bind fun v S1 => (fb ρ S1).bind fun w S2 => (cmpT G (runN G n) op v w S2).noX).bind fun r S3 => match r with
      | .bl k => .ok k S3
      | _ => .no) := pt_of_cmpR (r := fun _ _ _ _ => True) (opr_cmp L hF hr op) ha hb hm
theorem snd_tcmp2 {op op' : Cm} {pos : Pos} (L : Lay X.K A G) (hF : ∀ f fn, G.fns f = some fn → FnI X A G n f fn) (hr : Room (5 * n) X.A) (ha : PE X a (RdE X.K A W fa)) (hb : PE X b (RdE X.K A W fb)) (hc : PE X c (RdE X.K A W fc)) (hm : lastMarks [op.op, op'.op] [b, c] = false) :
    PT X (.Compare a [op.op, op'.op] [b, c] pos) (RdT X.K A W fun ρ S => ((fa ρ S).bind fun v S1 => (fb ρ S1).bind fun w S2 => (cmpT G (runN G n) op v w S2).noX.bind fun k S3 => match k with
      | .bl true => (fc ρ S3).bind fun u S4 => (cmpT G (runN G n) op' w u S4).noX
      | .bl false => .ok (.bl false) S3
      | _ => .no).bind fun r S3 => match r with
      | .bl k => .ok k S3
      | _ => .no) := by
  refine (pt_chain (opr_cmp L hF hr op) (opr_cmp L hF hr op') ha hb hc hm).imp fun σ H Q h => ?_
  obtain ⟨g, ρ, S, cn, f, h⟩ := RdT_of (f := fun ρ S => (fa ρ S).bind fun v S1 => (fb ρ S1).bind fun w S2 => (cmpT G (runN G n) op v w S2).noX.bind fun k S3 => match k with
      | .bl true => (fc ρ S3).bind fun u S4 => (cmpT G (runN G n) op' w u S4).noX
      | .bl false => .ok (.bl false) S3
      | _ => .no) h
  refine ⟨g, ρ, S, cn, f, h.bind fun t S1 g1 H1 v _ x1 c1 l1 r1 h1 => ⟨g1, ρ, S1, c1, f.ex x1, h1.bind fun u S2 g2 H2 w _ x2 c2 l2 r2 h2 => ?_⟩⟩
  refine ⟨g2, S2, t, u, c2, r1.ex x2, r2, (h2.bind (rep := repV X.K A) fun k S3 g3 H3 v3 _ x3 c3 l3 r3 h3 => ?_).noX⟩
  cases k with
  | bl k =>
    refine ⟨k, r3.bl_inv, ?_⟩
    cases k with
    | false => exact Aft.use (W := W) (σ := σ) h3 c3 (.bl _)
    | true => exact ⟨g3, ρ, S3, c3, ((f.ex x1).ex x2).ex x3, Aft.bind h3 fun z S4 g4 H4 v4 _ x4 c4 l4 r4 h4 => ⟨g4, S4, u, z, c4, (r2.ex x3).ex x4, r4, h4.noX⟩⟩
  | _ => exact False.elim h3

/-! ### and, or, not -/
theorem snd_tand1 {pos : Pos} (ha : PT X a (RdT X.K A W ta)) : PW X (.BoolOp .And [a] pos) (RdT X.K A W ta) := pw_and1 ha
theorem snd_tor1 {pos : Pos} (ha : PT X a (RdT X.K A W ta)) : PW X (.BoolOp .Or [a] pos) (RdT X.K A W ta) := pw_or1 ha
theorem snd_tand {rest : List Expr} {pos : Pos} (ha : PT X a (RdT X.K A W ta)) (hb : PW X (.BoolOp .And (b :: rest) pos) (RdT X.K A W tb)) : PW X (.BoolOp .And (a :: b :: rest) pos) (RdT X.K A W fun ρ S => (ta ρ S).bind fun k S1 => match k with
    | true => tb ρ S1
    | false => .ok false S1) := by
  refine (pw_and ha hb).imp fun σ H Q ⟨g, ρ, S, cn, f, h⟩ => ⟨g, ρ, S, cn, f, h.bind fun t S1 g1 H1 v _ x1 c1 l1 r1 h1 => ?_⟩
  obtain rfl : v = t := r1
  cases v with
  | true => exact ⟨g1, ρ, S1, c1, f.ex x1, h1⟩
  | false => exact Aft.use (rep := repB) (W := W) (σ := σ) h1 c1 rfl
theorem snd_tor {rest : List Expr} {pos : Pos} (ha : PT X a (RdT X.K A W ta)) (hb : PW X (.BoolOp .Or (b :: rest) pos) (RdT X.K A W tb)) : PW X (.BoolOp .Or (a :: b :: rest) pos) (RdT X.K A W fun ρ S => (ta ρ S).bind fun k S1 => match k with
    | true => .ok true S1
    | false => tb ρ S1) := by
  refine (pw_or ha hb).imp fun σ H Q ⟨g, ρ, S, cn, f, h⟩ => ⟨g, ρ, S, cn, f, h.bind fun t S1 g1 H1 v _ x1 c1 l1 r1 h1 => ?_⟩
  obtain rfl : v = t := r1
  cases v with
  | false => exact ⟨g1, ρ, S1, c1, f.ex x1, h1⟩
  | true => exact Aft.use (rep := repB) (W := W) (σ := σ) h1 c1 rfl
theorem snd_tnot {pos : Pos} (ha : PT X a (RdT X.K A W ta)) : PT X (.UnaryOp .Not a pos) (RdT X.K A W fun ρ S => (ta ρ S).bind fun k S1 => .ok (!k) S1) := by
  refine (pt_not ha).imp fun σ H Q ⟨g, ρ, S, cn, f, h⟩ => ⟨g, ρ, S, cn, f, h.bind fun t S1 g1 H1 v _ x1 c1 l1 r1 h1 => ?_⟩
  obtain rfl : v = t := r1
  exact Aft.use (rep := repB) (W := W) (σ := σ) h1 c1 rfl
theorem snd_and1 {pos : Pos} (ha : PE X a (RdE X.K A W fa)) : PE X (.BoolOp .And [a] pos) (RdE X.K A W fa) := pe_one ha
theorem snd_or1 {pos : Pos} (ha : PE X a (RdE X.K A W fa)) : PE X (.BoolOp .Or [a] pos) (RdE X.K A W fa) := pe_one ha
theorem snd_and {rest : List Expr} {pos : Pos} (ha : PE X a (RdE X.K A W fa)) (hb : PE X (.BoolOp .And (b :: rest) pos) (RdE X.K A W fb)) : PE X (.BoolOp .And (a :: b :: rest) pos) (RdE X.K A W fun ρ S => (fa ρ S).bind fun v S1 => (truthT v S1).bind fun k S2 => match k with
    | true => fb ρ S2
    | false => .ok v S2) := by
  refine (pe_andT ha hb).imp fun σ H Q ⟨g, ρ, S, cn, f, h⟩ => ⟨g, ρ, S, cn, f, h.bind fun t S1 g1 H1 v _ x1 c1 l1 r1 h1 => ?_⟩
  obtain ⟨k, hk, h2⟩ := truth_bind c1 r1 h1
  refine ⟨k, hk, ?_⟩
  cases k with
  | true => exact ⟨g1, ρ, S1, c1, f.ex x1, h2⟩
  | false => exact Aft.use (W := W) (σ := σ) h2 c1 r1
theorem snd_or {rest : List Expr} {pos : Pos} (ha : PE X a (RdE X.K A W fa)) (hb : PE X (.BoolOp .Or (b :: rest) pos) (RdE X.K A W fb)) : PE X (.BoolOp .Or (a :: b :: rest) pos) (RdE X.K A W fun ρ S => (fa ρ S).bind fun v S1 => (truthT v S1).bind fun k S2 => match k with
    | true => .ok v S2
    | false => fb ρ S2) := by
  refine (pe_orT ha hb).imp fun σ H Q ⟨g, ρ, S, cn, f, h⟩ => ⟨g, ρ, S, cn, f, h.bind fun t S1 g1 H1 v _ x1 c1 l1 r1 h1 => ?_⟩
  obtain ⟨k, hk, h2⟩ := truth_bind c1 r1 h1
  refine ⟨k, hk, ?_⟩
  cases k with
  | false => exact ⟨g1, ρ, S1, c1, f.ex x1, h2⟩
  | true => exact Aft.use (W := W) (σ := σ) h2 c1 r1
theorem snd_not {pos : Pos} (ha : PE X a (RdE X.K A W fa)) : PE X (.UnaryOp .Not a pos) (RdE X.K A W fun ρ S => (fa ρ S).bind fun v S1 => (truthT v S1).bind fun k S2 => .ok (.bl (!k)) S2) := by
  refine (pe_notT ha).imp fun σ H Q ⟨g, ρ, S, cn, f, h⟩ => ⟨g, ρ, S, cn, f, h.bind fun t S1 g1 H1 v _ x1 c1 l1 r1 h1 => ?_⟩
  obtain ⟨k, hk, h2⟩ := truth_bind c1 r1 h1
  exact ⟨k, hk, Aft.use (W := W) (σ := σ) h2 c1 (.bl _)⟩
theorem snd_neg {pos : Pos} (ha : PE X a (RdE X.K A W fa)) : PE X (.UnaryOp .USub a pos) (RdE X.K A W fun ρ S => (fa ρ S).bind fun v S1 => match v with
    | .int i => .ok (.int (-i)) S1
    | _ => .no) := by
  refine (pe_un un_neg ha).imp fun σ H Q ⟨g, ρ, S, cn, f, h⟩ => ⟨g, ρ, S, cn, f, h.bind fun t S1 g1 H1 v _ x1 c1 l1 r1 h1 => ?_⟩
  cases t with
  | int i => exact ⟨i, r1.int_inv, Aft.use (W := W) (σ := σ) h1 c1 (.int _)⟩
  | _ => exact False.elim h1
theorem snd_ite {pos : Pos} (hc : PT X c (RdT X.K A W tc)) (ha : PE X a (RdE X.K A W fa)) (hb : PE X b (RdE X.K A W fb)) : PE X (.IfExp c a b pos) (RdE X.K A W fun ρ S => (tc ρ S).bind fun k S2 => match k with
    | true => fa ρ S2
    | false => fb ρ S2) := by
  refine (pe_ifExp hc ha hb).imp fun σ H Q ⟨g, ρ, S, cn, f, h⟩ => ⟨g, ρ, S, cn, f, h.bind fun t S1 g1 H1 v _ x1 c1 l1 r1 h1 => ?_⟩
  obtain rfl : v = t := r1
  cases v with
  | true => exact ⟨g1, ρ, S1, c1, f.ex x1, h1⟩
  | false => exact ⟨g1, ρ, S1, c1, f.ex x1, h1⟩
theorem snd_frz (ha : PE X a (RdE X.K A W fa)) : PE X a (RdE X.K A W fun ρ S => (fa ρ S).bind fun v S1 => R.ofP (frz 0 8 v S1)) := by
  refine ha.imp fun σ H Q ⟨g, ρ, S, cn, f, h⟩ => ⟨g, ρ, S, cn, f, h.bind fun t S1 g1 H1 v _ x1 c1 l1 r1 h1 => ?_⟩
  cases e : frz 0 8 t S1 with
  | none => rw [e] at h1; exact False.elim h1
  | some p =>
    obtain ⟨t', S2⟩ := p
    rw [e] at h1
    obtain ⟨ho, hl, g', x2, c2, hm, r2⟩ := frz_ok 0 8 H1 g1 S1 t v t' S2 c1 r1 e
    exact Aft.use (W := W) (σ := σ) (Aft.later h1 x2 (Nat.le_of_eq hl.1.symm)) c2 r2
end
end NH
end
section
namespace NH
open PySem L2 PyProof.Rows

section
variable {X : Cx} {A : Ad} {G : Gam} {W : WX} {n : Nat}
/-- a call of a built-in by values -/
def PVs (K : PySem.W.Frag) (A : Ad) (f : List T → Store → R T) : List V → Hp → VK → Prop := fun xs H Q =>
  ∃ (g : Gh) (S : Store) (ts : List T), Cn K A g H S ∧ Reps K A H g xs ts ∧ AftP K A (repV K A) (f ts S) g H S Q
theorem Reps.one {K : PySem.W.Frag} {g : Gh} {H : Hp} {vs : List V} {t : T} (r : Reps K A H g vs [t]) : ∃ v, vs = [v] ∧ Rep K A H g v t := by
  cases r with
  | cons a b => cases b; exact ⟨_, rfl, a⟩
theorem Reps.two {K : PySem.W.Frag} {g : Gh} {H : Hp} {vs : List V} {t u : T} (r : Reps K A H g vs [t, u]) : ∃ v w, vs = [v, w] ∧ Rep K A H g v t ∧ Rep K A H g w u := by
  cases r with
  | cons a b =>
    obtain ⟨w, rfl, r2⟩ := b.one
    exact ⟨_, _, rfl, a, r2⟩
theorem bools_ok {K : PySem.W.Frag} {g : Gh} {H : Hp} : ∀ {ts : List T} {bs : List Bool} {vs : List V}, bools ts = some bs → Reps K A H g vs ts → vs = bs.map V.bl
  | [], bs, _, e, r => by cases e; cases r; rfl
  | t :: ts, bs, _, e, r => by
    cases t with
    | bl b =>
      unfold bools at e
      cases h : bools ts with
      | none => rw [h] at e; cases e
      | some is =>
        rw [h] at e
        cases e
        cases r with
        | cons a b => rw [a.bl_inv, bools_ok h b]; rfl
    | _ => cases e
theorem strs_ok {K : PySem.W.Frag} {g : Gh} {H : Hp} : ∀ {ts : List T} {xs : List Str} {vs : List V}, strsOf ts = some xs → Reps K A H g vs ts → vs = xs.map V.str ∧ ∀ x ∈ xs, PyData.strOk x = true
  | [], bs, _, e, r => by cases e; cases r; exact ⟨rfl, by simp⟩
  | t :: ts, bs, _, e, r => by
    cases t with
    | str x =>
      unfold strsOf at e
      cases h : strsOf ts with
      | none => rw [h] at e; cases e
      | some is =>
        rw [h] at e
        cases e
        cases r with
        | cons a b =>
          obtain ⟨rfl, o⟩ := a.str_inv
          obtain ⟨e2, o2⟩ := strs_ok h b
          exact ⟨by rw [e2]; rfl, fun y hy => (List.mem_cons.mp hy).elim (fun z => by rw [z]; exact o) (o2 y)⟩
    | _ => cases e
/-- a built-in function of one or two values -/
structure BiR (X : Cx) (A : Ad) (fv : Value) (f1 : T → Store → R T) (f2 : T → T → Store → R T) : Prop where
  one : ∀ (pins : List (Addr × Obj)) (s : Shared) (σ : L2.St) (H : Hp) (Q : VK) (g : Gh) (S : Store) (t : T) (v : V) (u : Value), L2.Inv X pins σ H s → L2.RelV v u → Cn X.K A g H S → Rep X.K A H g v t → AftP X.K A (repV X.K A) (f1 t S) g H S Q → wpAny (model X.prog X.w) X.A (call fv [u]) (EP X pins σ Q) X.xe s
  two : ∀ (pins : List (Addr × Obj)) (s : Shared) (σ : L2.St) (H : Hp) (Q : VK) (g : Gh) (S : Store) (t t' : T) (v v' : V) (u u' : Value), L2.Inv X pins σ H s → L2.RelV v u → L2.RelV v' u' → Cn X.K A g H S → Rep X.K A H g v t → Rep X.K A H g v' t' → AftP X.K A (repV X.K A) (f2 t t' S) g H S Q →
    wpAny (model X.prog X.w) X.A (call fv [u, u']) (EP X pins σ Q) X.xe s
theorem BiR.call {fv : Value} {f1 : T → Store → R T} {f2 : T → T → Store → R T} (b : BiR X A fv f1 f2) : CallR X fv (PVs X.K A fun ts S => match ts with
    | [v] => f1 v S
    | [v, w] => f2 v w S
    | _ => .no) := by
  rintro pins s σ H xs us Q I rv ⟨g, S, ts, c, r, h⟩
  cases r with
  | nil => exact False.elim h
  | cons r1 r =>
    cases r with
    | nil =>
      obtain ⟨u, rfl, ru⟩ := rv.one
      exact b.one pins s σ H Q g S _ _ u I ru c r1 h
    | cons r2 r =>
      cases r with
      | nil =>
        obtain ⟨u1, u2, rfl, ru1, ru2⟩ := rv.two
        exact b.two pins s σ H Q g S _ _ _ _ u1 u2 I ru1 ru2 c r1 r2 h
      | cons r3 r => exact False.elim h
/-! ### len -/
theorem cr_len (L : Lay X.K A G) (hF : ∀ f fn, G.fns f = some fn → FnI X A G n f fn) (hr : Room (5 * n + 1) X.A) : BiR X A (.builtin "len") (lenT G (runN G n)) (fun _ _ _ => .no) := by
  refine ⟨fun pins s σ H Q g S t v u I ru c r h => ?_, fun pins s σ H Q g S t t' v v' u u' I ru ru' c r r' h => False.elim h⟩
  have run : ∀ {m : Nat}, LenV X.K v H m → AftP X.K A (repV X.K A) (.ok (.int m) S) g H S Q → wpAny (model X.prog X.w) X.A (call (.builtin "len") [u]) (EP X pins σ Q) X.xe s := fun {m} hl hq =>
    call_len pins s σ H [v] [u] Q I (.cons ru .nil) ⟨v, m, rfl, hl, hq.use c (.int _)⟩
  unfold lenT at h
  cases e : view S t with
  | str x =>
    rw [e] at h
    have ht := view_str e
    obtain ⟨hz, h⟩ := AftP.ite (p := x.length ≤ sizeLine) (r := R.ok (T.int x.length) S) h
    have hv : v = .str x := by rw [ht] at r; exact r.str_inv.1
    exact run (by rw [hv]; exact ⟨hz, rfl⟩) h
  | lst xs =>
    rw [e] at h
    obtain ⟨p, vs, rfl, hp, q⟩ := c.lstV r e
    exact run (.inl ⟨vs, .of hp, q.length.symm⟩) h
  | tup xs =>
    rw [e] at h
    obtain ⟨p, vs, rfl, hp, q⟩ := c.tupV r e
    exact run (.inr ⟨vs, hp, q.length.symm⟩) h
  | dct xs =>
    rw [e] at h
    obtain ⟨p, vs, rfl, hp, q⟩ := c.dctV r e
    obtain rfl : u = Value.ref p := ru
    refine d_len I hp fun tk s' I' => ⟨.int vs.length, H, I', ⟨tk, rfl⟩, ?_⟩
    rw [q.length]
    exact AftP.use (show AftP X.K A (repV X.K A) (.ok (.int xs.length) S) g H S Q from h) c (.int _)
  | ins cc fs =>
    rw [e] at h
    simp only at h
    cases em : methOf G cc nmLen with
    | none => rw [em] at h; exact False.elim h
    | some f =>
      rw [em] at h
      obtain ⟨a, dx, fs', rfl, rfl, ha, hC, hM⟩ := own_meth L c r ru e em
      obtain ⟨mA, J, _⟩ := ins_get I.hok ha
      obtain ⟨od, J, _⟩ := J.look
      obtain ⟨m, hFr⟩ := I.fr
      have hs := hM.at_
      rw [L.nLen.1] at hs
      refine PySem.W.len_K hFr I.ok.mod.kin J hs hM.fn ?_
      have rt : Reps X.K A H g [V.ref a] [t] := .cons r .nil
      have h' : AftP X.K A (repV X.K A) (callF G (runN G n) f [t] [] S) g H S (fun v H' => ∃ i, v = .int i ∧ 0 ≤ i ∧ i < 2 ^ 63 ∧ Q (.int i) H') := AftP.bind h fun t1 S1 g1 H1 v1 x1 c1 l1 r1 h1 => by
        cases t1 with
        | int i =>
          obtain ⟨hi, h1⟩ := AftP.ite h1
          exact ⟨i, r1.int_inv, hi.1, hi.2, h1.use c1 (.int _)⟩
        | _ => exact False.elim h1
      have hrun := callP_of (E := X.xe) (A' := X.A.in1) (hF f) rfl hr.in1 I (show Vals [V.ref a] [Value.ref a] from .cons rfl .nil) rt c h'
      refine thn hrun fun w s' ⟨v', H', I', rv', i, e', h0, h1, q⟩ => ?_
      subst e'
      obtain ⟨tk, rfl⟩ := rv'
      exact ⟨⟨h0, h1⟩, .int i, H', I'.tok _, ⟨_, rfl⟩, q⟩
  | _ => rw [e] at h; exact False.elim h
theorem cr_repr (L : Lay X.K A G) (hF : ∀ f fn, G.fns f = some fn → FnI X A G n f fn) (hr : Room (5 * n + 1) X.A) : BiR X A (.builtin "repr") (reprT G (runN G n)) (fun _ _ _ => .no) := by
  refine ⟨fun pins s σ H Q g S t v u I ru c r h => ?_, fun pins s σ H Q g S t t' v v' u u' I ru ru' c r r' h => False.elim h⟩
  unfold reprT at h
  cases e : view S t with
  | ins cc fs =>
    rw [e] at h
    simp only at h
    cases em : methOf G cc nmRepr with
    | none => rw [em] at h; exact False.elim h
    | some f =>
      rw [em] at h
      obtain ⟨a, dx, fs', rfl, rfl, ha, hC, hM⟩ := own_meth L c r ru e em
      obtain ⟨mA, J, _⟩ := ins_get I.hok ha
      obtain ⟨od, J, _⟩ := J.look
      obtain ⟨m, hFr⟩ := I.fr
      have hs := hM.at_
      rw [L.nRep.1] at hs
      refine PySem.W.repr_K hr.in1.units0 hFr I.ok.mod.kin J hs hM.fn ?_
      have rt : Reps X.K A H g [V.ref a] [t] := .cons r .nil
      have h' : AftP X.K A (repV X.K A) (callF G (runN G n) f [t] [] S) g H S (fun v H' => ∃ i, v = .str i ∧ Q (.str i) H') := AftP.bind h fun t1 S1 g1 H1 v1 x1 c1 l1 r1 h1 => by
        cases t1 with
        | str i =>
          obtain ⟨e1, o1⟩ := r1.str_inv
          exact ⟨i, e1, AftP.use (show AftP X.K A (repV X.K A) (.ok (.str i) S1) g1 H1 S1 Q from h1) c1 (.str _ o1)⟩
        | _ => exact False.elim h1
      have hrun := callP_of (E := X.xe) (A' := X.A.in1) (hF f) rfl hr.in1 I (show Vals [V.ref a] [Value.ref a] from .cons rfl .nil) rt c h'
      refine thn hrun fun w s' ⟨v', H', I', rv', i, e', q⟩ => ?_
      subst e'
      obtain ⟨tk, rfl⟩ := rv'
      exact ⟨.str i, H', I', ⟨_, rfl⟩, q⟩
  | _ => rw [e] at h; exact False.elim h
/-! ### int, str, tuple, max, min, all, any -/
theorem cr_int : BiR X A (.type "int") intT (fun _ _ _ => .no) := by
  refine ⟨fun pins s σ H Q g S t v u I ru c r h => ?_, fun pins s σ H Q g S t t' v v' u u' I ru ru' c r r' h => False.elim h⟩
  cases t with
  | int i =>
    obtain rfl := r.int_inv
    exact call_int1 pins s σ H _ [u] Q I (.cons ru .nil) (.inl ⟨i, rfl, AftP.use (show AftP X.K A (repV X.K A) (.ok (.int i) S) g H S Q from h) c (.int _)⟩)
  | bl i =>
    obtain rfl := r.bl_inv
    exact call_int1 pins s σ H _ [u] Q I (.cons ru .nil) (.inr ⟨i, rfl, AftP.use (show AftP X.K A (repV X.K A) (.ok (.int (if i then 1 else 0)) S) g H S Q from h) c (.int _)⟩)
  | _ => exact False.elim h
theorem strOk_int (i : Int) : PyData.strOk (toString i : String) = true := by
  unfold PyData.strOk
  rw [Array.all_eq_true_iff_forall_mem]
  intro c hc
  by_cases h : c < 0x110000
  · simpa using h
  · exact absurd (show c ∈ ((toString i : String) : Str).cps.toList by simpa using hc) (int_text_free' c ⟨by omega, .inr (by omega)⟩ i)
theorem log_small {i : Int} (h : i.natAbs < 2 ^ 64) : i.natAbs.log2 < 1920 := by
  by_cases e : i.natAbs = 0
  · rw [e]; decide
  · exact Nat.lt_of_lt_of_le ((Nat.log2_lt e).mpr h) (by decide)
theorem cr_str : BiR X A (.type "str") strT (fun _ _ _ => .no) := by
  refine ⟨fun pins s σ H Q g S t v u I ru c r h => ?_, fun pins s σ H Q g S t t' v v' u u' I ru ru' c r r' h => False.elim h⟩
  cases t with
  | int i =>
    obtain rfl := r.int_inv
    obtain ⟨hz, h⟩ := AftP.ite h
    exact call_str_int pins s σ H _ [u] Q I (.cons ru .nil) ⟨i, rfl, log_small hz, h.use c (.str _ (strOk_int i))⟩
  | _ => exact False.elim h
theorem cr_tuple : BiR X A (.type "tuple") tupleT (fun _ _ _ => .no) := by
  refine ⟨fun pins s σ H Q g S t v u I ru c r h => ?_, fun pins s σ H Q g S t t' v v' u u' I ru ru' c r r' h => False.elim h⟩
  unfold tupleT at h
  cases e : view S t with
  | lst xs =>
    rw [e] at h
    obtain ⟨p, vs, rfl, hp, q⟩ := c.lstV r e
    refine call_tuple_of pins s σ H _ [u] Q I (.cons ru .nil) ⟨p, vs, rfl, .inl ⟨.of hp, fun l hl => ?_⟩⟩
    obtain ⟨g2, x2, c2, r2⟩ := new_tup (X := X) c q hl
    exact h g2 _ _ x2 c2 (Nat.le_refl _) r2
  | tup xs =>
    rw [e] at h
    obtain rfl := view_tup e
    obtain ⟨p, vs, rfl, hp, q⟩ := c.tupV r e
    exact call_tuple_of pins s σ H _ [u] Q I (.cons ru .nil) ⟨p, vs, rfl, .inr ⟨hp, AftP.use (show AftP X.K A (repV X.K A) (.ok (.tup xs) S) g H S Q from h) c r⟩⟩
  | _ => rw [e] at h; exact False.elim h
theorem cr_allT (hc : X.calm = true) : BiR X A (.builtin "all") allT (fun _ _ _ => .no) := by
  refine ⟨fun pins s σ H Q g S t v u I ru c r h => ?_, fun pins s σ H Q g S t t' v v' u u' I ru ru' c r r' h => False.elim h⟩
  unfold allT at h
  cases e : view S t with
  | lst xs =>
    rw [e] at h
    obtain ⟨p, vs, rfl, hp, q⟩ := c.lstV r e
    simp only at h
    cases eb : bools xs with
    | none => rw [eb] at h; exact False.elim h
    | some bs =>
      rw [eb] at h
      obtain rfl := bools_ok eb q
      exact cr_all hc pins s σ H _ [u] Q I (.cons ru .nil) ⟨p, bs, rfl, .of hp, AftP.use (show AftP X.K A (repV X.K A) (.ok (.bl (bs.all id)) S) g H S Q from h) c (.bl _)⟩
  | _ => rw [e] at h; exact False.elim h
theorem cr_anyT (hc : X.calm = true) : BiR X A (.builtin "any") anyT (fun _ _ _ => .no) := by
  refine ⟨fun pins s σ H Q g S t v u I ru c r h => ?_, fun pins s σ H Q g S t t' v v' u u' I ru ru' c r r' h => False.elim h⟩
  unfold anyT at h
  cases e : view S t with
  | lst xs =>
    rw [e] at h
    obtain ⟨p, vs, rfl, hp, q⟩ := c.lstV r e
    simp only at h
    cases eb : bools xs with
    | none => rw [eb] at h; exact False.elim h
    | some bs =>
      rw [eb] at h
      obtain rfl := bools_ok eb q
      exact cr_any hc pins s σ H _ [u] Q I (.cons ru .nil) ⟨p, bs, rfl, .of hp, AftP.use (show AftP X.K A (repV X.K A) (.ok (.bl (bs.any id)) S) g H S Q from h) c (.bl _)⟩
  | _ => rw [e] at h; exact False.elim h
theorem cr_maxT (hc : X.calm = true) : BiR X A (.builtin "max") (fun _ _ => .no) maxT := by
  refine ⟨fun pins s σ H Q g S t v u I ru c r h => False.elim h, fun pins s σ H Q g S t t' v v' u u' I ru ru' c r r' h => ?_⟩
  cases t with
  | int i =>
    cases t' with
    | int j =>
      obtain rfl := r.int_inv
      obtain rfl := r'.int_inv
      exact call_max2 hc pins s σ H _ [u, u'] Q I (.cons ru (.cons ru' .nil)) ⟨i, j, rfl, AftP.use (show AftP X.K A (repV X.K A) (.ok (.int (if j > i then j else i)) S) g H S Q from h) c (.int _)⟩
    | _ => exact False.elim h
  | _ => exact False.elim h
theorem cr_minT (hc : X.calm = true) : BiR X A (.builtin "min") (fun _ _ => .no) minT := by
  refine ⟨fun pins s σ H Q g S t v u I ru c r h => False.elim h, fun pins s σ H Q g S t t' v v' u u' I ru ru' c r r' h => ?_⟩
  cases t with
  | int i =>
    cases t' with
    | int j =>
      obtain rfl := r.int_inv
      obtain rfl := r'.int_inv
      exact call_min2 hc pins s σ H _ [u, u'] Q I (.cons ru (.cons ru' .nil)) ⟨i, j, rfl, AftP.use (show AftP X.K A (repV X.K A) (.ok (.int (if j < i then j else i)) S) g H S Q from h) c (.int _)⟩
    | _ => exact False.elim h
  | _ => exact False.elim h
end
end NH
end
section
namespace NH
open PySem L2 PyProof.Rows

section
variable {X : Cx} {A : Ad} {G : Gam} {W : WX} {n : Nat}
/-- a type as the model has it -/
def tyV' (A : Ad) : String ⊕ Nat → Value
  | .inl a => .type a
  | .inr d => .ref (A.c d)
theorem tyx_of (L : Lay X.K A G) {g : Gh} {H : Hp} {S : Store} {t : T} {v : V} {k : String ⊕ Nat} (c : Cn X.K A g H S) (r : Rep X.K A H g v t) (h : tyOf S t = some k) (hk : ∀ d, k = .inr d → ∃ cl, G.cls d = some cl ∧ cl.kind ≠ 2) : TyX X.K H v (tyV' A k) := by
  unfold tyOf at h
  cases e : view S t with
  | non => rw [e] at h; obtain rfl := view_non e; obtain rfl := r.non_inv; cases h; exact .base .non
  | bl k => rw [e] at h; obtain rfl := view_bl e; obtain rfl := r.bl_inv; cases h; exact .base (.bl _)
  | int i => rw [e] at h; obtain rfl := view_int e; obtain rfl := r.int_inv; cases h; exact .base (.int _)
  | str x => rw [e] at h; obtain rfl := view_str e; obtain ⟨rfl, _⟩ := r.str_inv; cases h; exact .base (.str _)
  | lst xs => rw [e] at h; obtain ⟨p, vs, rfl, hp, q⟩ := c.lstV r e; cases h; exact .base (.lst hp)
  | tup xs =>
    rw [e] at h
    obtain rfl := view_tup e
    cases h
    cases r with
    | tup q _ =>
      rcases q with q | ⟨o, its, m, h1, h2, _⟩
      · exact .base (.tup q.2)
      · exact .kTuple h1 h2
  | dct xs => rw [e] at h; obtain ⟨p, vs, rfl, hp, q⟩ := c.dctV r e; cases h; exact hp.elim (fun z => .base (.dK z)) fun ⟨o, z⟩ => .fDict z
  | ins d fs =>
    rw [e] at h
    obtain ⟨p, dx, vs, rfl, hp, q⟩ := c.insV r e
    cases h
    obtain ⟨cl, ec, k2⟩ := hk d rfl
    obtain ⟨h1, h2⟩ := L.isi d cl ec k2
    exact .base (.ins hp (L.cls d cl ec k2) h1 L.isiG.1 L.isiG.2 h2)
  | _ => rw [e] at h; cases h
theorem tyOf_mem {S : Store} {t : T} {a : String} (h : tyOf S t = some (.inl a)) : a ∈ "NoneType" :: tyNames := by
  unfold tyOf at h
  split at h <;> cases h <;> decide
theorem kit_tt : ∀ a ∈ "NoneType" :: tyNames, ∀ b ∈ tyNames, kitB a b = some (decide (a = b) || (decide (a = "bool") && decide (b = "int"))) := by decide +kernel
/-- one class: what isinstance asks -/
theorem kind_ok (L : Lay X.K A G) {g : Gh} {H : Hp} {S : Store} {t u : T} {v w : V} {b : Bool} (c : Cn X.K A g H S) (r : Rep X.K A H g v t) (ru : Rep X.K A H g w u) (h : isKind G S t u = some b) :
    ∃ (k : String ⊕ Nat) (cu : Value), tyOf S t = some k ∧ (∀ d, k = .inr d → ∃ cl, G.cls d = some cl ∧ cl.kind ≠ 2) ∧ ClsV w cu ∧ PySem.W.kitOne X.K (tyV' A k) cu = some b := by
  unfold isKind at h
  split at h
  · rename_i a bb e
    split at h
    · rename_i hb
      cases h
      cases ru
      exact ⟨_, _, e, (fun d z => by cases z), .ty _, kit_ty (kit_tt a (tyOf_mem e) bb hb)⟩
    · cases h
  · rename_i d bb e
    split at h
    · rename_i cl ec
      split at h
      · rename_i hb
        cases h
        cases ru
        exact ⟨_, _, e, (fun d' z => by cases z; exact ⟨cl, ec, hb.2⟩), .ty _, L.kOT d cl bb ec hb.2 hb.1⟩
      · cases h
    · cases h
  · rename_i a cc e
    split at h
    · rename_i hb
      cases h
      cases ru
      exact ⟨_, _, e, (fun d z => by cases z), .own _, L.kTO a cc (tyOf_mem e) hb⟩
    · cases h
  · rename_i d cc e
    split at h
    · rename_i cl cl2 ec ec2
      split at h
      · rename_i k2
        cases h
        cases ru
        exact ⟨_, _, e, (fun d' z => by cases z; exact ⟨cl, ec, k2⟩), .own _, L.kOO d cl cc ec k2 (by rw [ec2]; rfl)⟩
      · cases h
    · cases h
  · cases h
theorem any_ok (L : Lay X.K A G) {g : Gh} {H : Hp} {S : Store} {t : T} {v : V} {k : String ⊕ Nat} (c : Cn X.K A g H S) (r : Rep X.K A H g v t) (e : tyOf S t = some k) : ∀ {us : List T} {ws : List V} {b : Bool}, Reps X.K A H g ws us → isAny G S t us = some b →
    (us ≠ [] → ∀ d, k = .inr d → ∃ cl, G.cls d = some cl ∧ cl.kind ≠ 2) ∧ ∃ cus : List Value, Paired ClsV ws cus ∧ PySem.W.kitAny X.K (tyV' A k) cus = some b
  | [], _, _, .nil, h => by cases h; exact ⟨fun z => absurd rfl z, [], .nil, kitAny_nil⟩
  | u :: us, _, b, .cons r1 r2, h => by
    unfold isAny at h
    split at h
    · rename_i b1 b2 e1 e3
      cases h
      obtain ⟨k', cu, e2, k2, k3, k4⟩ := kind_ok L c r r1 e1
      obtain rfl : k = k' := Option.some.inj (e.symm.trans e2)
      obtain ⟨_, cus, p1, p2⟩ := any_ok L c r e r2 e3
      refine ⟨fun _ => k2, cu :: cus, .cons k3 p1, kitAny_cons k4 (fun z => ?_) fun z => ?_⟩
      · subst z
        exact p2
      · subst z
        rfl
    · cases h
theorem cr_isi (L : Lay X.K A G) : BiR X A (.builtin "isinstance") (fun _ _ => .no) (isiT G) := by
  refine ⟨fun pins s σ H Q g S t v u I ru c r h => False.elim h, fun pins s σ H Q g S t t' v v' u u' I ru ru' c r r' h => ?_⟩
  have one : AftP X.K A (repV X.K A) (R.of ((isKind G S t t').map T.bl) S) g H S Q → wpAny (model X.prog X.w) X.A (call (.builtin "isinstance") [u, u']) (EP X pins σ Q) X.xe s := fun h => by
    cases e : isKind G S t t' with
    | none => rw [e] at h; exact False.elim h
    | some b =>
      rw [e] at h
      obtain ⟨k, cu, e2, k2, k3, k4⟩ := kind_ok L c r r' e
      exact call_isi pins s σ H [v, v'] [u, u'] Q I (.cons ru (.cons ru' .nil)) ⟨v, v', _, cu, b, rfl, k3, tyx_of L c r e2 k2, k4, AftP.use (show AftP X.K A (repV X.K A) (.ok (.bl b) S) g H S Q from h) c (.bl _)⟩
  cases t' with
  | tup ts =>
    obtain ⟨hk, h⟩ := AftP.ite (p := ts.isEmpty = false) (r := R.of ((isAny G S t ts).map T.bl) S) h
    cases e : isAny G S t ts with
    | none => rw [e] at h; exact False.elim h
    | some b =>
      rw [e] at h
      have hq := AftP.use (show AftP X.K A (repV X.K A) (.ok (.bl b) S) g H S Q from h) c (.bl _)
      cases r' with
      | tup q rs =>
        obtain ⟨k, ek⟩ : ∃ k, tyOf S t = some k := by
          cases ts with
          | nil => cases hk
          | cons x xs =>
            cases rs with
            | cons r1 r2 =>
              unfold isAny at e
              split at e
              · rename_i e1 _
                obtain ⟨k, _, e2, _⟩ := kind_ok L c r r1 e1
                exact ⟨k, e2⟩
              · cases e
        obtain ⟨k2, cus, p1, p2⟩ := any_ok L c r ek rs e
        have hk2 : ∀ d, k = .inr d → ∃ cl, G.cls d = some cl ∧ cl.kind ≠ 2 := k2 (fun z => by rw [z] at hk; cases hk)
        have ty := tyx_of L c r ek hk2
        rcases q with q | ⟨o, its, m, h1, h2, h3, h4, h5⟩
        · exact call_isiT pins s σ H _ [u, u'] Q I (.cons ru (.cons ru' .nil)) ⟨v, _, _, _, cus, b, rfl, q.2, p1, ty, p2, hq⟩
        · obtain ⟨oc, od, dt, sl⟩ := o
          simp only at h2 h3
          subst h2 h3
          have e3 := ClsV.all p1 h5
          subst e3
          exact call_isiK pins s σ H _ [u, u'] Q I (.cons ru (.cons ru' .nil)) ⟨v, _, od, its.toList, m, sl, _, b, rfl, by rw [h1], ty, p2, hq⟩
  | _ => exact one h
end
end NH
end
section
namespace NH
open PySem L2 PyProof.Rows

section
variable {X : Cx} {A : Ad} {G : Gam} {W : WX} {n : Nat}
def Bm.ty : Bm → String
  | .join => "str"
  | _ => "list"
def Bm.nm : Bm → Str
  | .append => "append" | .insert => "insert" | .index => "index" | .join => "join"
def Bm.id : Bm → String
  | .append => "list.append" | .insert => "list.insert" | .index => "list.index" | .join => "str.join"
def PVm (K : PySem.W.Frag) (A : Ad) (b : Bm) : V → List V → Hp → VK → Prop := fun x xs H Q =>
  ∃ (g : Gh) (S : Store) (o : T) (ts : List T), Cn K A g H S ∧ Rep K A H g x o ∧ Reps K A H g xs ts ∧ AftP K A (repV K A) (bmT o b ts S) g H S Q
theorem bm_tyV {b : Bm} {g : Gh} {H : Hp} {S : Store} {o : T} {x : V} (c : Cn X.K A g H S) (r : Rep X.K A H g x o) (h : bmOk o b S = true) : tyV X.K b.ty x H := by
  unfold bmOk at h
  split at h
  · rename_i e; obtain rfl := view_str e; obtain ⟨rfl, _⟩ := r.str_inv; rfl
  · rename_i e; obtain ⟨p, vs, rfl, hp, _⟩ := c.lstV r e; exact .inl ⟨rfl, vs, .of hp⟩
  · rename_i e; obtain ⟨p, vs, rfl, hp, _⟩ := c.lstV r e; exact .inl ⟨rfl, vs, .of hp⟩
  · rename_i e; obtain ⟨p, vs, rfl, hp, _⟩ := c.lstV r e; exact .inl ⟨rfl, vs, .of hp⟩
  · cases h
/-- a mutable list that is written -/
theorem wr_list {g : Gh} {H : Hp} {S : Store} {k : Nat} {x : V} {xs ys : List T} (c : Cn X.K A g H S) (r : Rep X.K A H g x (.ref k)) (e : view S (.ref k) = .lst xs) :
    ∃ a vs, x = .ref a ∧ H a = some (.lst vs) ∧ Reps X.K A H g vs xs ∧ ∀ ws, Reps X.K A H g ws ys → Ex g H g (upd H a (.lst ws)) ∧ Cn X.K A g (upd H a (.lst ws)) (S.set k (some (.lst ys))) := by
  cases r with
  | ref hk =>
    rename_i a
    have hn : S.nd k = some (.lst xs) := by
      unfold view at e
      cases hn : S.nd k with
      | none => simp only [hn] at e; cases e
      | some y => simp only [hn] at e; cases y <;> cases e; rfl
    obtain ⟨b, h1, h2, h3⟩ := c.nd k _ (nd_get hn)
    obtain rfl : b = a := Option.some.inj (h1.symm.trans hk)
    cases h3 with
    | lst q rs =>
      refine ⟨b, _, rfl, q, rs, fun ws rw' => ?_⟩
      have ex : Ex g H g (upd H b (.lst ws)) := c.wex (nd_get hn) hk
      exact c.write (nd_get hn) hk (.lst upd_same (rw'.ex ex))
/-- a mutable list's own view -/
theorem find_ix {K : PySem.W.Frag} {g : Gh} {H : Hp} {n m : Nat} {d : T} (hd : d.data m = true) : ∀ {xs : List T} {j : Nat}, T.dataL n xs = true → xs.findIdx? (fun y => y.eqv d) = some j →
    ∃ z, (T.toDs xs)[j]? = some z ∧ PyData.eqv z d.toD = true ∧ ∀ (i : Nat) (z' : PyData), i < j → (T.toDs xs)[i]? = some z' → PyData.eqv z' d.toD = false
  | [], j, _, e => by simp at e
  | x :: xs, j, hx, e => by
    simp only [T.dataL, Bool.and_eq_true] at hx
    rw [List.findIdx?_cons] at e
    by_cases hq : x.eqv d = true
    · rw [if_pos hq] at e
      cases e
      exact ⟨x.toD, rfl, by rw [T.eqv_toD hx.1 hd]; exact hq, fun i _ hi => absurd hi (Nat.not_lt_zero i)⟩
    · rw [if_neg hq] at e
      cases e2 : xs.findIdx? (fun y => y.eqv d) with
      | none => rw [e2] at e; cases e
      | some j2 =>
        rw [e2] at e
        cases e
        obtain ⟨z, h1, h2, h3⟩ := find_ix (K := K) (g := g) (H := H) hd hx.2 e2
        refine ⟨z, by simpa [T.toDs] using h1, h2, fun i z' hi hz => ?_⟩
        cases i with
        | zero =>
          simp only [T.toDs, List.getElem?_cons_zero, Option.some.injEq] at hz
          subst hz
          rw [T.eqv_toD hx.1 hd]
          simpa using hq
        | succ i => exact h3 i z' (by have : i + 1 < j2 + 1 := hi; omega) (by simpa [T.toDs] using hz)
theorem toDs_len : ∀ xs : List T, (T.toDs xs).length = xs.length
  | [] => rfl
  | _ :: xs => congrArg Nat.succ (toDs_len xs)
theorem strOk_join {x : Str} (hx : PyData.strOk x = true) : ∀ {ys : List Str}, (∀ y ∈ ys, PyData.strOk y = true) → PyData.strOk (Str.join x ys) = true
  | [], _ => by first | (show PyData.strOk Str.empty = true; decide) | simp [Str.join, PyData.strOk, Str.empty]
  | [y], h => h y (List.mem_cons_self ..)
  | y :: z :: r, h => by
    show PyData.strOk (y ++ x ++ Str.join x (z :: r)) = true
    exact strOk_append (strOk_append (h y (List.mem_cons_self ..)) hx) (strOk_join hx fun w hw => h w (List.mem_cons_of_mem _ hw))
theorem mt_app : MtR X "list.append" (fun x xs H Q => ∃ (g : Gh) (S : Store) (o t : T) (w : V), xs = [w] ∧ Cn X.K A g H S ∧ Rep X.K A H g x o ∧ Rep X.K A H g w t ∧ AftP X.K A (repV X.K A) (appendT o t S) g H S Q) := by
  rintro pins s σ H x xs v us Q I rx rv ⟨g, S, o, t, w, rfl, c, r, rw', h⟩
  unfold appendT at h
  cases e : view S o with
  | lst ys =>
    rw [e] at h
    cases o with
    | ref k =>
      obtain ⟨hz, h⟩ := AftP.ite (p := ys.length < sizeLine) (r := R.ok T.non (S.set k (some (.lst (ys ++ [t]))))) h
      obtain ⟨a, vs, rfl, ha, q, wr⟩ := wr_list c r e
      obtain ⟨x2, c2⟩ := wr _ (q.append (.cons rw' .nil))
      refine mt_append pins s σ H _ _ v us Q I rx rv ⟨a, vs, w, rfl, rfl, ha, by rw [q.length]; exact hz, ?_⟩
      exact h g _ _ x2 c2 (by rw [List.length_set]; exact Nat.le_refl _) .non
    | _ => exact False.elim h
  | _ => rw [e] at h; exact False.elim h
theorem mt_ins : MtR X "list.insert" (fun x xs H Q => ∃ (g : Gh) (S : Store) (o j t : T) (w1 w : V), xs = [w1, w] ∧ Cn X.K A g H S ∧ Rep X.K A H g x o ∧ Rep X.K A H g w1 j ∧ Rep X.K A H g w t ∧ AftP X.K A (repV X.K A) (insertT o j t S) g H S Q) := by
  rintro pins s σ H x xs v us Q I rx rv ⟨g, S, o, j, t, w1, w, rfl, c, r, rw1, rw', h⟩
  unfold insertT at h
  cases e : view S o with
  | lst ys =>
    rw [e] at h
    cases j with
    | int i =>
      cases o with
      | ref k =>
        obtain ⟨hz, h⟩ := AftP.ite (p := ys.length < sizeLine ∧ 0 ≤ i ∧ i < 2 ^ 63) (r := R.ok T.non (S.set k (some (.lst (ys.take i.toNat ++ [t] ++ ys.drop i.toNat))))) h
        obtain rfl := rw1.int_inv
        obtain ⟨a, vs, rfl, ha, q, wr⟩ := wr_list c r e
        obtain ⟨x2, c2⟩ := wr _ (((q.take i.toNat).append (.cons rw' .nil)).append (q.drop i.toNat))
        refine mt_insert pins s σ H _ _ v us Q I rx rv ⟨a, vs, i, w, rfl, rfl, ha, by rw [q.length]; exact hz.1, hz.2.1, hz.2.2, ?_⟩
        exact h g _ _ x2 c2 (by rw [List.length_set]; exact Nat.le_refl _) .non
      | _ => exact False.elim h
    | _ => exact False.elim h
  | _ => rw [e] at h; exact False.elim h
theorem mt_ix (hu : X.A.units + 65 < cLine) : MtR X "list.index" (fun x xs H Q => ∃ (g : Gh) (S : Store) (o t : T) (w : V), xs = [w] ∧ Cn X.K A g H S ∧ Rep X.K A H g x o ∧ Rep X.K A H g w t ∧ AftP X.K A (repV X.K A) (indexT o t S) g H S Q) := by
  rintro pins s σ H x xs v us Q I rx rv ⟨g, S, o, t, w, rfl, c, r, rw', h⟩
  unfold indexT at h
  cases e : view S o with
  | lst ys =>
    rw [e] at h
    obtain ⟨hd, h⟩ := AftP.ite (p := (t.data 60 && T.dataL 59 ys) = true) (r := R.of ((ys.findIdx? fun y => y.eqv t).map fun i => T.int i) S) h
    obtain ⟨d1, d2⟩ := Bool.and_eq_true_iff.mp hd
    obtain ⟨a, vs, rfl, ha, q⟩ := c.lstV r e
    cases ej : ys.findIdx? (fun y => y.eqv t) with
    | none => rw [ej] at h; exact False.elim h
    | some j =>
      rw [ej] at h
      obtain ⟨p1, p2, p3⟩ := Rep.dp d1 rw'
      obtain ⟨q1, q2, q3⟩ := Reps.dp d2 q
      obtain ⟨z, h1, h2, h3⟩ := find_ix (K := X.K) (g := g) (H := H) d1 d2 ej
      refine mt_indexD hu pins s σ H _ _ v us Q I rx rv ⟨a, w, t.toD, T.toDs ys, j, z, rfl, rfl, .lst (.of ha) q1, p1, shaped_of (by simpa [PyData.canLay0] using q2) (by simp only [PyData.depth]; omega), shaped_of p2 (by omega), h1, h2, h3, ?_⟩
      exact AftP.use (show AftP X.K A (repV X.K A) (.ok (.int j) S) g H S Q from h) c (.int _)
  | _ => rw [e] at h; exact False.elim h
theorem mt_jn : MtR X "str.join" (fun x xs H Q => ∃ (g : Gh) (S : Store) (o t : T) (w : V), xs = [w] ∧ Cn X.K A g H S ∧ Rep X.K A H g x o ∧ Rep X.K A H g w t ∧ AftP X.K A (repV X.K A) (joinT o t S) g H S Q) := by
  rintro pins s σ H x xs v us Q I rx rv ⟨g, S, o, t, w, rfl, c, r, rw', h⟩
  cases o with
  | str z =>
    unfold joinT at h
    obtain ⟨rfl, ox⟩ := r.str_inv
    cases e : view S t with
    | lst ts =>
      rw [e] at h
      obtain ⟨a, vs, rfl, ha, q⟩ := c.lstV rw' e
      simp only at h
      cases es : strsOf ts with
      | none => rw [es] at h; exact False.elim h
      | some ys =>
        rw [es] at h
        obtain ⟨hz, h⟩ := AftP.ite (p := (ys.map (·.length)).sum + ys.length * z.length ≤ 16777216) (r := R.ok (T.str (Str.join z ys)) S) h
        obtain ⟨rfl, oy⟩ := strs_ok es q
        refine mt_join pins s σ H _ _ v us Q I rx rv ⟨z, a, ys, rfl, rfl, .inl (.of ha), hz, ?_⟩
        rw [TL.join_eq]
        exact h.use c (.str _ (strOk_join ox oy))
    | _ => rw [e] at h; exact False.elim h
  | _ => exact False.elim h
theorem mtr_bm (hu : X.A.units + 65 < cLine) (b : Bm) : MtR X b.id (PVm X.K A b) := by
  rintro pins s σ H x xs v us Q I rx rv ⟨g, S, o, ts, c, r, rs, h⟩
  cases rs with
  | nil => exact False.elim h
  | cons r1 rs =>
    cases rs with
    | nil =>
      cases b with
      | append => exact mt_app pins s σ H x _ v us Q I rx rv ⟨g, S, o, _, _, rfl, c, r, r1, h⟩
      | index => exact mt_ix hu pins s σ H x _ v us Q I rx rv ⟨g, S, o, _, _, rfl, c, r, r1, h⟩
      | join => exact mt_jn pins s σ H x _ v us Q I rx rv ⟨g, S, o, _, _, rfl, c, r, r1, h⟩
      | insert => exact False.elim h
    | cons r2 rs =>
      cases rs with
      | nil =>
        cases b with
        | insert => exact mt_ins pins s σ H x _ v us Q I rx rv ⟨g, S, o, _, _, _, _, rfl, c, r, r1, r2, h⟩
        | _ => exact False.elim h
      | cons r3 rs => exact False.elim h
theorem bm_facts : ∀ b : Bm, PlainAttrs b.ty ∧ Slot b.ty b.nm b.id ∧ typeOf (.builtin b.id) = pure (.type "method_descriptor")
  | .append => ⟨PySem.F.plainAttrs_list, PySem.F.slot_list_append, PySem.F.type_list_append⟩
  | .insert => ⟨PySem.F.plainAttrs_list, PySem.F.slot_list_insert, PySem.F.type_list_insert⟩
  | .index => ⟨PySem.F.plainAttrs_list, PySem.F.slot_list_index, PySem.F.type_list_index⟩
  | .join => ⟨PySem.F.plainAttrs_str, PySem.F.slot_str_join, PySem.F.type_str_join⟩
theorem snd_bm {b : Bm} {o e : Expr} {es : List Expr} {fo : Fr → Store → R T} {fs : Fr → Store → R (List T)} {apos cpos : Pos} (hu : X.A.units + 65 < cLine) (ho : PE X o (RdE X.K A W fo)) (ha : PA X (e :: es) (RdA X.K A W fs)) (hb : attributeBase o b.nm X.env (eval o X.env) = eval o X.env) (hline : (apos.endLine == cpos.line) = true)
    (hs : (e :: es).all (fun e => !isStar e) = true) (hlen : (e :: es).length < 30) :
    PE X (.Call (.Attribute o b.nm apos) (e :: es) [] cpos) (RdE X.K A W fun ρ S => (fo ρ S).bind fun o S1 => if bmOk o b S1 = true then (fs ρ S1).bind fun vs S2 => (bmT o b vs S2).noX else .no) := by
  obtain ⟨f1, f2, f3⟩ := bm_facts b
  obtain ⟨a1, a2⟩ := star_all (env := X.env) (pos := cpos) hs
  have hs' := hs
  simp only [List.all_cons, Bool.and_eq_true, Bool.not_eq_true'] at hs'
  refine (pe_bm f1 f2 f3 (mtr_bm (A := A) hu b) ho ha hb ?_ hline (starEach_plain hs'.1) (star_any hs'.2)).imp fun σ H Q ⟨g, ρ, S, c, f, h⟩ => ⟨g, ρ, S, c, f, h.bind fun t S1 g1 H1 v _ x1 c1 l1 r1 h1 => ?_⟩
  · rw [a1]
    simp only [Bool.true_and, decide_eq_true_eq]
    show (true && decide _) = true
    simpa using hlen
  · by_cases hk : bmOk t b S1 = true
    · rw [if_pos hk] at h1
      exact ⟨bm_tyV c1 r1 hk, g1, ρ, S1, c1, f.ex x1, h1.bind fun ts S2 g2 H2 vs _ x2 c2 l2 r2 h2 => ⟨g2, S2, t, ts, c2, r1.ex x2, r2, h2.noX⟩⟩
    · rw [if_neg hk] at h1
      exact False.elim h1
end
end NH
end
section
namespace NH
open PySem L2 PyProof.Rows RZ

/-- from g0, H0 on the iterator J gives the items xs, while the lists ks stand -/
structure WkI (K : PySem.W.Frag) (A : Ad) (H0 : Hp) (g0 : Gh) (J : L2.It) (p : Src) : Prop where
  go : ∀ (i : Nat) (g : Gh) (H : Hp) (S : Store), Ex g0 H0 g H → Cn K A g H S → still S p.2 → i < p.1.length → J.go i H
  stop : ∀ (g : Gh) (H : Hp) (S : Store), Ex g0 H0 g H → Cn K A g H S → still S p.2 → J.stop p.1.length H
  yld : ∀ (i : Nat) (g : Gh) (H : Hp) (S : Store) (x : V) (H' : Hp), Ex g0 H0 g H → Cn K A g H S → still S p.2 → i < p.1.length → J.yld i H x H' → ∃ (g' : Gh) (t : T), Ex g H g' H' ∧ Cn K A g' H' S ∧ p.1[i]? = some t ∧ Rep K A H' g' x t
def RdI (K : PySem.W.Frag) (A : Ad) (W : WX) (f : Fr → Store → R Src) : TI := RdG K A (fun H g (J : L2.It) (p : Src) => WkI K A H g J p) W f
section
variable {K : PySem.W.Frag} {A : Ad} {g0 g : Gh} {H0 H : Hp} {S0 S : Store}
theorem WkI.of {J : L2.It} {p : Src} {n : Nat} (hn : n = p.1.length) (w : ∀ (g : Gh) (H : Hp) (S : Store), Ex g0 H0 g H → Cn K A g H S → still S p.2 → ∃ (G : Hp → Prop) (Y : Nat → Hp → V → Hp → Prop), Walk J n G Y ∧ G H ∧
    ∀ i x H', i < n → Y i H x H' → ∃ (g' : Gh) (t : T), Ex g H g' H' ∧ Cn K A g' H' S ∧ p.1[i]? = some t ∧ Rep K A H' g' x t) : WkI K A H0 g0 J p := by
  subst hn
  refine ⟨fun i g H S x c s hi => ?_, fun g H S x c s => ?_, fun i g H S v H' x c s hi y => ?_⟩
  · obtain ⟨G, Y, w, h, _⟩ := w g H S x c s
    exact w.goes i H hi h
  · obtain ⟨G, Y, w, h, _⟩ := w g H S x c s
    exact w.stops H h
  · obtain ⟨G, Y, w, h, q⟩ := w g H S x c s
    exact q i v H' hi (w.yields i H v H' hi h y)
/-- a list's items wherever it stands -/
theorem keep_list {t : T} {v : V} {xs : List T} (c0 : Cn K A g0 H0 S0) (r : Rep K A H0 g0 v t) (e : view S0 t = .lst xs) : ∃ a, v = .ref a ∧ (∃ vs, H0 a = some (.lst vs)) ∧
    ∀ (g : Gh) (H : Hp) (S : Store), Ex g0 H0 g H → Cn K A g H S → still S (keepL t xs) → ∃ vs, H a = some (.lst vs) ∧ Reps K A H g vs xs := by
  cases t with
  | lst ys =>
    cases e
    cases r with
    | lst f q r => exact ⟨_, rfl, ⟨_, q⟩, fun g H S x c _ => ⟨_, (x.fk _ f).2.trans q, r.ex x⟩⟩
  | ref k =>
    obtain ⟨a, vs, rfl, ha, q⟩ := c0.lstV r e
    cases r with
    | ref hk =>
      refine ⟨a, rfl, ⟨vs, ha⟩, fun g H S x c s => ?_⟩
      have hn : S.nd k = some (.lst xs) := s.1
      obtain ⟨b, h1, h2, h3⟩ := c.nd k _ (nd_get hn)
      obtain rfl : b = a := Option.some.inj (h1.symm.trans (x.km k a hk))
      cases h3 with
      | lst q r => exact ⟨_, q, r⟩
  | _ => cases e
theorem still_append {a b : List (Nat × List T)} (h : still S (a ++ b)) : still S a ∧ still S b := by
  induction a with
  | nil => exact ⟨True.intro, h⟩
  | cons p a ih => exact ⟨⟨h.1, (ih h.2).1⟩, (ih h.2).2⟩
theorem wk_list {t : T} {v : V} {xs : List T} (c0 : Cn K A g0 H0 S0) (r : Rep K A H0 g0 v t) (e : view S0 t = .lst xs) : ∃ a, v = .ref a ∧ (∃ vs, H0 a = some (.lst vs)) ∧ WkI K A H0 g0 (Itl K a) (xs, keepL t xs) := by
  obtain ⟨a, rfl, h0, kp⟩ := keep_list c0 r e
  refine ⟨a, rfl, h0, .of (n := xs.length) rfl fun g H S x c s => ?_⟩
  obtain ⟨vs, hv, rs⟩ := kp g H S x c s
  have w := walk_list (K := K) (a := a) (xs := vs)
  rw [rs.length] at w
  refine ⟨_, _, w, SqL.of hv, fun i y H' hi ⟨h1, h2⟩ => ?_⟩
  subst h1
  obtain ⟨t1, e1, r1⟩ := rs.get' h2
  exact ⟨g, t1, .refl, c, e1, r1⟩
theorem wk_tup {v : V} {xs : List T} (c0 : Cn K A g0 H0 S0) (r : Rep K A H0 g0 v (.tup xs)) : ∃ a vs, v = .ref a ∧ SqT K H0 a vs ∧ WkI K A H0 g0 (Itt K a) (xs, []) := by
  cases r with
  | tup q rs =>
    rename_i a vs
    have sq : ∀ (g : Gh) (H : Hp), Ex g0 H0 g H → SqT K H a vs := fun g H x => q.elim (fun z => .inl (.inl ((x.fk a z.1).2.trans z.2))) .inr
    refine ⟨a, vs, rfl, sq g0 H0 .refl, .of (n := xs.length) rfl fun g H S x c s => ?_⟩
    have w := walk_tup (K := K) (a := a) (xs := vs)
    rw [rs.length] at w
    refine ⟨_, _, w, sq g H x, fun i y H' hi ⟨h1, h2⟩ => ?_⟩
    subst h1
    obtain ⟨t1, e1, r1⟩ := (rs.ex x).get' h2
    exact ⟨g, t1, .refl, c, e1, r1⟩
theorem wk_str {z : Str} (hz : PyData.strOk z = true) : WkI K A H0 g0 (Its z) (z.cps.toList.map fun c => T.str ⟨#[c]⟩, []) := by
  refine .of (n := z.cps.size) (by simp) fun g H S x c s => ⟨_, _, walk_str, True.intro, fun i y H' hi ⟨h1, cc, h2, h3⟩ => ?_⟩
  subst h1 h3
  refine ⟨g, .str ⟨#[cc]⟩, .refl, c, by simp [h2], .str _ (strOk_mem hz ?_)⟩
  exact List.mem_of_getElem? (i := i) (by simpa using h2)
/-- the value that is walked -/
def PIt (X : Cx) (tg : Expr) (wi : V → Hp → (L2.It → Hp → Prop) → Prop) : Prop :=
  ∀ (pins : List (Addr × Obj)) (s : Shared) (σ : L2.St) (H : Hp) (R : L2.It → Hp → Prop) (x : V) (v : Value), L2.Inv X pins σ H s → L2.RelV x v → wi x H R → wpAny (model X.prog X.w) X.A (pyIter v) (PIE X pins σ tg R) X.xe s
end
section
variable {X : Cx} {A : Ad} {G : Gam} {W : WX} {n : Nat} {tg : Expr}
theorem pit_seq : PIt X tg (fun x H R => ∃ (g : Gh) (S : Store) (t : T) (p : Src), Cn X.K A g H S ∧ Rep X.K A H g x t ∧ srcOf S t = some p ∧ ∀ J, WkI X.K A H g J p → R J H) := by
  rintro pins s σ H R x v I rx ⟨g, S, t, p, c, r, e, h⟩
  unfold srcOf at e
  cases ev : view S t with
  | lst xs =>
    rw [ev] at e
    cases e
    obtain ⟨a, rfl, ⟨vs, hv⟩, wk⟩ := wk_list c r ev
    obtain rfl : v = Value.ref a := rx
    obtain ⟨its, rv, pl, hz⟩ := I.list (xs := vs) (.of hv)
    exact wpAny_pyIter_list pl.isList (pi_one (tk := s.toks) I _ (turn_list a _) ⟨_, Heap.get?_push_size _ rfl, rfl, rfl⟩ (h _ wk))
  | tup xs =>
    rw [ev] at e
    cases e
    obtain rfl := view_tup ev
    obtain ⟨a, vs, rfl, hv, wk⟩ := wk_tup c r
    obtain rfl : v = Value.ref a := rx
    obtain ⟨its, rv, pl, hz⟩ := I.tuple hv
    exact wpAny_pyIter_tuple (show s.heap.IsTuple a its.toArray from pl) (pi_one (tk := s.toks) I _ (turn_tuple a _) ⟨_, Heap.get?_push_size _ rfl, rfl, rfl⟩ (h _ wk))
  | str z =>
    rw [ev] at e
    cases e
    obtain rfl := view_str ev
    obtain ⟨rfl, hz⟩ := r.str_inv
    obtain ⟨t, rfl⟩ := rx
    have q := h _ (wk_str hz)
    cases ha : z.cps.all (· < 128) with
    | false => exact wpAny_pyIter_wide ha (pi_one (tk := s.toks) I _ (turn_str _ z t "str_iterator" (.inr rfl)) ⟨_, Heap.get?_push_size _ rfl, rfl, rfl⟩ q)
    | true => exact wpAny_pyIter_ascii ha (pi_one (tk := s.toks) I _ (turn_str _ z t "str_ascii_iterator" (.inl rfl)) ⟨_, Heap.get?_push_size _ rfl, rfl, rfl⟩ q)
  | _ => rw [ev] at e; cases e
theorem snd_seq {e : Expr} {fe : Fr → Store → R T} (he : PE X e (RdE X.K A W fe)) : PI X tg e (RdI X.K A W fun ρ S => (fe ρ S).bind fun v S1 => R.of (srcOf S1 v) S1) := by
  refine ⟨fun pins s σ H R I ⟨g, ρ, S, c, f, h⟩ => ?_⟩
  refine thn (he.run pins s σ H (fun x H1 => ∀ u s1, L2.Inv X pins σ H1 s1 → L2.RelV x u → wpAny (model X.prog X.w) X.A (pyIter u) (PIE X pins σ tg R) X.xe s1) I ⟨g, ρ, S, c, f, h.bind fun t S1 g1 H1 v _ x1 c1 l1 r1 h1 => ?_⟩) fun u s1 ⟨x, H1, I1, r1, q1⟩ => q1 u s1 I1 r1
  intro u s1 I1 ru
  cases e : srcOf S1 t with
  | none => rw [e] at h1; exact False.elim h1
  | some p =>
    rw [e] at h1
    exact pit_seq (A := A) pins s1 σ H1 R v u I1 ru ⟨g1, S1, t, p, c1, r1, e, fun J wk => Aft.use (rep := fun H g (J : L2.It) (p : Src) => WkI X.K A H g J p) (W := W) (σ := σ) h1 c1 wk⟩
theorem PI.imp {iter : Expr} {t t' : TI} (h : PI X tg iter t) (i : ∀ σ H Q, t' σ H Q → t σ H Q) : PI X tg iter t' := ⟨fun pins s σ H Q I q => h.run pins s σ H Q I (i σ H Q q)⟩
theorem new_pair {g : Gh} {H : Hp} {S : Store} {v w : V} {t u : T} {p : Addr} (c : Cn X.K A g H S) (r : Rep X.K A H g v t) (r2 : Rep X.K A H g w u) (hp : H p = none) :
    ∃ g', Ex g H g' (upd H p (.tup [v, w])) ∧ Cn X.K A g' (upd H p (.tup [v, w])) S ∧ Rep X.K A (upd H p (.tup [v, w])) g' (.ref p) (.tup [t, u]) := new_tup (X := X) c (.cons r (.cons r2 .nil)) hp
theorem snd_enum {e : Expr} {fe : Fr → Store → R T} {elts : List Expr} {kk : Nat} {p pos tpos : Pos} (hg : Gl X "enumerate") (hm : X.mg "enumerate" = none) (he : PE X e (RdE X.K A W fe)) (hs : isStar e = false) :
    PI X (.Tuple elts kk tpos) (.Call (.Name "enumerate" p) [e] [] pos) (RdI X.K A W fun ρ S => (fe ρ S).bind fun v S1 => R.of (enumSrc S1 v) S1) := by
  have ha : PA X [e] (RdA X.K A W fun ρ S => (fe ρ S).bind fun v S1 => (R.ok [] S1).bind fun vs S2 => .ok (v :: vs) S2) := snd_cons he snd_nil (starEach_plain hs)
  refine PI.imp (pi_enum hg hm ha (starEach_plain hs)) fun σ H Q ⟨g, ρ, S, c, f, h⟩ => ⟨g, ρ, S, c, f, ?_⟩
  replace h : Aft X.K A (fun H g (J : L2.It) (p : Src) => WkI X.K A H g J p) W σ ((fe ρ S).bind fun v S1 => R.of (enumSrc S1 v) S1) g H S Q := h
  show Aft X.K A (repL X.K A) W σ ((fe ρ S).bind fun v S1 => (R.ok [] S1).bind fun vs S2 => .ok (v :: vs) S2) g H S _
  cases ef : fe ρ S with
  | ok t S1 =>
    rw [ef] at h
    intro g1 H1 vs x1 c1 l1 rs
    obtain ⟨v, rfl, r⟩ := Reps.one rs
    replace h : Aft X.K A (fun H g (J : L2.It) (p : Src) => WkI X.K A H g J p) W σ (R.of (enumSrc S1 t) S1) g H S Q := h
    unfold enumSrc at h
    cases ev : view S1 t with
    | lst xs =>
      rw [ev] at h
      obtain ⟨a, rfl, ⟨vs, hv⟩, kp⟩ := keep_list c1 r ev
      refine ⟨a, vs, rfl, .of hv, h g1 H1 _ x1 c1 l1 (.of (n := xs.length) (by simp [enumTo]) fun g H S x c s => ?_)⟩
      obtain ⟨ws, hw, rs⟩ := kp g H S x c s
      have w := walk_enum (K := X.K) (a := a) (xs := ws)
      rw [rs.length] at w
      refine ⟨_, _, w, SqL.of hw, fun i y H' hi ⟨T', x', y', h1, h2, h3, h4, h5⟩ => ?_⟩
      subst h1 h3
      cases h4
      obtain ⟨t1, e1, r1⟩ := rs.get' h5
      obtain ⟨g', x2, c2, r2⟩ := new_pair (X := X) c (.int (i : Nat)) r1 h2
      refine ⟨g', _, x2, c2, ?_, r2⟩
      unfold enumTo
      rw [List.getElem?_map, List.getElem?_zipIdx, e1]
      simp [numT]
    | _ => rw [ev] at h; exact False.elim h
  | exc x S1 => rw [ef] at h; exact h
  | no => rw [ef] at h; exact h
theorem snd_zip {e e2 : Expr} {fe fe2 : Fr → Store → R T} {elts : List Expr} {kk : Nat} {p pos tpos : Pos} (hg : Gl X "zip") (hm : X.mg "zip" = none) (he : PE X e (RdE X.K A W fe)) (he2 : PE X e2 (RdE X.K A W fe2)) (hs : isStar e = false) (hs2 : isStar e2 = false) :
    PI X (.Tuple elts kk tpos) (.Call (.Name "zip" p) [e, e2] [] pos) (RdI X.K A W fun ρ S => (fe ρ S).bind fun v S1 => (fe2 ρ S1).bind fun w S2 => R.of (zipSrc S2 v w) S2) := by
  have ha : PA X [e, e2] (RdA X.K A W fun ρ S => (fe ρ S).bind fun v S1 => ((fe2 ρ S1).bind fun w S2 => (R.ok [] S2).bind fun vs S3 => .ok (w :: vs) S3).bind fun vs S2 => .ok (v :: vs) S2) := snd_cons he (snd_cons he2 snd_nil (starEach_plain hs2)) (starEach_plain hs)
  refine PI.imp (pi_zipA hg hm ha (starEach_plain hs) (star_any (es := [e2]) (by simp [hs2]))) fun σ H Q ⟨g, ρ, S, c, f, h⟩ => ⟨g, ρ, S, c, f, ?_⟩
  replace h : Aft X.K A (fun H g (J : L2.It) (p : Src) => WkI X.K A H g J p) W σ ((fe ρ S).bind fun v S1 => (fe2 ρ S1).bind fun w S2 => R.of (zipSrc S2 v w) S2) g H S Q := h
  show Aft X.K A (repL X.K A) W σ ((fe ρ S).bind fun v S1 => ((fe2 ρ S1).bind fun w S2 => (R.ok [] S2).bind fun vs S3 => .ok (w :: vs) S3).bind fun vs S2 => .ok (v :: vs) S2) g H S _
  cases ef : fe ρ S with
  | exc x S1 => rw [ef] at h; exact h
  | no => rw [ef] at h; exact h
  | ok t S1 =>
    rw [ef] at h
    replace h : Aft X.K A (fun H g (J : L2.It) (p : Src) => WkI X.K A H g J p) W σ ((fe2 ρ S1).bind fun w S2 => R.of (zipSrc S2 t w) S2) g H S Q := h
    show Aft X.K A (repL X.K A) W σ (((fe2 ρ S1).bind fun w S2 => (R.ok [] S2).bind fun vs S3 => .ok (w :: vs) S3).bind fun vs S2 => .ok (t :: vs) S2) g H S _
    cases ef2 : fe2 ρ S1 with
    | exc x S2 => rw [ef2] at h; exact h
    | no => rw [ef2] at h; exact h
    | ok u S2 =>
      rw [ef2] at h
      intro g1 H1 vs x1 c1 l1 rs
      obtain ⟨v, w, rfl, r, r2⟩ := Reps.two rs
      replace h : Aft X.K A (fun H g (J : L2.It) (p : Src) => WkI X.K A H g J p) W σ (R.of (zipSrc S2 t u) S2) g H S Q := h
      unfold zipSrc at h
      cases ev : view S2 t with
      | lst xs =>
        cases ev2 : view S2 u with
        | lst ys =>
          rw [ev, ev2] at h
          obtain ⟨a, rfl, ⟨vs, hv⟩, kp⟩ := keep_list c1 r ev
          obtain ⟨b, rfl, ⟨ws, hw⟩, kp2⟩ := keep_list c1 r2 ev2
          refine ⟨a, b, vs, ws, rfl, .inl ⟨.of hv, .of hw, h g1 H1 _ x1 c1 l1 (.of (n := min xs.length ys.length) (by simp [zipTo]) fun g H S x c s => ?_)⟩⟩
          obtain ⟨vs', hv', rs⟩ := kp g H S x c (still_append s).1
          obtain ⟨ws', hw', rs2⟩ := kp2 g H S x c (still_append s).2
          refine ⟨_, _, walk_zip (K := X.K) (a := a) (b := b) (xs := vs') (ys := ws') (by rw [rs.length, rs2.length]), ⟨SqL.of hv', SqL.of hw'⟩, fun i y H' hi ⟨T', x', y', h1, h2, h3, h4, h5⟩ => ?_⟩
          subst h1 h3
          obtain ⟨t1, e1, r1⟩ := rs.get' h4
          obtain ⟨t2, e2, r2'⟩ := rs2.get' h5
          obtain ⟨g', x2, c2, r3⟩ := new_pair (X := X) c r1 r2' h2
          refine ⟨g', _, x2, c2, ?_, r3⟩
          show (zipTo xs ys)[i]? = _
          unfold zipTo
          rw [List.getElem?_map, List.getElem?_zip_eq_some (z := (t1, t2)) |>.mpr ⟨e1, e2⟩]
          rfl
        | _ => rw [ev, ev2] at h; exact False.elim h
      | tup xs =>
        cases ev2 : view S2 u with
        | tup ys =>
          rw [ev, ev2] at h
          obtain rfl := view_tup ev
          obtain rfl := view_tup ev2
          obtain ⟨a, vs, rfl, hv, _⟩ := wk_tup c1 r
          obtain ⟨b, ws, rfl, hw, _⟩ := wk_tup c1 r2
          cases r with
          | tup q rs =>
            cases r2 with
            | tup q2 rs2 =>
              rename_i vs' ws'
              have sq : ∀ (g : Gh) (H : Hp), Ex g1 H1 g H → SqT X.K H a vs' := fun g H x => q.elim (fun z => .inl (.inl ((x.fk a z.1).2.trans z.2))) .inr
              have sq2 : ∀ (g : Gh) (H : Hp), Ex g1 H1 g H → SqT X.K H b ws' := fun g H x => q2.elim (fun z => .inl (.inl ((x.fk b z.1).2.trans z.2))) .inr
              refine ⟨a, b, vs', ws', rfl, .inr ⟨sq g1 H1 .refl, sq2 g1 H1 .refl, h g1 H1 _ x1 c1 l1 (.of (n := min xs.length ys.length) (by simp [zipTo]) fun g H S x c s => ?_)⟩⟩
              have hg1 := sq g H x
              have hg2 := sq2 g H x
              refine ⟨fun H' => H' = H, YPair (fun i => vs'[i]?) (fun i => ws'[i]?), ⟨fun i H' hi e => ?_, fun H' e => ?_, fun i H' v H2 hi e y => ?_⟩, rfl, fun i y H' hi ⟨T', x', y', h1, h2, h3, h4, h5⟩ => ?_⟩
              · subst e
                have l1 := rs.length
                have l2 := rs2.length
                have i1 : i < vs'.length := by omega
                have i2 : i < ws'.length := by omega
                exact ⟨vs', ws', vs'[i], ws'[i], hg1, hg2, by simp [i1], by simp [i2]⟩
              · subst e
                have l1 := rs.length
                have l2 := rs2.length
                exact ⟨vs', ws', hg1, hg2, by omega⟩
              · subst e
                obtain ⟨T', x', y', h1, h2, h3, h4, h5⟩ := y
                exact ⟨T', x', y', h1, h2, h3, h4 vs' hg1, h5 ws' hg2⟩
              · subst h1 h3
                obtain ⟨t1, e1, r1⟩ := (rs.ex x).get' h4
                obtain ⟨t2, e2, r2'⟩ := (rs2.ex x).get' h5
                obtain ⟨g', x2, c2, r3⟩ := new_pair (X := X) c r1 r2' h2
                refine ⟨g', _, x2, c2, ?_, r3⟩
                show (zipTo xs ys)[i]? = _
                unfold zipTo
                rw [List.getElem?_map, List.getElem?_zip_eq_some (z := (t1, t2)) |>.mpr ⟨e1, e2⟩]
                rfl
        | _ => rw [ev, ev2] at h; exact False.elim h
      | _ => rw [ev] at h; exact False.elim h
end
end NH
end
section
namespace NH
open PySem L2 PyProof.Rows

section
variable {K : PySem.W.Frag} {A : Ad} {g g0 : Gh} {H H0 : Hp} {S : Store} {σ : L2.St} {ρ : Fr}
/-! ### slots -/
theorem FrR.set {i : Nat} {v : V} {t : T} (f : FrR K A H g σ ρ) (r : Rep K A H g v t) : FrR K A H g (σ.set i (some v)) (ρ.set i (some t)) := by
  refine ⟨by rw [List.length_set, List.length_set]; exact f.1, fun j u h => ?_⟩
  by_cases e : i = j
  · subst e
    have hl : i < ρ.length := by
      rcases Nat.lt_or_ge i ρ.length with q | q
      · exact q
      · rw [List.getElem?_eq_none (by rw [List.length_set]; exact q)] at h; cases h
    rw [List.getElem?_set_self hl] at h
    cases h
    exact ⟨v, List.getElem?_set_self (by rw [← f.1]; exact hl), r⟩
  · rw [List.getElem?_set_ne e] at h
    obtain ⟨w, h1, h2⟩ := f.2 j u h
    exact ⟨w, by rw [List.getElem?_set_ne e]; exact h1, h2⟩
theorem FrR.wipe (f : FrR K A H g σ ρ) : ∀ own : List Nat, FrR K A H g (L2.wipe σ own) (wipeF ρ own) := by
  have len : ∀ (own : List Nat) (ρ : Fr), (wipeF ρ own).length = ρ.length := by
    intro own
    induction own with
    | nil => exact fun _ => rfl
    | cons i own ih => intro ρ; unfold wipeF; rw [ih, List.length_set]
  have no : ∀ (own : List Nat) (ρ : Fr) (j : Nat) (t : T), (wipeF ρ own)[j]? = some (some t) → ρ[j]? = some (some t) ∧ j ∉ own := by
    intro own
    induction own with
    | nil => exact fun ρ j t h => ⟨h, by simp⟩
    | cons i own ih =>
      intro ρ j t h
      unfold wipeF at h
      obtain ⟨h1, h2⟩ := ih _ j t h
      by_cases e : i = j
      · subst e
        by_cases hl : i < ρ.length
        · rw [List.getElem?_set_self hl] at h1; cases h1
        · rw [List.getElem?_eq_none (by rw [List.length_set]; omega)] at h1; cases h1
      · rw [List.getElem?_set_ne e] at h1
        exact ⟨h1, by simp only [List.mem_cons, not_or]; exact ⟨fun z => e z.symm, h2⟩⟩
  intro own
  refine ⟨by rw [len, wipe_length]; exact f.1, fun j t h => ?_⟩
  obtain ⟨h1, h2⟩ := no own ρ j t h
  obtain ⟨v, e1, e2⟩ := f.2 j t h1
  exact ⟨v, by rw [wipe_out h2]; exact e1, e2⟩
theorem wipe_comm {x : Option V} {i : Nat} : ∀ {vs : List Nat}, i ∉ vs → L2.wipe (σ.set i x) vs = (L2.wipe σ vs).set i x
  | [], _ => rfl
  | v :: vs, h => by
    simp only [List.mem_cons, not_or] at h
    unfold L2.wipe
    rw [wipe_comm h.2, List.set_comm _ _ (Ne.symm (Ne.symm h.1))]
theorem wipe_set {x : Option V} {i : Nat} : ∀ {vs : List Nat}, i ∈ vs → L2.wipe (σ.set i x) vs = L2.wipe σ vs
  | [], h => by simp at h
  | v :: vs, h => by
    unfold L2.wipe
    by_cases hm : i ∈ vs
    · rw [wipe_set hm]
    · have e : i = v := by simpa [hm] using h
      subst e
      rw [wipe_comm hm, List.set_set]
theorem wipe_idem : ∀ {own vs : List Nat}, (∀ i ∈ own, i ∈ vs) → L2.wipe (L2.wipe σ own) vs = L2.wipe σ vs
  | [], _, _ => rfl
  | i :: own, vs, h => by
    show L2.wipe ((L2.wipe σ own).set i none) vs = _
    rw [wipe_set (h i (List.mem_cons_self ..)), wipe_idem fun j hj => h j (List.mem_cons_of_mem _ hj)]
/-! ### targets -/
def Tg.is : Tg → List Nat
  | .nm i => [i]
  | .tp is => is
def gT (K : PySem.W.Frag) (A : Ad) (tg : Tg) : TG := fun v σ H Q => ∃ (g : Gh) (S : Store) (t : T) (ρ ρ1 : Fr), Cn K A g H S ∧ FrR K A H g σ ρ ∧ Rep K A H g v t ∧ setTg S tg t ρ = some ρ1 ∧
  ∀ σ1, FrR K A H g σ1 ρ1 → (∀ vs : List Nat, (∀ i ∈ tg.is, i ∈ vs) → L2.wipe σ1 vs = L2.wipe σ vs) → Q σ1 H
def gNames : List Nat → TGs
  | [] => gNil
  | i :: is => gCons (gName i) (gNames is)
theorem gNames_run {Q : L2.St → Hp → Prop} : ∀ {is : List Nat} {vs : List V} {ts : List T} {σ : L2.St} {ρ : Fr}, Reps K A H g vs ts → is.length = ts.length → FrR K A H g σ ρ → (∀ σ1, FrR K A H g σ1 ((is.zip ts).foldl (fun ρ p => ρ.set p.1 (some p.2)) ρ) → (∀ ws : List Nat, (∀ i ∈ is, i ∈ ws) → L2.wipe σ1 ws = L2.wipe σ ws) → Q σ1 H) → gNames is vs σ H Q
  | [], _, _, σ, ρ, r, hl, f, h => by
    cases r with
    | nil => exact ⟨rfl, h σ f fun _ _ => rfl⟩
    | cons _ _ => cases hl
  | i :: is, _, _, σ, ρ, r, hl, f, h => by
    cases r with
    | nil => cases hl
    | cons r1 r2 =>
      refine ⟨_, _, rfl, gNames_run r2 (Nat.succ.inj hl) (f.set r1) fun σ1 f1 w1 => h σ1 f1 fun ws hw => ?_⟩
      rw [w1 ws fun j hj => hw j (List.mem_cons_of_mem _ hj), wipe_set (hw i (List.mem_cons_self ..))]
end
section
variable {X : Cx} {A : Ad} {G : Gam} {W : WX} {n : Nat} {tg : Expr}
theorem _root_.L2.PG.imp {t t' : TG} (h : PG X tg t) (i : ∀ v σ H Q, t' v σ H Q → t v σ H Q) : PG X tg t' := ⟨fun pins s σ H v u Q I r q => h.run pins s σ H v u Q I r (i v σ H Q q)⟩
theorem snd_tgN {i : Nat} {x : Str} {pos : Pos} (hN : X.N.Nodup) (hi : X.N[i]? = some x) (hx : Loc X.env.scope x) (hf : X.fn x = true ∨ X.env.scope.names.lookup x = some .local) : PG X (.Name x pos) (gT X.K A (.nm i)) := by
  refine (pg_name hN hi hx hf).imp fun v σ H Q ⟨g, S, t, ρ, ρ1, c, f, r, e, h⟩ => ?_
  cases e
  exact h _ (f.set r) fun vs hv => wipe_set (hv i (by simp [Tg.is]))
theorem pgs_names (hN : X.N.Nodup) : ∀ {is : List Nat} {es : List Expr}, es.length = is.length → (∀ (j : Nat) (e : Expr), es[j]? = some e → ∃ (x : Str) (p : Pos) (i : Nat), is[j]? = some i ∧ e = .Name x p ∧ X.N[i]? = some x ∧ Loc X.env.scope x ∧ (X.fn x = true ∨ X.env.scope.names.lookup x = some .local)) → PGs X es (gNames is)
  | [], [], _, _ => pgs_nil
  | [], _ :: _, hl, _ => by cases hl
  | _ :: _, [], hl, _ => by cases hl
  | i :: is, e :: es, hl, h => by
    obtain ⟨x, p, i', hi, rfl, h1, h2, h3⟩ := h 0 e rfl
    cases hi
    exact pgs_cons (pg_name hN h1 h2 h3) (pgs_names hN (Nat.succ.inj hl) fun j e hj => h (j + 1) e (by simpa using hj)) rfl
theorem names_each {es : List Expr} {env : Env} (h : ∀ e ∈ es, ∃ x p, e = Expr.Name x p) : (assignEach es env).length = es.length ∧ (assignEach es env).findIdx? (·.1) = none := by
  induction es with
  | nil => exact ⟨rfl, rfl⟩
  | cons e es ih =>
    obtain ⟨x, p, rfl⟩ := h e (List.mem_cons_self ..)
    obtain ⟨h1, h2⟩ := ih fun e he => h e (List.mem_cons_of_mem _ he)
    have e1 : assignEach (.Name x p :: es) env = (false, assign (.Name x p) env) :: assignEach es env := rfl
    rw [e1]
    refine ⟨by simp [h1], ?_⟩
    rw [List.findIdx?_cons]
    simp only [Bool.false_eq_true, if_false]
    rw [h2]
    rfl
theorem snd_tgT {is : List Nat} {es : List Expr} {k : Nat} {pos : Pos} (hc : X.calm = true) (hN : X.N.Nodup) (hl : es.length = is.length) (h : ∀ (j : Nat) (e : Expr), es[j]? = some e → ∃ (x : Str) (p : Pos) (i : Nat), is[j]? = some i ∧ e = .Name x p ∧ X.N[i]? = some x ∧ Loc X.env.scope x ∧ (X.fn x = true ∨ X.env.scope.names.lookup x = some .local)) :
    PG X (.Tuple es k pos) (gT X.K A (.tp is)) := by
  have hn : ∀ e ∈ es, ∃ x p, e = Expr.Name x p := fun e he => by
    obtain ⟨j, hj⟩ := List.mem_iff_getElem?.mp he
    obtain ⟨x, p, _, _, q, _⟩ := h j e hj
    exact ⟨x, p, q⟩
  obtain ⟨n1, n2⟩ := names_each (env := X.env) hn
  refine (pg_tup (n := is.length) hc (pgs_names hN hl h) (n1.trans hl) n2).imp fun v σ H Q ⟨g, S, t, ρ, ρ1, c, f, r, e, hq⟩ => ?_
  cases t with
  | tup ts =>
    have e' : (if ts.length = is.length then some ((is.zip ts).foldl (fun ρ p => ρ.set p.1 (some p.2)) ρ) else none) = some ρ1 := e
    split at e'
    · rename_i hlen
      cases e'
      obtain ⟨a, vs, rfl, hv, rs⟩ := c.tupV (ts := ts) r rfl
      exact ⟨a, vs, rfl, hv, rs.length.trans hlen, gNames_run rs hlen.symm f hq⟩
    · cases e'
  | _ => cases e
/-! ### range -/
theorem wk_rng {g0 : Gh} {H0 : Hp} {lo hi : Int} : WkI X.K A H0 g0 (Itr lo (hi - lo).toNat) (rngTo lo hi, []) := by
  refine .of (n := (hi - lo).toNat) (by simp [rngTo]) fun g H S x c s => ⟨_, _, walk_range, True.intro, fun i y H' hi' ⟨h1, h2⟩ => ?_⟩
  subst h1 h2
  refine ⟨g, .int (lo + (i : Nat)), .refl, c, ?_, .int _⟩
  unfold rngTo
  rw [List.getElem?_map, List.getElem?_range hi']
  rfl
theorem snd_rng1 {a : Expr} {fa : Fr → Store → R T} {p pos : Pos} (hg : Gl X "range") (hm : X.mg "range" = none) (ha : PE X a (RdE X.K A W fa)) (hs : isStar a = false) :
    PI X tg (.Call (.Name "range" p) [a] [] pos) (RdI X.K A W fun ρ S => (fa ρ S).bind fun v S1 => match v with
    | .int j => if -(2 ^ 62) ≤ j ∧ j < 2 ^ 62 then .ok (rngTo 0 j, []) S1 else .no
    | _ => .no) := by
  have hA : PA X [a] (RdA X.K A W fun ρ S => (fa ρ S).bind fun v S1 => (R.ok [] S1).bind fun vs S2 => .ok (v :: vs) S2) := snd_cons ha snd_nil (starEach_plain hs)
  refine PI.imp (pi_range1 hg hm hA (starEach_plain hs)) fun σ H Q ⟨g, ρ, S, c, f, h⟩ => ⟨g, ρ, S, c, f, ?_⟩
  show Aft X.K A (repL X.K A) W σ ((fa ρ S).bind fun v S1 => (R.ok [] S1).bind fun vs S2 => .ok (v :: vs) S2) g H S _
  cases e : fa ρ S with
  | exc x S1 => simp only [e] at h; exact h
  | no => simp only [e] at h; exact h
  | ok t S1 =>
    simp only [e] at h
    intro g1 H1 vs x1 c1 l1 rs
    obtain ⟨v, rfl, r⟩ := Reps.one rs
    cases t with
    | int j =>
      have h' : Aft X.K A (fun H g (J : L2.It) (p : Src) => WkI X.K A H g J p) W σ (if -(2 ^ 62) ≤ j ∧ j < 2 ^ 62 then .ok (rngTo 0 j, []) S1 else .no) g H S Q := h
      by_cases hj : -(2 ^ 62) ≤ j ∧ j < 2 ^ 62
      · rw [if_pos hj] at h'
        have wk := wk_rng (X := X) (A := A) (g0 := g1) (H0 := H1) (lo := 0) (hi := j)
        rw [Int.sub_zero] at wk
        exact ⟨j, by rw [r.int_inv], hj.1, hj.2, h' g1 H1 _ x1 c1 l1 wk⟩
      · rw [if_neg hj] at h'
        exact False.elim h'
    | _ => exact False.elim h
theorem snd_rng2 {a b : Expr} {fa fb : Fr → Store → R T} {p pos : Pos} (hg : Gl X "range") (hm : X.mg "range" = none) (ha : PE X a (RdE X.K A W fa)) (hb : PE X b (RdE X.K A W fb)) (hs : isStar a = false) (hs2 : isStar b = false) :
    PI X tg (.Call (.Name "range" p) [a, b] [] pos) (RdI X.K A W fun ρ S => (fa ρ S).bind fun v S1 => (fb ρ S1).bind fun w S2 => match v, w with
    | .int i, .int j => if -(2 ^ 62) ≤ i ∧ i < 2 ^ 62 ∧ -(2 ^ 62) ≤ j ∧ j < 2 ^ 62 then .ok (rngTo i j, []) S2 else .no
    | _, _ => .no) := by
  have hA : PA X [a, b] (RdA X.K A W fun ρ S => (fa ρ S).bind fun v S1 => ((fb ρ S1).bind fun w S2 => (R.ok [] S2).bind fun vs S3 => .ok (w :: vs) S3).bind fun vs S2 => .ok (v :: vs) S2) := snd_cons ha (snd_cons hb snd_nil (starEach_plain hs2)) (starEach_plain hs)
  have s2 : starEach [b] X.env = [(false, eval b X.env)] := starEach_plain hs2
  have s1 : starEach [a, b] X.env = [(false, eval a X.env), (false, eval b X.env)] := by rw [starEach_plain hs, s2]
  refine PI.imp (pi_range2 hg hm hA s1 s2) fun σ H Q ⟨g, ρ, S, c, f, h⟩ => ⟨g, ρ, S, c, f, ?_⟩
  show Aft X.K A (repL X.K A) W σ ((fa ρ S).bind fun v S1 => ((fb ρ S1).bind fun w S2 => (R.ok [] S2).bind fun vs S3 => .ok (w :: vs) S3).bind fun vs S2 => .ok (v :: vs) S2) g H S _
  cases e : fa ρ S with
  | exc x S1 => simp only [e] at h; exact h
  | no => simp only [e] at h; exact h
  | ok t S1 =>
    simp only [e] at h
    replace h : Aft X.K A (fun H g (J : L2.It) (p : Src) => WkI X.K A H g J p) W σ ((fb ρ S1).bind fun w S2 => match (generalizing := false) t, w with
      | .int i, .int j => if -(2 ^ 62) ≤ i ∧ i < 2 ^ 62 ∧ -(2 ^ 62) ≤ j ∧ j < 2 ^ 62 then .ok (rngTo i j, []) S2 else .no
      | _, _ => .no) g H S Q := h
    show Aft X.K A (repL X.K A) W σ (((fb ρ S1).bind fun w S2 => (R.ok [] S2).bind fun vs S3 => .ok (w :: vs) S3).bind fun vs S2 => .ok (t :: vs) S2) g H S _
    cases e2 : fb ρ S1 with
    | exc x S2 => rw [e2] at h; exact h
    | no => rw [e2] at h; exact h
    | ok u S2 =>
      rw [e2] at h
      intro g1 H1 vs x1 c1 l1 rs
      obtain ⟨v, w, rfl, r, r2⟩ := Reps.two rs
      cases t with
      | int i =>
        cases u with
        | int j =>
          have h' : Aft X.K A (fun H g (J : L2.It) (p : Src) => WkI X.K A H g J p) W σ (if -(2 ^ 62) ≤ i ∧ i < 2 ^ 62 ∧ -(2 ^ 62) ≤ j ∧ j < 2 ^ 62 then .ok (rngTo i j, []) S2 else .no) g H S Q := h
          by_cases hj : -(2 ^ 62) ≤ i ∧ i < 2 ^ 62 ∧ -(2 ^ 62) ≤ j ∧ j < 2 ^ 62
          · rw [if_pos hj] at h'
            exact ⟨i, j, by rw [r.int_inv, r2.int_inv], hj, h' g1 H1 _ x1 c1 l1 (wk_rng (X := X) (A := A))⟩
          · rw [if_neg hj] at h'
            exact False.elim h'
        | _ => exact False.elim h
      | _ => exact False.elim h

/-! ### a side object: known to the proof alone -/
structure Side (g : Gh) (H : Hp) (D : Addr) (o : HO) : Prop where
  at_ : H D = some o
  nF : ¬ g.F D
  nM : ∀ j, g.m j ≠ some D
  ls : ∃ vs, o = .lst vs
theorem Side.ex {g g' : Gh} {H H' : Hp} {D : Addr} {o : HO} (s : Side g H D o) (x : Ex g H g' H') : Side g' H' D o :=
  ⟨x.ok D o s.at_ s.nM (by obtain ⟨vs, e⟩ := s.ls; rw [e]; simp), fun z => by
    rcases x.nf D z with q | q | ⟨k, q⟩
    · exact s.nF q
    · rw [s.at_] at q; cases q
    · exact s.nM k q, fun j z => (by
    rcases x.nw j D z with q | q
    · exact s.nM j q
    · rw [s.at_] at q; cases q), s.ls⟩
theorem Side.new {K : PySem.W.Frag} {g : Gh} {H : Hp} {S : Store} {D : Addr} {o : HO} (c : Cn K A g H S) (h : H D = none) (ho : ∃ vs, o = .lst vs := by exact ⟨_, rfl⟩) : Side g (upd H D o) D o := ⟨upd_same, c.nF h, c.nM h, ho⟩
theorem Side.put {K : PySem.W.Frag} {g g1 : Gh} {H H1 : Hp} {S : Store} {D : Addr} {o o' : HO} (s : Side g H D o) (h1 : H1 D = none) (x : Ex g1 H1 g H) (c : Cn K A g H S) (ho : ∃ vs, o' = .lst vs := by exact ⟨_, rfl⟩) : Side g (upd H D o') D o' ∧ Ex g1 H1 g (upd H D o') ∧ Cn K A g (upd H D o') S ∧ (∀ {t : T} {v : V}, Rep K A H g v t → Rep K A (upd H D o') g v t) ∧ ∀ {ts : List T} {vs : List V}, Reps K A H g vs ts → Reps K A (upd H D o') g vs ts := by
  have fk : ∀ a, g.F a → g.F a ∧ upd H D o' a = H a := fun a h => ⟨h, upd_ne fun e => s.nF (e ▸ h)⟩
  refine ⟨⟨upd_same, s.nF, s.nM, ho⟩, ⟨fun a h => ⟨(x.fk a h).1, (fk a (x.fk a h).1).2.trans (x.fk a h).2⟩, x.km, fun a o h n nt => ?_, x.nw, fun a h => ?_, x.nf, fun a cc q h => by rw [upd_ne (ne_of_none h h1)]; exact x.cd a cc q h⟩, ⟨fun a h => ?_, fun k a h => ?_, fun k y h => ?_, c.inj, c.len, tabs_far c.tab fun b o' h q1 q2 q3 q4 => ?_, fun a h ps z => c.ft a h ps ((fk a h).2 ▸ z)⟩, fun r => r.gen (fun _ _ z => z) fk, fun r => r.gen (fun _ _ z => z) fk⟩
  · rw [upd_ne (ne_of_none h h1)]; exact x.ok a o h n nt
  · by_cases e : a = D
    · subst e; rw [upd_same]; simp
    · rw [upd_ne e]; exact x.lv a h
  · by_cases e : a = D
    · subst e; rw [upd_same]; simp
    · rw [upd_ne e]; exact c.live a h
  · rw [upd_ne (fun e => s.nM k (by rw [← e]; exact h))]; exact c.mlive k a h
  · obtain ⟨b, q1, q2, q3⟩ := c.nd k y h
    have hb : upd H D o' b = H b := upd_ne fun e => s.nM k (by rw [← e]; exact q1)
    refine ⟨b, q1, q2, ?_⟩
    cases q3 with
    | lst q r => exact .lst (hb.trans q) (r.gen (fun _ _ z => z) fk)
    | dct q r => exact .dct (hb.trans q) (r.gen (fun _ _ z => z) fk)
    | ins q r => exact .ins (hb.trans q) (r.gen (fun _ _ z => z) fk)
  · rw [upd_ne]
    · exact h
    · intro e
      subst e
      obtain ⟨vs, e2⟩ := s.ls
      exact q1 vs (by rw [← e2]; exact Option.some.inj (h.symm.trans s.at_))
end
end NH
end
section
namespace NH
open PySem L2 PyProof.Rows

/-- no exception -/
abbrev WF : WX := fun _ _ _ _ => False
noncomputable def lcTurn (tg : Tg) (own : List Nat) (ρ : Fr) (ft : Fr → Store → R Bool) (fe : Fr → Store → R T) : T → Store → R (List T) := fun x S => match setTg S tg x (wipeF ρ own) with
  | some ρ1 => (ft ρ1 S).bind fun k S3 => match k with
    | true => (fe ρ1 S3).bind fun y S4 => .ok [y] S4
    | false => .ok [] S3
  | none => .no
section
variable {X : Cx} {A : Ad} {G : Gam} {W : WX} {n : Nat}
open Classical in
theorem lc_cons {ks : List (Nat × List T)} {turn : T → Store → R (List T)} {x : T} {xs acc : List T} {S : Store} {γ δ : Type} {rep : Hp → Gh → δ → γ → Prop} {σ : L2.St} {k : List T → Store → R γ} {g : Gh} {H : Hp} {S0 : Store} {Q : δ → Hp → Prop} (h : Aft X.K A rep W σ ((lcLoop ks turn (x :: xs) acc S).bind k) g H S0 Q) :
    still S ks ∧ acc.length < sizeLine ∧ ∃ ys S1, turn x S = .ok ys S1 ∧ Aft X.K A rep W σ ((lcLoop ks turn xs (acc ++ ys) S1).bind k) g H S0 Q := by
  unfold lcLoop at h
  by_cases hs : still S ks ∧ acc.length < sizeLine
  · rw [if_pos hs] at h
    cases e : turn x S with
    | ok ys S1 => rw [e] at h; exact ⟨hs.1, hs.2, ys, S1, rfl, h⟩
    | exc _ _ => rw [e] at h; exact h.elim
    | no => rw [e] at h; exact h.elim
  · rw [if_neg hs] at h
    exact h.elim
open Classical in
theorem lc_nil {ks : List (Nat × List T)} {turn : T → Store → R (List T)} {acc : List T} {S : Store} {γ δ : Type} {rep : Hp → Gh → δ → γ → Prop} {σ : L2.St} {k : List T → Store → R γ} {g : Gh} {H : Hp} {S0 : Store} {Q : δ → Hp → Prop} (h : Aft X.K A rep W σ ((lcLoop ks turn [] acc S).bind k) g H S0 Q) :
    still S ks ∧ Aft X.K A rep W σ (k acc S) g H S0 Q := by
  unfold lcLoop at h
  by_cases hs : still S ks
  · rw [if_pos hs] at h
    exact ⟨hs, h⟩
  · rw [if_neg hs] at h
    exact h.elim
/-- the turns of a comprehension, whatever is walked -/
theorem lc_go {own : List Nat} {tgI : Tg} {ft : Fr → Store → R Bool} {fe : Fr → Store → R T} {σ : L2.St} {H H1 : Hp} {g1 : Gh} {S1 : Store} {ρ : Fr} {J : L2.It} {p : Src} {Q : VK} {D : Addr} (hin : ∀ i ∈ tgI.is, i ∈ own) (c1 : Cn X.K A g1 H1 S1) (f : FrR X.K A H1 g1 σ ρ) (wk : WkI X.K A H1 g1 J p) (hD : H1 D = none) (hD0 : H D = none)
    (h1 : Aft X.K A (NewN X.K A H) W σ ((lcLoop p.2 (lcTurn tgI own ρ ft fe) p.1 [] S1).bind fun ys S2 => .ok (.lst ys) S2) g1 H1 S1 Q) :
    ∃ WW : Nat → Nat → Hp → Prop, (∃ m, WW 0 m (upd H1 D (.lst []))) ∧ ∀ i m H, WW i m H →
      (J.stop i H ∧ Q (.ref D) H) ∨ (J.go i H ∧ ∃ Nx : Hp → Prop, (∀ H', Nx H' → ∃ m', m' < m ∧ WW (i + 1) m' H') ∧ ∀ x H', J.yld i H x H' → gT X.K A tgI x (L2.wipe σ own) H' fun σ2 H2 => L2.wipe σ2 own = L2.wipe σ own ∧ RdT X.K A WF ft σ2 H2 fun b H3 =>
        if b = true then RdE X.K A WF fe σ2 H3 fun y H4 => ∃ acc, H4 D = some (.lst acc) ∧ acc.length < sizeLine ∧ Nx (upd H4 D (.lst (acc ++ [y]))) else Nx H3) := by
  -- the list so far stands at D
  refine ⟨fun i m H' => m = p.1.length - i ∧ i ≤ p.1.length ∧ ∃ (g' : Gh) (S' : Store) (acc : List T) (av : List V), Ex g1 H1 g' H' ∧ Cn X.K A g' H' S' ∧ S1.length ≤ S'.length ∧ Side g' H' D (.lst av) ∧ Reps X.K A H' g' av acc ∧
    Aft X.K A (NewN X.K A H) W σ ((lcLoop p.2 (lcTurn tgI own ρ ft fe) (p.1.drop i) acc S').bind fun ys S2 => .ok (.lst ys) S2) g1 H1 S1 Q, ⟨p.1.length, by simp, Nat.zero_le _, g1, S1, [], [], (c1.new hD).1, (c1.new hD).2, Nat.le_refl _, Side.new c1 hD, .nil, h1⟩, ?_⟩
  rintro i m H' ⟨rfl, hile, g', S', acc, av, x2, c2, l2, sd, rs, h2⟩
  by_cases hlt : i < p.1.length
  · have ed : p.1.drop i = p.1[i] :: p.1.drop (i + 1) := List.drop_eq_getElem_cons hlt
    rw [ed] at h2
    obtain ⟨st, hz, ys, S3, et, h3⟩ := lc_cons h2
    refine .inr ⟨wk.go i g' H' S' x2 c2 st hlt, _, fun H'' q => ⟨p.1.length - (i + 1), by omega, q⟩, fun x H'' y => ?_⟩
    obtain ⟨g3, t, x3, c3, e3, r3⟩ := wk.yld i g' H' S' x H'' x2 c2 st hlt y
    have et' : t = p.1[i] := by
      rw [List.getElem?_eq_getElem hlt] at e3
      exact (Option.some.inj e3).symm
    subst et'
    unfold lcTurn at et
    cases eT : setTg S' tgI p.1[i] (wipeF ρ own) with
    | none => rw [eT] at et; cases et
    | some ρ1 =>
      rw [eT] at et
      simp only at et
      refine ⟨g3, S', _, _, ρ1, c3, (((f.ex x2).ex x3).wipe _), r3, eT, fun σ1 f1 w1 => ⟨?_, g3, ρ1, S', c3, f1, ?_⟩⟩
      · rw [w1 _ hin, wipe_idem fun _ z => z]
      cases eb : ft ρ1 S' with
      | exc _ _ => rw [eb] at et; cases et
      | no => rw [eb] at et; cases et
      | ok b S4 =>
        rw [eb] at et
        intro g4 H4 bv x4 c4 l4 ebv
        obtain rfl : bv = b := ebv
        have sd4 := (sd.ex x3).ex x4
        have rs4 := (rs.ex x3).ex x4
        have x14 := (x2.trans x3).trans x4
        cases bv with
        | false =>
          cases et
          exact ⟨rfl, hlt, g4, _, acc, av, x14, c4, Nat.le_trans l2 l4, sd4, rs4, by rw [List.append_nil] at h3; exact h3⟩
        | true =>
          refine ⟨g4, ρ1, S4, c4, f1.ex x4, ?_⟩
          have et2 : ((fe ρ1 S4).bind fun y S4 => R.ok [y] S4) = .ok ys S3 := et
          cases ee : fe ρ1 S4 with
          | exc _ _ => rw [ee] at et2; cases et2
          | no => rw [ee] at et2; cases et2
          | ok yt S5 =>
            rw [ee] at et2
            cases et2
            intro g5 H5 yv x5 c5 l5 r5
            have sd5 := sd4.ex x5
            have rs5 := rs4.ex x5
            obtain ⟨sd6, x6, c6, k1, k2⟩ := sd5.put (o' := .lst (av ++ [yv])) hD (x14.trans x5) c5
            refine ⟨av, sd5.at_, by rw [rs.length]; exact hz, rfl, hlt, g5, S3, acc ++ [yt], av ++ [yv], x6, c6, Nat.le_trans l2 (Nat.le_trans l4 l5), sd6, k2 (rs5.append (.cons r5 .nil)), h3⟩
  · have ei : i = p.1.length := by omega
    subst ei
    rw [List.drop_length] at h2
    obtain ⟨st, h3⟩ := lc_nil h2
    refine .inl ⟨wk.stop g' H' S' x2 c2 st, ?_⟩
    exact h3 g' H' _ x2 c2 l2 ⟨D, rfl, hD0, sd.nF, sd.nM, .lst sd.at_ rs⟩
theorem lc_rd {tg iter : Expr} {own : List Nat} {fi : Fr → Store → R Src} {tgI : Tg} {ft : Fr → Store → R Bool} {fe : Fr → Store → R T} {σ : L2.St} {H : Hp} {Q : VK} (hin : ∀ i ∈ tgI.is, i ∈ own) (h : RdN X.K A W (fun ρ S => (fi ρ S).bind fun p S1 => (lcLoop p.2 (lcTurn tgI own ρ ft fe) p.1 [] S1).bind fun ys S2 => .ok (.lst ys) S2) σ H Q) :
    tLc (RdI X.K A W fi) (gT X.K A tgI) (RdT X.K A WF ft) (RdE X.K A WF fe) own σ H Q := by
  obtain ⟨g, ρ, S, c, f, h⟩ := h
  exact ⟨g, ρ, S, c, f, h.bind fun p S1 g1 H1 J _ x1 c1 l1 wk h1 => fun D hD => lc_go hin c1 (f.ex x1) wk hD (x1.none hD) h1⟩
theorem snd_lc {elt tg iter : Expr} {ifs : List Expr} {scope : Scope} {own : List (Str × Nat)} {pos : Pos} {fi : Fr → Store → R Src} {tgI : Tg} {ft : Fr → Store → R Bool} {fe : Fr → Store → R T} (hc : X.calm = true) (hN : X.N.Nodup) (hi : PI X tg iter (RdI X.K A W fi)) (ok : BlkOk X.N X.env.scope scope own)
    (hin : ∀ i ∈ tgI.is, i ∈ own.map (·.2)) (hg : ∀ (s : Shared) (H : Hp) (C : Addr) (cl : List (Str × Addr)) (fp : List Addr), PG (X.blk s H scope (compEnvC scope cl C X.env) fp) tg (gT X.K A tgI))
    (ht : ∀ (s : Shared) (H : Hp) (C : Addr) (cl : List (Str × Addr)) (fp : List Addr), PTs (X.blk s H scope (compEnvC scope cl C X.env) fp) ifs (RdT X.K A WF ft))
    (he : ∀ (s : Shared) (H : Hp) (C : Addr) (cl : List (Str × Addr)) (fp : List Addr), PE (X.blk s H scope (compEnvC scope cl C X.env) fp) elt (RdE X.K A WF fe)) (hs : ∀ x, foldedSetIterable iter X.env x = pure x) :
    PE X (.ListComp elt [⟨tg, iter, ifs, 0⟩] scope pos) (RdN X.K A W fun ρ S => (fi ρ S).bind fun p S1 => (lcLoop p.2 (lcTurn tgI (own.map (·.2)) ρ ft fe) p.1 [] S1).bind fun ys S2 => .ok (.lst ys) S2) :=
  (pe_lc hc hN hi ok hg ht he hs).imp fun σ H Q h => lc_rd (tg := tg) (iter := iter) hin h
end
end NH
end
section
namespace NH
open PySem L2 PyProof.Rows

section
variable (K : PySem.W.Frag) (A : Ad)
/-- what must hold so that the outcome o, got from g, H, S on, gives the ends D -/
def AftO (W : WX) (o : O) (g : Gh) (H : Hp) (S : Store) (D : Ends) : Prop := match o with
  | .nx ρ' S' => ∀ (g' : Gh) (H' : Hp) (σ' : L2.St), Ex g H g' H' → Cn K A g' H' S' → S.length ≤ S'.length → FrR K A H' g' σ' ρ' → D.nx σ' H'
  | .rt t S' => ∀ (g' : Gh) (H' : Hp) (v : V), Ex g H g' H' → Cn K A g' H' S' → S.length ≤ S'.length → Rep K A H' g' v t → D.rt v H'
  | .xc x ρ' S' => ∀ (g' : Gh) (H' : Hp) (σ' : L2.St) (cls : Value) (d : Option Addr), Ex g H g' H' → Cn K A g' H' S' → S.length ≤ S'.length → FrR K A H' g' σ' ρ' → XR K A H' g' cls d x → W cls d σ' H'
  | .no => False
def RdS (W : WX) (f : Fr → Store → O) : TS := fun D σ H => ∃ (g : Gh) (ρ : Fr) (S : Store), Cn K A g H S ∧ FrR K A H g σ ρ ∧ AftO K A W (f ρ S) g H S D
end
section
variable {K : PySem.W.Frag} {A : Ad} {W : WX} {g g1 : Gh} {H H1 : Hp} {S S1 : Store} {D D' : Ends} {α β : Type} {rep : Hp → Gh → β → α → Prop}
theorem AftO.later {o : O} (h : AftO K A W o g H S D) (x : Ex g H g1 H1) (l : S.length ≤ S1.length) : AftO K A W o g1 H1 S1 D := by
  cases o with
  | nx ρ' S' => exact fun g' H' σ' x' c' l' f' => h g' H' σ' (x.trans x') c' (Nat.le_trans l l') f'
  | rt t S' => exact fun g' H' v x' c' l' f' => h g' H' v (x.trans x') c' (Nat.le_trans l l') f'
  | xc t ρ' S' => exact fun g' H' σ' cls d x' c' l' f' => h g' H' σ' cls d (x.trans x') c' (Nat.le_trans l l') f'
  | no => exact h
theorem AftO.bindR {σ : L2.St} {ρ : Fr} {r : R α} {k : α → Store → O} {Q1 : β → Hp → Prop} (f : FrR K A H g σ ρ) (h : AftO K A W (r.thn ρ k) g H S D)
    (hk : ∀ (t : α) (S1 : Store) (g1 : Gh) (H1 : Hp) (v : β), r = .ok t S1 → Ex g H g1 H1 → Cn K A g1 H1 S1 → S.length ≤ S1.length → rep H1 g1 v t → AftO K A W (k t S1) g1 H1 S1 D → Q1 v H1) : Aft K A rep W σ r g H S Q1 := by
  cases r with
  | ok t S' => exact fun g' H' v x c l q => hk t S' g' H' v rfl x c l q (AftO.later (show AftO K A W (k t S') g H S D from h) x l)
  | exc t S' => exact fun g' H' cls d x c l q => h g' H' σ cls d x c l (f.ex x) q
  | no => exact h
theorem AftO.nx {σ : L2.St} {ρ : Fr} (h : AftO K A W (.nx ρ S) g H S D) (c : Cn K A g H S) (f : FrR K A H g σ ρ) : D.nx σ H := h g H σ .refl c (Nat.le_refl _) f
end
section
variable {X : Cx} {A : Ad} {G : Gam} {W : WX} {n : Nat}
theorem snd_ssnil : PSs X [] (RdS X.K A W fun ρ S => .nx ρ S) := pss_nil.imp fun D σ H ⟨g, ρ, S, c, f, h⟩ => h.nx c f
theorem snd_sscons {st : Stmt} {rest : List Stmt} {f1 f2 : Fr → Store → O} (h1 : PS X st (RdS X.K A W f1)) (h2 : PSs X rest (RdS X.K A W f2)) : PSs X (st :: rest) (RdS X.K A W fun ρ S => (f1 ρ S).thn fun ρ1 S1 => f2 ρ1 S1) := by
  refine (pss_cons h1 h2).imp fun D σ H ⟨g, ρ, S, c, f, h⟩ => ⟨g, ρ, S, c, f, ?_⟩
  replace h : AftO X.K A W ((f1 ρ S).thn fun ρ1 S1 => f2 ρ1 S1) g H S D := h
  cases e : f1 ρ S with
  | nx ρ1 S1 =>
    rw [e] at h
    exact fun g' H' σ' x c' l f' => ⟨g', ρ1, S1, c', f', AftO.later (show AftO X.K A W (f2 ρ1 S1) g H S D from h) x l⟩
  | rt t S1 => rw [e] at h; exact h
  | xc t ρ1 S1 => rw [e] at h; exact h
  | no => rw [e] at h; exact h.elim
/-- a step that only the proof takes -/
theorem snd_ghost {rest : List Stmt} {f1 f2 : Fr → Store → O} (h2 : PSs X rest (RdS X.K A W f2)) (hg : ∀ (g : Gh) (H : Hp) (ρ : Fr) (S : Store) (σ : L2.St), Cn X.K A g H S → FrR X.K A H g σ ρ → f1 ρ S = .no ∨ ∃ S1 g1, f1 ρ S = .nx ρ S1 ∧ Ex g H g1 H ∧ Cn X.K A g1 H S1 ∧ S.length ≤ S1.length) :
    PSs X rest (RdS X.K A W fun ρ S => (f1 ρ S).thn fun ρ1 S1 => f2 ρ1 S1) := by
  refine h2.imp fun D σ H ⟨g, ρ, S, c, f, h⟩ => ?_
  replace h : AftO X.K A W ((f1 ρ S).thn fun ρ1 S1 => f2 ρ1 S1) g H S D := h
  rcases hg g H ρ S σ c f with e | ⟨S1, g1, e, x, c1, l⟩
  · rw [e] at h; exact h.elim
  · rw [e] at h
    exact ⟨g1, ρ, S1, c1, f.ex x, AftO.later (show AftO X.K A W (f2 ρ S1) g H S D from h) x l⟩
theorem snd_pass {pos : Pos} : PS X (.Pass pos) (RdS X.K A W fun ρ S => .nx ρ S) := ps_pass.imp fun D σ H ⟨g, ρ, S, c, f, h⟩ => h.nx c f
theorem snd_doc {x : Str} {j : Nat} {p pos : Pos} : PS X (.Expr (.Constant (.str x) j p) pos) (RdS X.K A W fun ρ S => .nx ρ S) := ps_doc.imp fun D σ H ⟨g, ρ, S, c, f, h⟩ => h.nx c f
theorem snd_never {st : Stmt} : PS X st (RdS X.K A W fun _ _ => .no) := ps_never.imp fun D σ H ⟨g, ρ, S, c, f, h⟩ => h
theorem snd_neverE {e : Expr} : PE X e (RdE X.K A W fun _ _ => .no) := ⟨fun pins s σ H Q I ⟨g, ρ, S, c, f, h⟩ => h.elim⟩
theorem snd_expr {e : Expr} {fe : Fr → Store → R T} {pos : Pos} (he : PE X e (RdE X.K A W fe)) (hs : swapsWith e none pos.line X.env = pure false) : PS X (.Expr e pos) (RdS X.K A W fun ρ S => (fe ρ S).thn ρ fun _ S1 => .nx ρ S1) :=
  (ps_expr he hs).imp fun D σ H ⟨g, ρ, S, c, f, h⟩ => ⟨g, ρ, S, c, f, AftO.bindR f h fun t S1 g1 H1 v _ x1 c1 l1 r1 h1 => h1.nx c1 (f.ex x1)⟩
theorem snd_ret {e : Expr} {fe : Fr → Store → R T} {pos : Pos} (he : PE X e (RdE X.K A W fe)) : PS X (.Return (some e) pos) (RdS X.K A W fun ρ S => (fe ρ S).thn ρ fun v S1 => .rt v S1) :=
  (ps_ret he).imp fun D σ H ⟨g, ρ, S, c, f, h⟩ => ⟨g, ρ, S, c, f, AftO.bindR f h fun t S1 g1 H1 v _ x1 c1 l1 r1 h1 => h1 g1 H1 v .refl c1 (Nat.le_refl _) r1⟩
theorem snd_retN {pos : Pos} : PS X (.Return none pos) (RdS X.K A W fun _ S => .rt .non S) := ps_retN.imp fun D σ H ⟨g, ρ, S, c, f, h⟩ => h g H .non .refl c (Nat.le_refl _) .non
theorem snd_if {c : Expr} {a b : List Stmt} {tc : Fr → Store → R Bool} {fa fb : Fr → Store → O} {pos : Pos} (hc : PT X c (RdT X.K A W tc)) (ha : PSs X a (RdS X.K A W fa)) (hb : PSs X b (RdS X.K A W fb)) : PS X (.If c a b pos) (RdS X.K A W fun ρ S => (tc ρ S).thn ρ fun k S1 => match k with
    | true => fa ρ S1
    | false => fb ρ S1) := by
  refine (ps_if hc ha hb).imp fun D σ H ⟨g, ρ, S, cn, f, h⟩ => ⟨g, ρ, S, cn, f, AftO.bindR f h fun t S1 g1 H1 v _ x1 c1 l1 r1 h1 => ?_⟩
  obtain rfl : v = t := r1
  cases v with
  | true => exact ⟨g1, ρ, S1, c1, f.ex x1, h1⟩
  | false => exact ⟨g1, ρ, S1, c1, f.ex x1, h1⟩
/-! ### stores -/
theorem snd_set {i : Nat} {x : Str} {e : Expr} {fe : Fr → Store → R T} {pos pos' : Pos} (hN : X.N.Nodup) (hi : X.N[i]? = some x) (hx : Loc X.env.scope x) (he : PE X e (RdE X.K A W fe)) (hs : swapsWith e (some (.Name x pos')) pos.line X.env = pure false) (hf : X.fn x = true ∨ X.env.scope.names.lookup x = some .local) :
    PS X (.Assign [.Name x pos'] e pos) (RdS X.K A W fun ρ S => (fe ρ S).thn ρ fun v S1 => .nx (ρ.set i (some v)) S1) :=
  (ps_set hN hi hx he hs hf).imp fun D σ H ⟨g, ρ, S, c, f, h⟩ => ⟨g, ρ, S, c, f, AftO.bindR f h fun t S1 g1 H1 v _ x1 c1 l1 r1 h1 => h1.nx c1 ((f.ex x1).set r1)⟩
theorem snd_setT {is : List Nat} {es : List Expr} {k : Nat} {tpos pos : Pos} {e : Expr} {fe : Fr → Store → R T} (hg : PG X (.Tuple es k tpos) (gT X.K A (.tp is))) (he : PE X e (RdE X.K A W fe)) (hs : swapsWithSole [.Tuple es k tpos] e pos.line X.env = pure false) (hw : swappedStores [.Tuple es k tpos] e X.env = pure none) :
    PS X (.Assign [.Tuple es k tpos] e pos) (RdS X.K A W fun ρ S => (fe ρ S).thn ρ fun v S1 => match v with
    | .tup vs => if vs.length = is.length then .nx (setAll ρ is vs) S1 else .no
    | _ => .no) := by
  refine (ps_asg he hg hs hw rfl).imp fun D σ H ⟨g, ρ, S, c, f, h⟩ => ⟨g, ρ, S, c, f, AftO.bindR f h fun t S1 g1 H1 v _ x1 c1 l1 r1 h1 => ?_⟩
  cases t with
  | tup vs =>
    by_cases hl : vs.length = is.length
    · simp only [if_pos hl] at h1
      exact ⟨g1, S1, .tup vs, ρ, setAll ρ is vs, c1, f.ex x1, r1, if_pos hl, fun σ1 f1 _ => h1.nx c1 f1⟩
    · simp only [if_neg hl] at h1
      exact h1.elim
  | _ => exact h1.elim
theorem rep_putN {g : Gh} {H : Hp} {f : Nat} {v : V} {t : T} (hf : f < A.n) (r : Rep X.K A H g v t) : ∀ {fs : List (Nat × T)} {vs : List (Str × V)}, RepF X.K A H g vs fs → RepF X.K A H g (putF (A.nm f) v vs) (putN f t fs)
  | [], _, .nil => .cons hf r .nil
  | (g', w) :: fs, _, .cons hk a q => by
    unfold putN putF
    by_cases e : g' = f
    · subst e
      rw [if_pos rfl, if_pos rfl]
      exact .cons hf r q
    · have e2 : ¬ A.nm g' = A.nm f := fun z => e (A.inj _ _ hk hf z)
      rw [if_neg e, if_neg e2]
      exact .cons hk a (rep_putN hf r q)
theorem snd_at {o e : Expr} {f : Nat} {fe fo : Fr → Store → R T} {pos pos' : Pos} (L : Lay X.K A G) (he : PE X e (RdE X.K A W fe)) (ho : PE X o (RdE X.K A W fo)) (hs : swapsWith e (some (.Attribute o (A.nm f) pos')) pos.line X.env = pure false) :
    PS X (.Assign [.Attribute o (A.nm f) pos'] e pos) (RdS X.K A W fun ρ S => (fe ρ S).thn ρ fun v S0 => (fo ρ S0).thn ρ fun w S1 => match w with
    | .ref k => (match S1.nd k with
      | some (.ins c fs) => (match G.cls c with
        | some cl => if fs.length < 1000 ∧ cl.flds.contains f = true ∧ cl.kind ≠ 2 then .nx ρ (S1.set k (some (.ins c (putN f v fs)))) else .no
        | none => .no)
      | _ => .no)
    | _ => .no) := by
  refine (ps_fld ho he hs).imp fun D σ H ⟨g, ρ, S, c, fr, h⟩ => ⟨g, ρ, S, c, fr, AftO.bindR fr h fun t S0 g0 H0 v _ x0 c0 l0 r0 h0 => ⟨g0, ρ, S0, c0, fr.ex x0, AftO.bindR (fr.ex x0) h0 fun w S1 g1 H1 x _ x1 c1 l1 r1 h1 => ?_⟩⟩
  cases w with
  | ref k =>
    simp only at h1
    cases en : S1.nd k with
    | none => rw [en] at h1; exact h1.elim
    | some nd =>
      rw [en] at h1
      cases nd with
      | ins cc fs =>
        simp only at h1
        cases ec : G.cls cc with
        | none => rw [ec] at h1; exact h1.elim
        | some cl =>
          rw [ec] at h1
          by_cases hz : fs.length < 1000 ∧ cl.flds.contains f = true ∧ cl.kind ≠ 2
          · simp only [if_pos hz] at h1
            cases r1 with
            | ref hk =>
              rename_i a
              obtain ⟨b, q1, q2, q3⟩ := c1.nd k _ (nd_get en)
              obtain rfl : b = a := Option.some.inj (q1.symm.trans hk)
              cases q3 with
              | ins q rs =>
                rename_i dx vs'
                obtain ⟨hf, na⟩ := L.fld cc cl f ec hz.2.2 (by simpa using hz.2.1)
                refine ⟨b, A.c cc, dx, vs', rfl, q, L.cls cc cl ec hz.2.2, na, by rw [rs.length]; exact hz.1, ?_⟩
                have ex := c1.wex (o := .ins (A.c cc) dx (putF (A.nm f) v vs')) (nd_get en) hk
                obtain ⟨x2, c2⟩ := c1.write (y := .ins cc (putN f t fs)) (nd_get en) hk (.ins upd_same ((rep_putN (X := X) hf (r0.ex x1) rs).ex ex))
                exact AftO.nx (AftO.later h1 x2 (by rw [List.length_set]; exact Nat.le_refl _)) c2 (((fr.ex x0).ex x1).ex x2)
          · simp only [if_neg hz] at h1
            exact h1.elim
      | _ => exact h1.elim
  | _ => exact h1.elim
end
end NH
end
section
namespace NH
open PySem L2 PyProof.Rows

section
variable {X : Cx} {A : Ad} {G : Gam} {W : WX} {n : Nat}
theorem snd_sbL {o i e : Expr} {fe fo fi : Fr → Store → R T} {pos pos' : Pos} (he : PE X e (RdE X.K A W fe)) (ho : PE X o (RdE X.K A W fo)) (hi : PE X i (RdE X.K A W fi)) (ha : ∀ v, assign (.Subscript o i pos') X.env v = (do
      let ov ← holding [v] (eval o X.env)
      let iv ← holding [v, ov] (eval i X.env)
      standAt pos'
      holding [v, ov, iv] (setItem ov iv v)
      release [v, ov, iv] [])) (hs : swapsWithSole [.Subscript o i pos'] e pos.line X.env = pure false) (hw : swappedStores [.Subscript o i pos'] e X.env = pure none) (h1 : (assignEach [.Subscript o i pos'] X.env).map (·.2) = [assign (.Subscript o i pos') X.env]) :
    PS X (.Assign [.Subscript o i pos'] e pos) (RdS X.K A W fun ρ S => (fe ρ S).thn ρ fun v S0 => (fo ρ S0).thn ρ fun w S1 => (fi ρ S1).thn ρ fun j S2 => match w, j with
    | .ref k, .int n => (match S2.nd k with
      | some (.lst xs) => (match ixN xs.length n with
        | some m => .nx ρ (S2.set k (some (.lst (xs.set m v))))
        | none => .no)
      | _ => .no)
    | _, _ => .no) := by
  refine (ps_asg he (pg_sub ho hi set_list ha) hs hw h1).imp fun D σ H ⟨g, ρ, S, c, fr, h⟩ => ⟨g, ρ, S, c, fr, AftO.bindR fr h fun t S0 g0 H0 v _ x0 c0 l0 r0 h0 => ⟨g0, ρ, S0, c0, fr.ex x0, AftO.bindR (fr.ex x0) h0 fun w S1 g1 H1 x _ x1 c1 l1 r1 h1 => ⟨g1, ρ, S1, c1, (fr.ex x0).ex x1, AftO.bindR ((fr.ex x0).ex x1) h1 fun j S2 g2 H2 y _ x2 c2 l2 r2 h2 => ?_⟩⟩⟩
  cases w with
  | ref k =>
    cases j with
    | int n =>
      simp only at h2
      cases en : S2.nd k with
      | none => rw [en] at h2; exact h2.elim
      | some nd =>
        rw [en] at h2
        cases nd with
        | lst xs =>
          simp only at h2
          cases em : ixN xs.length n with
          | none => rw [em] at h2; exact h2.elim
          | some m =>
            rw [em] at h2
            have r1' := r1.ex x2
            cases r1' with
            | ref hk =>
              rename_i a
              obtain ⟨b, q1, q2, q3⟩ := c2.nd k _ (nd_get en)
              obtain rfl : b = a := Option.some.inj (q1.symm.trans hk)
              cases q3 with
              | lst q rs =>
                rename_i vs
                have ex := c2.wex (o := .lst (vs.set m v)) (nd_get en) hk
                obtain ⟨x3, c3⟩ := c2.write (y := .lst (xs.set m t)) (nd_get en) hk (.lst upd_same ((rs.set ((r0.ex x1).ex x2) m).ex ex))
                exact ⟨b, vs, n, m, rfl, r2.int_inv, q, by rw [rs.length]; exact em, AftO.nx (AftO.later h2 x3 (by rw [List.length_set]; exact Nat.le_refl _)) c3 ((((fr.ex x0).ex x1).ex x2).ex x3)⟩
        | _ => exact h2.elim
    | _ => exact h2.elim
  | _ => exact h2.elim
theorem RepD.any {K : PySem.W.Frag} {g : Gh} {H : Hp} {k : Str} : ∀ {kvs : List (Key × V)} {ts : List (Str × T)}, RepD K A H g kvs ts → (kvs.any fun kv => decide (kv.1 = Sum.inr k)) = ts.any fun kv => decide (kv.1 = k)
  | _, _, .nil => rfl
  | _, _, .cons hk a r => by
    simp only [List.any_cons, RepD.any r]
    congr 1
    simp
theorem RepD.putK {K : PySem.W.Frag} {g : Gh} {H : Hp} {k : Str} {v : V} {t : T} {kvs : List (Key × V)} {ts : List (Str × T)} (hk : PyData.strOk k = true) (rv : Rep K A H g v t) (r : RepD K A H g kvs ts) : RepD K A H g (L2.putK kvs (Sum.inr k) v) (putS k t ts) := by
  have mp : ∀ {kvs : List (Key × V)} {ts : List (Str × T)}, RepD K A H g kvs ts → RepD K A H g (kvs.map fun kv => if kv.1 = Sum.inr k then (kv.1, v) else kv) (ts.map fun kv => if kv.1 = k then (kv.1, t) else kv) := by
    intro kvs ts r
    induction ts generalizing kvs with
    | nil => cases r; exact .nil
    | cons p ts ih =>
      cases r with
      | cons hk' a r =>
        rename_i k' v' vs' t'
        simp only [List.map_cons]
        by_cases e : k' = k
        · subst e
          simp only [if_true]
          exact .cons hk' rv (ih r)
        · rw [if_neg e, if_neg (show ¬ ((Sum.inr k' : Key) = Sum.inr k) from fun z => e (Sum.inr.inj z))]
          exact .cons hk' a (ih r)
  have ap : ∀ {kvs : List (Key × V)} {ts : List (Str × T)}, RepD K A H g kvs ts → RepD K A H g (kvs ++ [(Sum.inr k, v)]) (ts ++ [(k, t)]) := by
    intro kvs ts r
    induction ts generalizing kvs with
    | nil => cases r; exact .cons hk rv .nil
    | cons p ts ih =>
      cases r with
      | cons hk' a r => exact .cons hk' a (ih r)
  unfold L2.putK putS
  rw [RepD.any r]
  by_cases e : (ts.any fun kv => decide (kv.1 = k)) = true
  · rw [if_pos e, if_pos e]
    exact mp r
  · rw [if_neg e, if_neg e]
    exact ap r
theorem snd_sbD {o i e : Expr} {fe fo fi : Fr → Store → R T} {pos pos' : Pos} (hu : X.A.units + 1 < cLine) (he : PE X e (RdE X.K A W fe)) (ho : PE X o (RdE X.K A W fo)) (hi : PE X i (RdE X.K A W fi)) (hs : swapsWith e (some (.Subscript o i pos')) pos.line X.env = pure false) :
    PS X (.Assign [.Subscript o i pos'] e pos) (RdS X.K A W fun ρ S => (fe ρ S).thn ρ fun v S0 => (fo ρ S0).thn ρ fun w S1 => (fi ρ S1).thn ρ fun j S2 => match w, j with
    | .ref k, .str x => (match S2.nd k with
      | some (.dct kvs) => if kvs.length < sizeLine then .nx ρ (S2.set k (some (.dct (putS x v kvs)))) else .no
      | _ => .no)
    | _, _ => .no) := by
  refine (ps_dput hu ho hi he hs).imp fun D σ H ⟨g, ρ, S, c, fr, h⟩ => ⟨g, ρ, S, c, fr, AftO.bindR fr h fun t S0 g0 H0 v _ x0 c0 l0 r0 h0 => ⟨g0, ρ, S0, c0, fr.ex x0, AftO.bindR (fr.ex x0) h0 fun w S1 g1 H1 x _ x1 c1 l1 r1 h1 => ⟨g1, ρ, S1, c1, (fr.ex x0).ex x1, AftO.bindR ((fr.ex x0).ex x1) h1 fun j S2 g2 H2 y _ x2 c2 l2 r2 h2 => ?_⟩⟩⟩
  cases w with
  | ref k =>
    cases j with
    | str z =>
      simp only at h2
      cases en : S2.nd k with
      | none => rw [en] at h2; exact h2.elim
      | some nd =>
        rw [en] at h2
        cases nd with
        | dct kvs =>
          by_cases hz : kvs.length < sizeLine
          · simp only [if_pos hz] at h2
            have r1' := r1.ex x2
            cases r1' with
            | ref hk =>
              rename_i a
              obtain ⟨b, q1, q2, q3⟩ := c2.nd k _ (nd_get en)
              obtain rfl : b = a := Option.some.inj (q1.symm.trans hk)
              obtain ⟨rfl, oz⟩ := r2.str_inv
              cases q3 with
              | dct q rs =>
                rename_i vs
                have rn := RepD.putK oz ((r0.ex x1).ex x2) rs
                have ex := c2.wex (o := .dK (L2.putK vs (Sum.inr z) v)) (nd_get en) hk
                obtain ⟨x3, c3⟩ := c2.write (y := .dct (putS z t kvs)) (nd_get en) hk (.dct upd_same (rn.ex ex))
                exact ⟨b, _, rfl, DPut.k (k := (Sum.inr z : Key)) q (by rw [rs.length]; exact hz), AftO.nx (AftO.later h2 x3 (by rw [List.length_set]; exact Nat.le_refl _)) c3 ((((fr.ex x0).ex x1).ex x2).ex x3)⟩
          · simp only [if_neg hz] at h2
            exact h2.elim
        | _ => exact h2.elim
    | _ => exact h2.elim
  | _ => exact h2.elim
/-! ### several names at once -/
theorem snd_par2 {i j : Nat} {x y : Str} {a b : Expr} {fs : Fr → Store → R (List T)} {px py pt pos : Pos} {kt k2 : Nat} {pt2 : Pos} (hc : X.calm = true) (hN : X.N.Nodup) (hi : X.N[i]? = some x) (hj : X.N[j]? = some y) (hij : i ≠ j)
    (hx : X.env.scope.names.lookup x = some .local) (hy : X.env.scope.names.lookup y = some .local) (ha : PA X [a, b] (RdA X.K A W fs))
    (hw : swappedStores [.Tuple [.Name x px, .Name y py] kt pt] (.Tuple [a, b] k2 pt2) X.env = pure (some [x, y])) (hs : swapsWithSole [.Tuple [.Name x px, .Name y py] kt pt] (.Tuple [a, b] k2 pt2) pos.line X.env = pure false) :
    PS X (.Assign [.Tuple [.Name x px, .Name y py] kt pt] (.Tuple [a, b] k2 pt2) pos) (RdS X.K A W fun ρ S => (fs ρ S).thn ρ fun vs S1 => if vs.length = [i, j].length then .nx (setAll ρ [i, j] vs) S1 else .no) := by
  refine (ps_par hc hN hi hj hij hx hy ha hw hs).imp fun D σ H ⟨g, ρ, S, c, f, h⟩ => ⟨g, ρ, S, c, f, AftO.bindR f h fun ts S1 g1 H1 vs _ x1 c1 l1 r1 h1 => ?_⟩
  by_cases hl : ts.length = [i, j].length
  · simp only [if_pos hl] at h1
    match ts, hl, r1, h1 with
    | [t, u], _, r1, h1 =>
      obtain ⟨v, w, rfl, rv, rw'⟩ := r1.two
      exact ⟨v, w, rfl, h1.nx c1 (((f.ex x1).set rv).set rw')⟩
  · simp only [if_neg hl] at h1
    exact h1.elim
theorem snd_par3 {i j l : Nat} {x y z : Str} {a b c : Expr} {fs : Fr → Store → R (List T)} {px py pz pt pos : Pos} {kt k2 : Nat} {pt2 : Pos} (hc : X.calm = true) (hN : X.N.Nodup) (hi : X.N[i]? = some x) (hj : X.N[j]? = some y) (hl : X.N[l]? = some z) (hij : i ≠ j) (hil : i ≠ l) (hjl : j ≠ l)
    (hx : X.env.scope.names.lookup x = some .local) (hy : X.env.scope.names.lookup y = some .local) (hz : X.env.scope.names.lookup z = some .local) (ha : PA X [a, b, c] (RdA X.K A W fs))
    (hw : swappedStores [.Tuple [.Name x px, .Name y py, .Name z pz] kt pt] (.Tuple [a, b, c] k2 pt2) X.env = pure (some [x, y, z])) (hs : swapsWithSole [.Tuple [.Name x px, .Name y py, .Name z pz] kt pt] (.Tuple [a, b, c] k2 pt2) pos.line X.env = pure false) :
    PS X (.Assign [.Tuple [.Name x px, .Name y py, .Name z pz] kt pt] (.Tuple [a, b, c] k2 pt2) pos) (RdS X.K A W fun ρ S => (fs ρ S).thn ρ fun vs S1 => if vs.length = [i, j, l].length then .nx (setAll ρ [i, j, l] vs) S1 else .no) := by
  refine (ps_par3 hc hN hi hj hl hij hil hjl hx hy hz ha hw hs).imp fun D σ H ⟨g, ρ, S, c, f, h⟩ => ⟨g, ρ, S, c, f, AftO.bindR f h fun ts S1 g1 H1 vs _ x1 c1 l1 r1 h1 => ?_⟩
  by_cases hl : ts.length = [i, j, l].length
  · simp only [if_pos hl] at h1
    match ts, hl, r1, h1 with
    | [t, u, s], _, r1, h1 =>
      cases r1 with
      | cons rt r1 =>
        obtain ⟨v, w, rfl, rv, rw'⟩ := r1.two
        exact ⟨_, v, w, rfl, h1.nx c1 ((((f.ex x1).set rt).set rv).set rw')⟩
  · simp only [if_neg hl] at h1
    exact h1.elim
/-! ### for -/
open Classical in
theorem for_cons {K : PySem.W.Frag} {ks : List (Nat × List T)} {turn : T → Fr → Store → O} {x : T} {xs : List T} {ρ : Fr} {S S0 : Store} {g : Gh} {H : Hp} {D : Ends} (h : AftO K A W (forLoop ks turn (x :: xs) ρ S) g H S0 D) : still S ks ∧ AftO K A W ((turn x ρ S).thn fun ρ1 S1 => forLoop ks turn xs ρ1 S1) g H S0 D := by
  unfold forLoop at h
  by_cases hs : still S ks
  · rw [if_pos hs] at h; exact ⟨hs, h⟩
  · rw [if_neg hs] at h; exact h.elim
open Classical in
theorem for_nil {K : PySem.W.Frag} {ks : List (Nat × List T)} {turn : T → Fr → Store → O} {ρ : Fr} {S S0 : Store} {g : Gh} {H : Hp} {D : Ends} (h : AftO K A W (forLoop ks turn [] ρ S) g H S0 D) : still S ks ∧ AftO K A W (.nx ρ S) g H S0 D := by
  unfold forLoop at h
  by_cases hs : still S ks
  · rw [if_pos hs] at h; exact ⟨hs, h⟩
  · rw [if_neg hs] at h; exact h.elim
theorem AftO.base {K : PySem.W.Frag} {o : O} {g0 g : Gh} {H0 H : Hp} {S0 S : Store} {D D' : Ends} (h : AftO K A W o g0 H0 S0 D) (x : Ex g0 H0 g H) (l : S0.length ≤ S.length) (hn : ∀ ρ' S' g' H' σ', o = .nx ρ' S' → Ex g H g' H' → Cn K A g' H' S' → S.length ≤ S'.length → FrR K A H' g' σ' ρ' → D'.nx σ' H') (hr : D'.rt = D.rt) : AftO K A W o g H S D' := by
  cases o with
  | nx ρ' S' => exact fun g' H' σ' x' c' l' f' => hn ρ' S' g' H' σ' rfl x' c' l' f'
  | rt t S' => intro g' H' v x' c' l' r'; rw [hr]; exact h g' H' v (x.trans x') c' (Nat.le_trans l l') r'
  | xc t ρ' S' => exact fun g' H' σ' cls d x' c' l' f' => h g' H' σ' cls d (x.trans x') c' (Nat.le_trans l l') f'
  | no => exact h
theorem snd_for {tg iter : Expr} {body : List Stmt} {fi : Fr → Store → R Src} {tgI : Tg} {fb : Fr → Store → O} {pos : Pos} (hp : PassesOwn (model X.prog X.w) X.A X.env X.xe) (hc : X.calm = true) (hi : PI X tg iter (RdI X.K A W fi)) (hg : PG X tg (gT X.K A tgI)) (hb : PSs X body (RdS X.K A W fb)) (hs : ∀ x, foldedSetIterable iter X.env x = pure x) :
    PS X (.For tg iter body [] pos) (RdS X.K A W fun ρ S => (fi ρ S).thn ρ fun p S1 => forLoop p.2 (fun x ρ1 S => match setTg S tgI x ρ1 with
    | some ρ2 => fb ρ2 S
    | none => .no) p.1 ρ S1) := by
  refine (ps_for hp hc hi hg hb hs).imp fun D σ H ⟨g, ρ, S, c, f, h⟩ => ⟨g, ρ, S, c, f, AftO.bindR f h fun p S1 g1 H1 J _ x1 c1 l1 wk h1 => ?_⟩
  refine ⟨fun i m σ' H' => m = p.1.length - i ∧ i ≤ p.1.length ∧ ∃ (g' : Gh) (ρ' : Fr) (S' : Store), Ex g1 H1 g' H' ∧ Cn X.K A g' H' S' ∧ S1.length ≤ S'.length ∧ FrR X.K A H' g' σ' ρ' ∧ AftO X.K A W (forLoop p.2 (fun x ρ1 S => match setTg S tgI x ρ1 with
    | some ρ2 => fb ρ2 S
    | none => .no) (p.1.drop i) ρ' S') g1 H1 S1 D, ⟨p.1.length, by simp, Nat.zero_le _, g1, ρ, S1, .refl, c1, Nat.le_refl _, f.ex x1, h1⟩, ?_⟩
  rintro i m σ' H' ⟨rfl, hile, g', ρ', S', x2, c2, l2, f2, h2⟩
  by_cases hlt : i < p.1.length
  · have ed : p.1.drop i = p.1[i] :: p.1.drop (i + 1) := List.drop_eq_getElem_cons hlt
    rw [ed] at h2
    obtain ⟨st, h3⟩ := for_cons h2
    refine .inr ⟨wk.go i g' H' S' x2 c2 st hlt, _, fun σ'' H'' q => ⟨p.1.length - (i + 1), by omega, q⟩, fun x H'' y => ?_⟩
    obtain ⟨g3, t, x3, c3, e3, r3⟩ := wk.yld i g' H' S' x H'' x2 c2 st hlt y
    have et' : t = p.1[i] := by
      rw [List.getElem?_eq_getElem hlt] at e3
      exact (Option.some.inj e3).symm
    subst et'
    cases eT : setTg S' tgI p.1[i] ρ' with
    | none => simp only [eT] at h3; exact h3.elim
    | some ρ2 =>
      simp only [eT] at h3
      refine ⟨g3, S', _, ρ', ρ2, c3, f2.ex x3, r3, eT, fun σ1 f1 _ => ⟨g3, ρ2, S', c3, f1, ?_⟩⟩
      cases eb : fb ρ2 S' with
      | nx ρ4 S4 =>
        rw [eb] at h3
        exact fun g4 H4 σ4 x4 c4 l4 f4 => ⟨rfl, hlt, g4, ρ4, S4, (x2.trans x3).trans x4, c4, Nat.le_trans l2 l4, f4, h3⟩
      | rt t S4 => rw [eb] at h3; exact fun g4 H4 v x4 c4 l4 r4 => h3 g4 H4 v ((x2.trans x3).trans x4) c4 (Nat.le_trans l2 l4) r4
      | xc t ρ4 S4 => rw [eb] at h3; exact fun g4 H4 σ4 cls d x4 c4 l4 f4 r4 => h3 g4 H4 σ4 cls d ((x2.trans x3).trans x4) c4 (Nat.le_trans l2 l4) f4 r4
      | no => rw [eb] at h3; exact h3.elim
  · have ei : i = p.1.length := by omega
    subst ei
    rw [List.drop_length] at h2
    obtain ⟨st, h3⟩ := for_nil h2
    exact .inl ⟨wk.stop g' H' S' x2 c2 st, h3 g' H' σ' x2 c2 l2 f2⟩
end
end NH
end
section
namespace NH
open PySem L2 PyProof.Rows

section
variable {K : PySem.W.Frag} {A : Ad} {g g1 : Gh} {H H1 : Hp} {S S1 : Store} {d : Addr} {kv : List (Key × V)} {od : Obj}
mutual
/-- what is known does not mind a lock on a dict -/
theorem Rep.lk {H H' : Hp} (hd : (H d = some (.dK kv) ∧ H' d = some (.frz od (.dK kv))) ∨ (H d = some (.frz od (.dK kv)) ∧ H' d = some (.dK kv))) (hn : ∀ a, a ≠ d → H' a = H a) : ∀ {t : T} {v : V}, Rep K A H g v t → Rep K A H' g v t
  | .non, _, h => by cases h; exact .non
  | .bl _, _, h => by cases h; exact .bl _
  | .int _, _, h => by cases h; exact .int _
  | .str _, _, h => by cases h with | str _ q => exact .str _ q
  | .ty _, _, h => by cases h; exact .ty _
  | .cls _, _, h => by cases h; exact .cls _
  | .fn _, _, h => by cases h; exact .fn _
  | .ref _, _, h => by cases h with | ref q => exact .ref q
  | .scr ns, _, h => by
    cases h with
    | scr q =>
      rename_i a
      refine .scr (q.imp (fun z => ⟨z.1, ?_⟩) id)
      have hz := z.2
      by_cases e : a = d
      · subst e
        rcases hd with hd | hd <;> rcases hz with hz | ⟨o, hz⟩ <;> rw [hd.1] at hz <;> cases hz
      · unfold Rd; rw [hn a e]; exact hz
  | .lst ts, _, h => by
    cases h with
    | lst f q r => exact .lst f (by rw [hn _ fun e => by subst e; rcases hd with hd | hd <;> rw [hd.1] at q <;> cases q]; exact q) (Reps.lk hd hn r)
  | .tup ts, _, h => by
    cases h with
    | tup q r => exact .tup (q.imp (fun z => ⟨z.1, by rw [hn _ fun e => by have q := z.2; subst e; rcases hd with hd | hd <;> rw [hd.1] at q <;> cases q]; exact z.2⟩) id) (Reps.lk hd hn r)
  | .dct ts, _, h => by
    cases h with
    | dct f q r =>
      rename_i a kvs
      refine .dct f ?_ (RepD.lk hd hn r)
      by_cases e : a = d
      · subst e
        rcases hd with hd | hd <;> rcases q with q | ⟨o, q⟩ <;> rw [hd.1] at q <;> cases q
        · exact .inr ⟨_, hd.2⟩
        · exact .inl hd.2
      · unfold Rd; rw [hn a e]; exact q
  | .ins _ ts, _, h => by
    cases h with
    | ins f q r => exact .ins f (by rw [hn _ fun e => by subst e; rcases hd with hd | hd <;> rw [hd.1] at q <;> cases q]; exact q) (RepF.lk hd hn r)
  | .exc _ _, _, h => by cases h
theorem Reps.lk {H H' : Hp} (hd : (H d = some (.dK kv) ∧ H' d = some (.frz od (.dK kv))) ∨ (H d = some (.frz od (.dK kv)) ∧ H' d = some (.dK kv))) (hn : ∀ a, a ≠ d → H' a = H a) : ∀ {ts : List T} {vs : List V}, Reps K A H g vs ts → Reps K A H' g vs ts
  | [], _, h => by cases h; exact .nil
  | _ :: _, _, h => by cases h with | cons a b => exact .cons (Rep.lk hd hn a) (Reps.lk hd hn b)
theorem RepD.lk {H H' : Hp} (hd : (H d = some (.dK kv) ∧ H' d = some (.frz od (.dK kv))) ∨ (H d = some (.frz od (.dK kv)) ∧ H' d = some (.dK kv))) (hn : ∀ a, a ≠ d → H' a = H a) : ∀ {ts : List (Str × T)} {vs : List (Key × V)}, RepD K A H g vs ts → RepD K A H' g vs ts
  | [], _, h => by cases h; exact .nil
  | (_, _) :: _, _, h => by cases h with | cons k a b => exact .cons k (Rep.lk hd hn a) (RepD.lk hd hn b)
theorem RepF.lk {H H' : Hp} (hd : (H d = some (.dK kv) ∧ H' d = some (.frz od (.dK kv))) ∨ (H d = some (.frz od (.dK kv)) ∧ H' d = some (.dK kv))) (hn : ∀ a, a ≠ d → H' a = H a) : ∀ {ts : List (Nat × T)} {vs : List (Str × V)}, RepF K A H g vs ts → RepF K A H' g vs ts
  | [], _, h => by cases h; exact .nil
  | (_, _) :: _, _, h => by cases h with | cons k a b => exact .cons k (Rep.lk hd hn a) (RepF.lk hd hn b)
end
theorem Cn.lk {H' : Hp} (c : Cn K A g H S) (hF : g.F d) (hd : (H d = some (.dK kv) ∧ H' d = some (.frz od (.dK kv))) ∨ (H d = some (.frz od (.dK kv)) ∧ H' d = some (.dK kv))) (hn : ∀ a, a ≠ d → H' a = H a) : Cn K A g H' S := by
  have nn : ∀ a, H a ≠ none → H' a ≠ none := fun a h => by
    by_cases e : a = d
    · subst e; rcases hd with hd | hd <;> rw [hd.2] <;> simp
    · rw [hn a e]; exact h
  refine ⟨fun a h => nn a (c.live a h), fun k a h => nn a (c.mlive k a h), fun k y h => ?_, c.inj, c.len, tabs_far c.tab fun b o h q1 q2 q3 q4 => ?_, fun a h ps z => ?_⟩
  rotate_left
  · by_cases e : b = d
    · subst e
      rcases hd with hd | hd
      · exact absurd (Option.some.inj (h.symm.trans hd.1)) (q2 _)
      · exact absurd (Option.some.inj (h.symm.trans hd.1)) (q3 _ _)
    · rw [hn b e]; exact h
  · by_cases e : a = d
    · subst e; rcases hd with hd | hd <;> rw [hd.2] at z <;> cases z
    · rw [hn a e] at z; exact c.ft a h ps z
  obtain ⟨b, q1, q2, q3⟩ := c.nd k y h
  have hb : H' b = H b := hn b fun e => q2 (by rw [e]; exact hF)
  refine ⟨b, q1, q2, ?_⟩
  cases q3 with
  | lst q r => exact .lst (hb.trans q) (r.lk hd hn)
  | dct q r => exact .dct (hb.trans q) (r.lk hd hn)
  | ins q r => exact .ins (hb.trans q) (r.lk hd hn)
/-- the lock is gone again -/
theorem unlock_ex (hd : H d = some (.dK kv)) (hF : g.F d) (x : Ex g (upd H d (.frz od (.dK kv))) g1 H1) (c : Cn K A g1 H1 S1) : H1 d = some (.frz od (.dK kv)) ∧ Ex g H g1 (upd H1 d (.dK kv)) ∧ Cn K A g1 (upd H1 d (.dK kv)) S1 := by
  have h1 : H1 d = some (.frz od (.dK kv)) := (x.fk d hF).2.trans upd_same
  have hu : ∀ a, a ≠ d → upd H d (.frz od (.dK kv)) a = H a := fun a e => upd_ne e
  refine ⟨h1, ⟨fun a h => ⟨(x.fk a h).1, ?_⟩, x.km, fun a o h n nt => ?_, fun k a h => ?_, fun a h => ?_, fun a h => ?_, fun a cc q h => ?_⟩, c.lk (x.fk d hF).1 (.inr ⟨h1, upd_same⟩) fun a e => upd_ne e⟩
  · by_cases e : a = d
    · subst e; rw [upd_same, hd]
    · rw [upd_ne e]; exact (x.fk a h).2.trans (hu a e)
  · by_cases e : a = d
    · subst e; rw [upd_same, ← hd]; exact h
    · rw [upd_ne e]; exact x.ok a o ((hu a e).trans h) n nt
  · rcases x.nw k a h with z | z
    · exact .inl z
    · by_cases e : a = d
      · subst e; rw [upd_same] at z; cases z
      · exact .inr ((hu a e).symm.trans z)
  · by_cases e : a = d
    · subst e; rw [upd_same]; simp
    · rw [upd_ne e]; exact x.lv a (by rw [hu a e]; exact h)
  · rcases x.nf a h with z | z | z
    · exact .inl z
    · by_cases e : a = d
      · subst e; rw [upd_same] at z; cases z
      · exact .inr (.inl ((hu a e).symm.trans z))
    · exact .inr (.inr z)
  · by_cases e : a = d
    · subst e; rw [hd] at h; unfold LamX.CodeO at h; cases h
    · rw [upd_ne e]; exact x.cd a cc q ((hu a e).trans h)
end
section
variable {X : Cx} {A : Ad} {G : Gam} {W : WX} {n : Nat}
/-- the dict's expression: a name, or a name's field -/
def tdOf (K : PySem.W.Frag) (A : Ad) (i : Nat) : Option Nat → TE
  | none => tVar i
  | some f => tFld K (tVar i) (A.nm f)
theorem keys_at {g : Gh} {H : Hp} {S : Store} {ρ : Fr} {σ : L2.St} {i : Nat} {fo : Option Nat} {kvs : List (Str × T)} (L : Lay X.K A G) (c : Cn X.K A g H S) (f : FrR X.K A H g σ ρ) (e : keysDct G ρ S i fo = some kvs) :
    ∃ (d : Addr) (kv : List (Key × V)), g.F d ∧ Rd H d (.dK kv) ∧ RepD X.K A H g kv kvs ∧ ∀ (H' : Hp) (Q : VK), (∀ a, a ≠ d → H' a = H a) → Q (.ref d) H' → tdOf X.K A i fo σ H' Q := by
  unfold keysDct at e
  cases er : ρ[i]? with
  | none => rw [er] at e; cases e
  | some o =>
    cases o with
    | none => rw [er] at e; cases e
    | some v =>
      rw [er] at e
      obtain ⟨vv, hv, rv⟩ := f.2 i v er
      cases fo with
      | none =>
        cases v with
        | dct ks =>
          cases e
          cases rv with
          | dct hF q r => exact ⟨_, _, hF, q, r, fun H' Q _ hq => ⟨_, hv, hq⟩⟩
        | _ => cases e
      | some fn =>
        simp only at e
        cases ev : view S v with
        | ins cc fs =>
          rw [ev] at e
          simp only at e
          cases ec : G.cls cc with
          | none => rw [ec] at e; cases e
          | some cl =>
            rw [ec] at e
            by_cases hz : cl.flds.contains fn = true ∧ cl.kind ≠ 2
            · simp only [if_pos hz] at e
              cases el : fs.lookup fn with
              | none => rw [el] at e; cases e
              | some t =>
                rw [el] at e
                cases t with
                | dct ks =>
                  cases e
                  obtain ⟨a, dx, vs, rfl, ha, q⟩ := c.insV rv ev
                  obtain ⟨hf, na⟩ := L.fld cc cl fn ec hz.2 (by simpa using hz.1)
                  obtain ⟨w, e1, e2⟩ := (q.look hf).1 _ el
                  cases e2 with
                  | dct hF q2 r =>
                    rename_i d kv
                    refine ⟨d, kv, hF, q2, r, fun H' Q hn hq => ⟨_, hv, a, _, dx, vs, _, rfl, ?_, L.cls cc cl ec hz.2, na, e1, hq⟩⟩
                    rw [hn a fun z => by rcases q2 with q2 | ⟨o, q2⟩ <;> (rw [← z, ha] at q2; cases q2)]
                    exact ha
                | _ => cases e
            · simp only [if_neg hz] at e
              cases e
        | _ => rw [ev] at e; cases e
theorem RepD.get' {K : PySem.W.Frag} {g : Gh} {H : Hp} : ∀ {kv : List (Key × V)} {kvs : List (Str × T)} {i : Nat} {p : Key × V}, RepD K A H g kv kvs → kv[i]? = some p → ∃ k t, p.1 = Sum.inr k ∧ kvs[i]? = some (k, t) ∧ PyData.strOk k = true
  | _, _, _, _, .nil, e => by simp at e
  | _, _, 0, _, .cons hk a r, e => by simp at e; subst e; exact ⟨_, _, rfl, rfl, hk⟩
  | _, _, i + 1, p, .cons _ _ r, e => by
    obtain ⟨k, t, h1, h2, h3⟩ := RepD.get' (i := i) r (by simpa using e)
    exact ⟨k, t, h1, by simpa using h2, h3⟩
theorem wk_keys {K : PySem.W.Frag} {g0 : Gh} {H0 : Hp} {d : Addr} {o : Obj} {kv : List (Key × V)} {kvs : List (Str × T)} (hF : g0.F d) (hd : H0 d = some (.frz o (.dK kv))) (r : RepD K A H0 g0 kv kvs) : WkI K A H0 g0 (Itk d o kv) (kvs.map fun kv => T.str kv.1, []) := by
  refine .of (n := kvs.length) (by simp) fun g H S x c s => ?_
  have w := walk_keys (d := d) (o := o) (kvs := kv)
  rw [r.length] at w
  refine ⟨_, _, w, (x.fk d hF).2.trans hd, fun i y H' hi ⟨h1, k, v, h2, h3⟩ => ?_⟩
  subst h1 h3
  obtain ⟨k', t, e1, e2, e3⟩ := r.get' h2
  simp only at e1
  subst e1
  exact ⟨g, .str k', .refl, c, by simp [e2], .str _ e3⟩
open Classical in
theorem lc_noX {ks : List (Nat × List T)} {turn : T → Store → R (List T)} : ∀ (xs acc : List T) (S : Store) (x : T) (S' : Store), lcLoop ks turn xs acc S ≠ .exc x S'
  | [], acc, S, x, S' => by
    unfold lcLoop
    split <;> exact fun z => by cases z
  | y :: ys, acc, S, x, S' => by
    unfold lcLoop
    split
    · split
      · exact lc_noX ys _ _ x S'
      · exact fun z => by cases z
    · exact fun z => by cases z
/-- a comprehension over a dict's keys: locked, or locked already -/
theorem keys_rd {own : List Nat} {i : Nat} {fo : Option Nat} {tgI : Tg} {ft : Fr → Store → R Bool} {fe : Fr → Store → R T} {σ : L2.St} {H : Hp} {Q : VK} (L : Lay X.K A G) (hin : ∀ i ∈ tgI.is, i ∈ own)
    (h : RdN X.K A W (fun ρ S => (R.of (keysSrc G ρ S i fo) S).bind fun p S1 => (lcLoop p.2 (lcTurn tgI own ρ ft fe) p.1 [] S1).bind fun ys S2 => .ok (.lst ys) S2) σ H Q) :
    tLockE (tLc (iKeys (tdOf X.K A i fo)) (gT X.K A tgI) (RdT X.K A WF ft) (RdE X.K A WF fe) own) σ H Q ∨ tLc (iKeys (tdOf X.K A i fo)) (gT X.K A tgI) (RdT X.K A WF ft) (RdE X.K A WF fe) own σ H Q := by
  obtain ⟨g, ρ, S, c, f, h⟩ := h
  unfold keysSrc at h
  cases ek : keysDct G ρ S i fo with
  | none => simp only [ek] at h; exact h.elim
  | some kvs =>
    simp only [ek] at h
    replace h : Aft X.K A (NewN X.K A H) W σ ((lcLoop [] (lcTurn tgI own ρ ft fe) (kvs.map fun kv => T.str kv.1) [] S).bind fun ys S2 => .ok (.lst ys) S2) g H S Q := h
    obtain ⟨d, kv, hF, hd, r, td⟩ := keys_at L c f ek
    rcases hd with hd | ⟨o, hd⟩
    · refine .inl ⟨d, .dK kv, hd, True.intro, fun od => ?_⟩
      have hl : (H d = some (.dK kv) ∧ upd H d (.frz od (.dK kv)) d = some (.frz od (.dK kv))) ∨ (H d = some (.frz od (.dK kv)) ∧ upd H d (.frz od (.dK kv)) d = some (.dK kv)) := .inl ⟨hd, upd_same⟩
      have hn : ∀ a, a ≠ d → upd H d (.frz od (.dK kv)) a = H a := fun a e => upd_ne e
      have c2 := c.lk (H' := upd H d (.frz od (.dK kv))) hF hl hn
      have f2 : FrR X.K A (upd H d (.frz od (.dK kv))) g σ ρ := ⟨f.1, fun j t e => by
        obtain ⟨v, e1, e2⟩ := f.2 j t e
        exact ⟨v, e1, e2.lk hl hn⟩⟩
      refine td _ _ hn ⟨d, od, rfl, .inl ⟨kv, upd_same, fun D hD => ?_⟩⟩
      refine lc_go (W := W) (S1 := S) (p := (kvs.map fun kv => T.str kv.1, [])) (Q := fun v H' => H' d = some (.frz od (.dK kv)) ∧ Q v (upd H' d (.dK kv))) hin c2 f2 (wk_keys hF upd_same (r.lk hl hn)) hD hD ?_
      cases el : (lcLoop [] (lcTurn tgI own ρ ft fe) (kvs.map fun kv => T.str kv.1) [] S).bind fun ys S2 => R.ok (Nd.lst ys) S2 with
      | no => rw [el] at h; exact h.elim
      | exc x S2 =>
        rw [el] at h
        exact absurd el (by
          cases e : lcLoop [] (lcTurn tgI own ρ ft fe) (kvs.map fun kv => T.str kv.1) [] S with
          | exc y S3 => exact absurd e (lc_noX _ _ _ _ _)
          | ok ys S3 => exact fun z => by cases z
          | no => exact fun z => by cases z)
      | ok nd S2 =>
        rw [el] at h
        intro g1 H1 v x1 c1 l1 ⟨p, ev, h0, nF, nM, hn1⟩
        obtain ⟨h1, x3, c3⟩ := unlock_ex hd hF x1 c1
        have hp0 : H p = none := by
          by_cases e : p = d
          · subst e; rw [upd_same] at h0; cases h0
          · rw [upd_ne e] at h0; exact h0
        have hne : p ≠ d := fun e => by rw [e, hd] at hp0; cases hp0
        refine ⟨h1, h g1 _ v x3 c3 l1 ⟨p, ev, hp0, nF, nM, ?_⟩⟩
        have hl2 : (H1 d = some (.dK kv) ∧ upd H1 d (.dK kv) d = some (.frz od (.dK kv))) ∨ (H1 d = some (.frz od (.dK kv)) ∧ upd H1 d (.dK kv) d = some (.dK kv)) := .inr ⟨h1, upd_same⟩
        have hn2 : ∀ a, a ≠ d → upd H1 d (.dK kv) a = H1 a := fun a e => upd_ne e
        cases hn1 with
        | lst q r => exact .lst ((hn2 p hne).trans q) (r.lk hl2 hn2)
        | dct q r => exact .dct ((hn2 p hne).trans q) (r.lk hl2 hn2)
        | ins q r => exact .ins ((hn2 p hne).trans q) (r.lk hl2 hn2)
    · exact .inr (td H _ (fun _ _ => rfl) ⟨d, o, rfl, .inl ⟨kv, hd, fun D hD => lc_go (p := (kvs.map fun kv => T.str kv.1, [])) hin c f (wk_keys hF hd r) hD hD h⟩⟩)
end
end NH
end
section
namespace NH
open PySem L2 PyProof.Rows

section
variable {X : Cx} {A : Ad} {G : Gam} {W : WX} {n : Nat}
/-- a new list or dict: frozen, or in the store -/
def alR (m : Bool) (r : R Nd) : R T := r.bind fun nd S1 => match m with
  | false => .ok nd.tree S1
  | true => .ok (.ref S1.length) (S1 ++ [some nd])
theorem al_rd {K : PySem.W.Frag} {m : Bool} {fn : Fr → Store → R Nd} {σ : L2.St} {H : Hp} {Q : VK} (h : RdE K A W (fun ρ S => alR m (fn ρ S)) σ H Q) : RdN K A W fn σ H Q := by
  cases m with
  | false => exact al_rd_f h
  | true => exact al_rd_t h
theorem snd_al {m : Bool} {e : Expr} {fn : Fr → Store → R Nd} (h : PE X e (RdN X.K A W fn)) : PE X e (RdE X.K A W fun ρ S => alR m (fn ρ S)) := h.imp fun _ _ _ h => al_rd h
theorem _root_.L2.PE.or {e : Expr} {t t' : TE} (h : PE X e t) (h' : PE X e t') : PE X e (fun σ H Q => t σ H Q ∨ t' σ H Q) := ⟨fun pins s σ H Q I q => q.elim (h.run pins s σ H Q I) (h'.run pins s σ H Q I)⟩
theorem _root_.L2.PS.or {st : Stmt} {t t' : TS} (h : PS X st t) (h' : PS X st t') : PS X st (fun D σ H => t D σ H ∨ t' D σ H) := ⟨fun pins s σ H D I q => q.elim (h.run pins s σ H D I) (h'.run pins s σ H D I)⟩
/-- what a comprehension wants of its parts -/
structure LcOk (X : Cx) (A : Ad) (elt tg : Expr) (ifs : List Expr) (scope : Scope) (own : List (Str × Nat)) (tgI : Tg) (ft : Fr → Store → R Bool) (fe : Fr → Store → R T) : Prop where
  calm : X.calm = true
  nd : X.N.Nodup
  blk : BlkOk X.N X.env.scope scope own
  hin : ∀ i ∈ tgI.is, i ∈ own.map (·.2)
  tg : ∀ (s : Shared) (H : Hp) (C : Addr) (cl : List (Str × Addr)) (fp : List Addr), PG (X.blk s H scope (compEnvC scope cl C X.env) fp) tg (gT X.K A tgI)
  ts : ∀ (s : Shared) (H : Hp) (C : Addr) (cl : List (Str × Addr)) (fp : List Addr), PTs (X.blk s H scope (compEnvC scope cl C X.env) fp) ifs (RdT X.K A WF ft)
  el : ∀ (s : Shared) (H : Hp) (C : Addr) (cl : List (Str × Addr)) (fp : List Addr), PE (X.blk s H scope (compEnvC scope cl C X.env) fp) elt (RdE X.K A WF fe)
variable {elt tg iter : Expr} {ifs : List Expr} {scope : Scope} {own : List (Str × Nat)} {tgI : Tg} {ft : Fr → Store → R Bool} {fe : Fr → Store → R T} {fi : Fr → Store → R Src} {pos spos py : Pos} {i : Nat} {fo : Option Nat} {y : Str} {k : Nat} {m : Bool}
theorem LcOk.pe (c : LcOk X A elt tg ifs scope own tgI ft fe) (hi : PI X tg iter (RdI X.K A W fi)) (hs : ∀ x, foldedSetIterable iter X.env x = pure x) :
    PE X (.ListComp elt [⟨tg, iter, ifs, 0⟩] scope pos) (RdN X.K A W fun ρ S => (fi ρ S).bind fun p S1 => (lcLoop p.2 (lcTurn tgI (own.map (·.2)) ρ ft fe) p.1 [] S1).bind fun ys S2 => .ok (.lst ys) S2) :=
  snd_lc c.calm c.nd hi c.blk c.hin c.tg c.ts c.el hs
theorem LcOk.peK (c : LcOk X A elt tg ifs scope own tgI ft fe) (L : Lay X.K A G) (hi : PE X iter (tdOf X.K A i fo)) (hs : ∀ x, foldedSetIterable iter X.env x = pure x) :
    PE X (.ListComp elt [⟨tg, iter, ifs, 0⟩] scope pos) (RdN X.K A W fun ρ S => (R.of (keysSrc G ρ S i fo) S).bind fun p S1 => (lcLoop p.2 (lcTurn tgI (own.map (·.2)) ρ ft fe) p.1 [] S1).bind fun ys S2 => .ok (.lst ys) S2) := by
  have h := pe_lc (pos := pos) c.calm c.nd (pi_keys (tg := tg) hi) c.blk c.tg c.ts c.el hs
  exact ((pe_lock h).or h).imp fun σ H Q h => keys_rd L c.hin h
theorem set_rd {fe : Fr → Store → R T} {D : Ends} {σ : L2.St} {H : Hp} (h : RdS X.K A W (fun ρ S => (fe ρ S).thn ρ fun v S1 => .nx (ρ.set k (some v)) S1) D σ H) : RdE X.K A W fe σ H fun x H1 => D.nx (σ.set k (some x)) H1 := by
  obtain ⟨g, ρ, S, c, f, h⟩ := h
  exact ⟨g, ρ, S, c, f, AftO.bindR f h fun t S1 g1 H1 v _ x1 c1 l1 r1 h1 => h1.nx c1 ((f.ex x1).set r1)⟩
theorem LcOk.ps (c : LcOk X A elt tg ifs scope own tgI ft fe) (hi : PI X tg iter (RdI X.K A W fi)) (hs : ∀ x, foldedSetIterable iter X.env x = pure x) (hy : X.N[k]? = some y) (hyl : X.env.scope.names.lookup y = some .local) (hsw : swapsWith (.ListComp elt [⟨tg, iter, ifs, 0⟩] scope pos) (some (.Name y py)) spos.line X.env = pure true) :
    PS X (.Assign [.Name y py] (.ListComp elt [⟨tg, iter, ifs, 0⟩] scope pos) spos) (RdS X.K A W fun ρ S => (alR m ((fi ρ S).bind fun p S1 => (lcLoop p.2 (lcTurn tgI (own.map (·.2)) ρ ft fe) p.1 [] S1).bind fun ys S2 => .ok (.lst ys) S2)).thn ρ fun v S1 => .nx (ρ.set k (some v)) S1) :=
  (ps_setLc c.calm c.nd hy hyl hsw hi c.blk c.tg c.ts c.el hs).imp fun D σ H h => lc_rd (tg := tg) (iter := iter) c.hin (al_rd (m := m) (set_rd h))
theorem LcOk.psK (c : LcOk X A elt tg ifs scope own tgI ft fe) (L : Lay X.K A G) (hi : PE X iter (tdOf X.K A i fo)) (hs : ∀ x, foldedSetIterable iter X.env x = pure x) (hy : X.N[k]? = some y) (hyl : X.env.scope.names.lookup y = some .local) (hsw : swapsWith (.ListComp elt [⟨tg, iter, ifs, 0⟩] scope pos) (some (.Name y py)) spos.line X.env = pure true) :
    PS X (.Assign [.Name y py] (.ListComp elt [⟨tg, iter, ifs, 0⟩] scope pos) spos) (RdS X.K A W fun ρ S => (alR m ((R.of (keysSrc G ρ S i fo) S).bind fun p S1 => (lcLoop p.2 (lcTurn tgI (own.map (·.2)) ρ ft fe) p.1 [] S1).bind fun ys S2 => .ok (.lst ys) S2)).thn ρ fun v S1 => .nx (ρ.set k (some v)) S1) := by
  have h := ps_setLc c.calm c.nd hy hyl hsw (pi_keys (tg := tg) hi) c.blk c.tg c.ts c.el hs
  exact ((ps_lock h).or h).imp fun D σ H h => keys_rd L c.hin (al_rd (m := m) (set_rd h))
/-! ### list(..) -/
def listN (r : R T) : R Nd := r.bind fun v S1 => match view S1 v with
  | .lst xs => .ok (.lst xs) S1
  | .tup xs => .ok (.lst xs) S1
  | .dct kvs => .ok (.lst (kvs.map fun kv => .str kv.1)) S1
  | _ => .no
theorem keys_reps {K : PySem.W.Frag} {g : Gh} {H : Hp} : ∀ {kv : List (Key × V)} {kvs : List (Str × T)}, RepD K A H g kv kvs → Reps K A H g (kv.map fun p => kV p.1) (kvs.map fun p => T.str p.1)
  | _, _, .nil => .nil
  | _, _, .cons hk a r => .cons (.str _ hk) (keys_reps r)
theorem snd_list {e : Expr} {fe : Fr → Store → R T} {p pos : Pos} (hc : X.calm = true) (he : PE X e (RdE X.K A W fe)) (hg : Gl X "list") (hm : X.mg "list" = none) (hs : isStar e = false) : PE X (.Call (.Name "list" p) [e] [] pos) (RdN X.K A W fun ρ S => listN (fe ρ S)) := by
  have ha : PA X [e] (RdA X.K A W fun ρ S => (fe ρ S).bind fun v S1 => (R.ok [] S1).bind fun vs S2 => .ok (v :: vs) S2) := snd_cons he snd_nil (starEach_plain hs)
  have h1 := pe_callTy (T := "list") (p := p) (pos := pos) call_list_of hg hm (by decide +kernel) ha (by decide) (by decide) (starEach_plain hs) rfl
  have h2 := pe_callTy (T := "list") (p := p) (pos := pos) (call_listD hc) hg hm (by decide +kernel) ha (by decide) (by decide) (starEach_plain hs) rfl
  refine (h1.or h2).imp fun σ H Q ⟨g, ρ, S, c, f, h⟩ => ?_
  replace h : Aft X.K A (NewN X.K A H) W σ (listN (fe ρ S)) g H S Q := h
  cases ef : fe ρ S with
  | exc x S1 => rw [ef] at h; exact .inl ⟨g, ρ, S, c, f, by simp only [ef]; exact h⟩
  | no => rw [ef] at h; exact h.elim
  | ok t S1 =>
    rw [ef] at h
    replace h : Aft X.K A (NewN X.K A H) W σ (match view S1 t with
      | .lst xs => .ok (.lst xs) S1
      | .tup xs => .ok (.lst xs) S1
      | .dct kvs => .ok (.lst (kvs.map fun kv => .str kv.1)) S1
      | _ => .no) g H S Q := h
    have fin : ∀ {g1 : Gh} {H1 : Hp} {ws : List V} {ts : List T}, Aft X.K A (NewN X.K A H) W σ (.ok (.lst ts) S1) g H S Q → Ex g H g1 H1 → Cn X.K A g1 H1 S1 → S.length ≤ S1.length → Reps X.K A H1 g1 ws ts → ∀ l, H1 l = none → Q (.ref l) (upd H1 l (.lst ws)) := fun {g1 H1 ws ts} h x1 c1 l1 rs l hl => by
      obtain ⟨x0, _⟩ := c1.new (o := .lst ws) hl
      obtain ⟨x2, c2, n2⟩ := newN (H0 := H) (nd := .lst ts) c1 hl (x1.none hl) (.lst upd_same (rs.ex x0))
      exact h g1 _ _ (x1.trans x2) c2 l1 n2
    cases ev : view S1 t with
    | lst xs =>
      rw [ev] at h
      refine .inl ⟨g, ρ, S, c, f, ?_⟩
      simp only [ef]
      intro g1 H1 vs x1 c1 l1 rs
      obtain ⟨v, rfl, r⟩ := Reps.one rs
      obtain ⟨a, ws, rfl, ha, q⟩ := c1.lstV r ev
      exact ⟨a, ws, rfl, .inl (.of ha), fun l hl => fin h x1 c1 l1 q l hl⟩
    | tup xs =>
      rw [ev] at h
      refine .inl ⟨g, ρ, S, c, f, ?_⟩
      simp only [ef]
      intro g1 H1 vs x1 c1 l1 rs
      obtain ⟨v, rfl, r⟩ := Reps.one rs
      obtain ⟨a, ws, rfl, ha, q⟩ := c1.tupV r ev
      exact ⟨a, ws, rfl, .inr ha, fun l hl => fin h x1 c1 l1 q l hl⟩
    | dct kvs =>
      rw [ev] at h
      refine .inr ⟨g, ρ, S, c, f, ?_⟩
      simp only [ef]
      intro g1 H1 vs x1 c1 l1 rs
      obtain ⟨v, rfl, r⟩ := Reps.one rs
      obtain ⟨a, kv, rfl, ha, q⟩ := c1.dctV r ev
      exact ⟨a, kv, rfl, ha, fun l hl => fin h x1 c1 l1 (keys_reps q) l hl⟩
    | _ => rw [ev] at h; exact h.elim
/-! ### f-strings -/
theorem part_ok {K : PySem.W.Frag} {g : Gh} {H : Hp} {v : V} {t : T} {z : Str} (r : Rep K A H g v t) (h : partS t = some z) : ((∃ y : Str, v = .str y ∧ y.length ≤ sizeLine ∧ z = y) ∨ ∃ i : Int, v = .int i ∧ i.natAbs.log2 < 1920 ∧ z = (toString i : String)) ∧ PyData.strOk z = true := by
  cases t with
  | str x =>
    obtain ⟨rfl, o⟩ := r.str_inv
    have h' : (if x.length ≤ sizeLine then some x else none) = some z := h
    split at h'
    · cases h'; exact ⟨.inl ⟨_, rfl, by assumption, rfl⟩, o⟩
    · cases h'
  | int i =>
    obtain rfl := r.int_inv
    have h' : (if i.natAbs < 2 ^ 64 then some (((toString i : String)) : Str) else none) = some z := h
    split at h'
    · cases h'; exact ⟨.inr ⟨_, rfl, log_small (by assumption), rfl⟩, strOk_int i⟩
    · cases h'
  | _ => cases h
/-- the parts of an f-string, one behind the other: the parts' judgements, what they give -/
inductive PFs (X : Cx) (A : Ad) : List Expr → (Str → Fr → Store → R Str) → Prop where
  | nil : PFs X A [] (fun acc _ S => .ok acc S)
  | lit {x : Str} {k : Nat} {p : Pos} {es : List Expr} {fs : Str → Fr → Store → R Str} (hx : PyData.strOk x = true) (r : PFs X A es fs) : PFs X A (.Constant (.str x) k p :: es) (fun acc ρ S => (R.ok (T.str x) S).bind fun v S1 => match partS v with
      | some y => if (acc ++ y).length ≤ sizeLine then fs (acc ++ y) ρ S1 else .no
      | none => .no)
  | fmt {e : Expr} {p : Pos} {es : List Expr} {fe : Fr → Store → R T} {fs : Str → Fr → Store → R Str} (he : PE X e (RdE X.K A WF fe)) (r : PFs X A es fs) : PFs X A (.FormattedValue e (-1) none p :: es) (fun acc ρ S => (fe ρ S).bind fun v S1 => match partS v with
      | some y => if (acc ++ y).length ≤ sizeLine then fs (acc ++ y) ρ S1 else .no
      | none => .no)
theorem pfs_run {es : List Expr} {fs : Str → Fr → Store → R Str} (h : PFs X A es fs) : ∃ ts : List TE, PJ X es ts ∧ ∀ (acc : Str) (σ : L2.St) (H : Hp) (Q : Str → Hp → Prop), PyData.strOk acc = true → RdG X.K A (fun _ _ (x y : Str) => x = y ∧ PyData.strOk x = true) WF (fs acc) σ H Q → tJs ts acc σ H Q := by
  induction h with
  | nil =>
    refine ⟨[], .nil, fun acc σ H Q ho ⟨g, ρ, S, c, f, h⟩ => ?_⟩
    exact Aft.use (rep := fun _ _ (x y : Str) => x = y ∧ PyData.strOk x = true) h c ⟨rfl, ho⟩
  | @lit x k p es fs hx r ih =>
    obtain ⟨ts, pj, hr⟩ := ih
    refine ⟨_, .cons pe_str pj, fun acc σ H Q ho ⟨g, ρ, S, c, f, h⟩ => ?_⟩
    replace h : Aft X.K A (fun _ _ (x y : Str) => x = y ∧ PyData.strOk x = true) WF σ (match (if x.length ≤ sizeLine then some x else none) with
      | some y => if (acc ++ y).length ≤ sizeLine then fs (acc ++ y) ρ S else .no
      | none => .no) g H S Q := h
    by_cases hz : x.length ≤ sizeLine
    · rw [if_pos hz] at h
      by_cases hl : (acc ++ x).length ≤ sizeLine
      · simp only [if_pos hl] at h
        exact ⟨x, rfl, hl, hr (acc ++ x) σ H Q (strOk_append ho hx) ⟨g, ρ, S, c, f, h⟩⟩
      · simp only [if_neg hl] at h
        exact h.elim
    · rw [if_neg hz] at h
      exact h.elim
  | @fmt e p es fe fs he r ih =>
    obtain ⟨ts, pj, hr⟩ := ih
    refine ⟨_, .cons (pe_fmt he) pj, fun acc σ H Q ho ⟨g, ρ, S, c, f, h⟩ => ⟨g, ρ, S, c, f, h.bind fun t S1 g1 H1 v _ x1 c1 l1 r1 h1 => ?_⟩⟩
    cases ep : partS t with
    | none => simp only [ep] at h1; exact h1.elim
    | some z =>
      simp only [ep] at h1
      by_cases hl : (acc ++ z).length ≤ sizeLine
      · rw [if_pos hl] at h1
        obtain ⟨k, oz⟩ := part_ok r1 ep
        have go := hr (acc ++ z) σ H1 Q (strOk_append ho oz) ⟨g1, ρ, S1, c1, f.ex x1, h1⟩
        rcases k with ⟨y, rfl, hy, rfl⟩ | ⟨i, rfl, hy, rfl⟩
        · exact .inl ⟨_, rfl, hy, _, rfl, hl, go⟩
        · exact .inr ⟨i, rfl, hy, _, rfl, hl, go⟩
      · rw [if_neg hl] at h1
        exact h1.elim
theorem toWF {e : Expr} {fe : Fr → Store → R T} (h : PE X e (RdE X.K A W fe)) : PE X e (RdE X.K A WF fe) := h.imp fun σ H Q ⟨g, ρ, S, c, f, h⟩ => ⟨g, ρ, S, c, f, by
  replace h : Aft X.K A (repV X.K A) WF σ (fe ρ S) g H S Q := h
  show Aft X.K A (repV X.K A) W σ (fe ρ S) g H S Q
  cases e : fe ρ S with
  | ok t S1 => rw [e] at h; exact h
  | exc x S1 => rw [e] at h; exact fun g' H' cls d x' c' l' q => (h g' H' cls d x' c' l' q).elim
  | no => rw [e] at h; exact h⟩
theorem snd_fstr {v1 v2 : Expr} {rest : List Expr} {fs : Str → Fr → Store → R Str} {pos : Pos} (h : PFs X A (v1 :: v2 :: rest) fs) : PE X (.JoinedStr (v1 :: v2 :: rest) pos) (RdE X.K A W fun ρ S => (fs Str.empty ρ S).noX.bind fun x S1 => .ok (.str x) S1) := by
  obtain ⟨ts, pj, hr⟩ := pfs_run h
  refine (pe_joined pj).imp fun σ H Q ⟨g, ρ, S, c, f, h⟩ => hr Str.empty σ H _ (by simp [PyData.strOk, Str.empty]) ⟨g, ρ, S, c, f, ?_⟩
  replace h : Aft X.K A (repV X.K A) W σ ((fs Str.empty ρ S).noX.bind fun x S1 => .ok (.str x) S1) g H S Q := h
  cases e : fs Str.empty ρ S with
  | ok t S1 => rw [e] at h; exact fun g' H' v x' c' l' ⟨q, o⟩ => h g' H' _ x' c' l' (by rw [q] at o ⊢; exact .str _ o)
  | exc x S1 => rw [e] at h; exact h.elim
  | no => rw [e] at h; exact h.elim
end
end NH
end
section
namespace NH
open PySem L2 PyProof.Rows

section
variable {X : Cx} {A : Ad} {G : Gam} {W : WX} {n : Nat}
theorem Aft.seal {K : PySem.W.Frag} {σ : L2.St} {r : R T} {g : Gh} {H : Hp} {S : Store} {Q : VK} (c0 : Cn K A g H S) (h : Aft K A (repV K A) W σ (sealR S r) g H S Q) : Aft K A (repV K A) W σ r g H S Q := by
  cases r with
  | ok t S1 =>
    intro g1 H1 v x c l r
    cases e : sealR S (.ok t S1) with
    | ok t' S2 =>
      rw [e] at h
      obtain ⟨g', x', c', r', l'⟩ := seal_ok c0 x c r l e
      exact h g' H1 v x' c' (Nat.le_of_eq l'.symm) r'
    | exc y S2 =>
      unfold sealR at e
      simp only at e
      split at e
      · split at e <;> cases e
      · cases e
    | no => rw [e] at h; exact h.elim
  | exc t S1 =>
    intro g1 H1 cls d x c l r
    unfold sealR at h
    simp only at h
    by_cases ho : (t.old S.length && oldAll S.length (S1.take S.length)) = true
    · rw [if_pos ho] at h
      obtain ⟨o1, o2⟩ := Bool.and_eq_true_iff.mp ho
      obtain ⟨x2, c2⟩ := c0.cut x c o2 l
      refine h _ H1 cls d x2 c2 (by rw [List.length_take]; omega) ?_
      obtain ⟨cc, fs, da, fs', rfl, e1, e2, e3, e4⟩ := r
      refine ⟨cc, fs, da, fs', rfl, e1, e2, e3, RepF.cut (g := g1) (g' := g1.cut S.length) (n := S.length) (fun k a hk z => ?_) (fun _ z => z) (by simpa [T.old] using o1) e4⟩
      show (if k < S.length then g1.m k else none) = some a
      rw [if_pos hk]; exact z
    · rw [if_neg ho] at h
      exact h.elim
  | no => exact h
theorem Aft.rebase {K : PySem.W.Frag} {σ : L2.St} {r : R T} {g g1 : Gh} {H H1 : Hp} {S S1 : Store} {Q : VK} {γ δ : Type} {rep2 : Hp → Gh → δ → γ → Prop} {Q2 : δ → Hp → Prop} {k : T → Store → R γ} (h : Aft K A rep2 W σ (r.bind k) g H S Q2) (x : Ex g H g1 H1) (l : S.length ≤ S1.length)
    (hk : ∀ (t : T) (S' : Store) (g' : Gh) (H' : Hp) (v : V), Ex g1 H1 g' H' → Cn K A g' H' S' → S1.length ≤ S'.length → Rep K A H' g' v t → Aft K A rep2 W σ (k t S') g H S Q2 → Q v H') : Aft K A (repV K A) W σ r g1 H1 S1 Q := by
  cases r with
  | ok t S' => exact fun g' H' v x' c' l' r' => hk t S' g' H' v x' c' l' r' h
  | exc t S' => exact fun g' H' cls d x' c' l' q => h g' H' cls d (x.trans x') c' (Nat.le_trans l l') q
  | no => exact h
theorem run_makeR {c f : Nat} {cl : Cl} {ts : List T} {tws : List (Nat × T)} {S : Store} (L : Lay X.K A G) (hcl : G.cls c = some cl) (hk2 : cl.kind ≠ 2) (hin : cl.init = some f) (hF : ∀ fn, G.fns f = some fn → FnI X A G n f fn) (hr : Room (5 * n + 1) X.A) (tk : Takes X W) {pins : List (Addr × Obj)} {σ : L2.St} {H : Hp} {s : Shared} {Q : VK} {g : Gh} {us ws : List Value} {vs wvs : List V}
    (I : L2.Inv X pins σ H s) (rv : Vals vs us) (rt : Reps X.K A H g vs ts) (rw' : Vals wvs ws) (rtw : Reps X.K A H g wvs (tws.map (·.2))) {names : List Str} (hn : names = (tws.map (·.1)).map A.nm) (hkn : ∀ k ∈ tws.map (·.1), k < A.n) (cn : Cn X.K A g H S)
    (h : Aft X.K A (repV X.K A) W σ (makeR G (runN G n) c f ts tws S) g H S Q) : wpAny (model X.prog X.w) X.A (call (.ref (A.c c)) us (names.zip ws)) (EP X pins σ Q) X.xe s := by
  have M := L.mkr c cl f hcl hk2 hin
  have I2 := Inv.made (C := A.c c) I
  have hd : H s.heap.objs.size = none := I.hok.fresh (Nat.le_refl _)
  have ha : H (s.heap.objs.size + 1) = none := I.hok.fresh (Nat.le_succ _)
  obtain ⟨x1, c1⟩ := cn.new (o := .own (s.heap.objs.size + 1)) hd
  have ha1 : upd H s.heap.objs.size (.own (s.heap.objs.size + 1)) (s.heap.objs.size + 1) = none := by rw [upd_ne (Nat.ne_of_gt (Nat.lt_succ_self _))]; exact ha
  obtain ⟨x2, c2⟩ := c1.new (o := .ins (A.c c) s.heap.objs.size []) ha1
  have x12 := x1.trans x2
  obtain ⟨x3, c3⟩ := c2.own (p := s.heap.objs.size + 1) (x := .ins c []) (by rw [upd_same]; simp) (c1.nF ha1) (c1.nM ha1) x12 ha (.ins upd_same .nil)
  have hm : (g.addM S.length (s.heap.objs.size + 1)).m S.length = some (s.heap.objs.size + 1) := by
    show (if S.length = S.length then some (s.heap.objs.size + 1) else g.m S.length) = _
    rw [if_pos rfl]
  unfold makeR callF at h
  cases e : G.fns f with
  | none => rw [e] at h; exact h.elim
  | some fn =>
    rw [e] at h
    simp only at h
    cases eb : bind fn (.ref S.length :: ts) tws with
    | none => rw [eb] at h; exact h.elim
    | some zts =>
      rw [eb] at h
      subst hn
      obtain ⟨fd, ps, FO, B, hp⟩ := (hF fn e).ex
      obtain ⟨zvs, zus, r1, r2, hl, bt⟩ := B _ _ (g.addM S.length (s.heap.objs.size + 1)) (Value.ref (s.heap.objs.size + 1) :: us) (V.ref (s.heap.objs.size + 1) :: vs) (.ref S.length :: ts) (tws.map (·.1)) ws wvs (tws.map (·.2)) zts I2.kIn (.cons rfl rv) (.cons (.ref hm) (rt.ex x3)) rw' (rtw.ex x3) (by simp) hkn (by rw [zip_fst_snd]; exact eb)
      have hsp : spF X.K A G n f fn zvs _ (fun v H' => v = .non ∧ Q (.ref (s.heap.objs.size + 1)) H') (fun cls d H' => W cls d σ H') := ⟨_, _, zts, c3, r2, bind_length eb, Aft.toE (Aft.rebase h x3 (by rw [List.length_append]; omega) fun t S' g' H' v x' c' l' r' h' => by
        cases t with
        | non =>
          refine ⟨r'.non_inv, Aft.use (rep := repV X.K A) (W := W) (σ := σ) (Aft.later h' (x3.trans x') (by rw [List.length_append] at l'; omega)) c' (.ref (x'.km _ _ hm))⟩
        | _ => exact h'.elim)⟩
      refine wpAny_call (make_map (f := A.f f) I.kIn M.makes M.init (beq_iff_eq.mp M.fn) (codeAny_mono (FO.run _ X.stack _ _ _ zus zvs _ _ (hr.make (A.c c) us _) (I2.env0.make (A.c c) us _) bt r1 hsp) fun r s' hq' => ?_))
      cases r with
      | error e => exact tk e s' (XE.of_call I2 (fun cls d H' h => h) hq')
      | ok fl =>
        cases fl with
        | ret u =>
          obtain ⟨v, H', I3, rv3, ev, q3⟩ := I2.after hq'
          subst ev
          exact ⟨rv3, ⟨V.ref (s.heap.objs.size + 1), H', I3, rfl, q3⟩⟩
        | next => exact False.elim hq'
        | brk => exact False.elim hq'
        | cont => exact False.elim hq'
theorem snd_make {c : Nat} {x : Str} {p pos : Pos} {es : List Expr} {kws : List Keyword} {fs : Fr → Store → R (List T)} {fk : Fr → Store → R (List (Nat × T))} (L : Lay X.K A G) (hF : ∀ f fn, G.fns f = some fn → FnI X A G n f fn) (hr : Room (5 * n + 1) X.A) (tk : Takes X W) (hg : Gl X x) (hm : X.mg x = some (.ref (A.c c))) (hkp : PySem.W.keepIn X.K (.ref (A.c c)) = true)
    (hs : es.all (fun e => !isStar e) = true) (hkw : kws.all (fun k => k.arg.isSome) = true) (ha : PA X es (RdA X.K A W fs)) (hn : es = [] → ∀ ρ S, fs ρ S = .ok [] S) (hkk : PK X kws (RdK X.K A W fk))
    (hks : ∀ ρ S tws S', fk ρ S = .ok tws S' → kws.filterMap (·.arg) = (tws.map (·.1)).map A.nm ∧ ∀ k ∈ tws.map (·.1), k < A.n) (hdb : (x == ("__debug__" : Str)) = false) :
    PE X (.Call (.Name x p) es kws pos) (RdE X.K A W fun ρ S => (fs ρ S).bind fun vs S1 => (fk ρ S1).bind fun ws S2 => makeC G (runN G n) c vs ws S2) := by
  refine ⟨fun pins s σ H Q I ⟨g, ρ, S, cn, fr, h⟩ => ?_⟩
  refine wpAny_Call_Name_kw (ld_glob I hg hm ?_ hdb)
  refine cw_any (first := []) hkp hs hkw ha hn hkk I cn fr h fun s2 g2 H2 S2 us ws vs wvs ts tws I2 c2 x2 l2 rv r1 rw' r2 ⟨S1, e2⟩ h2 => ?_
  obtain ⟨n1, n2⟩ := hks ρ S1 tws S2 e2
  unfold makeC at h2
  cases ec : G.cls c with
  | none => rw [ec] at h2; exact h2.elim
  | some cl =>
    rw [ec] at h2
    simp only at h2
    cases ei : cl.init with
    | none => rw [ei] at h2; exact h2.elim
    | some f =>
      rw [ei] at h2
      simp only at h2
      split at h2
      · rename_i ek
        exact run_makeR L ec (by rw [ek]; decide) ei (hF f) hr tk I2 rv r1 rw' r2 n1 n2 c2 (Aft.seal c2 h2)
      · rename_i ek
        exact run_makeR L ec (by rw [ek]; decide) ei (hF f) hr tk I2 rv r1 rw' r2 n1 n2 c2 h2
      · exact h2.elim
end
end NH
end
section
namespace NH
open PySem L2 PyProof.Rows

section
variable {P : Program} {w : World} {K : PySem.W.Frag} {mg : Str → Option Value} {base : Heap} {A : Ad} {G : Gam}
/-- FnI, the frame's context left out -/
structure FnK (P : Program) (w : World) (K : PySem.W.Frag) (mg : Str → Option Value) (base : Heap) (A : Ad) (G : Gam) (n f : Nat) (fn : Fn) : Prop where
  kp : PySem.W.keepIn K (.ref (A.f f)) = true
  ex : ∃ (fd : FuncData) (ps : List Str), FnOk P w K mg base (L2.CX P w) (5 * n) (A.f f) fd ps (spF K A G n f fn) ∧ BindOk K A fd ps fn ∧ ps.length = fn.np
theorem FnK.to {n f : Nat} {fn : Fn} (k : FnK P w K mg base A G n f fn) {X : Cx} (h1 : X.prog = P) (h2 : X.w = w) (h3 : X.K = K) (h4 : X.mg = mg) (h5 : X.base = base) : FnI X A G n f fn := by
  subst h1 h2 h3 h4 h5
  exact ⟨k.kp, k.ex⟩
abbrev WE (E : XK) : WX := fun cls d _ H' => E cls d H'
/-- the context of a def's body -/
abbrev bodyCx (P : Program) (w : World) (K : PySem.W.Frag) (mg : Str → Option Value) (base : Heap) (N : List Str) (qual : Str) (scope : Scope) (f : Addr) (cdv : Value) (Ar : Around) (outer : List Env) (s : Shared) (H : Hp) (E : XK) : Cx :=
  cxOf (L2.CX P w) P w K mg base N qual scope f cdv Ar outer s H E
theorem body_takes {N : List Str} {qual : Str} {scope : Scope} {f : Addr} {cdv : Value} {Ar : Around} {outer : List Env} {s : Shared} {H : Hp} {E : XK} : Takes (bodyCx P w K mg base N qual scope f cdv Ar outer s H E) (WE E) :=
  takes_of rfl rfl rfl rfl
theorem body_passes {N : List Str} {qual : Str} {scope : Scope} {f : Addr} {cdv : Value} {Ar : Around} {outer : List Env} {s : Shared} {H : Hp} {E : XK} : PassesOwn (model P w) (bodyCx P w K mg base N qual scope f cdv Ar outer s H E).A (bodyCx P w K mg base N qual scope f cdv Ar outer s H E).env (bodyCx P w K mg base N qual scope f cdv Ar outer s H E).xe :=
  passes_of (X := bodyCx P w K mg base N qual scope f cdv Ar outer s H E) rfl
theorem start_fr {N : List Str} {m : Nat} {g : Gh} {H : Hp} {vs : List V} {ts : List T} (r : Reps K A H g vs ts) (hm : m = N.length) : FrR K A H g (L2.start N vs) (startF m ts) := by
  subst hm
  have hl := r.length
  refine ⟨by unfold L2.start startF; simp [hl], fun i t h => ?_⟩
  unfold startF at h
  by_cases hi : i < ts.length
  · rw [List.getElem?_append_left (by rw [List.length_map]; exact hi), List.getElem?_map] at h
    cases e : ts[i]? with
    | none => rw [e] at h; cases h
    | some t' =>
      rw [e] at h
      cases h
      obtain ⟨v, e1, e2⟩ := r.get e
      refine ⟨v, ?_, e2⟩
      unfold L2.start
      rw [List.getElem?_append_left (by rw [List.length_map, hl]; exact hi), List.getElem?_map, e1]
      rfl
  · rw [List.getElem?_append_right (by rw [List.length_map]; omega), List.getElem?_replicate] at h
    split at h <;> cases h
theorem toR_ends {W : WX} {σ : L2.St} {o : O} {g : Gh} {H : Hp} {S : Store} {Q : VK} (hW : ∀ cls d σ1 σ2 H, W cls d σ1 H → W cls d σ2 H) (h : Aft K A (repV K A) W σ o.toR g H S Q) : AftO K A W o g H S { nx := fun _ H' => Q .non H', rt := Q } := by
  cases o with
  | nx ρ' S' => exact fun g' H' σ' x c l f => h g' H' .non x c l .non
  | rt t S' => exact fun g' H' v x c l r => h g' H' v x c l r
  | xc t ρ' S' => exact fun g' H' σ' cls d x c l f r => hW _ _ _ _ _ (h g' H' cls d x c l r)
  | no => exact h
/-- what is known of a def as it stands -/
structure FnLay (P : Program) (w : World) (K : PySem.W.Frag) (mg : Str → Option Value) (base : Heap) (A : Ad) (G : Gam) (f : Nat) (fn : Fn) (fd : FuncData) (ps : List Str) : Prop where
  ex : ∃ (x qual : Str) (params : Arguments) (body : List Stmt) (scope : Scope) (dvs : List V) (kws : List (Str × V)) (N : List Str), FunD K x qual params body scope dvs kws (A.f f) fd ∧ FnScope N ps scope ∧ BindOk K A fd ps fn ∧ ps.length = fn.np ∧ fn.slots = N.length ∧
    ∀ (n : Nat) (cdv : Value) (Ar : Around) (outer : List Env) (s : Shared) (H : Hp) (E : XK), fd.code = cdv → (∀ f fn, G.fns f = some fn → FnI (bodyCx P w K mg base N qual scope (A.f f) cdv Ar outer s H E) A G n f fn) → Room (5 * n + 4) (Ar.deeper (envOfC qual scope s.heap.objs.size (A.f f) cdv)) →
      PSs (bodyCx P w K mg base N qual scope (A.f f) cdv Ar outer s H E) body (RdS K A (WE E) fun ρ S => execs G (runN G n) fn.body ρ S)
/-- a def of another form: its rule in the depth n + 1, where all is known in the depth n -/
structure FnRule (P : Program) (w : World) (K : PySem.W.Frag) (mg : Str → Option Value) (base : Heap) (A : Ad) (G : Gam) (f : Nat) (fn : Fn) : Prop where
  zero : FnK P w K mg base A G 0 f fn
  succ : ∀ n, (∀ f fn, G.fns f = some fn → FnK P w K mg base A G n f fn) → FnK P w K mg base A G (n + 1) f fn
theorem run_ends {W : WX} {n f : Nat} {fn : Fn} (hf : G.fns f = some fn) {σ : L2.St} {g : Gh} {H : Hp} {S : Store} {ts : List T} {Q : VK} (hW : ∀ cls d σ1 σ2 H, W cls d σ1 H → W cls d σ2 H) (c : Cn K A g H S) (h : Aft K A (repV K A) W σ (runN G (n + 1) f ts S) g H S Q) :
    AftO K A W (execs G (runN G n) fn.body (startF fn.slots ts) S) g H S { nx := fun _ H' => Q .non H', rt := Q } := by
  unfold runN at h
  rw [hf] at h
  simp only at h
  split at h
  · exact toR_ends hW (Aft.seal c h)
  · exact toR_ends hW h
theorem FnLay.ok {f : Nat} {fn : Fn} {fd : FuncData} {ps : List Str} (hf : G.fns f = some fn) (l : FnLay P w K mg base A G f fn fd ps) (n : Nat) (ih : ∀ f fn, G.fns f = some fn → FnK P w K mg base A G n f fn) : FnOk P w K mg base (L2.CX P w) (5 * n + 4 + 1) (A.f f) fd ps (spF K A G (n + 1) f fn) := by
  obtain ⟨x, qual, params, body, scope, dvs, kws, N, F, Sc, B, hp, hs, hb⟩ := l.ex
  obtain ⟨oc, od, dV, kV, doc, pm, an, cdv, ct, osl, rfl, lk, hcd, _, _⟩ := F.ex
  exact fn_of lk hcd Sc (fun vs H Q E ⟨g, S, ts, c, r, hl, h⟩ => by rw [r.length, hl, hp]) fun Ar outer s H vs Q E hr ⟨g, S, ts, c, r, hl, h⟩ =>
    ⟨_, hb n cdv Ar outer s H E rfl (fun f fn hf => (ih f fn hf).to rfl rfl rfl rfl rfl) hr, g, startF fn.slots ts, S, c, start_fr r hs, run_ends (W := WE E) (σ := []) hf (fun _ _ _ _ _ z => z) c h⟩
theorem FnLay.rule {f : Nat} {fn : Fn} {fd : FuncData} {ps : List Str} (hf : G.fns f = some fn) (l : FnLay P w K mg base A G f fn fd ps) : FnRule P w K mg base A G f fn := by
  have l' := l
  obtain ⟨x, qual, params, body, scope, dvs, kws, N, F, Sc, B, hp, hs, hb⟩ := l.ex
  exact ⟨⟨F.kp, fd, ps, ⟨fun vs H Q E ⟨g, S, ts, c, r, hl, h⟩ => by rw [r.length, hl, hp], fun _ _ _ _ _ _ _ _ _ _ _ _ _ ⟨g, S, ts, c, r, hl, h⟩ => h.elim⟩, B, hp⟩, fun n ih => ⟨F.kp, fd, ps, l'.ok hf n ih, B, hp⟩⟩
theorem all_fn (h : ∀ f fn, G.fns f = some fn → FnRule P w K mg base A G f fn) : ∀ (n f : Nat) (fn : Fn), G.fns f = some fn → FnK P w K mg base A G n f fn
  | 0, f, fn, hf => (h f fn hf).zero
  | n + 1, f, fn, hf => (h f fn hf).succ n (all_fn h n)
end
end NH
end
section
namespace NH
open PySem L2 PyProof.Rows

section
variable {β : Type}
theorem lookup_app {l m : List (Str × β)} {k : Str} : (l ++ m).lookup k = (l.lookup k).or (m.lookup k) := by
  rw [List.lookup_append]
theorem loop_kw {P KN : List Str} {f : Str × Value → List (Str × Value) × List (Str × Value) → Sem (ForInStep (List (Str × Value) × List (Str × Value)))}
    (hf : ∀ k v sl ex, (P.contains k || KN.contains k) = true → (sl.lookup k).isSome = false → f (k, v) (sl, ex) = pure (.yield (sl ++ [(k, v)], ex))) :
    ∀ (kw sl : List (Str × Value)) (ex : List (Str × Value)), (∀ p ∈ kw, (P.contains p.1 || KN.contains p.1) = true) → (kw.map (·.1)).Nodup → (∀ p ∈ kw, sl.lookup p.1 = none) → forIn kw (sl, ex) f = pure (sl ++ kw, ex)
  | [], sl, ex, _, _, _ => by rw [List.forIn_nil, List.append_nil]
  | (k, v) :: kw, sl, ex, h1, h2, h3 => by
    rw [List.forIn_cons, hf k v sl ex (h1 _ (List.mem_cons_self ..)) (by rw [h3 _ (List.mem_cons_self ..)]; rfl), pure_bind]
    simp only [List.map_cons, List.nodup_cons] at h2
    show forIn kw (sl ++ [(k, v)], ex) f = _
    rw [loop_kw hf kw _ ex (fun p hp => h1 p (List.mem_cons_of_mem _ hp)) h2.2 fun p hp => ?_, List.append_assoc]
    · rfl
    · rw [lookup_app, h3 p (List.mem_cons_of_mem _ hp)]
      have e : p.1 ≠ k := fun z => h2.1 (by rw [← z]; exact List.mem_map_of_mem hp)
      have e2 : (p.1 == k) = false := by simpa using e
      simp [List.lookup, e2]
def addD : List (Str × Value) → List (Str × Value) → List (Str × Value)
  | [], sl => sl
  | (n, d) :: r, sl => addD r (if (sl.lookup n).isNone = true then sl ++ [(n, d)] else sl)
theorem loop_df {f : Str × Value → List (Str × Value) → Sem (ForInStep (List (Str × Value)))} (hf : ∀ n d sl, f (n, d) sl = if (sl.lookup n).isNone = true then pure (.yield (sl ++ [(n, d)])) else pure (.yield sl)) :
    ∀ (l sl : List (Str × Value)), forIn l sl f = pure (addD l sl)
  | [], sl => by rw [List.forIn_nil]; rfl
  | (n, d) :: r, sl => by
    rw [List.forIn_cons, hf]
    unfold addD
    by_cases h : (sl.lookup n).isNone = true
    · rw [if_pos h, if_pos h, pure_bind]; exact loop_df hf r _
    · rw [if_neg h, if_neg h, pure_bind]; exact loop_df hf r _
theorem addD_look {n : Str} : ∀ {l sl : List (Str × Value)}, (addD l sl).lookup n = (sl.lookup n).or (l.lookup n)
  | [], sl => by unfold addD; simp
  | (m, d) :: r, sl => by
    unfold addD
    rw [addD_look]
    by_cases h : (sl.lookup m).isNone = true
    · rw [if_pos h, lookup_app]
      by_cases e : n = m
      · subst e
        have h' : sl.lookup n = none := by simpa using h
        simp [h', List.lookup]
      · have e2 : (n == m) = false := by simpa using e
        simp [List.lookup, e2]
    · rw [if_neg h]
      by_cases e : n = m
      · subst e
        cases q : sl.lookup n with
        | none => rw [q] at h; exact absurd rfl h
        | some v => simp
      · have e2 : (n == m) = false := by simpa using e
        simp [List.lookup, e2]
theorem zip_look2 {us : List β} : ∀ {P : List Str} {j : Nat} {n : Str}, P.Nodup → P[j]? = some n → (P.zip us).lookup n = us[j]? := by
  induction us with
  | nil => intro P j n _ h; simp
  | cons u us ih =>
    intro P j n nd h
    cases P with
    | nil => simp at h
    | cons p P =>
      rw [List.nodup_cons] at nd
      cases j with
      | zero =>
        simp at h
        subst h
        simp [List.lookup]
      | succ j =>
        have hn : n ∈ P := List.mem_of_getElem? (by simpa using h)
        have e : (n == p) = false := by
          have : n ≠ p := fun z => nd.1 (z ▸ hn)
          simpa using this
        simp only [List.zip_cons_cons, List.lookup, e]
        rw [ih nd.2 (by simpa using h)]
        simp
theorem bind_zip {sl : List (Str × β)} : ∀ {ns : List Str} {zs : List β}, ns.length = zs.length → (∀ (j : Nat) (n : Str), ns[j]? = some n → sl.lookup n = zs[j]?) → (ns.filterMap fun n => (sl.lookup n).map (n, ·)) = ns.zip zs
  | [], _, _, _ => by simp
  | n :: ns, [], h, _ => by cases h
  | n :: ns, z :: zs, h, hl => by
    have h0 : sl.lookup n = some z := hl 0 n rfl
    simp only [List.filterMap_cons, h0, Option.map_some, List.zip_cons_cons]
    rw [bind_zip (Nat.succ.inj h) fun j m hm => by simpa using hl (j + 1) m (by simpa using hm)]
theorem look_none_zip {n : Str} : ∀ {P : List Str} {us : List β}, n ∉ P → (P.zip us).lookup n = none
  | [], _, _ => by simp
  | _ :: _, [], _ => by simp
  | p :: P, u :: us, h => by
    simp only [List.mem_cons, not_or] at h
    have e : (n == p) = false := by simpa using h.1
    simp only [List.zip_cons_cons, List.lookup, e]
    exact look_none_zip h.2
theorem loop_ko {K : PySem.W.Frag} {M : Model} {h : Heap} {kV : Value} {dv : Str → Value} (X : K.In h) {f : Str → List (Str × Value) × List Str → Sem (ForInStep (List (Str × Value) × List Str))}
    (hf1 : ∀ n sl mk D v, (sl.lookup n).isNone = true → kV = .ref D → ∃ k : Option Value → Sem (ForInStep (List (Str × Value) × List Str)), f n (sl, mk) = nsGet D n >>= k ∧ k (some v) = pure (.yield (sl ++ [(n, v)], mk)))
    (hf2 : ∀ n sl mk, (sl.lookup n).isNone = false → f n (sl, mk) = pure (.yield (sl, mk))) :
    ∀ (l : List Str) (sl : List (Str × Value)) (mk : List Str), (∀ n ∈ l, sl.lookup n = none → ∃ D, kV = .ref D ∧ PySem.W.nsIn K D n = some (some (dv n))) → PySem.W.Looks M h (forIn l (sl, mk) f) (addD (l.map fun n => (n, dv n)) sl, mk)
  | [], sl, mk, _ => by rw [List.forIn_nil]; exact .now
  | n :: l, sl, mk, hc => by
    rw [List.forIn_cons]
    show PySem.W.Looks M h _ (addD (l.map fun n => (n, dv n)) (if (sl.lookup n).isNone = true then sl ++ [(n, dv n)] else sl), mk)
    by_cases e : (sl.lookup n).isNone = true
    · obtain ⟨D, e1, e2⟩ := hc n (List.mem_cons_self ..) (by simpa using e)
      obtain ⟨k, q1, q2⟩ := hf1 n sl mk D (dv n) e e1
      rw [if_pos e, q1, bind_assoc]
      refine (PySem.W.looks_nsIn X e2).andThen ?_
      rw [q2, pure_bind]
      exact loop_ko X hf1 hf2 l _ mk fun m hm hn => hc m (List.mem_cons_of_mem _ hm) (by
        rw [lookup_app] at hn
        cases q : sl.lookup m with
        | none => rfl
        | some v => rw [q] at hn; simp at hn)
    · have e' : (sl.lookup n).isNone = false := by simpa using e
      rw [if_neg e, hf2 n sl mk e', pure_bind]
      exact loop_ko X hf1 hf2 l _ mk fun m hm hn => hc m (List.mem_cons_of_mem _ hm) hn
theorem map_look {dv : Str → β} {n : Str} : ∀ {l : List Str}, n ∈ l → (l.map fun n => (n, dv n)).lookup n = some (dv n)
  | m :: l, h => by
    by_cases e : n = m
    · subst e; simp [List.lookup]
    · have e2 : (n == m) = false := by simpa using e
      simp only [List.map_cons, List.lookup, e2]
      exact map_look (by simpa [e] using h)
theorem bind_core {K : PySem.W.Frag} {M : Model} {h : Heap} {fd : FuncData} {us its zs : List Value} {kw : List (Str × Value)} {P KN : List Str} {dv : Str → Value} (X : K.In h) (h1 : fd.params.posonlyargs = []) (h2 : fd.params.vararg = none) (h3 : fd.params.kwarg = none) (hP : fd.params.args.map (·.arg) = P) (hK : fd.params.kwonlyargs.map (·.arg) = KN)
    (nd : (P ++ KN).Nodup) (hk1 : ∀ p ∈ kw, p.1 ∈ P.drop us.length ∨ p.1 ∈ KN) (hk2 : (kw.map (·.1)).Nodup) (hlen : us.length ≤ P.length) (hits : its.length ≤ P.length)
    (hdef : (its = [] ∧ fd.defaults = .none) ∨ ∃ (T : Addr) (o : Obj) (n : Nat), fd.defaults = .ref T ∧ K.lookup T = some o ∧ o.data = .seq its.toArray n)
    (hz : (P ++ KN).length = zs.length) (hz1 : ∀ (j : Nat) (n : Str), P[j]? = some n → zs[j]? = (us[j]?).or ((kw.lookup n).or (if P.length - its.length ≤ j then its[j - (P.length - its.length)]? else none)))
    (hz2 : ∀ (j : Nat) (n : Str), KN[j]? = some n → zs[P.length + j]? = (kw.lookup n).or (some (dv n))) (hz3 : ∀ n ∈ KN, kw.lookup n = none → ∃ D, fd.kwdefaults = .ref D ∧ PySem.W.nsIn K D n = some (some (dv n))) :
    PySem.W.Looks M h (bindArgs fd ⟨us, kw⟩) ((P ++ KN).zip zs) := by
  obtain ⟨ndP, ndK, ndX⟩ := List.nodup_append.mp nd
  have notP : ∀ n ∈ KN, n ∉ P := fun n hn hp => ndX n hp n hn rfl
  have inP : ∀ n ∈ P, ∃ j, P[j]? = some n := fun n hn => List.mem_iff_getElem?.mp hn
  have sl0 : ∀ p ∈ kw, (P.zip us).lookup p.1 = none := fun p hp => by
    rcases hk1 p hp with q | q
    · obtain ⟨j, hj⟩ := List.mem_iff_getElem?.mp q
      rw [List.getElem?_drop] at hj
      rw [zip_look2 ndP hj]
      exact List.getElem?_eq_none (by omega)
    · exact look_none_zip (notP _ q)
  have key : PySem.W.Looks M h (seqItems? fd.defaults) (if its = [] ∧ fd.defaults = .none then none else some its.toArray) := by
    rcases hdef with ⟨e1, e2⟩ | ⟨T, o, n, e1, e2, e3⟩
    · rw [if_pos ⟨e1, e2⟩, e2]
      exact .now
    · rw [if_neg (fun z => by rw [e1] at z; cases z.2), e1]
      have := looks_items (M := M) (k := fun a => (pure a : Sem (Option (Array Value)))) X e2 e3 .now
      rwa [bind_pure] at this
  have zl : ∀ (j : Nat) (n : Str), (P ++ KN)[j]? = some n → ∃ z, zs[j]? = some z := fun j n hj => by
    have : j < (P ++ KN).length := by
      rcases Nat.lt_or_ge j (P ++ KN).length with q | q
      · exact q
      · rw [List.getElem?_eq_none q] at hj; cases hj
    exact ⟨zs[j]'(by omega), List.getElem?_eq_getElem (by omega)⟩
  unfold bindArgs
  simp only [h1, h2, h3, hP, hK, List.map_nil, List.nil_append, Option.isSome_none, Bool.false_eq_true, if_false, List.filter_nil, List.isEmpty_nil, Bool.not_true]
  rw [loop_kw (P := P) (KN := KN) (fun k v sl ex ha hb => by simp only [ha, hb, if_true, Bool.false_eq_true, if_false]) kw (P.zip us) [] (fun p hp => by
    rcases hk1 p hp with q | q
    · simp [List.mem_of_mem_drop q]
    · simp [q]) hk2 sl0, pure_bind]
  refine key.andThen ?_
  have eD : ((if its = [] ∧ fd.defaults = .none then none else some its.toArray).getD #[]).toList = its := by
    split
    · rename_i e; rw [e.1]; rfl
    · simp
  simp only [eD]
  have e0 : its.length - P.length = 0 := by omega
  have e1 : decide (us.length > P.length) = false := by simp; omega
  simp only [e0, e1, List.drop_zero, Bool.false_and, Bool.false_eq_true, if_false]
  have e2 : ((P.take (P.length - its.length)).filter fun n => ((P.zip us ++ kw).lookup n).isNone) = [] := by
    rw [List.filter_eq_nil_iff]
    intro n hn
    obtain ⟨j, hj⟩ := List.mem_iff_getElem?.mp hn
    have hjl : j < P.length - its.length := by
      rcases Nat.lt_or_ge j (P.length - its.length) with q | q
      · exact q
      · rw [List.getElem?_eq_none (by rw [List.length_take]; omega)] at hj; cases hj
    rw [List.getElem?_take_of_lt hjl] at hj
    obtain ⟨z, ez⟩ := zl j n (by rw [List.getElem?_append_left (by omega)]; exact hj)
    have q := hz1 j n hj
    rw [if_neg (by omega), ez] at q
    rw [lookup_app, zip_look2 ndP hj]
    simp only [Option.or_none] at q
    rw [← q]
    simp
  simp only [e2, List.isEmpty_nil, Bool.not_true, Bool.false_eq_true, if_false]
  rw [loop_df (fun n d sl => rfl), pure_bind]
  -- what the words hold behind the defaults
  have lP : ∀ (j : Nat) (n : Str), P[j]? = some n → (addD ((P.drop (P.length - its.length)).zip its) (P.zip us ++ kw)).lookup n = zs[j]? := fun j n hj => by
    rw [addD_look, lookup_app, zip_look2 ndP hj, hz1 j n hj, Option.or_assoc]
    congr 2
    by_cases hc : P.length - its.length ≤ j
    · rw [if_pos hc, zip_look2 (ndP.sublist (List.drop_sublist _ _)) (j := j - (P.length - its.length)) (by rw [List.getElem?_drop, Nat.add_sub_cancel' hc]; exact hj)]
    · rw [if_neg hc, look_none_zip]
      intro hm
      obtain ⟨i, hi⟩ := List.mem_iff_getElem?.mp hm
      rw [List.getElem?_drop] at hi
      have hli : P.length - its.length + i < P.length := by
        rcases Nat.lt_or_ge (P.length - its.length + i) P.length with q | q
        · exact q
        · rw [List.getElem?_eq_none q] at hi; cases hi
      have hlj : j < P.length := by omega
      rw [List.getElem?_eq_getElem hli] at hi
      rw [List.getElem?_eq_getElem hlj] at hj
      have := (List.getElem_inj ndP).mp ((Option.some.inj hi).trans (Option.some.inj hj).symm)
      omega
  have lK : ∀ n ∈ KN, (addD ((P.drop (P.length - its.length)).zip its) (P.zip us ++ kw)).lookup n = kw.lookup n := fun n hn => by
    rw [addD_look, lookup_app, look_none_zip (notP n hn), look_none_zip (fun z => notP n hn (List.mem_of_mem_drop z))]
    simp
  refine (loop_ko (kV := fd.kwdefaults) (dv := dv) X (fun n sl mk D v hN hD => ⟨_, by simp only [hN, if_true, hD]; rfl, rfl⟩) (fun n sl mk hN => by simp only [hN, Bool.false_eq_true, if_false]) KN _ [] fun n hn hq => hz3 n hn (by rw [← lK n hn]; exact hq)).andThen ?_
  simp only [List.isEmpty_nil, Bool.not_true, Bool.false_eq_true, if_false]
  rw [bind_zip hz fun j n hj => ?_]
  · exact .now
  · rw [addD_look]
    by_cases hj' : j < P.length
    · rw [List.getElem?_append_left hj'] at hj
      obtain ⟨z, ez⟩ := zl j n (by rw [List.getElem?_append_left hj']; exact hj)
      rw [lP j n hj, ez]
      rfl
    · rw [List.getElem?_append_right (by omega)] at hj
      have hn := List.mem_of_getElem? hj
      rw [lK n hn, map_look hn]
      have q := hz2 _ n hj
      rw [Nat.add_sub_cancel' (by omega)] at q
      exact q.symm
end
end NH
end
section
namespace NH
open PySem L2 PyProof.Rows

section
variable {K : PySem.W.Frag} {A : Ad} {H : Hp} {g : Gh}
theorem kw_look {x : Nat} (hx : x < A.n) : ∀ {ks : List Nat} {ws : List Value} {wvs : List V} {tws : List T}, Vals wvs ws → Reps K A H g wvs tws → ks.length = tws.length → (∀ k ∈ ks, k < A.n) →
    (∀ t, (ks.zip tws).lookup x = some t → ∃ u v, ((ks.map A.nm).zip ws).lookup (A.nm x) = some u ∧ RelV v u ∧ Rep K A H g v t) ∧ ((ks.zip tws).lookup x = none → ((ks.map A.nm).zip ws).lookup (A.nm x) = none)
  | [], _, _, _, _, _, _, _ => ⟨fun t h => by simp at h, fun _ => by simp⟩
  | k :: ks, ws, wvs, tws, rw', rt, hl, hk => by
    cases rt with
    | nil => cases hl
    | cons r rt =>
      cases rw' with
      | cons rv rw' =>
        obtain ⟨i1, i2⟩ := kw_look hx rw' rt (Nat.succ.inj hl) fun j hj => hk j (List.mem_cons_of_mem _ hj)
        by_cases e : x = k
        · subst e
          simp only [List.zip_cons_cons, List.map_cons, List.lookup, beq_self_eq_true]
          exact ⟨fun t h => by cases h; exact ⟨_, _, rfl, rv, r⟩, fun h => by cases h⟩
        · have e1 : (x == k) = false := by simpa using e
          have e2 : (A.nm x == A.nm k) = false := by
            have : A.nm x ≠ A.nm k := fun z => e (A.inj _ _ hx (hk k (List.mem_cons_self ..)) z)
            simpa using this
          simp only [List.zip_cons_cons, List.map_cons, List.lookup, e1, e2]
          exact ⟨i1, i2⟩
theorem pos_ok {fn : Fn} {us its ws : List Value} {vs dvs wvs : List V} {ts tws : List T} {ks : List Nat} (rv : Vals vs us) (rt : Reps K A H g vs ts) (rw' : Vals wvs ws) (rtw : Reps K A H g wvs tws) (hl : ks.length = tws.length) (hk : ∀ k ∈ ks, k < A.n) (rd : Vals dvs its) (rdt : Reps K A H g dvs fn.dfl) (hdl : fn.dfl.length ≤ fn.pos.length) :
    ∀ (xs : List Nat) (i : Nat) (a : List T), bindPos fn ts (ks.zip tws) i xs = some a → (∀ x ∈ xs, x < A.n) → ∃ (zs : List Value) (zv : List V), Vals zv zs ∧ Reps K A H g zv a ∧ zs.length = xs.length ∧
      ∀ (j : Nat) (n : Nat), xs[j]? = some n → zs[j]? = (us[i + j]?).or ((((ks.map A.nm).zip ws).lookup (A.nm n)).or (if fn.pos.length - its.length ≤ i + j then its[i + j - (fn.pos.length - its.length)]? else none))
  | [], i, a, h, _ => by cases h; exact ⟨[], [], .nil, .nil, rfl, fun j n hj => by simp at hj⟩
  | x :: xs, i, a, h, hx => by
    have lu : us.length = ts.length := rv.length.symm.trans rt.length
    have ld : its.length = fn.dfl.length := rd.length.symm.trans rdt.length
    have hd : ∃ (z : Value) (zv : V) (t : T) (rest : List T), a = t :: rest ∧ bindPos fn ts (ks.zip tws) (i + 1) xs = some rest ∧ RelV zv z ∧ Rep K A H g zv t ∧ some z = (us[i]?).or ((((ks.map A.nm).zip ws).lookup (A.nm x)).or (if fn.pos.length - its.length ≤ i then its[i - (fn.pos.length - its.length)]? else none)) := by
      unfold bindPos at h
      cases e1 : ts[i]? with
      | some t =>
        rw [e1] at h
        simp only at h
        cases e2 : bindPos fn ts (ks.zip tws) (i + 1) xs with
        | none => rw [e2] at h; cases h
        | some rest =>
          rw [e2] at h
          cases h
          obtain ⟨v, q1, q2⟩ := rt.get e1
          obtain ⟨u, q3, q4⟩ := rv.get q1
          exact ⟨u, v, t, rest, rfl, rfl, q4, q2, by rw [q3]; rfl⟩
      | none =>
        rw [e1] at h
        have hu : us[i]? = none := by
          rw [List.getElem?_eq_none_iff] at e1 ⊢
          omega
        obtain ⟨k1, k2⟩ := kw_look (K := K) (H := H) (g := g) (x := x) (hx x (List.mem_cons_self ..)) rw' rtw hl hk
        simp only at h
        cases e3 : (ks.zip tws).lookup x with
        | some t =>
          rw [e3] at h
          simp only at h
          cases e2 : bindPos fn ts (ks.zip tws) (i + 1) xs with
          | none => rw [e2] at h; cases h
          | some rest =>
            rw [e2] at h
            cases h
            obtain ⟨u, v, q1, q2, q3⟩ := k1 t e3
            exact ⟨u, v, t, rest, rfl, rfl, q2, q3, by rw [hu, q1]; rfl⟩
        | none =>
          rw [e3] at h
          simp only at h
          by_cases hc : fn.pos.length ≤ i + fn.dfl.length
          · rw [if_pos hc] at h
            cases e4 : fn.dfl[i + fn.dfl.length - fn.pos.length]? with
            | none => rw [e4] at h; cases h
            | some t =>
              rw [e4] at h
              simp only at h
              cases e2 : bindPos fn ts (ks.zip tws) (i + 1) xs with
              | none => rw [e2] at h; cases h
              | some rest =>
                rw [e2] at h
                cases h
                obtain ⟨v, q1, q2⟩ := rdt.get e4
                obtain ⟨u, q3, q4⟩ := rd.get q1
                refine ⟨u, v, t, rest, rfl, rfl, q4, q2, ?_⟩
                rw [hu, k2 e3, if_pos (by omega), ← q3]
                simp only [Option.none_or]
                congr 1
                rw [ld]
                omega
          · rw [if_neg hc] at h
            cases h
    obtain ⟨z, zv, t, rest, rfl, hr, q1, q2, q3⟩ := hd
    obtain ⟨zs, zvs, w1, w2, w3, w4⟩ := pos_ok rv rt rw' rtw hl hk rd rdt hdl xs (i + 1) rest hr fun y hy => hx y (List.mem_cons_of_mem _ hy)
    refine ⟨z :: zs, zv :: zvs, .cons q1 w1, .cons q2 w2, congrArg Nat.succ w3, fun j n hj => ?_⟩
    cases j with
    | zero =>
      simp only [List.getElem?_cons_zero, Option.some.injEq] at hj
      subst hj
      simpa using q3
    | succ j =>
      have := w4 j n (by simpa using hj)
      rw [show i + (j + 1) = i + 1 + j by omega]
      simpa using this
open Classical in
/-- a keyword-only parameter's default as it stands -/
noncomputable def dflK (K : PySem.W.Frag) (kV : Value) (n : Str) : Value := if h : ∃ u D, kV = .ref D ∧ PySem.W.nsIn K D n = some (some u) then h.choose else .none
theorem dflK_of {kV : Value} {D : Addr} {n : Str} {u : Value} (h1 : kV = .ref D) (h2 : PySem.W.nsIn K D n = some (some u)) : dflK K kV n = u := by
  unfold dflK
  have ex : ∃ u D, kV = .ref D ∧ PySem.W.nsIn K D n = some (some u) := ⟨u, D, h1, h2⟩
  rw [dif_pos ex]
  obtain ⟨D', q1, q2⟩ := ex.choose_spec
  rw [h1] at q1
  cases q1
  rw [h2] at q2
  exact (Option.some.inj (Option.some.inj q2)).symm
theorem kwd_at {kV : Value} {kws : List (Str × V)} (hK : KwdV K kV kws) {n : Str} {v : V} (h : kws.lookup n = some v) : ∃ D, kV = .ref D ∧ PySem.W.nsIn K D n = some (some (dflK K kV n)) ∧ RelV v (dflK K kV n) := by
  rcases hK with e | ⟨D, e, hq⟩
  · rw [e] at h; simp at h
  · obtain ⟨u, q1, q2⟩ := hq (n, v) (PySem.mem_of_lookup h)
    have := dflK_of e q1
    exact ⟨D, e, by rw [this]; exact q1, by rw [this]; exact q2⟩
theorem kwo_ok {ws : List Value} {wvs : List V} {tws : List T} {ks : List Nat} {kV : Value} {kws : List (Str × V)} (rw' : Vals wvs ws) (rtw : Reps K A H g wvs tws) (hl : ks.length = tws.length) (hk : ∀ k ∈ ks, k < A.n) (hK : KwdV K kV kws) :
    ∀ (xs : List (Nat × Option T)) (b : List T), bindKw (ks.zip tws) xs = some b → (∀ p ∈ xs, p.1 < A.n) → (∀ p ∈ xs, ∀ t, p.2 = some t → ∃ v, kws.lookup (A.nm p.1) = some v ∧ Rep K A H g v t) → ∃ (zs : List Value) (zv : List V), Vals zv zs ∧ Reps K A H g zv b ∧ zs.length = xs.length ∧
      (∀ (j : Nat) (p : Nat × Option T), xs[j]? = some p → zs[j]? = (((ks.map A.nm).zip ws).lookup (A.nm p.1)).or (some (dflK K kV (A.nm p.1)))) ∧ ∀ p ∈ xs, ((ks.map A.nm).zip ws).lookup (A.nm p.1) = none → ∃ D, kV = .ref D ∧ PySem.W.nsIn K D (A.nm p.1) = some (some (dflK K kV (A.nm p.1)))
  | [], b, h, _, _ => by cases h; exact ⟨[], [], .nil, .nil, rfl, fun j p hj => by simp at hj, fun p hp => by simp at hp⟩
  | (x, d) :: xs, b, h, hx, hd => by
    obtain ⟨k1, k2⟩ := kw_look (K := K) (H := H) (g := g) (x := x) (hx _ (List.mem_cons_self ..)) rw' rtw hl hk
    have h0 : ∃ (z : Value) (zv : V) (t : T) (rest : List T), b = t :: rest ∧ bindKw (ks.zip tws) xs = some rest ∧ RelV zv z ∧ Rep K A H g zv t ∧ some z = (((ks.map A.nm).zip ws).lookup (A.nm x)).or (some (dflK K kV (A.nm x))) ∧ (((ks.map A.nm).zip ws).lookup (A.nm x) = none → ∃ D, kV = .ref D ∧ PySem.W.nsIn K D (A.nm x) = some (some (dflK K kV (A.nm x)))) := by
      unfold bindKw at h
      cases e3 : (ks.zip tws).lookup x with
      | some t =>
        rw [e3] at h
        simp only at h
        cases e2 : bindKw (ks.zip tws) xs with
        | none => rw [e2] at h; cases h
        | some rest =>
          rw [e2] at h
          cases h
          obtain ⟨u, v, q1, q2, q3⟩ := k1 t e3
          exact ⟨u, v, t, rest, rfl, rfl, q2, q3, by rw [q1]; rfl, fun z => by rw [q1] at z; cases z⟩
      | none =>
        rw [e3] at h
        simp only at h
        cases d with
        | none => cases h
        | some t =>
          simp only at h
          cases e2 : bindKw (ks.zip tws) xs with
          | none => rw [e2] at h; cases h
          | some rest =>
            rw [e2] at h
            cases h
            obtain ⟨v, q1, q2⟩ := hd _ (List.mem_cons_self ..) t rfl
            obtain ⟨D, q3, q4, q5⟩ := kwd_at hK q1
            exact ⟨_, v, t, rest, rfl, rfl, q5, q2, by rw [k2 e3]; rfl, fun _ => ⟨D, q3, q4⟩⟩
    obtain ⟨z, zv, t, rest, rfl, hr, q1, q2, q3, q4⟩ := h0
    obtain ⟨zs, zvs, w1, w2, w3, w4, w5⟩ := kwo_ok rw' rtw hl hk hK xs rest hr (fun p hp => hx p (List.mem_cons_of_mem _ hp)) fun p hp => hd p (List.mem_cons_of_mem _ hp)
    refine ⟨z :: zs, zv :: zvs, .cons q1 w1, .cons q2 w2, congrArg Nat.succ w3, fun j p hj => ?_, fun p hp => ?_⟩
    · cases j with
      | zero =>
        simp only [List.getElem?_cons_zero, Option.some.injEq] at hj
        subst hj
        exact q3
      | succ j => simpa using w4 j p (by simpa using hj)
    · rcases List.mem_cons.mp hp with e | hp
      · subst e; exact q4
      · exact w5 p hp
theorem nodup_map {α β : Type} {f : α → β} : ∀ {l : List α}, (∀ i ∈ l, ∀ j ∈ l, f i = f j → i = j) → l.Nodup → (l.map f).Nodup
  | [], _, _ => List.nodup_nil
  | x :: l, h, nd => by
    rw [List.nodup_cons] at nd
    rw [List.map_cons, List.nodup_cons]
    refine ⟨fun hm => ?_, nodup_map (fun i hi j hj => h i (List.mem_cons_of_mem _ hi) j (List.mem_cons_of_mem _ hj)) nd.2⟩
    obtain ⟨y, hy, e⟩ := List.mem_map.mp hm
    have := h y (List.mem_cons_of_mem _ hy) x (List.mem_cons_self ..) e
    exact nd.1 (this ▸ hy)
theorem bindOk_fd {x qual : Str} {params : Arguments} {body : List Stmt} {scope : Scope} {dvs : List V} {kws : List (Str × V)} {fn : Fn} {dV kV doc pm cdv ct : Value} {an : Option Addr} (hD : DflV K dV dvs) (hKd : KwdV K kV kws) (h1 : params.posonlyargs = []) (h2 : params.vararg = none) (h3 : params.kwarg = none)
    (hP : params.args.map (·.arg) = fn.pos.map A.nm) (hK : params.kwonlyargs.map (·.arg) = fn.kwo.map fun p => A.nm p.1) (hn : ∀ i ∈ fn.pos ++ fn.kwo.map (·.1), i < A.n) (nd : (fn.pos ++ fn.kwo.map (·.1)).Nodup) (hdl : fn.dfl.length ≤ fn.pos.length)
    (hd : ∀ H g, Reps K A H g dvs fn.dfl) (hk : ∀ p ∈ fn.kwo, ∀ t, p.2 = some t → ∃ v, kws.lookup (A.nm p.1) = some v ∧ ∀ H g, Rep K A H g v t) : BindOk K A (PySem.W.fnOf x qual params body scope dV kV doc pm an cdv ct) (fn.pos.map A.nm ++ fn.kwo.map fun p => A.nm p.1) fn := by
  intro s H g us vs ts ks ws wvs tws zts X rv rt rw' rtw hl hkn hb
  unfold bind at hb
  split at hb
  · rename_i hc
    obtain ⟨hc1, hc2⟩ := hc
    obtain ⟨its, rd, hdef⟩ : ∃ its : List Value, Vals dvs its ∧ ((its = [] ∧ dV = .none) ∨ ∃ (T : Addr) (o : Obj) (n : Nat), dV = .ref T ∧ K.lookup T = some o ∧ o.data = .seq its.toArray n) := by
      rcases hD with ⟨e1, e2⟩ | ⟨_, T, o, its, m, e1, e2, e3, e4⟩
      · exact ⟨[], by rw [e1]; exact .nil, .inl ⟨rfl, e2⟩⟩
      · exact ⟨its, e4, .inr ⟨T, o, m, e1, e2, e3⟩⟩
    have li : its.length = fn.dfl.length := rd.length.symm.trans (hd H g).length
    have lu : us.length = ts.length := rv.length.symm.trans rt.length
    have lw : ws.length = ks.length := (rw'.length.symm.trans rtw.length).trans hl.symm
    cases ea : bindPos fn ts (ks.zip tws) 0 fn.pos with
    | none => rw [ea] at hb; cases hb
    | some a =>
      rw [ea] at hb
      simp only at hb
      cases eb : bindKw (ks.zip tws) fn.kwo with
      | none => rw [eb] at hb; cases hb
      | some b =>
        rw [eb] at hb
        cases hb
        obtain ⟨z1, v1, p1, p2, p3, p4⟩ := pos_ok rv rt rw' rtw hl hkn rd (hd H g) hdl fn.pos 0 a ea fun i hi => hn i (List.mem_append_left _ hi)
        obtain ⟨z2, v2, q1, q2, q3, q4, q5⟩ := kwo_ok rw' rtw hl hkn hKd fn.kwo b eb (fun p hp => hn _ (List.mem_append_right _ (List.mem_map_of_mem hp))) fun p hp t e => by
          obtain ⟨v, e1, e2⟩ := hk p hp t e
          exact ⟨v, e1, e2 H g⟩
        refine ⟨v1 ++ v2, z1 ++ z2, p1.append q1, p2.append q2, by simp [p3, q3], BindsTo.of_looks fun M => ?_⟩
        have inj : ∀ i j, i < A.n → j < A.n → A.nm i = A.nm j → i = j := A.inj
        unfold kwsOk at hc2
        simp only [Bool.and_eq_true, decide_eq_true_eq, List.all_eq_true, Bool.or_eq_true, List.contains_iff_mem] at hc2
        have kmem : ∀ k ∈ ks, k ∈ fn.pos.drop ts.length ∨ k ∈ fn.kwo.map (·.1) := fun k hkm => by
          obtain ⟨j, hj⟩ := List.mem_iff_getElem?.mp hkm
          have hjl : j < tws.length := by rw [← hl]; exact (List.getElem?_eq_some_iff.mp hj).1
          exact hc2.2 (k, tws[j]) (List.mem_of_getElem? (i := j) (by rw [List.getElem?_zip_eq_some]; exact ⟨hj, List.getElem?_eq_getElem hjl⟩))
        have kfst : (ks.zip tws).map (·.1) = ks := by
          rw [List.map_fst_zip]; omega
        refine bind_core (dv := dflK K kV) (its := its) X h1 h2 h3 hP hK ?_ (fun p hp => ?_) ?_ (by rw [List.length_map]; omega) (by rw [List.length_map]; omega) hdef (by simp [p3, q3]) (fun j n hj => ?_) (fun j n hj => ?_) fun n hm hq => ?_
        · have : (fn.pos.map A.nm ++ fn.kwo.map fun p => A.nm p.1) = (fn.pos ++ fn.kwo.map (·.1)).map A.nm := by simp
          rw [this]
          exact nodup_map (fun i hi j hj e => inj i j (hn i hi) (hn j hj) e) nd
        · have hk' : p.1 ∈ ks.map A.nm := (List.of_mem_zip (show (p.1, p.2) ∈ (ks.map A.nm).zip ws from hp)).1
          obtain ⟨k, hkm, e⟩ := List.mem_map.mp hk'
          rcases kmem k hkm with w | w
          · left
            rw [← List.map_drop, lu, ← e]
            exact List.mem_map_of_mem w
          · right
            obtain ⟨q, hq, e2⟩ := List.mem_map.mp w
            rw [← e, ← e2]
            exact List.mem_map_of_mem (f := fun p : Nat × Option T => A.nm p.1) hq
        · rw [List.map_fst_zip (by rw [List.length_map, lw]; exact Nat.le_refl _)]
          rw [kfst] at hc2
          exact nodup_map (fun i hi j hj e => inj i j (hkn i hi) (hkn j hj) e) hc2.1
        · rw [List.getElem?_map] at hj
          cases e : fn.pos[j]? with
          | none => rw [e] at hj; cases hj
          | some i =>
            rw [e] at hj
            cases hj
            have hjl : j < z1.length := by rw [p3]; exact (List.getElem?_eq_some_iff.mp e).1
            rw [List.getElem?_append_left hjl, p4 j i e, List.length_map]
            simp only [Nat.zero_add]
        · rw [List.getElem?_map] at hj
          cases e : fn.kwo[j]? with
          | none => rw [e] at hj; cases hj
          | some i =>
            rw [e] at hj
            cases hj
            rw [List.length_map, List.getElem?_append_right (by omega), p3, Nat.add_sub_cancel_left]
            exact q4 j i e
        · obtain ⟨p, hp, e⟩ := List.mem_map.mp hm
          subst e
          exact q5 p hp hq
  · cases hb
theorem bindOk_of {x qual : Str} {params : Arguments} {body : List Stmt} {scope : Scope} {dvs : List V} {kws : List (Str × V)} {f : Addr} {fd : FuncData} {fn : Fn} (F : FunD K x qual params body scope dvs kws f fd) (h1 : params.posonlyargs = []) (h2 : params.vararg = none) (h3 : params.kwarg = none)
    (hP : params.args.map (·.arg) = fn.pos.map A.nm) (hK : params.kwonlyargs.map (·.arg) = fn.kwo.map fun p => A.nm p.1) (hn : ∀ i ∈ fn.pos ++ fn.kwo.map (·.1), i < A.n) (nd : (fn.pos ++ fn.kwo.map (·.1)).Nodup) (hdl : fn.dfl.length ≤ fn.pos.length)
    (hd : ∀ H g, Reps K A H g dvs fn.dfl) (hk : ∀ p ∈ fn.kwo, ∀ t, p.2 = some t → ∃ v, kws.lookup (A.nm p.1) = some v ∧ ∀ H g, Rep K A H g v t) : BindOk K A fd (fn.pos.map A.nm ++ fn.kwo.map fun p => A.nm p.1) fn := by
  obtain ⟨oc, od, dV, kV, doc, pm, an, cdv, ct, osl, rfl, lk, hcd, hD, hKd⟩ := F.ex
  exact bindOk_fd hD hKd h1 h2 h3 hP hK hn nd hdl hd hk
end
end NH
end
section
namespace NH
open PySem L2 PyProof.Rows

section
variable {X : Cx} {A : Ad} {G : Gam} {W : WX} {n : Nat}
theorem _root_.L2.PK.imp {kws : List Keyword} {t t' : TA} (h : PK X kws t) (i : ∀ σ H Q, t' σ H Q → t σ H Q) : PK X kws t' := ⟨fun pos pins s σ H Q I q => h.run pos pins s σ H Q I (i σ H Q q)⟩
theorem snd_knil : PK X [] (RdK X.K A W fun _ S => .ok [] S) := pk_nil.imp fun σ H Q ⟨g, ρ, S, c, f, h⟩ => Aft.use (rep := fun H g (vs : List V) (ts : List (Nat × T)) => Reps X.K A H g vs (ts.map (·.2))) h c .nil
theorem snd_kcons {k : Nat} {nm : Option Str} {e : Expr} {kp : Pos} {kws : List Keyword} {fe : Fr → Store → R T} {fk : Fr → Store → R (List (Nat × T))} (he : PE X e (RdE X.K A W fe)) (hk : PK X kws (RdK X.K A W fk)) :
    PK X (⟨nm, e, kp⟩ :: kws) (RdK X.K A W fun ρ S => (fe ρ S).bind fun v S1 => (fk ρ S1).bind fun vs S2 => .ok ((k, v) :: vs) S2) := by
  refine (pk_cons he hk).imp fun σ H Q ⟨g, ρ, S, c, f, h⟩ => ⟨g, ρ, S, c, f, h.bind fun t S1 g1 H1 v _ x1 c1 l1 r1 h1 => ⟨g1, ρ, S1, c1, f.ex x1, h1.bind fun ts S2 g2 H2 vs _ x2 c2 l2 r2 h2 => ?_⟩⟩
  exact Aft.use (rep := fun H g (vs : List V) (ts : List (Nat × T)) => Reps X.K A H g vs (ts.map (·.2))) (t := (k, t) :: ts) h2 c2 (.cons (r1.ex x2) r2)
/-- a module's name -/
theorem snd_glo {x : Str} {i : Nat} {v : V} {u : Value} {t : T} {pos : Pos} (hg : Gl X x) (hm : X.mg x = some u) (r : RelV v u) (hd : (x == ("__debug__" : Str)) = false) (hi : G.glo i = some t) (rep : ∀ H g, Rep X.K A H g v t) : PE X (.Name x pos) (RdE X.K A W fun _ S => R.of (G.glo i) S) := by
  rw [hi]
  exact snd_const (pe_glob hg hm r hd) rep
/-- a built-in type's name -/
theorem snd_gty {x : Str} {i : Nat} {T' : String} {pos : Pos} (hg : Gl X x) (hm : X.mg x = none) (hv : bootBuiltins x = some (.type T')) (hn : x ≠ "__name__") (hd : (x == ("__debug__" : Str)) = false) (hi : G.glo i = some (.ty T')) : PE X (.Name x pos) (RdE X.K A W fun _ S => R.of (G.glo i) S) := by
  rw [hi]
  refine ⟨fun pins s σ H Q I ⟨g, ρ, S, c, f, h⟩ => ?_⟩
  refine ld_blt I hg hm hv ⟨.ty T', H, I, rfl, ?_⟩ hn hd
  exact Aft.use (W := W) (σ := σ) (show Aft X.K A (repV X.K A) W σ (.ok (.ty T') S) g H S Q from h) c (.ty _)
theorem swapF {K : PySem.W.Frag} {g : Gh} {H : Hp} {f : Nat} {v : V} {t : T} (hf : f < A.n) (r : Rep K A H g v t) : ∀ {fs : List (Nat × T)} {vs : List (Str × V)}, RepF K A H g vs fs → vs.lookup (A.nm f) = some v → RepF K A H g vs (putN f t fs)
  | [], _, .nil, h => by simp at h
  | (g', w) :: fs, _, .cons hk a q, h => by
    unfold putN
    by_cases e : g' = f
    · subst e
      rw [if_pos rfl]
      have hv := h
      simp only [List.lookup, beq_self_eq_true] at hv
      cases hv
      exact .cons hf r q
    · have e2 : (A.nm f == A.nm g') = false := by
        have : A.nm f ≠ A.nm g' := fun z => e (A.inj _ _ hk hf z.symm)
        simpa using this
      rw [if_neg e]
      simp only [List.lookup, e2] at h
      exact .cons hk a (swapF hf r q h)
theorem Cn.renode {K : PySem.W.Frag} {g : Gh} {H : Hp} {S : Store} {k : Nat} {x y : Nd} {b : Addr} (c : Cn K A g H S) (hk : S[k]? = some (some x)) (hb : g.m k = some b) (hy : NdR K A H g b y) : Cn K A g H (S.set k (some y)) := by
  obtain ⟨o, ho⟩ : ∃ o, H b = some o := by
    cases e : H b with
    | none => exact absurd e hy.there
    | some o => exact ⟨o, rfl⟩
  have eu : upd H b o = H := by
    funext a
    by_cases e : a = b
    · subst e; rw [upd_same, ho]
    · rw [upd_ne e]
  have := (c.write (o := o) (y := y) hk hb (by rw [eu]; exact hy)).2
  rwa [eu] at this
theorem settle_ok {K : PySem.W.Frag} {g : Gh} {H : Hp} {S S' : Store} {ρ : Fr} {i f : Nat} (hf : f < A.n) (c : Cn K A g H S) (e : settleS ρ S i f = some S') : ∃ g1, Ex g H g1 H ∧ Cn K A g1 H S' ∧ S.length ≤ S'.length := by
  unfold settleS at e
  split at e
  · rename_i k _
    split at e
    · rename_i cc fs en
      split at e
      · rename_i j el
        split at e
        · cases e
        · rename_i hjk
          obtain ⟨b, b1, b2, b3⟩ := c.nd k _ (nd_get en)
          have go : ∀ (nd : Nd), S.nd j = some nd → S' = (S.set j none).set k (some (.ins cc (putN f nd.tree fs))) → ∃ g1, Ex g H g1 H ∧ Cn K A g1 H S' ∧ S.length ≤ S'.length := fun nd ej es => by
            obtain ⟨a, a1, a2, a3⟩ := c.nd j _ (nd_get ej)
            have hab : a ≠ b := fun z => hjk (c.inj j k a a1 (by rw [z]; exact b1))
            obtain ⟨x1, c1⟩ := (c.drop j).keep (p := a) a3.there a3.nt (fun l x hl hm => by
              have := c.inj l j a hm a1
              subst this
              by_cases hlt : l < S.length
              · rw [List.getElem?_set_self hlt] at hl; cases hl
              · rw [List.getElem?_eq_none (by rw [List.length_set]; omega)] at hl; cases hl) .refl (.inr ⟨j, a1⟩)
            have hk' : (S.set j none)[k]? = some (some (.ins cc fs)) := by rw [List.getElem?_set_ne hjk]; exact nd_get en
            refine ⟨_, x1, ?_, by rw [es, List.length_set, List.length_set]; exact Nat.le_refl _⟩
            rw [es]
            cases b3 with
            | ins q rs =>
              obtain ⟨v, e1, e2⟩ := (rs.look hf).1 _ el
              have ev : v = .ref a := by
                cases e2 with
                | ref hm => rw [Option.some.inj (hm.symm.trans a1)]
              subst ev
              have rt : Rep K A H (g.addF a) (.ref a) nd.tree := NdR.tree (NdR.weak (g := g) (g' := g.addF a) (fun _ _ z => z) (fun _ z => Or.inl z) a3) (Or.inr rfl)
              exact c1.renode hk' b1 (.ins q (swapF hf rt (rs.ex x1) e1))
          split at e
          · rename_i kvs ej
            cases e
            exact go (.dct kvs) ej rfl
          · rename_i xs ej
            cases e
            exact go (.lst xs) ej rfl
          · cases e
      · cases e
    · cases e
  · cases e
theorem snd_settle {i f : Nat} {rest : List Stmt} {f2 : Fr → Store → O} (hf : f < A.n) (h2 : PSs X rest (RdS X.K A W f2)) : PSs X rest (RdS X.K A W fun ρ S => (match settleS ρ S i f with
    | some S1 => O.nx ρ S1
    | none => .no).thn fun ρ1 S1 => f2 ρ1 S1) := by
  refine snd_ghost h2 fun g H ρ S σ c _ => ?_
  cases e : settleS ρ S i f with
  | none => exact .inl rfl
  | some S1 =>
    obtain ⟨g1, x, c1, l⟩ := settle_ok hf c e
    exact .inr ⟨S1, g1, rfl, x, c1, l⟩
theorem hard_ok {K : PySem.W.Frag} {g : Gh} {H : Hp} {S S' : Store} {σ : L2.St} {ρ ρ' : Fr} {i : Nat} (c : Cn K A g H S) (f : FrR K A H g σ ρ) (e : hardS ρ S i = some (ρ', S')) : ∃ g1, Ex g H g1 H ∧ Cn K A g1 H S' ∧ S.length ≤ S'.length ∧ FrR K A H g1 σ ρ' := by
  unfold hardS at e
  cases e0 : ρ[i]? with
  | none => rw [e0] at e; cases e
  | some o =>
    cases o with
    | none => rw [e0] at e; cases e
    | some t =>
      rw [e0] at e
      simp only at e
      cases e1 : frz 0 8 t S with
      | none => rw [e1] at e; cases e
      | some p =>
        obtain ⟨t', S1⟩ := p
        rw [e1] at e
        simp only [Option.some.injEq, Prod.mk.injEq] at e
        obtain ⟨rfl, rfl⟩ := e
        obtain ⟨v, s0, r⟩ := f.2 i t e0
        obtain ⟨ho, hl, g', x2, c2, hm, r2⟩ := frz_ok 0 8 H g S t v t' S1 c r e1
        have f2 := (f.ex x2).set (i := i) r2
        have es : σ.set i (some v) = σ := by
          apply List.ext_getElem?
          intro j
          by_cases q : i = j
          · subst q
            rw [s0]
            exact List.getElem?_set_self (List.getElem?_eq_some_iff.mp s0).1
          · exact List.getElem?_set_ne q
        rw [es] at f2
        exact ⟨g', x2, c2, Nat.le_of_eq hl.1.symm, f2⟩
theorem snd_hard {i : Nat} {rest : List Stmt} {f2 : Fr → Store → O} (h2 : PSs X rest (RdS X.K A W f2)) : PSs X rest (RdS X.K A W fun ρ S => (match hardS ρ S i with
    | some (ρ1, S1) => O.nx ρ1 S1
    | none => .no).thn fun ρ1 S1 => f2 ρ1 S1) := by
  refine h2.imp fun D σ H ⟨g, ρ, S, c, f, h⟩ => ?_
  replace h : AftO X.K A W ((match hardS ρ S i with
    | some (ρ1, S1) => O.nx ρ1 S1
    | none => .no).thn fun ρ1 S1 => f2 ρ1 S1) g H S D := h
  cases e : hardS ρ S i with
  | none => rw [e] at h; exact h.elim
  | some p =>
    obtain ⟨ρ1, S1⟩ := p
    rw [e] at h
    obtain ⟨g1, x, c1, l, f1⟩ := hard_ok c f e
    exact ⟨g1, ρ1, S1, c1, f1, AftO.later h x l⟩
end
end NH
end
section
namespace NH
open PySem L2 PyProof.Rows

section
variable {X : Cx} {A : Ad} {G : Gam} {W : WX} {n : Nat}
theorem each_of {R : Value → T × V → Prop} : ∀ {vs : List Value} {ts : List T} {xs : List V}, Vals xs vs → xs.length = ts.length → (∀ (u : Value) (t : T) (x : V), RelV x u → (t, x) ∈ ts.zip xs → R u (t, x)) → PySem.W.EachIs R vs (ts.zip xs)
  | [], ts, xs, r, hl, h => by
    cases r
    rw [List.zip_nil_right]
    exact .nil
  | v :: vs, ts, xs, r, hl, h => by
    cases r with
    | cons a r =>
      cases ts with
      | nil => cases hl
      | cons t ts => exact .cons (h _ _ _ a (List.mem_cons_self ..)) (each_of r (Nat.succ.inj hl) fun u t x q m => h u t x q (List.mem_cons_of_mem _ m))
theorem vals_each : ∀ {out : List Value} {bs : List (T × V)}, PySem.W.EachIs (fun u (b : T × V) => RelV b.2 u) out bs → Vals (bs.map (·.2)) out
  | _, _, .nil => .nil
  | _, _, .cons a r => .cons a (vals_each r)
theorem zip_self_map {α β : Type} : ∀ (xs : List α) (ys : List β), xs.length = ys.length → (xs.zip ys).map (fun p => (p.1, p.1)) = xs.zip xs
  | [], _, _ => by simp
  | x :: xs, [], h => by cases h
  | x :: xs, y :: ys, h => by simp [zip_self_map xs ys (Nat.succ.inj h)]
theorem reps_zip {K : PySem.W.Frag} {g : Gh} {H : Hp} : ∀ {vs : List V} {ts : List T}, Reps K A H g vs ts → ∀ p ∈ ts.zip vs, Rep K A H g p.2 p.1
  | _, _, .nil, p, h => by simp at h
  | _, _, .cons a r, p, h => by
    rcases List.mem_cons.mp h with e | h
    · subst e; exact a
    · exact reps_zip r p h
theorem reps_of {K : PySem.W.Frag} {g : Gh} {H : Hp} : ∀ {bs : List (T × V)}, (∀ p ∈ bs, Rep K A H g p.2 p.1) → Reps K A H g (bs.map (·.2)) (bs.map (·.1))
  | [], _ => .nil
  | b :: bs, h => .cons (h b (List.mem_cons_self ..)) (reps_of fun p hp => h p (List.mem_cons_of_mem _ hp))
open Classical in
theorem cr_sorted (hr : Room (5 * n + 1) X.A) : CallR X (.builtin "sorted") (fun xs H Q => ∃ (g : Gh) (S : Store) (t : T) (ts : List T) (x : V), xs = [x] ∧ Cn X.K A g H S ∧ Rep X.K A H g x t ∧ view S t = .lst ts ∧ keysOk ts ∧ ∀ (l : Addr) (ws : List V), H l = none → Reps X.K A H g ws (sortBy ts ts) → Q (.ref l) (upd H l (.lst ws))) := by
  rintro pins s σ H xs us Q I rv ⟨g, S, t, ts, x, rfl, c, r, ev, hk, hq⟩
  obtain ⟨u, rfl, ru⟩ := rv.one
  obtain ⟨a, vs, rfl, ha, rs⟩ := c.lstV r ev
  obtain rfl : u = Value.ref a := ru
  obtain ⟨its, rvi, pl, hz⟩ := I.list (xs := vs) (.of ha)
  have hl : vs.length = ts.length := rs.length
  have hli : vs.length = its.length := rvi.length
  have hm : (ts.zip vs).map (fun b : T × V => b.1.toD) = ts.map T.toD := by
    rw [show (fun b : T × V => b.1.toD) = T.toD ∘ Prod.fst from rfl, ← List.map_map, List.map_fst_zip (by omega)]
  have reads : ∀ (u : Value) (t : T) (x : V), RelV x u → (t, x) ∈ ts.zip vs → ∃ as, Reads s.heap u t.toD as := fun u t x ru hm => by
    have hr := reps_zip rs _ hm
    have hd := hk.2.1 t (List.of_mem_zip hm).1
    exact Dp.reads I _ _ _ (Rep.dp hd hr).1 ru
  refine PySem.W.sorted_data (R := fun u (b : T × V) => RelV b.2 u) (enc := fun b : T × V => b.1.toD) (bs := ts.zip vs) (vs := its) pl.isList (each_of rvi hl fun u t x q _ => q) (each_of rvi hl reads) (by rw [hm]; exact hk.2.2.1) (by rw [hm]; exact hk.2.2.2) (by rw [List.length_zip]; have := hk.1; omega) (fun b hb => ?_) fun out ho eo => ?_
  · have hd := hk.2.1 b.1 (List.of_mem_zip (show (b.1, b.2) ∈ ts.zip vs from hb)).1
    have hr' := (Rep.dp hd (reps_zip rs _ hb)).2.2
    have := hr.un
    omega
  · obtain ⟨m, hF⟩ := I.fr
    obtain ⟨cc, a1, a2, a3, a4⟩ := PySem.W.sorted_news hF (news := []) (fun q hq => by simp at hq) its out
    have hg := (a2 _ (List.mem_cons_self ..)).1
    have hn : H (s.heap.objs.size + 1) = none := I.hok.fresh (Nat.le_succ _)
    have rel := vals_each eo
    have lo : ((ts.zip vs).mergeSort (PySem.W.dataLe false fun b => b.1.toD)).length ≤ sizeLine := by
      rw [List.length_mergeSort, List.length_zip]; have := hk.1; omega
    refine ⟨.ref (s.heap.objs.size + 1), _, I.laid (a := s.heap.objs.size + 1) (o := .lst _) (t' := s.toks) (fun b u q => a4 b u q) (Nat.le_succ _) ⟨by rw [List.length_map]; exact lo, out, cc, rel, hg⟩, rfl, hq _ _ hn ?_⟩
    have e : sortBy ts ts = ((ts.zip vs).mergeSort (PySem.W.dataLe false fun b => b.1.toD)).map (·.1) := by
      unfold sortBy
      rw [← zip_self_map ts vs hl.symm, ← List.map_mergeSort (r := PySem.W.dataLe false fun b : T × V => b.1.toD) (f := fun p : T × V => (p.1, p.1)) (fun a _ b _ => rfl), List.map_map]
      rfl
    rw [e]
    exact reps_of fun p hp => reps_zip rs p ((List.mergeSort_perm _ _).mem_iff.mp hp)
open Classical in
noncomputable def srtN (r : R T) : R Nd := r.bind fun v S1 => (match view S1 v with
  | .lst xs => if keysOk xs then .ok (.lst (sortBy xs xs)) S1 else .no
  | _ => .no)
open Classical in
theorem snd_srt {e : Expr} {fe : Fr → Store → R T} {p pos : Pos} (hr : Room (5 * n + 1) X.A) (he : PE X e (RdE X.K A W fe)) (hg : Gl X "sorted") (hm : X.mg "sorted" = none) (hs : isStar e = false) : PE X (.Call (.Name "sorted" p) [e] [] pos) (RdN X.K A W fun ρ S => srtN (fe ρ S)) := by
  have ha : PA X [e] (RdA X.K A W fun ρ S => (fe ρ S).bind fun v S1 => (R.ok [] S1).bind fun vs S2 => .ok (v :: vs) S2) := snd_cons he snd_nil (starEach_plain hs)
  refine (pe_callB (p := p) (pos := pos) (cr_sorted (A := A) hr) hg hm (by decide +kernel) ha (by decide) (by decide) (starEach_plain hs) rfl).imp fun σ H Q ⟨g, ρ, S, c, f, h⟩ => ⟨g, ρ, S, c, f, ?_⟩
  replace h : Aft X.K A (NewN X.K A H) W σ (srtN (fe ρ S)) g H S Q := h
  show Aft X.K A (repL X.K A) W σ ((fe ρ S).bind fun v S1 => (R.ok [] S1).bind fun vs S2 => .ok (v :: vs) S2) g H S _
  cases ef : fe ρ S with
  | exc x S1 => rw [ef] at h; exact h
  | no => rw [ef] at h; exact h.elim
  | ok t S1 =>
    rw [ef] at h
    replace h : Aft X.K A (NewN X.K A H) W σ (match view S1 t with
      | .lst xs => if keysOk xs then .ok (.lst (sortBy xs xs)) S1 else .no
      | _ => .no) g H S Q := h
    intro g1 H1 vs x1 c1 l1 rs
    obtain ⟨v, rfl, r⟩ := Reps.one rs
    cases ev : view S1 t with
    | lst xs =>
      rw [ev] at h
      by_cases hk : keysOk xs
      · simp only [if_pos hk] at h
        refine ⟨g1, S1, t, xs, v, rfl, c1, r, ev, hk, fun l ws hl rw' => ?_⟩
        obtain ⟨x0, _⟩ := c1.new (o := .lst ws) hl
        obtain ⟨x2, c2, n2⟩ := newN (H0 := H) (nd := .lst (sortBy xs xs)) c1 hl (x1.none hl) (.lst upd_same (rw'.ex x0))
        exact h g1 _ _ (x1.trans x2) c2 l1 n2
      · simp only [if_neg hk] at h
        exact h.elim
    | _ => rw [ev] at h; exact h.elim
end
end NH
end
section
namespace NH
open PySem L2 PyProof.Rows

section
variable {X : Cx} {A : Ad} {G : Gam} {W : WX} {n : Nat}
/-- from a heap to one in which all but tables stay -/
theorem Cn.extN {K : PySem.W.Frag} {g : Gh} {H H1 : Hp} {S : Store} (c : Cn K A g H S) (e : LamX.ExtN H H1) (t : LamX.Tabs A.T H1) (nn : ∀ a, H a ≠ none → H1 a ≠ none) : Ex g H g H1 ∧ Cn K A g H1 S := by
  have fk : ∀ a, g.F a → H1 a = H a := fun a h => by
    cases q : H a with
    | none => exact absurd q (c.live a h)
    | some o => exact e a o q fun ps z => c.ft a h ps (by rw [q, z])
  have ex : Ex g H g H1 := ⟨fun a h => ⟨h, fk a h⟩, fun _ _ h => h, fun a o h _ ho => e a o h ho, fun _ _ h => .inl h, nn, fun _ h => .inl h, fun a cc q h => e a _ h LamX.codeO_ne⟩
  refine ⟨ex, fun a h => nn a (c.live a h), fun k a h => nn a (c.mlive k a h), fun k x h => ?_, c.inj, c.len, t, fun a h ps z => c.ft a h ps ((fk a h).symm.trans z)⟩
  obtain ⟨b, q1, q2, q3⟩ := c.nd k x h
  have hb : H1 b = H b := by
    cases q : H b with
    | none => exact absurd q q3.there
    | some o => exact e b o q fun ps z => q3.nt ps (by rw [q, z])
  exact ⟨b, q1, q2, q3.ex ex hb⟩
/-- one parameter, of no default -/
def oneArg (params : Arguments) (y : Str) : Bool := match params with
  | ⟨[], [⟨z, _, _⟩], none, [], [], none, []⟩ => z == y
  | _ => false
theorem oneArg_bind {params : Arguments} {y : Str} (h : oneArg params y = true) {qual : Str} {body : Expr} {scope : Scope} {cl : List (Str × Addr)} {pm cdv ct u : Value} : bindArgs (PySem.W.kla_fn "<lambda>" qual params body scope cl pm cdv ct) ⟨[u], []⟩ = pure [(y, u)] := by
  unfold oneArg at h
  split at h
  · rename_i z an p
    obtain rfl : z = y := by simpa using h
    unfold bindArgs
    simp [PySem.W.kla_fn, seqItems?]
    rfl
  · cases h
theorem oneArg_dflt {params : Arguments} {y : Str} (h : oneArg params y = true) {env : Env} : defaultsOf params env = ([], []) := by
  unfold oneArg at h
  split at h
  · rfl
  · cases h
/-- a lambda's names: its parameter, what it captures, the module's -/
structure LamP (sc scope : Scope) (y : Str) (caps : List Str) : Prop where
  kind : scope.kind = .function
  co : scope.isCoroutine = false
  gen : scope.isGenerator = false
  par : scope.names.lookup y = some .local
  own : ∀ z ∈ scope.names, z.2 ≠ .cell ∧ (z.2 = .local → z.1 = y)
  free : ∀ z ∈ scope.names, z.2 = .free → z.1 ≠ y ∧ (sc.names.lookup z.1 = some .cell ∨ sc.names.lookup z.1 = some .free)
def lamPB (sc scope : Scope) (y : Str) : Bool := decide (scope.kind = .function) && !scope.isCoroutine && !scope.isGenerator && decide (scope.names.lookup y = some .local) &&
  scope.names.all fun z => !decide (z.2 = .cell) && (!decide (z.2 = .local) || z.1 == y) && (!decide (z.2 = .free) || (!(z.1 == y) && (decide (sc.names.lookup z.1 = some .cell) || decide (sc.names.lookup z.1 = some .free))))
theorem lamP_by {sc scope : Scope} {y : Str} {caps : List Str} (h : lamPB sc scope y = true) : LamP sc scope y caps := by
  unfold lamPB at h
  simp only [Bool.and_eq_true, Bool.or_eq_true, Bool.not_eq_true', decide_eq_true_eq, decide_eq_false_iff_not, List.all_eq_true, beq_iff_eq, beq_eq_false_iff_ne] at h
  obtain ⟨⟨⟨⟨h1, h2⟩, h3⟩, h4⟩, h5⟩ := h
  exact ⟨h1, h2, h3, h4, fun z hz => ⟨(h5 z hz).1.1, fun e => (h5 z hz).1.2.elim (fun q => absurd e q) id⟩, fun z hz e => (h5 z hz).2.elim (fun q => absurd e q) id⟩
/-- the context of a lambda's body, called at s -/
def lamC (X : Cx) (A' : Around) (N' : List Str) (s : Shared) (H : Hp) (scope : Scope) (f c' : Addr) : Cx where
  prog := X.prog
  w := X.w
  K := X.K
  mg := X.mg
  base := X.base
  A := A'.deeper (LamX.lamEnv X scope s.heap.objs.size f c')
  N := N'
  s_0 := s
  H_0 := H
  env := LamX.lamEnv X scope s.heap.objs.size f c'
  outer := X.stack
  stack := LamX.lamEnv X scope s.heap.objs.size f c' :: X.stack
  ex := []
  fn := fun _ => false
  calm := true
  pn := []
  xe := fun _ _ => False
theorem lam_inv {pins : List (Addr × Obj)} {σ : L2.St} {H : Hp} {s : Shared} {A' : Around} {y : Str} {caps : List Str} {scope : Scope} {f c' : Addr} {h₁ : Heap} {tk : Nat} {u : Value} {v : V} {cvs : List V} (I : Inv X pins σ H s) (L : LamP X.env.scope scope y caps) (hA : A'.frames = X.A.frames) (hd : A'.handled = none)
    (hc : ∀ (j : Nat) (x : Str), caps[j]? = some x → x ≠ y ∧ ∃ (i : Nat) (v : V), X.N[i]? = some x ∧ σ[i]? = some (some v) ∧ cvs[j]? = some v) (hl : cvs.length = caps.length) (hns : h₁.Ns s.heap.objs.size fun x => [(y, u)].reverse.lookup x) (rv : RelV v u) (kp : ∀ b o, s.heap.get? b = some o → h₁.get? b = some o) :
    Inv (lamC X A' (y :: caps) s H scope f c') [] (some v :: cvs.map some) H { s with heap := h₁, toks := tk } := by
  have e0 := I.env0
  have hfree : ∀ z ∈ scope.names, z.2 = .free → ∃ c, X.env.cells.lookup z.1 = some c := fun z hz e => by
    rcases (L.free z hz e).2 with k | k
    · exact I.ok.has _ (.inl k)
    · exact I.ok.has _ (.inr k)
  have cm : ∀ {x c}, (cloFrom X.env.cells scope.names []).lookup x = some c → X.env.cells.lookup x = some c := fun {x c} e => by
    rcases cloFrom_mem (PySem.mem_of_lookup e) with hm | ⟨h1, h2⟩
    · cases hm
    · obtain ⟨c1, hc⟩ := hfree _ h1 rfl
      have hc : X.env.cells.lookup x = some c1 := hc
      have e2 : c = c1 := by rw [h2, hc] <;> rfl
      rw [e2]; exact hc
  have look : ∀ {x}, scope.names.lookup x = some .free → ∃ c, (cloFrom X.env.cells scope.names []).lookup x = some c := fun {x} hl => by
    have hx : (x, NameKind.free) ∈ scope.names := PySem.mem_of_lookup hl
    exact mem_lookup (cloFrom_has (cells := X.env.cells) (acc := []) hx)
  have cellK : ∀ {c : Addr} {v : Option Value}, s.heap.IsCell c v → h₁.IsCell c v := fun {c v} ⟨o, ho, hd⟩ => ⟨o, kp _ _ ho, hd⟩
  have noA : ∀ b : Addr, b ∉ (lamC X A' (y :: caps) s H scope f c').ex := fun b z => absurd (show b ∈ ([] : List Addr) from z) (by simp)
  refine ⟨⟨e0.mod, L.kind, rfl, rfl, Nat.le_refl _, fun x z c e1 e2 => I.ok.inj x z c (cm e1) (cm e2), fun x hx => ?_, fun x c z _ => ?_, fun _ => hd, Around.frames_deeper (hA.trans e0.frames), .inr ⟨rfl, rfl⟩, fun b z => absurd z (noA b), e0.bs, e0.bsz, fun b _ _ => noA b,
      fun b z => absurd z (noA b), e0.funs, e0.frf⟩,
    rfl, e0.bare, Un.kept kp, ⟨_, hns, fun i x v' e1 e2 e3 => ?_⟩, fun x c e => ?_, e0.hok.fresh (Nat.le_refl _), fun x c e => I.freeC x c (cm e), fun q hq => absurd (show q ∈ ([] : List (Addr × Obj)) ++ [] from hq) (by simp), e0.hok.kept kp, ?_⟩
  · have hx : scope.names.lookup x = some .cell ∨ scope.names.lookup x = some .free := hx
    rcases hx with hx | hx
    · exact absurd rfl (L.own _ (PySem.mem_of_lookup hx)).1
    · exact look hx
  · have z : false = true := z
    cases z
  · have e1 : (y :: caps)[i]? = some x := e1
    have e3 : Vis scope x := e3
    cases i with
    | zero =>
      simp only [List.getElem?_cons_zero, Option.some.injEq] at e1 e2
      subst e1
      subst e2
      refine ⟨u, rv, .inl ⟨L.par, ?_⟩⟩
      simp
    | succ j =>
      simp only [List.getElem?_cons_succ] at e1 e2
      obtain ⟨nx, i', v2, q1, q2, q3⟩ := hc j x e1
      rw [List.getElem?_map, q3] at e2
      simp only [Option.map_some, Option.some.injEq] at e2
      subst e2
      have hfr : scope.names.lookup x = some .free := by
        rcases e3 with k | k | k
        · exact absurd ((L.own _ (PySem.mem_of_lookup k)).2 rfl) nx
        · exact absurd rfl (L.own _ (PySem.mem_of_lookup k)).1
        · exact k
      obtain ⟨m, hn, hlk⟩ := I.loc
      have hvis : Vis X.env.scope x := ((L.free _ (PySem.mem_of_lookup hfr) rfl).2).elim (fun k => .inr (.inl k)) (fun k => .inr (.inr k))
      obtain ⟨w', r, q⟩ := hlk i' x v2 q1 q2 hvis
      obtain ⟨c2, h2⟩ := look hfr
      refine ⟨w', r, .inr ⟨.inr hfr, c2, h2, ?_⟩⟩
      have c1 := cm h2
      rcases q with ⟨k', _⟩ | ⟨_, c3, e', z⟩
      · have k' : X.env.scope.names.lookup x = some .local := k'
        rcases (L.free _ (PySem.mem_of_lookup hfr) rfl).2 with k2 | k2 <;> rw [show X.env.scope.names.lookup x = _ from k2] at k' <;> cases k'
      · rw [c1] at e'
        cases e'
        exact cellK z
  · obtain ⟨w', z⟩ := I.cell x c (cm e)
    exact ⟨w', cellK z⟩
  · show (some v :: cvs.map some).length = (y :: caps).length
    simp [hl]
/-- a call of the lambda at f, anywhere in the frame; it lets no exception out -/
theorem lam_call {pins : List (Addr × Obj)} {σ : L2.St} {H : Hp} {s : Shared} {A' : Around} {y : Str} {caps : List Str} {scope : Scope} {params : Arguments} {body : Expr} {f c' : Addr} {pm ctv : Value} {u : Value} {v : V} {t : T} {cvs : List V} {cts : List T} {g : Gh} {S : Store} {Q : VK} {fb : Fr → Store → R T}
    (I : Inv X pins σ H s) (L : LamP X.env.scope scope y caps) (hp : oneArg params y = true) (hA : A'.frames = X.A.frames) (hd : A'.handled = none) (hdp : A'.depth < recursionLimit) (hc : ∀ (j : Nat) (x : Str), caps[j]? = some x → x ≠ y ∧ ∃ (i : Nat) (v : V), X.N[i]? = some x ∧ σ[i]? = some (some v) ∧ cvs[j]? = some v) (hl : cvs.length = caps.length)
    (hf : s.heap.get? f = some (PySem.W.kla_obj "<lambda>" (X.env.qual ++ "<lambda>") params body scope (cloFrom X.env.cells scope.names []) pm c' ctv)) (hco : H c' = some (LamX.CodeO c' (X.env.qual ++ "<lambda>")))
    (hb : PE (lamC X A' (y :: caps) s H scope f c') body (RdE X.K A WF fb)) (rv : RelV v u) (c : Cn X.K A g H S) (r : Rep X.K A H g v t) (rc : Reps X.K A H g cvs cts)
    (h : Aft X.K A (repV X.K A) WF σ (fb (some t :: cts.map some) S) g H S Q) : wpAny (model X.prog X.w) A' (call (.ref f) [u]) (CE X.stack X.prog X.w H s Q) (fun _ _ => False) s := by
  obtain ⟨⟨oc, vs, tk, hoc, hdc, hvc⟩, _, _⟩ := I.hok c' _ hco
  refine wpAny_call (codeAny_mono (R := CR (L2.CX X.prog X.w) X.stack X.prog X.w H s Q fun _ _ _ => False) ?_ fun r s' hq => ?_)
  · refine PySem.W.kla_callFunE hdp hf rfl L.co L.gen rfl ⟨c', oc, vs, tk, rfl, hoc, hdc, hvc⟩ ?_
    rw [oneArg_bind hp]
    refine wpAny_pure (wpAny_newFunctionEnv (fun z hz => (L.own z hz).1) (fun z hz => ?_) (fun h₁ hns hsb => ⟨I.nolimit.fresh _ hsb, ?_⟩) L.kind)
    · rw [List.mem_singleton] at hz
      subst hz
      exact L.par
    · show codeAny _ _ (.expr body (LamX.lamEnv X scope s.heap.objs.size f c')) _ _
      have kp : ∀ b o, s.heap.get? b = some o → h₁.get? b = some o := fun b o e => hsb.extBut b o (Nat.ne_of_lt (Heap.lt_size e)) (Heap.get?_push_of_some _ e)
      have J := lam_inv (tk := s.toks + [(y, u)].length) (f := f) (c' := c') I L hA hd hc hl hns rv kp
      refine PySem.W.kla_codeExpr (wpAny_mono (hb.run [] _ _ H Q J ⟨g, some t :: cts.map some, S, c, ?_, ?_⟩) (fun w s' hq => ?_) fun e s' hq => False.elim hq)
      · refine ⟨by simp [rc.length], fun i t' e => ?_⟩
        cases i with
        | zero =>
          simp only [List.getElem?_cons_zero, Option.some.injEq] at e
          subst e
          exact ⟨v, rfl, r⟩
        | succ j =>
          simp only [List.getElem?_cons_succ, List.getElem?_map] at e
          cases e1 : cts[j]? with
          | none => rw [e1] at e; cases e
          | some t1 =>
            rw [e1] at e
            cases e
            obtain ⟨v1, q1, q2⟩ := rc.get e1
            exact ⟨v1, by simp [q1], q2⟩
      · cases e : fb (some t :: cts.map some) S with
        | ok t S1 => rw [e] at h; exact h
        | exc x S1 => rw [e] at h; exact h
        | no => rw [e] at h; exact h
      · obtain ⟨w', H', J', rv', q⟩ := hq
        exact ⟨w', H', J'.os, J'.bare, J'.base, J'.hok, rv', q⟩
  · cases r with
    | error e =>
      obtain ⟨_, _, _, _, _, _, _, _, _, _, _, _, w⟩ := hq
      exact w.elim
    | ok fl =>
      cases fl with
      | ret u => exact hq
      | next => exact False.elim hq
      | brk => exact False.elim hq
      | cont => exact False.elim hq
end
end NH
end
section
namespace NH
open PySem PySem.W PySem.Calls PyProof.Rows

section
variable {prog : Program} {w : World} {A : Around} {E : Value → Shared → Prop} {s : Shared} {a kS : Addr} {b : Bool} {vs : List Value} {e1 : Nat} {P : PySem.Fin → Shared → Prop} {f : Value}

theorem keyJ_rest (J : Nat → Shared → Prop) (hka : kS ≠ a) (hZ : vs.length ≤ sizeLine) (h0 : J 0 s)
    (hJ : ∀ i s', J i s' → ∃ kA e, s'.heap.get? kS = some (seqObj "list" kA e) ∧ kA.size = i ∧ s'.heap.get? a = some (seqObj "list" #[] e1))
    (turn : ∀ (i : Nat) (v : Value) (s' : Shared), vs[i]? = some v → J i s' → wpAny (model prog w) A (call f [v]) (fun k s'' => ∃ kA e, s''.heap.get? kS = some (seqObj "list" kA e) ∧ kA.size = i ∧
      ∀ c2, (s''.heap.update kS (Obj.mapSeq (·.push k))).get? kS = some (seqObj "list" (kA.push k) c2) → J (i + 1) { s'' with heap := s''.heap.update kS (Obj.mapSeq (·.push k)) }) (fun _ _ => False) s')
    (done : ∀ s' kA e, J vs.length s' → s'.heap.get? kS = some (seqObj "list" kA e) → kA.size = vs.length → ∃ kz : List PyData, EachIs (fun v k => ∃ as, Reads s'.heap v k as) kA.toList kz ∧ AllAlike kz ∧ Sortable kz ∧ (∀ d, d ∈ kz → A.units + d.depth < cLine) ∧
      ∀ h' tk out c, (∀ b o, b ≠ a → b ≠ kS → s'.heap.get? b = some o → h'.get? b = some o) → h'.get? a = some (seqObj "list" (List.toArray out) c) → KeyedOut b kz vs out → P (.done (.ret .none)) { s' with heap := h', toks := tk }) :
    wpAny (model prog w) A (ksk_rest a f b vs.toArray e1 (.ref kS)) P E s := by
  unfold ksk_rest
  refine wpAny_bind (wpAny_rule ?_)
  first
    | rw [List.forIn_toArray]
    | (rw [← Array.forIn_toList]; simp only [List.toList_toArray])
    | rw [← Array.forIn_toList]
  refine wpAny_bind (ksk_fold (fun i s' => J i s') vs 0 s h0 ?step ?done)
  case step =>
    rintro j x s' hx hj
    simp only [Nat.zero_add] at hj ⊢
    have hjl : j < vs.length := (List.getElem?_eq_some_iff.mp hx).1
    refine wpAny_bind (wpAny_attempt (wpAny_mono (turn j x s' hx hj) (fun v s'' he => ?_) fun _ _ hF => hF.elim))
    obtain ⟨kA, e, nk, hsz, next⟩ := he
    try dsimp only
    obtain ⟨c2, hc2⟩ : ∃ c2, (s''.heap.update kS (Obj.mapSeq (·.push v))).get? kS = some (seqObj "list" (kA.push v) c2) := ⟨_, get?_update_seq nk (·.push v)⟩
    have hz : kA.size ≤ vs.length := by omega
    refine wpAny_bind (listUpdate_at nk rfl ?_ (Nat.le_trans hz hZ) (Nat.le_trans (Nat.le_of_eq (Array.size_push ..)) (Nat.succ_le_succ (Nat.le_trans hz hZ))))
    exact wpAny_pure ⟨rfl, next c2 hc2⟩
  case done =>
    rintro s' hj
    simp only [Nat.zero_add] at hj
    obtain ⟨kA, e, nk, hsz, na⟩ := hJ _ _ hj
    obtain ⟨kz, d1, d2, d3, d4, d5⟩ := done s' kA e hj nk hsz
    try dsimp only
    refine wpAny_bind (listItems_at nk rfl ?_)
    refine keyH_end (κ := dataKind s'.heap kz) (h₁ := hideAll s'.heap [kS]) (fun b o _ e => of_hideAll _ e) (hideAll_none _ (List.mem_singleton.mpr rfl)) nk na hka (SortsAt.data (s := s') d1 d2 d3 d4) hsz hZ fun h3 tk3 c k3 n3 => ?_
    exact d5 h3 tk3 _ c (fun b o hb hk e => k3 b o hb (hideAll_get _ e fun hm => hk (List.mem_singleton.mp hm))) n3 ⟨s'.heap, kA.toList, d2, rfl, d1⟩
end

section
variable {prog : Program} {w : World} {A : Around} {E : Value → Shared → Prop} {s : Shared} {l q : Addr} {vs : List Value} {Q : Value → Shared → Prop}
/-- sorted(xs, key=f): the copy stands at D, the keys' list at kS; both are of no one -/
theorem sorted_keyJ (hl : s.heap.IsList l vs.toArray) (hZ : vs.length ≤ sizeLine)
    (h0 : ∀ (h : Heap) (D kS e1 : Nat), (∀ b o, s.heap.get? b = some o → h.get? b = some o) → D = s.heap.objs.size + 1 → D < kS → h.get? D = some (seqObj "list" #[] e1) → h.get? kS = some (seqObj "list" #[] 0) →
      ∃ J : Nat → Shared → Prop, J 0 { s with heap := h } ∧ (∀ i s', J i s' → ∃ kA e, s'.heap.get? kS = some (seqObj "list" kA e) ∧ kA.size = i ∧ s'.heap.get? D = some (seqObj "list" #[] e1)) ∧
      (∀ (i : Nat) (v : Value) (s' : Shared), vs[i]? = some v → J i s' → wpAny (model prog w) A.in1.in1 (call (.ref q) [v]) (fun k s'' => ∃ kA e, s''.heap.get? kS = some (seqObj "list" kA e) ∧ kA.size = i ∧
        ∀ c2, (s''.heap.update kS (Obj.mapSeq (·.push k))).get? kS = some (seqObj "list" (kA.push k) c2) → J (i + 1) { s'' with heap := s''.heap.update kS (Obj.mapSeq (·.push k)) }) (fun _ _ => False) s') ∧
      ∀ s' kA e, J vs.length s' → s'.heap.get? kS = some (seqObj "list" kA e) → kA.size = vs.length → ∃ kz : List PyData, EachIs (fun v k => ∃ as, Reads s'.heap v k as) kA.toList kz ∧ AllAlike kz ∧ Sortable kz ∧ (∀ d, d ∈ kz → A.in1.in1.units + d.depth < cLine) ∧
        ∀ h' tk out c, (∀ b o, b ≠ D → b ≠ kS → s'.heap.get? b = some o → h'.get? b = some o) → h'.get? D = some (seqObj "list" (List.toArray out) c) → KeyedOut false kz vs out → Q (.ref D) { s' with heap := h', toks := tk }) :
    wpAny (model prog w) A (call (.builtin "sorted") [.ref l] [(Str.ofString "key", .ref q)]) Q E s := by
  refine sorted_of_sort hl hZ (ksk_s1 _ _) (fun _ => ksk_l1 _ _) fun E' => ?_
  rw [ksk_t1]
  have ho := copyHeap_at s.heap vs
  have hlt := Heap.lt_size ho
  obtain ⟨e1, ho1⟩ : ∃ e1, ((copyHeap s.heap vs).update (s.heap.objs.size + 1) (Obj.mapSeq fun _ => (#[] : Array Value))).get? (s.heap.objs.size + 1) = some (seqObj "list" #[] e1) := ⟨_, get?_update_seq ho fun _ => #[]⟩
  have hkS : (((copyHeap s.heap vs).update (s.heap.objs.size + 1) (Obj.mapSeq fun _ => (#[] : Array Value))).push (seqObj "tuple" vs.toArray 0)).objs.size = (copyHeap s.heap vs).objs.size + 1 := by rw [size_push', Heap.size_update]
  unfold ksk_tree
  refine wpAny_bind (listItems_at ho rfl ?_)
  refine wpAny_bind (listUpdate_at ho rfl ?_ (by rw [List.size_toArray]; exact hZ) (Nat.zero_le _))
  refine wpAny_bind (seqEpoch_at ho1 rfl ?_)
  refine wpAny_bind (wpAny_newTuple ?_ (by show vs.length ≤ _; exact hZ))
  refine wpAny_bind (wpAny_newList ?_ (Nat.zero_le _))
  refine wpAny_holding ?_
  have kp : KeepsBut (s.heap.objs.size + 1) (copyHeap s.heap vs) (sortingHeap (copyHeap s.heap vs) (s.heap.objs.size + 1) vs) := fun b o hb q => sortingHeap_old hb q
  have up : ∀ b o, s.heap.get? b = some o → (sortingHeap (copyHeap s.heap vs) (s.heap.objs.size + 1) vs).get? b = some o := fun b o q =>
    kp b o (Nat.ne_of_lt (Nat.lt_succ_of_lt (Heap.lt_size q))) (copyHeap_old q)
  obtain ⟨J, j0, j1, j2, j3⟩ := h0 (sortingHeap (copyHeap s.heap vs) (s.heap.objs.size + 1) vs) (s.heap.objs.size + 1) (((copyHeap s.heap vs).update (s.heap.objs.size + 1) (Obj.mapSeq fun _ => (#[] : Array Value))).push (seqObj "tuple" vs.toArray 0)).objs.size e1 up rfl
    (by rw [hkS]; exact Nat.lt_succ_of_lt hlt) (Heap.get?_push_of_some _ (Heap.get?_push_of_some _ ho1)) (Heap.get?_push_size _ rfl)
  refine keyJ_rest J (by rw [hkS]; exact Nat.ne_of_gt (Nat.lt_succ_of_lt hlt)) hZ j0 j1 j2 fun s' kA e hj hk hs => ?_
  obtain ⟨kz, d1, d2, d3, d4, d5⟩ := j3 s' kA e hj hk hs
  exact ⟨kz, d1, d2, d3, d4, fun h' tk out c kp2 n3 ko => ⟨rfl, d5 h' tk out c kp2 n3 ko⟩⟩
end
end NH
end
section
namespace NH
open PySem L2 PyProof.Rows

section
variable {X : Cx} {A : Ad} {G : Gam} {W : WX} {n : Nat}
/-- an object that nobody knows and that stays as it is -/
def PinOk (X : Cx) (H : Hp) (h : Heap) (p : Addr × Obj) : Prop := h.get? p.1 = some p.2 ∧ H p.1 = none ∧ p.1 ≠ X.env.locals ∧ p.1 ∉ X.fs ∧ ∀ v, p.2.data ≠ .cell v
theorem pin_add {pins pl : List (Addr × Obj)} {σ : L2.St} {H : Hp} {s : Shared} (I : Inv X pins σ H s) (h : ∀ p ∈ pl, PinOk X H s.heap p) : Inv X (pins ++ pl) σ H s :=
  I.pins_of fun p hp => (List.mem_append.mp hp).elim (fun z => I.pin p (List.mem_append_right _ z)) (h p)
theorem pin_at {pins pl : List (Addr × Obj)} {σ : L2.St} {H : Hp} {s : Shared} (I : Inv X (pins ++ pl) σ H s) {p : Addr × Obj} (h : p ∈ pl) : PinOk X H s.heap p := I.pin p (List.mem_append_right _ (List.mem_append_right _ h))
theorem keysBy_at {kT : T → R T} {S : Store} : ∀ {xs ks : List T}, keysBy kT S xs = some ks → ks.length = xs.length ∧ ∀ (i : Nat) (t : T), xs[i]? = some t → ∃ k, ks[i]? = some k ∧ kT t = .ok k S
  | [], ks, h => by
    simp only [keysBy, Option.some.injEq] at h
    subst h
    exact ⟨rfl, fun i t e => by simp at e⟩
  | x :: xs, ks, h => by
    unfold keysBy at h
    cases e : kT x with
    | ok k S1 =>
      rw [e] at h
      simp only at h
      split at h
      · rename_i hS
        subst hS
        cases e2 : keysBy kT S1 xs with
        | none => rw [e2] at h; cases h
        | some ks' =>
          rw [e2] at h
          simp only [Option.some.injEq] at h
          subst h
          obtain ⟨l, q⟩ := keysBy_at e2
          refine ⟨congrArg Nat.succ l, fun i t ht => ?_⟩
          cases i with
          | zero =>
            simp only [List.getElem?_cons_zero, Option.some.injEq] at ht
            subst ht
            exact ⟨k, rfl, e⟩
          | succ j => simpa using q j t (by simpa using ht)
      · cases h
    | exc _ _ => rw [e] at h; cases h
    | no => rw [e] at h; cases h
theorem toDs_map : ∀ (ks : List T), T.toDs ks = ks.map T.toD
  | [] => rfl
  | k :: ks => congrArg _ (toDs_map ks)
open Classical in
/-- f's call for one item: it changes nothing that the store tells -/
def TurnOk (X : Cx) (A : Ad) (A' : Around) (σ : L2.St) (g : Gh) (H : Hp) (S : Store) (f : Addr) (fo : Obj) (kT : T → R T) : Prop :=
  ∀ (pins' : List (Addr × Obj)) (s' : Shared) (H' : Hp) (g' : Gh) (u : Value) (v : V) (t k : T) (Q : VK), Inv X pins' σ H' s' → s'.heap.get? f = some fo → Ex g H g' H' → Cn X.K A g' H' S → RelV v u → Rep X.K A H' g' v t → kT t = .ok k S →
    (∀ g2 H2 w, Ex g' H' g2 H2 → Cn X.K A g2 H2 S → Rep X.K A H2 g2 w k → Q w H2) → wpAny (model X.prog X.w) A' (call (.ref f) [u]) (CE X.stack X.prog X.w H' s' Q) (fun _ _ => False) s'
theorem sorted_run {pins : List (Addr × Obj)} {σ : L2.St} {H : Hp} {s : Shared} {g : Gh} {S : Store} {l f : Addr} {fo : Obj} {vs : List V} {xs ks : List T} {kT : T → R T} {Q : VK} {E : Value → Shared → Prop} (I : Inv X pins σ H s) (c : Cn X.K A g H S) (hl : H l = some (.lst vs)) (rs : Reps X.K A H g vs xs)
    (hu : X.A.units + 100 < cLine) (hf : PinOk X H s.heap (f, fo)) (hk : keysBy kT S xs = some ks) (ho : keysOk ks) (turn : TurnOk X A X.A.in1.in1 σ g H S f fo kT)
    (q : ∀ (D : Addr) (g' : Gh) (H' : Hp) (ws : List V), Ex g H g' H' → Cn X.K A g' H' S → H' D = none → Reps X.K A H' g' ws (sortBy xs ks) → Q (.ref D) (upd H' D (.lst ws))) :
    wpAny (model X.prog X.w) X.A (call (.builtin "sorted") [.ref l] [(Str.ofString "key", .ref f)]) (EP X pins σ Q) E s := by
  obtain ⟨kl, kat⟩ := keysBy_at hk
  obtain ⟨its, rvi, pl, hz⟩ := I.list (xs := vs) (.of hl)
  have hlv : vs.length = xs.length := rs.length
  have hli : vs.length = its.length := rvi.length
  refine sorted_keyJ (l := l) (vs := its) pl.isList (by omega) fun h D kS e1 up hD hDk gD gk => ?_
  have fD : s.heap.objs.size ≤ D := by rw [hD]; exact Nat.le_succ _
  have fk : s.heap.objs.size ≤ kS := Nat.le_trans fD (Nat.le_of_lt hDk)
  have hDk' : D ≠ kS := Nat.ne_of_lt hDk
  have ff : f < s.heap.objs.size := Heap.lt_size hf.1
  have fDn : f ≠ D := Nat.ne_of_lt (Nat.lt_of_lt_of_le ff fD)
  have fkn : f ≠ kS := Nat.ne_of_lt (Nat.lt_of_lt_of_le ff fk)
  have okD := I.fpOk fD (I.hok.fresh fD)
  have okk := I.fpOk fk (I.hok.fresh fk)
  have cellD : ∀ (kA : Array Value) (e : Nat) v, (seqObj "list" kA e).data ≠ .cell v := fun _ _ v z => by cases z
  refine ⟨fun i s' => ∃ (H' : Hp) (g' : Gh) (kA : Array Value) (e : Nat) (kvs : List V), Inv X (pins ++ [(f, fo), (D, seqObj "list" #[] e1), (kS, seqObj "list" kA e)]) σ H' s' ∧ Ex g H g' H' ∧ Cn X.K A g' H' S ∧ kA.size = i ∧ Vals kvs kA.toList ∧ Reps X.K A H' g' kvs (ks.take i), ?_, ?_, ?_, ?_⟩
  · refine ⟨H, g, #[], 0, [], pin_add (I.kept (h' := h) (t' := s.toks) up) fun p hp => ?_, .refl, c, rfl, .nil, by rw [List.take_zero]; exact .nil⟩
    simp only [List.mem_cons, List.mem_singleton, List.not_mem_nil, or_false] at hp
    rcases hp with rfl | rfl | rfl
    · exact ⟨up _ _ hf.1, hf.2⟩
    · exact ⟨gD, okD.1, okD.2.1, okD.2.2.1, cellD _ _⟩
    · exact ⟨gk, okk.1, okk.2.1, okk.2.2.1, cellD _ _⟩
  · rintro i s' ⟨H', g', kA, e, kvs, J, x, c', hs, rv, rr⟩
    exact ⟨kA, e, (pin_at J (p := (kS, seqObj "list" kA e)) (by simp)).1, hs, (pin_at J (p := (D, _)) (by simp)).1⟩
  · rintro i v s' hv ⟨H', g', kA, e, kvs, J, x, c', hs, rv, rr⟩
    obtain ⟨vV, e2, rvv⟩ : ∃ x, vs[i]? = some x ∧ RelV x v := by
      have hi : i < vs.length := by rw [hli]; exact (List.getElem?_eq_some_iff.mp hv).1
      obtain ⟨u, q1, q2⟩ := rvi.get (List.getElem?_eq_getElem hi)
      rw [hv] at q1
      cases q1
      exact ⟨_, List.getElem?_eq_getElem hi, q2⟩
    obtain ⟨t, e3, rt⟩ := rs.get' e2
    obtain ⟨k, e4, e5⟩ := kat i t e3
    refine wpAny_mono (turn _ s' H' g' v vV t k (fun w H2 => ∃ g2, Ex g' H' g2 H2 ∧ Cn X.K A g2 H2 S ∧ Rep X.K A H2 g2 w k) J (pin_at J (p := (f, fo)) (by simp)).1 x c' rvv (rt.ex x) e5 fun g2 H2 w x2 c2 r2 => ⟨g2, x2, c2, r2⟩) (fun u s'' hq => ?_) fun _ _ z => z
    obtain ⟨w, H2, J2, rw2, g2, x2, c2, r2⟩ := J.after hq
    have pk := pin_at J2 (p := (kS, seqObj "list" kA e)) (by simp)
    refine ⟨kA, e, pk.1, hs, fun c3 hc3 => ?_⟩
    have sb := Heap.SameBut.update s''.heap kS (Obj.mapSeq (·.push u))
    have J3 : Inv X (pins ++ [(f, fo), (D, seqObj "list" #[] e1)]) σ H2 s'' := J2.pins_of fun p hp => by
      rcases List.mem_append.mp hp with z | z
      · exact J2.pin p (List.mem_append_right _ (List.mem_append_left _ z))
      · refine pin_at J2 ?_
        simp only [List.mem_cons, List.mem_singleton, List.not_mem_nil, or_false] at z ⊢
        rcases z with z | z
        · exact .inl z
        · exact .inr (.inl z)
    have J4 : Inv X (pins ++ [(f, fo), (D, seqObj "list" #[] e1)]) σ H2 { s'' with heap := s''.heap.update kS (Obj.mapSeq (·.push u)) } := J3.turned (t' := s''.toks) (it := kS) (fun b o hb eb => (sb.2 b hb).trans eb) pk.2.1 pk.2.2.1 okk.2.2.2.1 okk.2.2.2.2.1 fun p hp z => by
      rcases List.mem_append.mp hp with y | y
      · exact okk.2.2.2.2.2 p (List.mem_append_left _ y) z
      · rcases List.mem_append.mp y with y | y
        · exact okk.2.2.2.2.2 p (List.mem_append_right _ y) z
        · simp only [List.mem_cons, List.mem_singleton, List.not_mem_nil, or_false] at y
          rcases y with rfl | rfl
          · exact fkn z
          · exact hDk' z
    have J5 : Inv X (pins ++ [(f, fo), (D, seqObj "list" #[] e1), (kS, seqObj "list" (kA.push u) c3)]) σ H2 { s'' with heap := s''.heap.update kS (Obj.mapSeq (·.push u)) } := J4.pins_of fun p hp => by
      rcases List.mem_append.mp hp with z | z
      · exact J4.pin p (List.mem_append_right _ (List.mem_append_left _ z))
      · simp only [List.mem_cons, List.mem_singleton, List.not_mem_nil, or_false] at z
        rcases z with z | z | z
        · exact pin_at J4 (by rw [z]; simp)
        · exact pin_at J4 (by rw [z]; simp)
        · rw [z]
          exact ⟨hc3, pk.2.1, pk.2.2.1, pk.2.2.2.1, cellD _ _⟩
    refine ⟨H2, g2, kA.push u, c3, kvs ++ [w], J5, x.trans x2, c2, by rw [Array.size_push, hs], ?_, ?_⟩
    · rw [Array.toList_push]
      exact rv.append (.cons rw2 .nil)
    · have : ks.take (i + 1) = ks.take i ++ [k] := by rw [List.take_add_one, e4]; rfl
      rw [this]
      exact (rr.ex x2).append (.cons r2 .nil)
  · rintro s' kA e ⟨H', g', kA', e', kvs, J, x, c', hs, rv, rr⟩ hk2 hs2
    have pk := pin_at J (p := (kS, seqObj "list" kA' e')) (by simp)
    have ek : kA' = kA := by
      have z := pk.1.symm.trans hk2
      have z2 := congrArg Obj.data (Option.some.inj z)
      simp only [seqObj] at z2
      injection z2
    subst ek
    have hkl : ks.length = its.length := by omega
    rw [List.take_of_length_le (by omega)] at rr
    have hm : ks.map T.toD = ks.map T.toD := rfl
    refine ⟨ks.map T.toD, ?_, ho.2.2.1, ho.2.2.2, fun d hd => ?_, fun h' tk out cc kp gD' ko => ?_⟩
    · have go : ∀ {us : List Value} {ws : List V} {ts : List T}, Vals ws us → Reps X.K A H' g' ws ts → (∀ k ∈ ts, k.data 20 = true) → PySem.W.EachIs (fun v k => ∃ as, Reads s'.heap v k as) us (ts.map T.toD) := by
        intro us ws ts
        induction ts generalizing us ws with
        | nil => intro a b _; cases b; cases a; exact .nil
        | cons t ts ih =>
          intro a b hd
          cases b with
          | cons b1 b2 =>
            cases a with
            | cons a1 a2 => exact .cons (Dp.reads J _ _ _ (Rep.dp (hd t (List.mem_cons_self ..)) b1).1 a1) (ih a2 b2 fun k hk => hd k (List.mem_cons_of_mem _ hk))
      exact go rv rr ho.2.1
    · obtain ⟨k, hk3, rfl⟩ := List.mem_map.mp hd
      obtain ⟨i, hi, hik⟩ := List.getElem_of_mem hk3
      obtain ⟨w, _, rw3⟩ := rr.get (i := i) (by rw [List.getElem?_eq_getElem hi, hik])
      have := (Rep.dp (ho.2.1 k hk3) rw3).2.2
      show X.A.units + 1 + 1 + k.toD.depth < cLine
      omega
    · -- the list gets the items
      have hz2 : (xs.zip vs).length = ks.length := by rw [List.length_zip]; omega
      have hR : PySem.W.EachIs (fun u (b : (T × V) × T) => RelV b.1.2 u) its ((xs.zip vs).zip ks) := by
        have e := each_of (R := fun u (b : T × V) => RelV b.2 u) rvi hlv fun u t x q _ => q
        have go : ∀ {us : List Value} {bs : List (T × V)} {ks : List T}, PySem.W.EachIs (fun u (b : T × V) => RelV b.2 u) us bs → bs.length = ks.length → PySem.W.EachIs (fun u (b : (T × V) × T) => RelV b.1.2 u) us (bs.zip ks) := by
          intro us bs
          induction bs generalizing us with
          | nil => intro ks a _; cases a; rw [List.zip_nil_left]; exact .nil
          | cons b bs ih =>
            intro ks a hl
            cases ks with
            | nil => cases hl
            | cons k ks =>
              cases a with
              | cons a1 a2 => exact .cons a1 (ih a2 (Nat.succ.inj hl))
        exact go e hz2
      have hmap : ((xs.zip vs).zip ks).map (fun b => b.2.toD) = ks.map T.toD := by
        rw [show (fun b : (T × V) × T => b.2.toD) = T.toD ∘ Prod.snd from rfl, ← List.map_map, List.map_snd_zip (by omega)]
      have eo := PySem.W.keyedOut_each (R := fun u (b : (T × V) × T) => RelV b.1.2 u) (bs := (xs.zip vs).zip ks) (fun b => b.2.toD) (by rw [hmap]; exact ko) hR
      have rel : Vals ((((xs.zip vs).zip ks).mergeSort (PySem.W.dataLe false fun b => b.2.toD)).map (·.1.2)) out := by
        have go : ∀ {us : List Value} {bs : List ((T × V) × T)}, PySem.W.EachIs (fun u (b : (T × V) × T) => RelV b.1.2 u) us bs → Vals (bs.map (·.1.2)) us := by
          intro us bs a
          induction a with
          | nil => exact .nil
          | cons a _ ih => exact .cons a ih
        exact go eo
      have pD := pin_at J (p := (D, seqObj "list" #[] e1)) (by simp)
      have lo : ((((xs.zip vs).zip ks).mergeSort (PySem.W.dataLe false fun b => b.2.toD)).map (·.1.2)).length ≤ sizeLine := by
        rw [List.length_map, List.length_mergeSort, List.length_zip, hz2, Nat.min_self]; omega
      have fin : Inv X pins σ (upd H' D (.lst ((((xs.zip vs).zip ks).mergeSort (PySem.W.dataLe false fun b => b.2.toD)).map (·.1.2)))) { s' with heap := h', toks := tk } := by
        have J0 : Inv X pins σ H' s' := J.unpinned
        have nch : ∀ b, b ∉ [D, kS] → b ≠ D ∧ b ≠ kS := fun b hb => ⟨fun z => hb (by simp [z]), fun z => hb (by simp [z])⟩
        refine J0.step (g' := s'.gens) (d' := s'.drawn) (ch := [D, kS]) (fun b hb => ?_) (fun b o _ _ hc eb _ => kp b o (nch b hc).1 (nch b hc).2 eb) (fun b o _ _ hc eb _ => ⟨o.slots, kp b o (nch b hc).1 (nch b hc).2 eb⟩) (fun b o hc _ nb => by rw [upd_ne (nch b hc).1]; exact nb)
          (fun b o hc eb => ⟨o, kp b o (nch b hc).1 (nch b hc).2 eb⟩) (fun b ys eb => by rw [upd_ne (ne_of_none eb pD.2.1)]; exact eb) (fun b o u eb => by rw [upd_ne (ne_of_none eb pD.2.1)]; exact eb) (fun b ps eb => ⟨#[], by rw [upd_ne (ne_of_none eb pD.2.1), eb]; simp⟩) (fun m hm => ?_) (fun b u eb => ?_) J0.bare
        · simp only [List.mem_cons, List.mem_singleton, List.not_mem_nil, or_false] at hb
          rcases hb with rfl | rfl
          · exact ⟨okD.2.2.2.1, okD.2.1, okD.2.2.2.2.1, okD.2.2.2.2.2⟩
          · exact ⟨okk.2.2.2.1, okk.2.1, okk.2.2.2.2.1, okk.2.2.2.2.2⟩
        · obtain ⟨o, es, ep, eo', r⟩ := hm
          exact ⟨o, es, ep, kp _ o (Ne.symm okD.2.1) (Ne.symm okk.2.1) eo', r⟩
        · by_cases hb : b = D
          · subst hb
            rw [upd_same] at eb
            cases eb
            exact ⟨lo, out, cc, rel, gD'⟩
          · rw [upd_ne hb] at eb
            refine (J0.hok b u eb).stay (fun c0 v0 hc q => ?_) (fun c0 q => by rw [upd_ne (ne_of_none q pD.2.1)]; exact q) fun c0 ys q => by rw [upd_ne (ne_of_none q pD.2.1)]; exact q
            have h1 : H' c0 ≠ none := by
              rcases hc with z | z
              · rw [z, eb]; simp
              · rw [z]; simp
            exact kp c0 v0 (fun z => h1 (by rw [z]; exact pD.2.1)) (fun z => h1 (by rw [z]; exact pk.2.1)) q
      refine ⟨.ref D, _, fin, rfl, q D g' H' _ x c' pD.2.1 ?_⟩
      have e : sortBy xs ks = (((xs.zip vs).zip ks).mergeSort (PySem.W.dataLe false fun b => b.2.toD)).map (·.1.1) := by
        unfold sortBy
        have z : xs.zip ks = ((xs.zip vs).zip ks).map fun b => (b.1.1, b.2) := by
          have go : ∀ (xs : List T) (vs : List V) (ks : List T), vs.length = xs.length → xs.zip ks = ((xs.zip vs).zip ks).map fun b => (b.1.1, b.2) := by
            intro xs
            induction xs with
            | nil => intro vs ks _; simp
            | cons a xs ih =>
              intro vs ks hl
              cases vs with
              | nil => cases hl
              | cons v vs =>
                cases ks with
                | nil => simp
                | cons k ks => simp [ih vs ks (Nat.succ.inj hl)]
          exact go xs vs ks hlv
        rw [z, ← List.map_mergeSort (r := PySem.W.dataLe false fun b : (T × V) × T => b.2.toD) (f := fun b : (T × V) × T => (b.1.1, b.2)) (fun a _ b _ => rfl), List.map_map]
        rfl
      rw [e]
      have all : ∀ p ∈ (((xs.zip vs).zip ks).mergeSort (PySem.W.dataLe false fun b => b.2.toD)), Rep X.K A H' g' p.1.2 p.1.1 := fun p hp => by
        have := (List.mergeSort_perm _ _).mem_iff.mp hp
        exact reps_zip (rs.ex x) p.1 (List.of_mem_zip (show (p.1, p.2) ∈ (xs.zip vs).zip ks from this)).1
      have go : ∀ (bs : List ((T × V) × T)), (∀ p ∈ bs, Rep X.K A H' g' p.1.2 p.1.1) → Reps X.K A H' g' (bs.map (·.1.2)) (bs.map (·.1.1)) := by
        intro bs
        induction bs with
        | nil => intro _; exact .nil
        | cons b bs ih => intro h; exact .cons (h b (List.mem_cons_self ..)) (ih fun p hp => h p (List.mem_cons_of_mem _ hp))
      exact go _ all
end
end NH
end
section
namespace NH
open PySem PySem.W PySem.Calls PyProof.Rows

section
variable {prog : Program} {w : World} {A : Around} {I q Sx : Addr} {R : Result → Shared → Prop} {n : Nat}
theorem two_line {m : Nat} (h : m ≤ 2) : m ≤ sizeLine := by rw [sizeLine_eq]; omega
/-- a turn of min: the next item, its key, the comparison -/
def MinTurn (prog : Program) (w : World) (A : Around) (I q Sx : Addr) (J : Nat → Shared → Value → Value → Prop) (j : Nat) (kb vb : Value) (s : Shared) : Prop :=
  ∀ E, wpAny (model prog w) A.in1 (pyNext (.ref I)) (fun r s' => ∃ v, r = some v ∧ ∀ E', wpAny (model prog w) A.in1 (call (.ref q) [v]) (fun kx s'' => ∃ (k : Bool) (so : Obj) (its : Array Value) (c : Nat), s''.heap.get? Sx = some so ∧ so.data = .seq its c ∧ its.size ≤ 2 ∧
    (∀ Q E2, Q (.bool k) s'' → wpAny (model prog w) A.in1 (richCompare .Lt kx kb) Q E2 s'') ∧ (k = false → J (j + 1) s'' vb kb) ∧ (k = true → J (j + 1) { s'' with heap := s''.heap.update Sx (Obj.mapSeq fun _ => #[v, kx]) } v kx)) E' s') E s
theorem min_loopJ (J : Nat → Shared → Value → Value → Prop) (kw : List (Str × Value)) (hS : ∀ j s vb kb, J j s vb kb → ∃ so c, s.heap.get? Sx = some so ∧ so.data = .seq #[vb, kb] c)
    (item : ∀ j s vb kb, j < n → J j s vb kb → MinTurn prog w A I q Sx J j kb vb s)
    (done : ∀ s vb kb, J n s vb kb → ∀ E, wpAny (model prog w) A.in1 (pyNext (.ref I)) (fun r s' => r = none ∧ ∃ (so : Obj) (its : Array Value) (c : Nat), s'.heap.get? Sx = some so ∧ so.data = .seq its c ∧ its.size ≤ 2 ∧ R (.ok (.ret vb)) { s' with heap := s'.heap.update Sx (Obj.mapSeq fun _ => #[]) }) E s) :
    ∀ (k j : Nat) (s : Shared) (vb kb : Value), n - j = k → j ≤ n → J j s vb kb → codeAny (model prog w) A (.builtin "min.loop" ⟨[.ref I, .ref q, .ref Sx], kw⟩) R s := by
  have nameEq : (toString "min" ++ toString ".loop" : String) = "min.loop" := by decide
  intro k
  induction k with
  | zero =>
    intro j s vb kb hk hj hJ
    have ej : j = n := by omega
    subst ej
    obtain ⟨so, c, g1, g2⟩ := hS _ _ _ _ hJ
    refine codeAny_builtin F.entry_min_loop ?_
    rw [Around.under_plainId F.plain_min_loop _]
    show wpAny _ A.in1 (seqItems? (.ref Sx) >>= _) _ _ _
    refine wpAny_bind (wpAny_seqItems g1 g2 ?_)
    show wpAny _ A.in1 (tryCatch (pyNext (.ref I)) _ >>= _) _ _ _
    refine wpAny_bind (wpAny_tryCatch (wpAny_mono (done s vb kb hJ _) (fun r s' hq => ?_) fun _ _ z => z))
    obtain ⟨rfl, so', its, c', g3, g4, g5, hR⟩ := hq
    show wpAny _ A.in1 (updateSeq Sx (fun _ => #[]) >>= _) _ _ _
    refine wpAny_bind ?_
    exact wpAny_updateSeq g3 g4 (wpAny_bind (wpAny_letGo (wpAny_pure hR))) (hz := two_line g5)
  | succ k ih =>
    intro j s vb kb hk hj hJ
    have hlt : j < n := by omega
    obtain ⟨so, c, g1, g2⟩ := hS _ _ _ _ hJ
    refine codeAny_builtin F.entry_min_loop ?_
    rw [Around.under_plainId F.plain_min_loop _]
    show wpAny _ A.in1 (seqItems? (.ref Sx) >>= _) _ _ _
    refine wpAny_bind (wpAny_seqItems g1 g2 ?_)
    show wpAny _ A.in1 (tryCatch (pyNext (.ref I)) _ >>= _) _ _ _
    refine wpAny_bind (wpAny_tryCatch (wpAny_mono (item j s vb kb hlt hJ _) (fun r s' hq => ?_) fun _ _ z => z))
    obtain ⟨v, rfl, hcall⟩ := hq
    show wpAny _ A.in1 (tryCatch (holding [v] (call (.ref q) [v])) _ >>= _) _ _ _
    refine wpAny_bind (wpAny_tryCatch (wpAny_holding (wpAny_mono (hcall _) (fun kx s'' hq => ?_) fun _ _ z => z)))
    obtain ⟨b, so', its, c', g3, g4, g5, hc, hf, ht⟩ := hq
    show wpAny _ A.in1 (tryCatch (holding [v, kx] (richCompare .Lt kx kb >>= _)) _ >>= _) _ _ _
    refine wpAny_bind (wpAny_tryCatch (wpAny_holding (wpAny_bind (hc _ _ ?_))))
    refine wpAny_bind (wpAny_holding (wpAny_truthy_bool ?_))
    refine wpAny_bind (wpAny_letGo (wpAny_pure ?_))
    cases b with
    | true =>
      simp only [if_true]
      refine wpAny_bind ?_
      refine wpAny_updateSeq g3 g4 (wpAny_bind (wpAny_letGo ?_)) (hz := two_line g5)
      rw [nameEq]
      exact wpAny_pure ⟨plainId_quiet F.plain_min_loop _, ih (j + 1) _ v kx (by omega) hlt (ht rfl)⟩
    | false =>
      simp only [Bool.false_eq_true, if_false]
      refine wpAny_bind (wpAny_letGo ?_)
      rw [nameEq]
      exact wpAny_pure ⟨plainId_quiet F.plain_min_loop _, ih (j + 1) _ vb kb (by omega) hlt (hf rfl)⟩
/-- the first turn of min: nothing is compared -/
theorem min_firstJ (J : Nat → Shared → Value → Value → Prop) (kw : List (Str × Value)) (hS : ∀ j s vb kb, J j s vb kb → ∃ so c, s.heap.get? Sx = some so ∧ so.data = .seq #[vb, kb] c)
    (item : ∀ j s vb kb, j < n → J j s vb kb → MinTurn prog w A I q Sx J j kb vb s)
    (done : ∀ s vb kb, J n s vb kb → ∀ E, wpAny (model prog w) A.in1 (pyNext (.ref I)) (fun r s' => r = none ∧ ∃ (so : Obj) (its : Array Value) (c : Nat), s'.heap.get? Sx = some so ∧ so.data = .seq its c ∧ its.size ≤ 2 ∧ R (.ok (.ret vb)) { s' with heap := s'.heap.update Sx (Obj.mapSeq fun _ => #[]) }) E s)
    (hn : 0 < n) {s : Shared} {so : Obj} {c : Nat} (g1 : s.heap.get? Sx = some so) (g2 : so.data = .seq #[] c)
    (first : ∀ E, wpAny (model prog w) A.in1 (pyNext (.ref I)) (fun r s' => ∃ v, r = some v ∧ ∀ E', wpAny (model prog w) A.in1 (call (.ref q) [v]) (fun kx s'' => ∃ (so : Obj) (its : Array Value) (c : Nat), s''.heap.get? Sx = some so ∧ so.data = .seq its c ∧ its.size ≤ 2 ∧ J 1 { s'' with heap := s''.heap.update Sx (Obj.mapSeq fun _ => #[v, kx]) } v kx) E' s') E s) :
    codeAny (model prog w) A (.builtin "min.loop" ⟨[.ref I, .ref q, .ref Sx], kw⟩) R s := by
  have nameEq : (toString "min" ++ toString ".loop" : String) = "min.loop" := by decide
  refine codeAny_builtin F.entry_min_loop ?_
  rw [Around.under_plainId F.plain_min_loop _]
  show wpAny _ A.in1 (seqItems? (.ref Sx) >>= _) _ _ _
  refine wpAny_bind (wpAny_seqItems g1 g2 ?_)
  show wpAny _ A.in1 (tryCatch (pyNext (.ref I)) _ >>= _) _ _ _
  refine wpAny_bind (wpAny_tryCatch (wpAny_mono (first _) (fun r s' hq => ?_) fun _ _ z => z))
  obtain ⟨v, rfl, hcall⟩ := hq
  show wpAny _ A.in1 (tryCatch (holding [v] (call (.ref q) [v])) _ >>= _) _ _ _
  refine wpAny_bind (wpAny_tryCatch (wpAny_holding (wpAny_mono (hcall _) (fun kx s'' hq => ?_) fun _ _ z => z)))
  obtain ⟨so', its, c', g3, g4, g5, hJ⟩ := hq
  show wpAny _ A.in1 (updateSeq Sx (fun _ => #[v, kx]) >>= _) _ _ _
  refine wpAny_bind ?_
  refine wpAny_updateSeq g3 g4 ?_ (hz := two_line g5)
  rw [nameEq]
  exact wpAny_pure ⟨plainId_quiet F.plain_min_loop _, min_loopJ J kw hS item done (n - 1) 1 _ v kx rfl hn hJ⟩
/-- min(x, key=f), x a list -/
theorem min_keyJ {E : Value → Shared → Prop} {s : Shared} {l : Addr} {its : Array Value} {Q : Value → Shared → Prop} (hl : s.heap.IsList l its)
    (h : ∀ I Sx : Addr, I = s.heap.objs.size → Sx = s.heap.objs.size + 1 → ∃ (n : Nat) (J : Nat → Shared → Value → Value → Prop), (∀ j s vb kb, J j s vb kb → ∃ so c, s.heap.get? Sx = some so ∧ so.data = .seq #[vb, kb] c) ∧ (∀ j s vb kb, j < n → J j s vb kb → MinTurn prog w A I q Sx J j kb vb s) ∧
      (∀ s vb kb, J n s vb kb → ∀ E, wpAny (model prog w) A.in1 (pyNext (.ref I)) (fun r s' => r = none ∧ ∃ (so : Obj) (its : Array Value) (c : Nat), s'.heap.get? Sx = some so ∧ so.data = .seq its c ∧ its.size ≤ 2 ∧ Q vb { s' with heap := s'.heap.update Sx (Obj.mapSeq fun _ => #[]) }) E s) ∧ 0 < n ∧
      ∀ h2 : Heap, (∀ b o, s.heap.get? b = some o → h2.get? b = some o) → h2.IsListIter I l 0 → h2.get? Sx = some { cls := .type "list", data := .seq #[] 0 } →
        ∀ E, wpAny (model prog w) A.in1 (pyNext (.ref I)) (fun r s' => ∃ v, r = some v ∧ ∀ E', wpAny (model prog w) A.in1 (call (.ref q) [v]) (fun kx s'' => ∃ (so : Obj) (its : Array Value) (c : Nat), s''.heap.get? Sx = some so ∧ so.data = .seq its c ∧ its.size ≤ 2 ∧ J 1 { s'' with heap := s''.heap.update Sx (Obj.mapSeq fun _ => #[v, kx]) } v kx) E' s') E { s with heap := h2 }) :
    wpAny (model prog w) A (call (.builtin "min") [.ref l] [(Str.ofString "key", .ref q)]) Q E s := by
  have nameEq : (toString "min" ++ toString ".loop" : String) = "min.loop" := by decide
  obtain ⟨n, J, h1, h2, h3, h4, h5⟩ := h _ _ rfl rfl
  refine PyProof.Rows.kmk_tree F.kind_min F.plain_min F.entry_min (PyProof.Rows.kmk_min_key _ _) ?_
  show wpAny _ A.in1 (Builtin.Builtins.bindParams "min" ["key", "default"] 0 ⟨[], [(Str.ofString "key", .ref q)]⟩ >>= _) _ _ _
  refine wpAny_bind (wpAny_of_eq (show Builtin.Builtins.bindParams "min" ["key", "default"] 0 ⟨[], [(Str.ofString "key", .ref q)]⟩ = pure [some (.ref q), none] from rfl) ?_)
  refine wpAny_bind (wpAny_pure ?_)
  refine wpAny_bind (wpAny_pyIter_list hl ?_)
  refine wpAny_bind (wpAny_newObj_type ?_)
  rw [nameEq, size_push']
  refine wpAny_pure ⟨plainId_quiet F.plain_min_loop _, min_firstJ (so := { cls := .type "list", data := .seq #[] 0 }) (c := 0) (R := fun r s' => match r with | .ok (.ret v) => Q v s' | .ok _ => False | .error e => E e s') J _ h1 h2 h3 h4 ?_ rfl (h5 _ (fun b o e => Heap.get?_push_of_some _ (Heap.get?_push_of_some _ e)) ⟨_, Heap.get?_push_of_some _ (Heap.get?_push_size _ rfl), rfl, rfl⟩ ?_)⟩
  · have := Heap.get?_push_size (s.heap.push { cls := .type "list_iterator", data := .fields #[.ref l, .int 0 0] }) (o := { cls := .type "list", data := .seq #[] 0 }) rfl
    rw [size_push'] at this
    exact this
  · have := Heap.get?_push_size (s.heap.push { cls := .type "list_iterator", data := .fields #[.ref l, .int 0 0] }) (o := { cls := .type "list", data := .seq #[] 0 }) rfl
    rw [size_push'] at this
    exact this
end
end NH
end
section
namespace NH
open PySem L2 PyProof.Rows

section
variable {X : Cx} {A : Ad} {G : Gam} {W : WX} {n : Nat}
/-- behind a call, what changed told too -/
theorem afterU {pins : List (Addr × Obj)} {σ : L2.St} {H : Hp} {s : Shared} {Q : VK} {u : Value} {s' : Shared} (I : Inv X pins σ H s) (h : CE X.stack X.prog X.w H s Q u s') : ∃ v H', Inv X pins σ H' s' ∧ RelV v u ∧ Q v H' ∧ Un (frs X.stack) [] H H' s.heap s'.heap := by
  obtain ⟨v, H', os, bare, un, hok, r, q⟩ := h
  obtain ⟨hh, g, d, t, os'⟩ := s'
  obtain rfl : os' = s.os := os
  exact ⟨v, H', I.call (h' := hh) (g' := g) (d' := d) (t' := t) (ch := []) un hok bare (fun b z => absurd z (by simp)), r, q, un⟩
theorem leastBy_nil {p : T × T} : leastBy p [] = p := rfl
/-- a key that was made, its object still there -/
theorem min_run {pins : List (Addr × Obj)} {σ : L2.St} {H : Hp} {s : Shared} {g : Gh} {S : Store} {f : Addr} {fo : Obj} {v0 : V} {u0 : Value} {tv x0 k0 : T} {xs ks : List T} {kT : T → R T} {Q : VK} {E : Value → Shared → Prop} (I : Inv X pins σ H s) (c : Cn X.K A g H S) (r0 : Rep X.K A H g v0 tv) (ru : RelV v0 u0) (ev : view S tv = .lst (x0 :: xs))
    (hu : X.A.units + 100 < cLine) (hh : X.A.handled = none) (hf : PinOk X H s.heap (f, fo)) (hfk : f ∉ frs X.stack) (hk : keysBy kT S (x0 :: xs) = some (k0 :: ks)) (ho : keysOk (k0 :: ks)) (turn : TurnOk X A X.A.in1 σ g H S f fo kT)
    (q : ∀ (g' : Gh) (H' : Hp) (w : V), Ex g H g' H' → Cn X.K A g' H' S → Rep X.K A H' g' w (leastBy (x0, k0) (xs.zip ks)).1 → Q w H') :
    wpAny (model X.prog X.w) X.A (call (.builtin "min") [u0] [(Str.ofString "key", .ref f)]) (EP X pins σ Q) E s := by
  obtain ⟨kl, kat⟩ := keysBy_at hk
  obtain ⟨l, vs, rfl, hl, rs⟩ := c.lstV r0 ev
  obtain rfl : u0 = Value.ref l := ru
  obtain ⟨its, rvi, pl, hz⟩ := I.list (xs := vs) (.of hl)
  refine min_keyJ (its := its.toArray) pl.isList fun It Sx hI hSx => ?_
  have fI : s.heap.objs.size ≤ It := Nat.le_of_eq hI.symm
  have fS : s.heap.objs.size ≤ Sx := by rw [hSx]; exact Nat.le_succ _
  have nIS : It ≠ Sx := by rw [hI, hSx]; exact Nat.ne_of_lt (Nat.lt_succ_self _)
  have ff : f < s.heap.objs.size := Heap.lt_size hf.1
  have fIn : f ≠ It := Nat.ne_of_lt (Nat.lt_of_lt_of_le ff fI)
  have fSn : f ≠ Sx := Nat.ne_of_lt (Nat.lt_of_lt_of_le ff fS)
  have okI := I.fpOk fI (I.hok.fresh fI)
  have okS := I.fpOk fS (I.hok.fresh fS)
  have nfr : ∀ {b : Addr}, FpOk X pins H b → b ∉ frs X.stack := fun {b} o z => by
    rcases List.mem_cons.mp (I.stkSub b z) with e | e
    · exact o.2.1 e
    · exact o.2.2.1 e
  have upd2 : ∀ {H' : Hp} {s' : Shared} {b : Addr} {h' : Heap} {tk : Nat}, FpOk X pins H b → Inv X pins σ H' s' → H' b = none → (∀ d o, d ≠ b → s'.heap.get? d = some o → h'.get? d = some o) → Inv X pins σ H' { s' with heap := h', toks := tk } := fun o J hn k =>
    J.turned k hn o.2.1 o.2.2.2.1 o.2.2.2.2.1 o.2.2.2.2.2
  let n := (x0 :: xs).length
  let fin := leastBy (x0, k0) (xs.zip ks)
  -- the state between the turns
  let B : Nat → Shared → Hp → Gh → Prop := fun j s' H' g' => Inv X pins σ H' s' ∧ Ex g H g' H' ∧ Cn X.K A g' H' S ∧ H' It = none ∧ H' Sx = none ∧ s'.heap.IsListIter It l j ∧ s'.heap.get? f = some fo ∧ H' f = none
  let J : Nat → Shared → Value → Value → Prop := fun j s' vb kb => ∃ (H' : Hp) (g' : Gh), B j s' H' g' ∧ (∃ so c, s'.heap.get? Sx = some so ∧ so.data = .seq #[vb, kb] c) ∧ ∃ (wv wk : V) (pt : T × T), RelV wv vb ∧ RelV wk kb ∧ Rep X.K A H' g' wv pt.1 ∧ Rep X.K A H' g' wk pt.2 ∧ pt.2 ∈ k0 :: ks ∧ leastBy pt (((x0 :: xs).zip (k0 :: ks)).drop j) = fin
  -- an item and its key
  have step : ∀ (j : Nat) (s' : Shared) (H' : Hp) (g' : Gh) (so : Obj) (t k : T), B j s' H' g' → s'.heap.get? Sx = some so → (x0 :: xs)[j]? = some t → (k0 :: ks)[j]? = some k → ∀ E, wpAny (model X.prog X.w) X.A.in1 (pyNext (.ref It)) (fun r s1 => ∃ v, r = some v ∧ ∀ E', wpAny (model X.prog X.w) X.A.in1 (call (.ref f) [v]) (fun kx s2 =>
      ∃ (H2 : Hp) (g2 : Gh) (wv wk : V), B (j + 1) s2 H2 g2 ∧ Ex g' H' g2 H2 ∧ s2.heap.get? Sx = some so ∧ RelV wv v ∧ Rep X.K A H2 g2 wv t ∧ RelV wk kx ∧ Rep X.K A H2 g2 wk k) E' s1) E s' := by
    rintro j s' H' g' so t k ⟨J1, x, c', hIt, hSn, hit, hfo, hfn⟩ hso ht hkj E
    obtain ⟨l', vs', el, hl', rs'⟩ := c'.lstV (r0.ex x) ev
    obtain rfl : l = l' := by cases el; rfl
    obtain ⟨its', rvi', pl', hz'⟩ := J1.list (xs := vs') (.of hl')
    obtain ⟨wv, q1, q2⟩ := rs'.get ht
    obtain ⟨v, q3, q4⟩ := rvi'.get q1
    refine wpAny_pyNext_list_item (items := its'.toArray) hit pl'.isList (by simpa using q3) fun h' hit' sb => ⟨v, rfl, fun E' => ?_⟩
    have J2 : Inv X pins σ H' { s' with heap := h' } := upd2 (tk := s'.toks) okI J1 hIt fun d o hd e => (sb.2 d hd).trans e
    have hfo' : h'.get? f = some fo := (sb.2 f fIn).trans hfo
    have hso' : h'.get? Sx = some so := (sb.2 Sx nIS.symm).trans hso
    obtain ⟨k', e4, e5⟩ := kat j t ht
    obtain rfl : k = k' := Option.some.inj (hkj.symm.trans e4)
    refine wpAny_mono (turn pins _ H' g' v wv t k (fun w H2 => ∃ g2, Ex g' H' g2 H2 ∧ Cn X.K A g2 H2 S ∧ Rep X.K A H2 g2 w k) J2 hfo' x c' q4 q2 e5 fun g2 H2 w x2 c2 r2 => ⟨g2, x2, c2, r2⟩) (fun kx s2 hq => ?_) fun _ _ z => z.elim
    obtain ⟨wk, H2, J3, rk, ⟨g2, x2, c2, r2⟩, un⟩ := afterU J2 hq
    obtain ⟨oI, hoI, hI1, hI2⟩ := hit'
    exact ⟨H2, g2, wv, wk, ⟨J3, x.trans x2, c2, un.free It oI hoI hIt (by simp), un.free Sx so hso' hSn (by simp), ⟨oI, un.keep It oI hoI hIt (nfr okI) (by simp), hI1, hI2⟩, un.keep f fo hfo' hfn hfk (by simp), un.free f fo hfo' hfn (by simp)⟩, x2, un.keep Sx so hso' hSn (nfr okS) (by simp), q4, q2.ex x2, rk, r2⟩
  -- the answer is kept
  have put : ∀ (j : Nat) (s2 : Shared) (H2 : Hp) (g2 : Gh) (so : Obj) (cs : Array Value) (ec : Nat), B j s2 H2 g2 → s2.heap.get? Sx = some so → so.data = .seq cs ec → ∀ z : Array Value, B j { s2 with heap := s2.heap.update Sx (Obj.mapSeq fun _ => z) } H2 g2 ∧ ∃ so2 c2, (s2.heap.update Sx (Obj.mapSeq fun _ => z)).get? Sx = some so2 ∧ so2.data = .seq z c2 := by
    rintro j s2 H2 g2 so cs ec ⟨J1, x, c', hIt, hSn, hit, hfo, hfn⟩ hso hd z
    have sb := Heap.SameBut.update s2.heap Sx (Obj.mapSeq fun _ => z)
    obtain ⟨oI, hoI, hI1, hI2⟩ := hit
    refine ⟨⟨upd2 (tk := s2.toks) okS J1 hSn fun d o hd e => (sb.2 d hd).trans e, x, c', hIt, hSn, ⟨oI, (sb.2 It nIS).trans hoI, hI1, hI2⟩, (sb.2 f fSn).trans hfo, hfn⟩, ?_⟩
    obtain ⟨c1, d1, da, sl⟩ := so
    have hd : da = .seq cs ec := hd
    subst hd
    exact ⟨_, _, Heap.get?_update_self (Obj.mapSeq fun _ => z) hso rfl, rfl⟩
  refine ⟨(x0 :: xs).length, J, ?_, ?_, ?_, Nat.succ_pos _, ?_⟩
  · rintro j s' vb kb ⟨H', g', _, hso, _⟩
    exact hso
  · rintro j s' vb kb hj ⟨H', g', hB, ⟨so, cc, hso, hd⟩, wv, wk, pt, rv, rk, pv, pk, pm, hfin⟩ E
    have hj2 : j < (k0 :: ks).length := by rw [kl]; exact hj
    refine wpAny_mono (step j s' H' g' so _ _ hB hso (List.getElem?_eq_getElem hj) (List.getElem?_eq_getElem hj2) E) (fun r s1 hq => ?_) fun _ _ z => z
    obtain ⟨v, e, hcall⟩ := hq
    refine ⟨v, e, fun E' => wpAny_mono (hcall E') (fun kx s2 hq => ?_) fun _ _ z => z⟩
    obtain ⟨H2, g2, wv2, wk2, hB2, x2, hso2, rv2, pv2, rk2, pk2⟩ := hq
    have J2 := hB2.1
    have m2 : (k0 :: ks)[j] ∈ k0 :: ks := List.getElem_mem hj2
    have d1 := Rep.dp (ho.2.1 _ m2) pk2
    have d2 := Rep.dp (ho.2.1 _ pm) (pk.ex x2)
    obtain ⟨as, ra⟩ := Dp.reads J2 _ _ _ d1.1 rk2
    obtain ⟨bs, rb⟩ := Dp.reads J2 _ _ _ d2.1 rk
    have al := ho.2.2.1 _ (List.mem_map_of_mem (f := T.toD) m2) _ (List.mem_map_of_mem (f := T.toD) pm)
    have nn : ((k0 :: ks)[j]).toD ≠ .none := by
      rcases ho.2.2.2 with z | z
      · obtain ⟨a, b, e⟩ := z _ (List.mem_map_of_mem (f := T.toD) m2)
        rw [e]; simp
      · exact (z _ (List.mem_map_of_mem (f := T.toD) m2)).1
    have lt : PySem.SeqAt.RcLt X.A.in1 s2 kx kb (PySem.W.dataLt ((k0 :: ks)[j]).toD pt.2.toD) := PySem.W.rcLt_alike _ _ _ _ _ _ _ _ ra rb al nn (by show X.A.units + 1 + _ < cLine; omega)
    have ed : ((x0 :: xs).zip (k0 :: ks)).drop j = ((x0 :: xs)[j], (k0 :: ks)[j]) :: ((x0 :: xs).zip (k0 :: ks)).drop (j + 1) := by
      have hz3 : j < ((x0 :: xs).zip (k0 :: ks)).length := by rw [List.length_zip]; omega
      rw [List.drop_eq_getElem_cons hz3, List.getElem_zip]
    rw [ed] at hfin
    obtain ⟨pB, pS⟩ := put (j + 1) s2 H2 g2 so _ _ hB2 hso2 hd #[v, kx]
    refine ⟨PySem.W.dataLt ((k0 :: ks)[j]).toD pt.2.toD, so, _, cc, hso2, hd, Nat.le_refl _, fun Q' E2 hQ => lt _ _ _ _ hQ, fun hb => ?_, fun hb => ?_⟩
    · exact ⟨H2, g2, hB2, ⟨so, cc, hso2, hd⟩, wv, wk, pt, rv, rk, pv.ex x2, pk.ex x2, pm, by
        rw [← hfin]
        show _ = if PySem.W.dataLt ((k0 :: ks)[j]).toD pt.2.toD = true then _ else _
        rw [hb]; simp⟩
    · exact ⟨H2, g2, pB, pS, wv2, wk2, ((x0 :: xs)[j], (k0 :: ks)[j]), rv2, rk2, pv2, pk2, m2, by
        rw [← hfin]
        show _ = if PySem.W.dataLt ((k0 :: ks)[j]).toD pt.2.toD = true then _ else _
        rw [if_pos hb]⟩
  · rintro s' vb kb ⟨H', g', hB, ⟨so, cc, hso, hd⟩, wv, wk, pt, rv, rk, pv, pk, pm, hfin⟩ E
    have hB' := hB
    obtain ⟨J1, x, c', hIt, hSn, hit, hfo, hfn⟩ := hB
    obtain ⟨l', vs', el, hl', rs'⟩ := c'.lstV (r0.ex x) ev
    obtain rfl : l = l' := by cases el; rfl
    obtain ⟨its', rvi', pl', hz'⟩ := J1.list (xs := vs') (.of hl')
    have hlen : its'.length = (x0 :: xs).length := by rw [← rvi'.length, rs'.length]
    refine wpAny_pyNext_list_end (items := its'.toArray) hh hit pl'.isList (by simp [hlen]) fun h' sb => ⟨rfl, so, _, cc, (sb Sx so nIS.symm hso), hd, Nat.le_refl _, ?_⟩
    have J2 : Inv X pins σ H' { s' with heap := h' } := upd2 (tk := s'.toks) okI J1 hIt fun d o hd e => sb d o hd e
    have sb2 := Heap.SameBut.update h' Sx (Obj.mapSeq fun _ => (#[] : Array Value))
    have J3 : Inv X pins σ H' { s' with heap := h'.update Sx (Obj.mapSeq fun _ => (#[] : Array Value)) } := upd2 (s' := { s' with heap := h' }) (tk := s'.toks) okS J2 hSn fun d o hd e => (sb2.2 d hd).trans e
    have hz3 : ((x0 :: xs).zip (k0 :: ks)).length ≤ (x0 :: xs).length := by rw [List.length_zip]; omega
    rw [List.drop_of_length_le hz3, leastBy_nil] at hfin
    refine ⟨wv, H', J3, rv, q g' H' wv x c' ?_⟩
    have : pt.1 = fin.1 := by rw [hfin]
    rw [← this]
    exact pv
  · intro h2 up hit hso E
    have J0 : Inv X pins σ H { s with heap := h2 } := I.kept (t' := s.toks) up
    refine wpAny_mono (step 0 _ H g _ x0 k0 ⟨J0, .refl, c, okI.1, okS.1, hit, up _ _ hf.1, hf.2.1⟩ hso rfl rfl E) (fun r s1 hq => ?_) fun _ _ z => z
    obtain ⟨v, e, hcall⟩ := hq
    refine ⟨v, e, fun E' => wpAny_mono (hcall E') (fun kx s2 hq => ?_) fun _ _ z => z⟩
    obtain ⟨H2, g2, wv2, wk2, hB2, x2, hso2, rv2, pv2, rk2, pk2⟩ := hq
    obtain ⟨pB, pS⟩ := put 1 s2 H2 g2 _ _ _ hB2 hso2 rfl #[v, kx]
    exact ⟨_, _, _, hso2, rfl, Nat.zero_le _, H2, g2, pB, pS, wv2, wk2, (x0, k0), rv2, rk2, pv2, pk2, List.mem_cons_self .., rfl⟩
end
end NH
end
section
namespace NH
open PySem L2 PyProof.Rows

section
variable {X : Cx} {A : Ad} {G : Gam} {W : WX} {n : Nat}
/-- the def's code object and its table -/
structure CodeOk (X : Cx) (A : Ad) : Prop where
  ex : ∃ c P, X.env.code = .ref c ∧ LamX.TabB X.base X.mg c P ∧ (P, X.env.qual ++ "<lambda>") ∈ A.T ∧ ∀ p ∈ A.T, p.1 = P → p.2 = X.env.qual ++ "<lambda>"
theorem lam_new {pins : List (Addr × Obj)} {σ : L2.St} {H : Hp} {s : Shared} {g : Gh} {S : Store} {params : Arguments} {body : Expr} {scope : Scope} {pos : Pos} {E Q : Value → Shared → Prop} (I : Inv X pins σ H s) (cn : Cn X.K A g H S) (K : CodeOk X A) (hdef : defaultsOf params X.env = ([], [])) (hfree : ∀ y ∈ scope.names, y.2 = .free → ∃ c, X.env.cells.lookup y.1 = some c)
    (h : ∀ (f c' : Addr) (pm ctv : Value) (H1 : Hp) (s' : Shared), Inv X pins σ H1 s' → Ex g H g H1 → Cn X.K A g H1 S → PinOk X H1 s'.heap (f, PySem.W.kla_obj "<lambda>" (X.env.qual ++ "<lambda>") params body scope (cloFrom X.env.cells scope.names []) pm c' ctv) → f ∉ frs X.stack →
      H1 c' = some (LamX.CodeO c' (X.env.qual ++ "<lambda>")) → Q (.ref f) s') : wpAny (model X.prog X.w) X.A (eval (.Lambda params body scope pos) X.env) Q E s := by
  obtain ⟨c, P, hcode, TB, hm, hu⟩ := K.ex
  obtain ⟨ps, tP, tT, tA⟩ := cn.tab _ hm
  have gP := I.hok P _ tP
  have gP : s.heap.get? P = some { cls := .none, data := .fields ps } := gP
  have bP : s.heap.BuiltinsAt X.mg P := TB.bm.keeps I.bk
  have fin : ∀ {H1 : Hp} {s' : Shared} {f c' : Addr} {pm ctv : Value}, Inv X pins σ H1 s' → LamX.ExtN H H1 → LamX.Tabs A.T H1 → (∀ a, H a ≠ none → H1 a ≠ none) → s.heap.objs.size ≤ f → H1 f = none →
      s'.heap.get? f = some (PySem.W.kla_obj "<lambda>" (X.env.qual ++ "<lambda>") params body scope (cloFrom X.env.cells scope.names []) pm c' ctv) → H1 c' = some (LamX.CodeO c' (X.env.qual ++ "<lambda>")) → Q (.ref f) s' := fun {H1 s' f c' pm ctv} J e t tt hf hn hg hco => by
    obtain ⟨x1, c1⟩ := cn.extN e t tt
    have ok := I.fpOk hf (I.hok.fresh hf)
    refine h f c' pm ctv H1 s' J x1 c1 ⟨hg, hn, ok.2.1, ok.2.2.1, fun v z => by cases z⟩ (fun z => ?_) hco
    rcases List.mem_cons.mp (I.stkSub f z) with e | e
    · exact ok.2.1 e
    · exact ok.2.2.1 e
  refine PySem.W.kla_eval hdef ?_
  cases hc : codeAmong pos ps.toList with
  | some cv =>
    obtain ⟨c', rfl, hco⟩ := tA pos cv hc
    exact PySem.W.kla_makeFunctionHit (mg := X.mg) (c := c) (P := P) (ps := ps) (closure_ok hfree) I.ok.glob (I.mod.glob.keeps I.bk) hcode (TB.code.keeps I.bk) gP tT hc bP fun ctv h' tk hx hsz =>
      fin (pm := (X.mg "__name__").getD .none) (ctv := ctv) (I.kept fun b o e => Heap.get?_push_of_some _ (hx b o e)) (LamX.ExtN.refl H) cn.tab (fun _ z => z) hsz (I.hok.fresh hsz) (Heap.get?_push_size _ rfl) hco
  | none =>
    refine PySem.W.kla_makeFunction (mg := X.mg) (c := c) (P := P) (ps := ps) (closure_ok hfree) I.ok.glob (I.mod.glob.keeps I.bk) hcode (TB.code.keeps I.bk) gP tT hc TB.gP bP fun c' ctv h' tk hx hge hlt hrec htb => ?_
    obtain ⟨c2, oc, vs, t, e2, hoc, hd, hv⟩ := hrec
    cases e2
    have nC : H c' = none := I.hok.fresh hge
    have nPC : P ≠ c' := ne_of_none tP nC
    have hsz : s.heap.objs.size ≤ h'.objs.size := Nat.le_trans hge (Nat.le_of_lt hlt)
    have J := LamX.inv_table (t' := tk) (q := X.env.qual ++ "<lambda>") (more := #[rawInt pos.line, rawInt pos.col, .ref c']) (h' := h'.push (PySem.W.kla_obj "<lambda>" (X.env.qual ++ "<lambda>") params body scope (cloFrom X.env.cells scope.names []) ((X.mg "__name__").getD .none) c' ctv)) I tP
      (fun b o hb e => Heap.get?_push_of_some _ (hx b o hb e)) (Heap.get?_push_of_some _ htb) hge ⟨oc, vs, t, Heap.get?_push_of_some _ hoc, hd, hv⟩
    have eN : LamX.ExtN H (upd (upd H P (.tbl (ps ++ #[rawInt pos.line, rawInt pos.col, .ref c']))) c' (LamX.CodeO c' (X.env.qual ++ "<lambda>"))) := fun b o e nt => by
      rw [upd_ne (ne_of_none e nC), upd_ne]
      · exact e
      · intro z
        subst z
        exact nt ps (Option.some.inj (e.symm.trans tP))
    have tl : (ps ++ #[rawInt pos.line, rawInt pos.col, .ref c']).toList = ps.toList ++ [rawInt pos.line, rawInt pos.col, .ref c'] := by simp
    have fne : h'.objs.size ≠ c' := Nat.ne_of_gt hlt
    have fnP : h'.objs.size ≠ P := Nat.ne_of_gt (Nat.lt_of_lt_of_le (Heap.lt_size gP) hsz)
    refine fin (pm := (X.mg "__name__").getD .none) (ctv := ctv) J eN (fun p hp => ?_) (fun a z => ?_) hsz (by rw [upd_ne fne, upd_ne fnP]; exact I.hok.fresh hsz) (Heap.get?_push_size _ rfl) upd_same
    · obtain ⟨ps', a1, a2, a3⟩ := cn.tab p hp
      by_cases hb : p.1 = P
      · rw [hu p hp hb, hb]
        refine ⟨_, by rw [upd_ne nPC, upd_same], by rw [tl]; exact PySem.TriplesOk_snoc _ _ _ _ tT, fun p' cv hcv => ?_⟩
        rw [tl] at hcv
        rcases LamX.among_app _ tT hcv with z | z
        · obtain ⟨c0, e1, e2⟩ := tA p' cv z
          exact ⟨c0, e1, eN _ _ e2 LamX.codeO_ne⟩
        · exact ⟨c', z, upd_same⟩
      · refine ⟨ps', by rw [upd_ne (ne_of_none a1 nC), upd_ne hb]; exact a1, a2, fun p' cv hcv => ?_⟩
        obtain ⟨c0, e1, e2⟩ := a3 p' cv hcv
        exact ⟨c0, e1, eN _ _ e2 LamX.codeO_ne⟩
    · by_cases hb : a = c'
      · subst hb; rw [upd_same]; simp
      · rw [upd_ne hb]
        by_cases hb2 : a = P
        · subst hb2; rw [upd_same]; simp
        · rw [upd_ne hb2]; exact z
/-- what a key lambda wants -/
structure LamOk (X : Cx) (A : Ad) (params : Arguments) (body : Expr) (scope : Scope) (y : Str) (capN : List Str) (caps : List Nat) (fb : Fr → Store → R T) : Prop where
  code : CodeOk X A
  par : LamP X.env.scope scope y capN
  one : oneArg params y = true
  cap : ∀ (j : Nat) (x : Str), capN[j]? = some x → x ≠ y ∧ ∃ i, caps[j]? = some i ∧ X.N[i]? = some x
  len : caps.length = capN.length
  body : ∀ (A' : Around) (s : Shared) (H : Hp) (f c' : Addr), A' = X.A.in1 ∨ A' = X.A.in1.in1 → PE (lamC X A' (y :: capN) s H scope f c') body (RdE X.K A WF fb)
theorem capsOf_get {ρ : Fr} : ∀ {caps : List Nat} {cts : List T}, capsOf ρ caps = some cts → cts.length = caps.length ∧ ∀ (j i : Nat), caps[j]? = some i → ∃ t, cts[j]? = some t ∧ ρ[i]? = some (some t)
  | [], cts, h => by
    simp only [capsOf, Option.some.injEq] at h
    subst h
    exact ⟨rfl, fun j i e => by simp at e⟩
  | a :: r, cts, h => by
    unfold capsOf at h
    split at h
    · rename_i v vs e1 e2
      cases h
      obtain ⟨l, q⟩ := capsOf_get e2
      refine ⟨congrArg Nat.succ l, fun j i e => ?_⟩
      cases j with
      | zero =>
        simp only [List.getElem?_cons_zero, Option.some.injEq] at e
        subst e
        exact ⟨v, rfl, e1⟩
      | succ j => simpa using q j i (by simpa using e)
    · cases h
theorem caps_vals {K : PySem.W.Frag} {g : Gh} {H : Hp} {σ : L2.St} {ρ : Fr} (f : FrR K A H g σ ρ) {caps : List Nat} {cts : List T} (h : capsOf ρ caps = some cts) : ∃ cvs : List V, cvs.length = caps.length ∧ Reps K A H g cvs cts ∧ ∀ (j i : Nat), caps[j]? = some i → ∃ v : V, σ[i]? = some (some v) ∧ cvs[j]? = some v := by
  induction caps generalizing cts with
  | nil =>
    simp only [capsOf, Option.some.injEq] at h
    subst h
    exact ⟨[], rfl, .nil, fun j i e => by simp at e⟩
  | cons a r ih =>
    unfold capsOf at h
    split at h
    · rename_i t ts e1 e2
      cases h
      obtain ⟨cvs, l, rs, q⟩ := ih e2
      obtain ⟨v, s1, s2⟩ := f.2 a t e1
      refine ⟨v :: cvs, congrArg Nat.succ l, .cons s2 rs, fun j i e => ?_⟩
      cases j with
      | zero =>
        simp only [List.getElem?_cons_zero, Option.some.injEq] at e
        subst e
        exact ⟨v, s1, rfl⟩
      | succ j => simpa using q j i (by simpa using e)
    · cases h
/-- the lambda's calls, as the sort and min want them -/
theorem lam_turn {params : Arguments} {body : Expr} {scope : Scope} {y : Str} {capN : List Str} {caps : List Nat} {fb : Fr → Store → R T} (L : LamOk X A params body scope y capN caps fb) {A' : Around} (hA : A' = X.A.in1 ∨ A' = X.A.in1.in1) (hr : Room 3 X.A) {σ : L2.St} {H : Hp} {g : Gh} {S : Store} {ρ : Fr} {cts : List T} {f c' : Addr} {pm ctv : Value}
    (c : Cn X.K A g H S) (fr : FrR X.K A H g σ ρ) (hc : capsOf ρ caps = some cts) (hco : H c' = some (LamX.CodeO c' (X.env.qual ++ "<lambda>"))) :
    TurnOk X A A' σ g H S f (PySem.W.kla_obj "<lambda>" (X.env.qual ++ "<lambda>") params body scope (cloFrom X.env.cells scope.names []) pm c' ctv) (fun t => fb (some t :: cts.map some) S) := by
  intro pins' s' H' g' u v t k Q J hf x c2 rv r e q
  obtain ⟨cvs, l, rs, qc⟩ := caps_vals (fr.ex x) hc
  have hco' := x.cd _ _ _ hco
  have hd : A'.handled = none := by rcases hA with rfl | rfl <;> exact hr.hd
  have hfr : A'.frames = X.A.frames := by rcases hA with rfl | rfl <;> rfl
  have hdp : A'.depth < recursionLimit := by
    have := hr.dp
    rcases hA with rfl | rfl <;> (show X.A.depth < recursionLimit; omega)
  refine lam_call (cvs := cvs) (cts := cts) J L.par L.one hfr hd hdp (fun j z hz => ?_) (l.trans L.len) hf hco' (L.body A' _ _ _ _ hA) rv c2 r rs ?_
  · obtain ⟨n1, i, h1, h2⟩ := L.cap j z hz
    obtain ⟨w, w1, w2⟩ := qc j i h1
    exact ⟨n1, i, w, h2, w1, w2⟩
  · rw [show fb (some t :: cts.map some) S = .ok k S from e]
    exact fun g2 H2 w x2 c3 _ r2 => q g2 H2 w x2 c3 r2
end
end NH
end
section
namespace NH
open PySem L2 PyProof.Rows

section
variable {X : Cx} {A : Ad} {G : Gam} {W : WX} {n : Nat}
open Classical in
noncomputable def srtKN (caps : List Nat) (fb : Fr → Store → R T) (ρ : Fr) (r : R T) : R Nd := r.bind fun v S1 => (match view S1 v, capsOf ρ caps with
  | .lst xs, some cv => (match keysBy (fun y => fb (some y :: cv.map some) S1) S1 xs with
    | some ks => if keysOk ks then .ok (.lst (sortBy xs ks)) S1 else .no
    | none => .no)
  | _, _ => .no)
open Classical in
noncomputable def minKE (caps : List Nat) (fb : Fr → Store → R T) (ρ : Fr) (r : R T) : R T := r.bind fun v S1 => (match view S1 v, capsOf ρ caps with
  | .lst (x :: xs), some cv => (match keysBy (fun y => fb (some y :: cv.map some) S1) S1 (x :: xs) with
    | some (k :: ks) => if keysOk (k :: ks) then .ok (leastBy (x, k) (xs.zip ks)).1 S1 else .no
    | _ => .no)
  | _, _ => .no)
/-- a built-in function of one list, called with a key lambda -/
theorem key_call {id : String} {x : Str} {params : Arguments} {body e : Expr} {scope : Scope} {y : Str} {capN : List Str} {caps : List Nat} {fb fe : Fr → Store → R T} {lpos kp p pos : Pos} (L : LamOk X A params body scope y capN caps fb) (he : PE X e (RdE X.K A W fe)) (hg : Gl X x) (hm : X.mg x = none) (hv : bootBuiltins x = some (.builtin id)) (hn : x ≠ "__name__") (hd : (x == ("__debug__" : Str)) = false) (hs : isStar e = false)
    {pins : List (Addr × Obj)} {s : Shared} {σ : L2.St} {H : Hp} {Q : VK} {g : Gh} {ρ : Fr} {S : Store} {γ : Type} {rep2 : Hp → Gh → V → γ → Prop} {k : T → Store → R γ} (I : Inv X pins σ H s) (c : Cn X.K A g H S) (f : FrR X.K A H g σ ρ) (h : Aft X.K A rep2 W σ ((fe ρ S).bind k) g H S Q)
    (run : ∀ (t : T) (S1 : Store) (g2 : Gh) (H2 : Hp) (s2 : Shared) (v : V) (u : Value) (fa c' : Addr) (pm ctv : Value), Inv X pins σ H2 s2 → Ex g H g2 H2 → Cn X.K A g2 H2 S1 → S.length ≤ S1.length → RelV v u → Rep X.K A H2 g2 v t → Aft X.K A rep2 W σ (k t S1) g H S Q →
      PinOk X H2 s2.heap (fa, PySem.W.kla_obj "<lambda>" (X.env.qual ++ "<lambda>") params body scope (cloFrom X.env.cells scope.names []) pm c' ctv) → fa ∉ frs X.stack → H2 c' = some (LamX.CodeO c' (X.env.qual ++ "<lambda>")) →
      wpAny (model X.prog X.w) X.A (call (.builtin id) [u] [(Str.ofString "key", .ref fa)]) (EP X pins σ Q) X.xe s2) :
    wpAny (model X.prog X.w) X.A (eval (.Call (.Name x p) [e] [⟨some (Str.ofString "key"), .Lambda params body scope lpos, kp⟩] pos) X.env) (EP X pins σ Q) X.xe s := by
  have ha : PA X [e] (RdA X.K A W fun ρ S => (fe ρ S).bind fun v S1 => (R.ok [] S1).bind fun vs S2 => .ok (v :: vs) S2) := snd_cons he snd_nil (starEach_plain hs)
  have hfree : ∀ z ∈ scope.names, z.2 = .free → ∃ c, X.env.cells.lookup z.1 = some c := fun z hz e => by
    rcases (L.par.free z hz e).2 with k | k
    · exact I.ok.has _ (.inl k)
    · exact I.ok.has _ (.inr k)
  refine wpAny_Call_Name_kw (ld_blt I hg hm hv ?_ hn hd)
  refine PyProof.Rows.callWith_kw ?_ (by rw [starEach_plain hs]; rfl) (star_any (by simp [hs]))
  refine thn (ha.run pos pins s σ H (fun vs H1 => ∀ us s1, Inv X pins σ H1 s1 → Vals vs us → wpAny (model X.prog X.w) X.A (evalAll ((backToKw pos (keywordEach [⟨some (Str.ofString "key"), .Lambda params body scope lpos, kp⟩] X.env)).map (·.2))) (fun kvs s2 => wpAny (model X.prog X.w) X.A (call (.builtin id) us (((backToKw pos (keywordEach [⟨some (Str.ofString "key"), .Lambda params body scope lpos, kp⟩] X.env)).filterMap (·.1)).zip kvs)) (EP X pins σ Q) X.xe s2) X.xe s1) I ⟨g, ρ, S, c, f, ?_⟩) fun us s1 ⟨vs, H1, I1, r1, q1⟩ => q1 us s1 I1 r1
  show Aft X.K A (repL X.K A) W σ ((fe ρ S).bind fun v S1 => (R.ok [] S1).bind fun vs S2 => .ok (v :: vs) S2) g H S _
  cases ef : fe ρ S with
  | exc x S1 => rw [ef] at h; exact h
  | no => rw [ef] at h; exact h.elim
  | ok t S1 =>
    rw [ef] at h
    intro g1 H1 vs x1 c1 l1 rs us s1 I1 rv
    obtain ⟨v, rfl, r⟩ := Reps.one rs
    obtain ⟨u, rfl, ru⟩ := rv.one
    refine kws_cons (lam_new I1 c1 L.code (oneArg_dflt L.one) hfree fun fa c' pm ctv H2 s2 I2 x2 c2 pf nf hco => kws_nil ?_)
    exact run t S1 g1 H2 s2 v u fa c' pm ctv I2 (x1.trans x2) c2 l1 ru (r.ex x2) h pf nf hco
open Classical in
theorem snd_srtK {params : Arguments} {body e : Expr} {scope : Scope} {y : Str} {capN : List Str} {caps : List Nat} {fb fe : Fr → Store → R T} {lpos kp p pos : Pos} (hr : Room (5 * n + 4) X.A) (L : LamOk X A params body scope y capN caps fb) (he : PE X e (RdE X.K A W fe)) (hg : Gl X "sorted") (hm : X.mg "sorted" = none) (hs : isStar e = false) :
    PE X (.Call (.Name "sorted" p) [e] [⟨some (Str.ofString "key"), .Lambda params body scope lpos, kp⟩] pos) (RdN X.K A W fun ρ S => srtKN caps fb ρ (fe ρ S)) := by
  refine ⟨fun pins s σ H Q I ⟨g, ρ, S, c, f, h⟩ => ?_⟩
  refine key_call (id := "sorted") L he hg hm (by decide +kernel) (by decide) (by decide) hs I c f (show Aft X.K A (NewN X.K A H) W σ ((fe ρ S).bind _) g H S Q from h) fun t S1 g2 H2 s2 v u fa c' pm ctv I2 x2 c2 l2 ru r h2 pf nf hco => ?_
  cases ev : view S1 t with
  | lst xs =>
    simp only [ev] at h2
    cases ec : capsOf ρ caps with
    | none => simp only [ec] at h2; exact h2.elim
    | some cv =>
      simp only [ec] at h2
      cases ek : keysBy (fun y => fb (some y :: cv.map some) S1) S1 xs with
      | none => simp only [ek] at h2; exact h2.elim
      | some ks =>
        simp only [ek] at h2
        by_cases hk : keysOk ks
        · simp only [if_pos hk] at h2
          obtain ⟨l, vs, rfl, hl, rs⟩ := c2.lstV r ev
          obtain rfl : u = Value.ref l := ru
          refine sorted_run I2 c2 hl rs (by have := hr.un; omega) pf ek hk (lam_turn L (.inr rfl) (hr.mono (by omega)) c2 (f.ex x2) ec hco) fun D g' H' ws x' c' hD rw' => ?_
          obtain ⟨x0, _⟩ := c'.new (o := .lst ws) hD
          obtain ⟨x3, c3, n3⟩ := newN (H0 := H) (nd := .lst (sortBy xs ks)) c' hD ((x2.trans x').none hD) (.lst upd_same (rw'.ex x0))
          exact h2 g' _ _ ((x2.trans x').trans x3) c3 l2 n3
        · simp only [if_neg hk] at h2; exact h2.elim
  | _ => simp only [ev] at h2; exact h2.elim
open Classical in
theorem snd_minK {params : Arguments} {body e : Expr} {scope : Scope} {y : Str} {capN : List Str} {caps : List Nat} {fb fe : Fr → Store → R T} {lpos kp p pos : Pos} (hr : Room (5 * n + 4) X.A) (L : LamOk X A params body scope y capN caps fb) (he : PE X e (RdE X.K A W fe)) (hg : Gl X "min") (hm : X.mg "min" = none) (hs : isStar e = false) :
    PE X (.Call (.Name "min" p) [e] [⟨some (Str.ofString "key"), .Lambda params body scope lpos, kp⟩] pos) (RdE X.K A W fun ρ S => minKE caps fb ρ (fe ρ S)) := by
  refine ⟨fun pins s σ H Q I ⟨g, ρ, S, c, f, h⟩ => ?_⟩
  refine key_call (id := "min") L he hg hm (by decide +kernel) (by decide) (by decide) hs I c f (show Aft X.K A (repV X.K A) W σ ((fe ρ S).bind _) g H S Q from h) fun t S1 g2 H2 s2 v u fa c' pm ctv I2 x2 c2 l2 ru r h2 pf nf hco => ?_
  cases ev : view S1 t with
  | lst xs =>
    cases xs with
    | nil => simp only [ev] at h2; exact h2.elim
    | cons x xs =>
      simp only [ev] at h2
      cases ec : capsOf ρ caps with
      | none => simp only [ec] at h2; exact h2.elim
      | some cv =>
        simp only [ec] at h2
        cases ek : keysBy (fun y => fb (some y :: cv.map some) S1) S1 (x :: xs) with
        | none => simp only [ek] at h2; exact h2.elim
        | some ks =>
          cases ks with
          | nil => simp only [ek] at h2; exact h2.elim
          | cons k ks =>
            simp only [ek] at h2
            by_cases hk : keysOk (k :: ks)
            · simp only [if_pos hk] at h2
              refine min_run I2 c2 r ru ev (by have := hr.un; omega) hr.hd pf nf ek hk (lam_turn L (.inl rfl) (hr.mono (by omega)) c2 (f.ex x2) ec hco) fun g' H' w x' c' rw' => ?_
              exact h2 g' _ _ (x2.trans x') c' l2 rw'
            · simp only [if_neg hk] at h2; exact h2.elim
  | _ => simp only [ev] at h2; exact h2.elim
end
end NH
end
section
namespace NH
open PySem L2 PyProof.Rows

/-- the module's names -/
structure Tb where
  nm : List Str
  fns : List (Str × Nat)
  cls : List (Str × Nat)
  glo : List (Str × Nat)
  tys : List (Str × Nat × String)
/-- a frame as the matcher sees it -/
structure Sc where
  N : List Str
  scope : Scope
  /-- none: a def's body; some: the scope of the comprehension that is entered -/
  blk : Option Scope
  /-- key lambdas may be made here -/
  lam : Bool
/-- names of built-in functions and types that are used by their names -/
def bltNames : List Str := ["len", "int", "str", "tuple", "isinstance", "all", "any", "min", "max", "repr", "list", "range", "enumerate", "zip", "sorted", "bool", "dict"]
def Sc.vis (sc : Sc) (x : Str) : Bool := match sc.scope.names.lookup x with
  | some .local => true
  | some .cell => true
  | some .free => true
  | _ => false
def Sc.glob (sc : Sc) (x : Str) : Bool := match sc.scope.names.lookup x with
  | some .globalImplicit => true
  | _ => false
/-- the slot i is the name x, it may be stored -/
def Sc.sto (sc : Sc) (x : Str) : Bool := match sc.scope.names.lookup x with
  | some .local => true
  | some .cell => (match sc.blk with
    | none => true
    | some b => b.names.lookup x == some .cell)
  | _ => false
def noDun (x : Str) : Bool := !(x == ("__debug__" : Str)) && !(x == ("__classdict__" : Str)) && !(x == ("__name__" : Str))
structure CtxOk (X : Cx) (A : Ad) (G : Gam) (n : Nat) (W : WX) (tb : Tb) (sc : Sc) : Prop where
  N : X.N = sc.N
  nd : X.N.Nodup
  scope : X.env.scope = sc.scope
  kind : sc.scope.kind = .function
  calm : X.calm = true
  room : Room (5 * n + 1) X.A
  tk : Takes X W
  lay : Lay X.K A G
  fns : ∀ f fn, G.fns f = some fn → FnI X A G n f fn
  nm : ∀ i, i < tb.nm.length → i < A.n ∧ tb.nm[i]? = some (A.nm i)
  fn : ∀ x, sc.sto x = true → X.fn x = true ∨ X.env.scope.names.lookup x = some .local
  tf : ∀ p ∈ tb.fns, X.mg p.1 = some (.ref (A.f p.2)) ∧ PySem.W.keepIn X.K (.ref (A.f p.2)) = true
  tc : ∀ p ∈ tb.cls, X.mg p.1 = some (.ref (A.c p.2)) ∧ PySem.W.keepIn X.K (.ref (A.c p.2)) = true
  tg : ∀ p ∈ tb.glo, ∃ u v t, X.mg p.1 = some u ∧ RelV v u ∧ G.glo p.2 = some t ∧ ∀ H g, Rep X.K A H g v t
  ty : ∀ p ∈ tb.tys, X.mg p.1 = none ∧ bootBuiltins p.1 = some (.type p.2.2) ∧ G.glo p.2.1 = some (.ty p.2.2)
  lm : sc.lam = true → Room (5 * n + 4) X.A ∧ CodeOk X A
  blt : ∀ x ∈ bltNames, X.mg x = none
  attrs : ∀ c cl f, G.cls c = some cl → (cl.flds.contains f = true ∨ (cl.con.lookup f).isSome = true) → cl.kind ≠ 2
section
variable {X : Cx} {A : Ad} {G : Gam} {W : WX} {n : Nat} {tb : Tb} {sc : Sc}
theorem CtxOk.vis (c : CtxOk X A G n W tb sc) {x : Str} (h : sc.vis x = true) : Vis X.env.scope x := by
  unfold Sc.vis at h
  rw [c.scope]
  split at h <;> first | exact .inl (by assumption) | exact .inr (.inl (by assumption)) | exact .inr (.inr (by assumption)) | cases h
theorem CtxOk.loc (c : CtxOk X A G n W tb sc) {x : Str} (h : sc.sto x = true) : Loc X.env.scope x := by
  unfold Sc.sto at h
  rw [c.scope]
  split at h <;> first | exact .inl (by assumption) | exact .inr (by assumption) | cases h
theorem CtxOk.gl (c : CtxOk X A G n W tb sc) {x : Str} (h : sc.glob x = true) : Gl X x := by
  unfold Sc.glob at h
  show X.env.scope.names.lookup x = _
  rw [c.scope]
  split at h <;> first | assumption | cases h
theorem noDun_of {x : Str} (h : noDun x = true) : (x == ("__debug__" : Str)) = false ∧ (x == ("__classdict__" : Str)) = false ∧ x ≠ "__name__" := by
  unfold noDun at h
  simp only [Bool.and_eq_true, Bool.not_eq_true'] at h
  exact ⟨h.1.1, h.1.2, by simpa using h.2⟩
/-! ### looks at the trees -/
def isSlice : Expr → Bool
  | .Slice .. => true
  | _ => false
theorem plainIx_of {b : Expr} (h : isSlice b = false) : PlainIx b := fun o i => by
  cases b <;> first | rfl | cases h
/-- no super() -/
def noSup : Expr → Bool
  | .Call (.Name _ _) [] [] _ => false
  | _ => true
theorem base_of {o : Expr} {m : Str} {env : Env} (h : noSup o = true) : attributeBase o m env (eval o env) = eval o env := by
  unfold attributeBase
  split
  · cases h
  · rfl
def isComp : Expr → Bool
  | .ListComp .. => true
  | .SetComp .. => true
  | .DictComp .. => true
  | _ => false
theorem swaps_of {e : Expr} {t : Option Expr} {l : Nat} {env : Env} (h : isComp e = false) : swapsWith e t l env = pure false := by
  cases e <;> first | rfl | cases h
def isSetE : Expr → Bool
  | .Set .. => true
  | _ => false
theorem fold_of {e : Expr} {env : Env} (h : isSetE e = false) : ∀ x, foldedSetIterable e env x = pure x := fun x => by
  cases e <;> first | rfl | cases h
theorem nobehind_of {op : CmpOp} {b : Expr} (h : isSetE b = false) : behindInMarks op b = false := by
  cases b <;> first | rfl | cases h
end
end NH
end
section
namespace NH
open PySem L2 PyProof.Rows

def Bi.nm : Bi → Str
  | .len => "len" | .int => "int" | .str => "str" | .tuple => "tuple" | .isinstance => "isinstance" | .all => "all" | .any => "any" | .min => "min" | .max => "max" | .repr => "repr"
def noStar (xs : List Expr) : Bool := xs.all fun e => !isStar e
def kwNames (tb : Tb) (ks : List Keyword) (kws : List (Nat × E)) : Bool := decide (ks.map (·.arg) = kws.map fun p => tb.nm[p.1]?) && ks.all fun k => k.arg.isSome
/-- the slots of a comprehension's own names -/
def ownOf (sc : Sc) (scope : Scope) : List (Str × Nat) := scope.names.filterMap fun y => match y.2 with
  | .local => (sc.N.findIdx? (· == y.1)).map (y.1, ·)
  | .cell => (sc.N.findIdx? (· == y.1)).map (y.1, ·)
  | _ => none
def Sc.into (sc : Sc) (scope : Scope) : Sc := ⟨sc.N, relS scope sc.scope, some scope, false⟩
/-- a lambda's own frame -/
def lamSc (scope : Scope) (y : Str) (capN : List Str) : Sc := ⟨y :: capN, scope, some scope, false⟩
def parOf : Arguments → Str
  | ⟨[], [⟨z, _, _⟩], none, [], [], none, []⟩ => z
  | _ => ⟨#[]⟩
def capsN (sc : Sc) (caps : List Nat) : List Str := caps.filterMap fun i => sc.N[i]?
/-- key=lambda .. -/
def keyLam : Keyword → Option (Arguments × Expr × Scope)
  | ⟨some kn, .Lambda params body scope _, _⟩ => if kn = ("key" : Str) then some (params, body, scope) else none
  | _ => none
theorem keyLam_inv {k : Keyword} {q : Arguments × Expr × Scope} (h : keyLam k = some q) : ∃ lp kp, k = ⟨some (Str.ofString "key"), .Lambda q.1 q.2.1 q.2.2 lp, kp⟩ := by
  unfold keyLam at h
  split at h
  · rename_i kn params body scope lp kp
    split at h
    · rename_i e
      cases h
      exact ⟨lp, kp, by rw [e]⟩
    · cases h
  · cases h
def lamOkB (sc : Sc) (params : Arguments) (scope : Scope) (caps : List Nat) : Bool :=
  sc.lam && oneArg params (parOf params) && lamPB sc.scope scope (parOf params) && decide ((parOf params :: capsN sc caps).Nodup) && decide ((capsN sc caps).length = caps.length)
def mTgN (sc : Sc) (i : Nat) : Expr → Bool
  | .Name x _ => sc.N[i]? == some x && sc.sto x
  | _ => false
def mTgs (sc : Sc) : List Nat → List Expr → Bool
  | [], [] => true
  | i :: is, e :: es => mTgN sc i e && mTgs sc is es
  | _, _ => false
def mTg (sc : Sc) : Tg → Expr → Bool
  | .nm i, e => mTgN sc i e
  | .tp is, .Tuple es _ _ => mTgs sc is es
  | _, _ => false
variable (tb : Tb)
mutual
def mX (t : Bool) (sc : Sc) : E → Expr → Bool
  | .var i, .Name x _ => sc.N[i]? == some x && sc.vis x && noDun x
  | .non, .Constant .none _ _ => !t
  | .bl b, .Constant (.bool c) _ _ => !t && b == c
  | .int i, .Constant (.int j) _ _ => !t && i == j
  | .str x, .Constant (.str y) _ _ => !t && x == y && PyData.strOk x
  | .glo i, .Name x _ => !t && sc.glob x && noDun x && (tb.glo.contains (x, i) || tb.tys.any fun p => p.1 == x && p.2.1 == i)
  | .tup es, .Tuple xs _ _ => !t && mEs sc es xs && noStar xs && decide (es.length ≤ 1000)
  | .tupS es, .Tuple xs _ _ => !t && mSs sc es xs
  | .al _ a, e => !t && mA sc a e
  | .and a b, .BoolOp .And [x, y] _ => mX t sc a x && mX t sc b y
  | .and a b, .BoolOp .And (x :: y :: z :: r) p => mX t sc a x && mX t sc b (.BoolOp .And (y :: z :: r) p)
  | .or a b, .BoolOp .Or [x, y] _ => mX t sc a x && mX t sc b y
  | .or a b, .BoolOp .Or (x :: y :: z :: r) p => mX t sc a x && mX t sc b (.BoolOp .Or (y :: z :: r) p)
  | .not a, .UnaryOp .Not x _ => mX t sc a x
  | .neg a, .UnaryOp .USub x _ => !t && mX false sc a x
  | .ite c a b, .IfExp k x y _ => !t && mX true sc c k && mX false sc a x && mX false sc b y
  | .cmp op a b, .Compare x [o] [y] _ => decide (o = op.op) && mX false sc a x && mX false sc b y && !isSetE y
  | .cmp2 op op' a b c, .Compare x [o, o'] [y, z] _ => decide (o = op.op) && decide (o' = op'.op) && mX false sc a x && mX false sc b y && mX false sc c z && !isSetE z
  | .bin op a b, .BinOp x o y _ => !t && decide (o = op.op) && mX false sc a x && mX false sc b y
  | .sub a b, .Subscript x y _ => mX false sc a x && mX false sc b y && !isSlice y
  | .cut a lo hi, .Subscript x (.Slice l h none _) _ => !t && mX false sc a x && mO sc lo l && mO sc hi h
  | .attr e f, .Attribute x nm _ => tb.nm[f]? == some nm && noSup x && mX false sc e x
  | .call f es kws, .Call (.Name x _) xs ks _ => sc.glob x && noDun x && tb.fns.contains (x, f) && mEs sc es xs && noStar xs && kwNames tb ks kws && mKs sc kws ks
  | .make c es kws, .Call (.Name x _) xs ks _ => !t && sc.glob x && noDun x && tb.cls.contains (x, c) && mEs sc es xs && noStar xs && kwNames tb ks kws && mKs sc kws ks
  | .meth e m es kws, .Call (.Attribute o nm ap) xs ks p => tb.nm[m]? == some nm && noSup o && mX false sc e o && mEs sc es xs && noStar xs && kwNames tb ks kws && mKs sc kws ks && decide (xs.length + ks.length + 1 < 30) && (ap.endLine == p.line)
  | .bi b es, .Call (.Name x _) (y :: ys) [] _ => sc.glob x && decide (x = b.nm) && mEs sc es (y :: ys) && noStar (y :: ys)
  | .bm e b es, .Call (.Attribute o nm ap) (y :: ys) [] p => decide (nm = b.nm) && noSup o && mX false sc e o && mEs sc es (y :: ys) && noStar (y :: ys) && decide ((y :: ys).length < 30) && (ap.endLine == p.line)
  | .no, _ => true
  | .minK a b caps, .Call (.Name x _) [e] [k] _ => !t && sc.glob x && decide (x = ("min" : Str)) && mX false sc a e && !isStar e && (match keyLam k with
    | some q => lamOkB sc q.1 q.2.2 caps && mX false (lamSc q.2.2 (parOf q.1) (capsN sc caps)) b q.2.1
    | none => false)
  | .frz e, x => !t && mX false sc e x
  | .fstr es, .JoinedStr (v1 :: v2 :: vs) _ => !t && mFs sc es (v1 :: v2 :: vs)
  | _, _ => false
def mEs (sc : Sc) : List E → List Expr → Bool
  | [], [] => true
  | a :: as, e :: es => mX false sc a e && mEs sc as es
  | _, _ => false
def mSs (sc : Sc) : List (Bool × E) → List Expr → Bool
  | [], [] => true
  | (true, a) :: as, .Starred e _ :: es => mX false sc a e && mSs sc as es
  | (false, a) :: as, e :: es => mX false sc a e && !isStar e && mSs sc as es
  | _, _ => false
def mKs (sc : Sc) : List (Nat × E) → List Keyword → Bool
  | [], [] => true
  | (_, a) :: as, k :: ks => mX false sc a k.value && mKs sc as ks
  | _, _ => false
def mO (sc : Sc) : Option E → Option Expr → Bool
  | none, none => true
  | some a, some e => mX false sc a e
  | _, _ => false
def mFs (sc : Sc) : List E → List Expr → Bool
  | [], [] => true
  | .str x :: as, .Constant (.str y) _ _ :: es => x == y && PyData.strOk x && mFs sc as es
  | a :: as, .FormattedValue e k sp _ :: es => decide (k = -1) && sp.isNone && mX false sc a e && mFs sc as es
  | _, _ => false
def mA (sc : Sc) : A → Expr → Bool
  | .lst es, .List xs _ => mEs sc es xs && noStar xs && decide (es.length ≤ 1000)
  | .lstS es, .List xs _ => mSs sc es xs
  | .dct0, .Dict [] [] _ => true
  | .lc elt tg it ifs own, .ListComp e [g] scope _ => decide (g.is_async = 0) && mTg (sc.into scope) tg g.target && mI sc it g.iter g.target && mIf (sc.into scope) ifs g.ifs && mX false (sc.into scope) elt e && blkC sc.N sc.scope scope (ownOf sc scope) && decide (own = (ownOf sc scope).map (·.2)) && tg.is.all (own.contains ·) && !isSetE g.iter
  | .list a, .Call (.Name x _) [e] [] _ => sc.glob x && decide (x = ("list" : Str)) && mX false sc a e && !isStar e
  | .srt a, .Call (.Name x _) [e] [] _ => sc.glob x && decide (x = ("sorted" : Str)) && mX false sc a e && !isStar e
  | .srtK a b caps, .Call (.Name x _) [e] [k] _ => sc.glob x && decide (x = ("sorted" : Str)) && mX false sc a e && !isStar e && (match keyLam k with
    | some q => lamOkB sc q.1 q.2.2 caps && mX false (lamSc q.2.2 (parOf q.1) (capsN sc caps)) b q.2.1
    | none => false)
  | _, _ => false
def mIf (sc : Sc) : Option E → List Expr → Bool
  | none, [] => true
  | some a, [e] => mX true sc a e
  | _, _ => false
def mI (sc : Sc) : It → Expr → Expr → Bool
  | .seq a, e, _ => mX false sc a e
  | .enum a, .Call (.Name x _) [e] [] _, .Tuple _ _ _ => sc.glob x && decide (x = ("enumerate" : Str)) && mX false sc a e && !isStar e
  | .zip a b, .Call (.Name x _) [e, f] [] _, .Tuple _ _ _ => sc.glob x && decide (x = ("zip" : Str)) && mX false sc a e && mX false sc b f && !isStar e && !isStar f
  | .rng1 a, .Call (.Name x _) [e] [] _, _ => sc.glob x && decide (x = ("range" : Str)) && mX false sc a e && !isStar e
  | .rng2 a b, .Call (.Name x _) [e, f] [] _, _ => sc.glob x && decide (x = ("range" : Str)) && mX false sc a e && mX false sc b f && !isStar e && !isStar f
  | .keys i none, .Name x _, _ => sc.N[i]? == some x && sc.vis x && noDun x
  | .keys i (some f), .Attribute (.Name x _) nm _, _ => tb.nm[f]? == some nm && sc.N[i]? == some x && sc.vis x && noDun x
  | _, _, _ => false
end
end NH
end
section
namespace NH
open PySem L2 PyProof.Rows

variable {A : Ad} {G : Gam} {n : Nat} {tb : Tb}
def OkX (A : Ad) (G : Gam) (n : Nat) (tb : Tb) (ir : E) : Prop := ∀ (t : Bool) (sc : Sc) (e : Expr) (X : Cx) (W : WX), CtxOk X A G n W tb sc → mX tb t sc ir e = true →
  (t = false → PE X e (RdE X.K A W fun ρ S => ev G (runN G n) ir ρ S)) ∧ (t = true → PT X e (RdT X.K A W fun ρ S => tst G (runN G n) ir ρ S) ∧ ∀ op vs p, e = .BoolOp op vs p → PW X e (RdT X.K A W fun ρ S => tst G (runN G n) ir ρ S))
/-- a value's judgement is the test's, for trees whose test is their truth -/
theorem okx_plain {ir : E} {t : Bool} {e : Expr} {X : Cx} {W : WX} (hp : PE X e (RdE X.K A W fun ρ S => ev G (runN G n) ir ρ S)) (he : ∀ whole, isTrue e X.env whole = (do let v ← whole; standAt e.pos; holding [v] (truthy v)))
    (ht : ∀ ρ S, tst G (runN G n) ir ρ S = (ev G (runN G n) ir ρ S).bind fun v S1 => truthT v S1) (hb : ∀ op vs p, e ≠ .BoolOp op vs p) : (t = false → PE X e (RdE X.K A W fun ρ S => ev G (runN G n) ir ρ S)) ∧ (t = true → PT X e (RdT X.K A W fun ρ S => tst G (runN G n) ir ρ S) ∧ ∀ op vs p, e = .BoolOp op vs p → PW X e (RdT X.K A W fun ρ S => tst G (runN G n) ir ρ S)) := by
  refine ⟨fun _ => hp, fun _ => ⟨?_, fun op vs p z => absurd z (hb op vs p)⟩⟩
  have : (fun ρ S => tst G (runN G n) ir ρ S) = fun ρ S => (ev G (runN G n) ir ρ S).bind fun v S1 => truthT v S1 := by
    funext ρ S
    exact ht ρ S
  rw [this]
  exact snd_truth hp he
theorem ok_var (i : Nat) : OkX A G n tb (.var i) := fun t sc e X W c h => by
  cases e with
  | Name x p =>
    simp only [mX, Bool.and_eq_true, beq_iff_eq] at h
    obtain ⟨⟨h1, h2⟩, h3⟩ := h
    obtain ⟨d1, d2, _⟩ := noDun_of h3
    refine okx_plain ?_ (fun _ => rfl) (fun ρ S => ?_) (fun _ _ _ z => by cases z)
    · have := snd_var (A := A) (W := W) (pos := p) (by rw [c.N]; exact h1) (c.vis h2) d1 d2
      exact this.imp fun σ H Q q => q
    · show _ = R.bind (match ρ[i]? with
        | some (some v) => .ok v S
        | _ => .no) _
      unfold tst
      cases ρ[i]? with
      | none => rfl
      | some o => cases o <;> rfl
  | _ => simp [mX] at h
theorem ok_int (i : Int) : OkX A G n tb (.int i) := fun t sc e X W c h => by
  cases e with
  | Constant k m p =>
    cases k with
    | int j =>
      simp only [mX, Bool.and_eq_true, beq_iff_eq, Bool.not_eq_true'] at h
      obtain ⟨h1, h2⟩ := h
      subst h1 h2
      exact ⟨fun _ => snd_const pe_int fun _ _ => .int _, fun z => by cases z⟩
    | _ => simp [mX] at h
  | _ => simp [mX] at h
theorem ok_bin {op : Op2} {a b : E} (ha : OkX A G n tb a) (hb : OkX A G n tb b) : OkX A G n tb (.bin op a b) := fun t sc e X W c h => by
  cases e with
  | BinOp x o y p =>
    simp only [mX, Bool.and_eq_true, Bool.not_eq_true', decide_eq_true_eq] at h
    obtain ⟨⟨⟨h1, h2⟩, h3⟩, h4⟩ := h
    subst h1 h2
    exact ⟨fun _ => snd_bin ((ha false sc x X W c h3).1 rfl) ((hb false sc y X W c h4).1 rfl), fun z => by cases z⟩
  | _ => simp [mX] at h
end NH
end
section
namespace NH
open PySem L2 PyProof.Rows

variable {A : Ad} {G : Gam} {n : Nat} {tb : Tb}
theorem ok_non : OkX A G n tb .non := fun t sc e X W c h => by
  cases e with
  | Constant k m p =>
    cases k with
    | none =>
      simp only [mX, Bool.not_eq_true'] at h
      subst h
      exact ⟨fun _ => snd_const pe_non fun _ _ => .non, fun z => by cases z⟩
    | _ => simp [mX] at h
  | _ => simp [mX] at h
theorem ok_bl (b : Bool) : OkX A G n tb (.bl b) := fun t sc e X W c h => by
  cases e with
  | Constant k m p =>
    cases k with
    | bool j =>
      simp only [mX, Bool.and_eq_true, beq_iff_eq, Bool.not_eq_true'] at h
      obtain ⟨h1, h2⟩ := h
      subst h1 h2
      exact ⟨fun _ => snd_const pe_bl fun _ _ => .bl _, fun z => by cases z⟩
    | _ => simp [mX] at h
  | _ => simp [mX] at h
theorem ok_str (x : Str) : OkX A G n tb (.str x) := fun t sc e X W c h => by
  cases e with
  | Constant k m p =>
    cases k with
    | str j =>
      simp only [mX, Bool.and_eq_true, beq_iff_eq, Bool.not_eq_true'] at h
      obtain ⟨⟨h1, h2⟩, h3⟩ := h
      subst h1 h2
      exact ⟨fun _ => snd_const pe_str fun _ _ => .str _ h3, fun z => by cases z⟩
    | _ => simp [mX] at h
  | _ => simp [mX] at h
theorem ok_no : OkX A G n tb .no := fun t sc e X W c h => ⟨fun _ => snd_neverE, fun _ => ⟨⟨fun pins s σ H Q I ⟨g, ρ, S, c, f, h⟩ => h.elim⟩, fun op vs p _ => ⟨fun wh pins s σ H Q I ⟨g, ρ, S, c, f, h⟩ => h.elim⟩⟩⟩
theorem ok_frz {a : E} (ha : OkX A G n tb a) : OkX A G n tb (.frz a) := fun t sc e X W c h => by
  simp only [mX, Bool.and_eq_true, Bool.not_eq_true'] at h
  obtain ⟨h1, h2⟩ := h
  subst h1
  exact ⟨fun _ => snd_frz ((ha false sc e X W c h2).1 rfl), fun z => by cases z⟩
theorem ok_neg {a : E} (ha : OkX A G n tb a) : OkX A G n tb (.neg a) := fun t sc e X W c h => by
  cases e with
  | UnaryOp op x p =>
    cases op with
    | USub =>
      simp only [mX, Bool.and_eq_true, Bool.not_eq_true'] at h
      obtain ⟨h1, h2⟩ := h
      subst h1
      exact ⟨fun _ => snd_neg ((ha false sc x X W c h2).1 rfl), fun z => by cases z⟩
    | _ => simp [mX] at h
  | _ => simp [mX] at h
theorem ok_not {a : E} (ha : OkX A G n tb a) : OkX A G n tb (.not a) := fun t sc e X W c h => by
  cases e with
  | UnaryOp op x p =>
    cases op with
    | Not =>
      simp only [mX] at h
      refine ⟨fun z => ?_, fun z => ⟨?_, fun _ _ _ z => by cases z⟩⟩
      · subst z; exact snd_not ((ha false sc x X W c h).1 rfl)
      · subst z; exact snd_tnot ((ha true sc x X W c h).2 rfl).1
    | _ => simp [mX] at h
  | _ => simp [mX] at h
theorem ok_ite {k a b : E} (hk : OkX A G n tb k) (ha : OkX A G n tb a) (hb : OkX A G n tb b) : OkX A G n tb (.ite k a b) := fun t sc e X W c h => by
  cases e with
  | IfExp q x y p =>
    simp only [mX, Bool.and_eq_true, Bool.not_eq_true'] at h
    obtain ⟨⟨⟨h1, h2⟩, h3⟩, h4⟩ := h
    subst h1
    exact ⟨fun _ => snd_ite ((hk true sc q X W c h2).2 rfl).1 ((ha false sc x X W c h3).1 rfl) ((hb false sc y X W c h4).1 rfl), fun z => by cases z⟩
  | _ => simp [mX] at h
theorem room2 {X : Cx} {W : WX} {sc : Sc} (c : CtxOk X A G n W tb sc) : Room (5 * n) X.A := c.room.mono (Nat.le_succ _)
theorem ok_cmp {op : Cm} {a b : E} (ha : OkX A G n tb a) (hb : OkX A G n tb b) : OkX A G n tb (.cmp op a b) := fun t sc e X W c h => by
  cases e with
  | Compare x os ys p =>
    rcases os with _ | ⟨o, _ | ⟨o2, os⟩⟩ <;> rcases ys with _ | ⟨y, _ | ⟨y2, ys⟩⟩ <;> try (simp [mX] at h; done)
    simp only [mX, Bool.and_eq_true, Bool.not_eq_true', decide_eq_true_eq] at h
    obtain ⟨⟨⟨h1, h2⟩, h3⟩, h4⟩ := h
    subst h1
    have pa := (ha false sc x X W c h2).1 rfl
    have pb := (hb false sc y X W c h3).1 rfl
    exact ⟨fun _ => snd_cmp c.lay c.fns (room2 c) pa pb (nobehind_of h4), fun _ => ⟨snd_tcmp c.lay c.fns (room2 c) pa pb (nobehind_of h4), fun _ _ _ z => by cases z⟩⟩
  | _ => simp [mX] at h
theorem ok_cmp2 {op op' : Cm} {a b d : E} (ha : OkX A G n tb a) (hb : OkX A G n tb b) (hd : OkX A G n tb d) : OkX A G n tb (.cmp2 op op' a b d) := fun t sc e X W c h => by
  cases e with
  | Compare x os ys p =>
    rcases os with _ | ⟨o, _ | ⟨o2, _ | ⟨o3, os⟩⟩⟩ <;> rcases ys with _ | ⟨y, _ | ⟨y2, _ | ⟨y3, ys⟩⟩⟩ <;> try (simp [mX] at h; done)
    simp only [mX, Bool.and_eq_true, Bool.not_eq_true', decide_eq_true_eq] at h
    obtain ⟨⟨⟨⟨⟨h1, h1'⟩, h2⟩, h3⟩, h5⟩, h4⟩ := h
    subst h1 h1'
    have pa := (ha false sc x X W c h2).1 rfl
    have pb := (hb false sc y X W c h3).1 rfl
    have pd := (hd false sc y2 X W c h5).1 rfl
    have hm : lastMarks [op.op, op'.op] [y, y2] = false := nobehind_of h4
    exact ⟨fun _ => snd_cmp2 c.lay c.fns (room2 c) pa pb pd hm, fun _ => ⟨snd_tcmp2 c.lay c.fns (room2 c) pa pb pd hm, fun _ _ _ z => by cases z⟩⟩
  | _ => simp [mX] at h
theorem ok_and {a b : E} (ha : OkX A G n tb a) (hb : OkX A G n tb b) : OkX A G n tb (.and a b) := fun t sc e X W c h => by
  cases e with
  | BoolOp op vs p =>
    cases op with
    | And =>
      rcases vs with _ | ⟨x, _ | ⟨y, _ | ⟨z, r⟩⟩⟩ <;> try (simp [mX] at h; done)
      · simp only [mX, Bool.and_eq_true] at h
        refine ⟨fun q => ?_, fun q => ?_⟩
        · subst q; exact snd_and ((ha false sc x X W c h.1).1 rfl) (snd_and1 ((hb false sc y X W c h.2).1 rfl))
        · subst q
          have w : PW X (.BoolOp .And [x, y] p) _ := snd_tand ((ha true sc x X W c h.1).2 rfl).1 (snd_tand1 ((hb true sc y X W c h.2).2 rfl).1)
          exact ⟨w.pt, fun op vs p' q => by cases q; exact w⟩
      · simp only [mX, Bool.and_eq_true] at h
        refine ⟨fun q => ?_, fun q => ?_⟩
        · subst q; exact snd_and ((ha false sc x X W c h.1).1 rfl) ((hb false sc _ X W c h.2).1 rfl)
        · subst q
          have w : PW X (.BoolOp .And (x :: y :: z :: r) p) _ := snd_tand ((ha true sc x X W c h.1).2 rfl).1 (((hb true sc _ X W c h.2).2 rfl).2 _ _ _ rfl)
          exact ⟨w.pt, fun op vs p' q => by cases q; exact w⟩
    | Or => simp [mX] at h
  | _ => simp [mX] at h
theorem ok_or {a b : E} (ha : OkX A G n tb a) (hb : OkX A G n tb b) : OkX A G n tb (.or a b) := fun t sc e X W c h => by
  cases e with
  | BoolOp op vs p =>
    cases op with
    | Or =>
      rcases vs with _ | ⟨x, _ | ⟨y, _ | ⟨z, r⟩⟩⟩ <;> try (simp [mX] at h; done)
      · simp only [mX, Bool.and_eq_true] at h
        refine ⟨fun q => ?_, fun q => ?_⟩
        · subst q; exact snd_or ((ha false sc x X W c h.1).1 rfl) (snd_or1 ((hb false sc y X W c h.2).1 rfl))
        · subst q
          have w : PW X (.BoolOp .Or [x, y] p) _ := snd_tor ((ha true sc x X W c h.1).2 rfl).1 (snd_tor1 ((hb true sc y X W c h.2).2 rfl).1)
          exact ⟨w.pt, fun op vs p' q => by cases q; exact w⟩
      · simp only [mX, Bool.and_eq_true] at h
        refine ⟨fun q => ?_, fun q => ?_⟩
        · subst q; exact snd_or ((ha false sc x X W c h.1).1 rfl) ((hb false sc _ X W c h.2).1 rfl)
        · subst q
          have w : PW X (.BoolOp .Or (x :: y :: z :: r) p) _ := snd_tor ((ha true sc x X W c h.1).2 rfl).1 (((hb true sc _ X W c h.2).2 rfl).2 _ _ _ rfl)
          exact ⟨w.pt, fun op vs p' q => by cases q; exact w⟩
    | And => simp [mX] at h
  | _ => simp [mX] at h
end NH
end
section
namespace NH
open PySem L2 PyProof.Rows

variable {A : Ad} {G : Gam} {n : Nat} {tb : Tb}
def OkEs (A : Ad) (G : Gam) (n : Nat) (tb : Tb) (es : List E) : Prop := ∀ (sc : Sc) (xs : List Expr) (X : Cx) (W : WX), CtxOk X A G n W tb sc → mEs tb sc es xs = true → noStar xs = true → PA X xs (RdA X.K A W fun ρ S => evs G (runN G n) es ρ S)
theorem okes_nil : OkEs A G n tb [] := fun sc xs X W c h _ => by
  cases xs with
  | nil => exact snd_nil
  | cons x xs => simp [mEs] at h
theorem okes_cons {a : E} {es : List E} (ha : OkX A G n tb a) (hs : OkEs A G n tb es) : OkEs A G n tb (a :: es) := fun sc xs X W c h hn => by
  cases xs with
  | nil => simp [mEs] at h
  | cons x xs =>
    simp only [mEs, Bool.and_eq_true] at h
    unfold noStar at hn
    simp only [List.all_cons, Bool.and_eq_true, Bool.not_eq_true'] at hn
    exact snd_cons ((ha false sc x X W c h.1).1 rfl) (hs sc xs X W c h.2 hn.2) (starEach_plain hn.1)
theorem evs_len {D : Run} : ∀ {es : List E} {ρ : Fr} {S S' : Store} {ts : List T}, evs G D es ρ S = .ok ts S' → ts.length = es.length
  | [], ρ, S, S', ts, h => by
    unfold evs at h
    cases h
    rfl
  | e :: es, ρ, S, S', ts, h => by
    unfold evs at h
    cases e1 : ev G D e ρ S with
    | ok v S1 =>
      rw [e1] at h
      replace h : (evs G D es ρ S1).bind (fun vs S2 => R.ok (v :: vs) S2) = .ok ts S' := h
      cases e2 : evs G D es ρ S1 with
      | ok vs S2 => rw [e2] at h; cases h; exact congrArg Nat.succ (evs_len e2)
      | exc _ _ => rw [e2] at h; cases h
      | no => rw [e2] at h; cases h
    | exc _ _ => rw [e1] at h; cases h
    | no => rw [e1] at h; cases h
theorem ok_sub {a b : E} (ha : OkX A G n tb a) (hb : OkX A G n tb b) : OkX A G n tb (.sub a b) := fun t sc e X W c h => by
  cases e with
  | Subscript x y p =>
    have h' : mX tb false sc a x = true ∧ mX tb false sc b y = true ∧ isSlice y = false := by
      cases y <;> simp [mX, isSlice] at h ⊢ <;> exact h
    refine okx_plain (snd_sub (by have := c.room.un; omega) ((ha false sc x X W c h'.1).1 rfl) ((hb false sc y X W c h'.2.1).1 rfl) (plainIx_of h'.2.2)) (fun _ => rfl) (fun ρ S => rfl) (fun _ _ _ z => by cases z)
  | _ => simp [mX] at h
theorem ok_attr {a : E} {f : Nat} (ha : OkX A G n tb a) : OkX A G n tb (.attr a f) := fun t sc e X W c h => by
  cases e with
  | Attribute x nm p =>
    simp only [mX, Bool.and_eq_true, beq_iff_eq] at h
    obtain ⟨⟨h1, h2⟩, h3⟩ := h
    have hl : f < tb.nm.length := (List.getElem?_eq_some_iff.mp h1).1
    obtain ⟨n1, n2⟩ := c.nm f hl
    obtain rfl : nm = A.nm f := Option.some.inj (h1.symm.trans n2)
    refine okx_plain (snd_attr c.lay (fun c1 cl => c.attrs c1 cl f) n1 ((ha false sc x X W c h3).1 rfl) (base_of h2)) (fun _ => rfl) (fun ρ S => rfl) (fun _ _ _ z => by cases z)
  | _ => simp [mX] at h
end NH
end
section
namespace NH
open PySem L2 PyProof.Rows

variable {A : Ad} {G : Gam} {n : Nat} {tb : Tb}
def OkKs (A : Ad) (G : Gam) (n : Nat) (tb : Tb) (kws : List (Nat × E)) : Prop := ∀ (sc : Sc) (ks : List Keyword) (X : Cx) (W : WX), CtxOk X A G n W tb sc → mKs tb sc kws ks = true → PK X ks (RdK X.K A W fun ρ S => evK G (runN G n) kws ρ S)
theorem okks_nil : OkKs A G n tb [] := fun sc ks X W c h => by
  cases ks with
  | nil => exact snd_knil
  | cons x xs => simp [mKs] at h
theorem okks_cons {i : Nat} {a : E} {kws : List (Nat × E)} (ha : OkX A G n tb a) (hs : OkKs A G n tb kws) : OkKs A G n tb ((i, a) :: kws) := fun sc ks X W c h => by
  cases ks with
  | nil => simp [mKs] at h
  | cons k ks =>
    obtain ⟨ka, kv, kp⟩ := k
    simp only [mKs, Bool.and_eq_true] at h
    exact snd_kcons (k := i) ((ha false sc kv X W c h.1).1 rfl) (hs sc ks X W c h.2)
theorem evK_ids {D : Run} : ∀ {kws : List (Nat × E)} {ρ : Fr} {S S' : Store} {ts : List (Nat × T)}, evK G D kws ρ S = .ok ts S' → ts.map (·.1) = kws.map (·.1)
  | [], ρ, S, S', ts, h => by
    unfold evK at h
    cases h
    rfl
  | (i, e) :: es, ρ, S, S', ts, h => by
    unfold evK at h
    cases e1 : ev G D e ρ S with
    | ok v S1 =>
      rw [e1] at h
      replace h : (evK G D es ρ S1).bind (fun vs S2 => R.ok ((i, v) :: vs) S2) = .ok ts S' := h
      cases e2 : evK G D es ρ S1 with
      | ok vs S2 =>
        rw [e2] at h
        cases h
        simp only [List.map_cons]
        rw [evK_ids e2]
      | exc _ _ => rw [e2] at h; cases h
      | no => rw [e2] at h; cases h
    | exc _ _ => rw [e1] at h; cases h
    | no => rw [e1] at h; cases h
theorem kw_names {X : Cx} {W : WX} {sc : Sc} (c : CtxOk X A G n W tb sc) {ks : List Keyword} {kws : List (Nat × E)} (h : kwNames tb ks kws = true) : ks.all (fun k => k.arg.isSome) = true ∧ ∀ (ρ : Fr) (S : Store) (tws : List (Nat × T)) (S' : Store), evK G (runN G n) kws ρ S = .ok tws S' → ks.filterMap (·.arg) = (tws.map (·.1)).map A.nm ∧ ∀ k ∈ tws.map (·.1), k < A.n := by
  unfold kwNames at h
  simp only [Bool.and_eq_true, decide_eq_true_eq] at h
  obtain ⟨h1, h2⟩ := h
  refine ⟨h2, fun ρ S tws S' e => ?_⟩
  rw [evK_ids e]
  have go : ∀ (ks : List Keyword) (kws : List (Nat × E)), ks.map (·.arg) = kws.map (fun p => tb.nm[p.1]?) → ks.all (fun k => k.arg.isSome) = true → ks.filterMap (·.arg) = (kws.map (·.1)).map A.nm ∧ ∀ k ∈ kws.map (·.1), k < A.n := by
    intro ks
    induction ks with
    | nil =>
      intro kws q _
      cases kws with
      | nil => exact ⟨rfl, by simp⟩
      | cons p kws => cases q
    | cons k ks ih =>
      intro kws q hs
      cases kws with
      | nil => cases q
      | cons p kws =>
        simp only [List.map_cons, List.cons.injEq] at q
        simp only [List.all_cons, Bool.and_eq_true] at hs
        obtain ⟨i1, i2⟩ := ih kws q.2 hs.2
        obtain ⟨a, ea⟩ := Option.isSome_iff_exists.mp hs.1
        have hl : p.1 < tb.nm.length := by
          rw [ea] at q
          exact (List.getElem?_eq_some_iff.mp q.1.symm).1
        obtain ⟨n1, n2⟩ := c.nm p.1 hl
        have e2 : a = A.nm p.1 := by
          have := q.1
          rw [ea, n2] at this
          exact Option.some.inj this
        refine ⟨?_, fun x hx => ?_⟩
        · simp only [List.filterMap_cons, ea, List.map_cons, i1, e2]
        · simp only [List.map_cons, List.mem_cons] at hx
          rcases hx with hx | hx
          · rw [hx]; exact n1
          · exact i2 x hx
  exact go ks kws h1 h2
theorem nil_evs {X : Cx} {sc : Sc} {es : List E} {xs : List Expr} (h : mEs tb sc es xs = true) : xs = [] → ∀ ρ S, evs G (runN G n) es ρ S = .ok [] S := fun e ρ S => by
  subst e
  cases es with
  | nil => rfl
  | cons _ _ => simp [mEs] at h
theorem ok_call {f : Nat} {es : List E} {kws : List (Nat × E)} (hs : OkEs A G n tb es) (hk : OkKs A G n tb kws) : OkX A G n tb (.call f es kws) := fun t sc e X W c h => by
  cases e with
  | Call fe xs ks p =>
    cases fe with
    | Name x p2 =>
      simp only [mX, Bool.and_eq_true, List.contains_iff_mem] at h
      obtain ⟨⟨⟨⟨⟨⟨h1, h2⟩, h3⟩, h4⟩, h5⟩, h6⟩, h7⟩ := h
      obtain ⟨k1, k2⟩ := kw_names c h6
      obtain ⟨m1, m2⟩ := c.tf _ h3
      refine okx_plain (snd_call (c.fns f) (room2 c) c.tk (c.gl h1) m1 m2 h5 k1 (hs sc xs X W c h4 h5) (nil_evs (X := X) h4) (hk sc ks X W c h7) k2 (noDun_of h2).1) (fun _ => rfl) (fun ρ S => rfl) (fun _ _ _ z => by cases z)
    | _ => simp [mX] at h
  | _ => simp [mX] at h
theorem ok_make {cc : Nat} {es : List E} {kws : List (Nat × E)} (hs : OkEs A G n tb es) (hk : OkKs A G n tb kws) : OkX A G n tb (.make cc es kws) := fun t sc e X W c h => by
  cases e with
  | Call fe xs ks p =>
    cases fe with
    | Name x p2 =>
      simp only [mX, Bool.and_eq_true, List.contains_iff_mem, Bool.not_eq_true'] at h
      obtain ⟨⟨⟨⟨⟨⟨⟨h0, h1⟩, h2⟩, h3⟩, h4⟩, h5⟩, h6⟩, h7⟩ := h
      subst h0
      obtain ⟨k1, k2⟩ := kw_names c h6
      obtain ⟨m1, m2⟩ := c.tc _ h3
      exact ⟨fun _ => snd_make c.lay c.fns c.room c.tk (c.gl h1) m1 m2 h5 k1 (hs sc xs X W c h4 h5) (nil_evs (X := X) h4) (hk sc ks X W c h7) k2 (noDun_of h2).1, fun z => by cases z⟩
    | _ => simp [mX] at h
  | _ => simp [mX] at h
theorem ok_meth {a : E} {m : Nat} {es : List E} {kws : List (Nat × E)} (ha : OkX A G n tb a) (hs : OkEs A G n tb es) (hk : OkKs A G n tb kws) : OkX A G n tb (.meth a m es kws) := fun t sc e X W c h => by
  cases e with
  | Call fe xs ks p =>
    cases fe with
    | Attribute o nm ap =>
      simp only [mX, Bool.and_eq_true, decide_eq_true_eq] at h
      obtain ⟨⟨⟨⟨⟨⟨⟨⟨h1, h2⟩, h3⟩, h4⟩, h5⟩, h6⟩, h7⟩, h8⟩, h9⟩ := h
      have h1 : tb.nm[m]? = some nm := by simpa using h1
      obtain ⟨k1, k2⟩ := kw_names c h6
      have hl : m < tb.nm.length := (List.getElem?_eq_some_iff.mp h1).1
      obtain ⟨n1, n2⟩ := c.nm m hl
      obtain rfl : nm = A.nm m := Option.some.inj (h1.symm.trans n2)
      refine okx_plain (snd_meth c.lay (fun cc cl ec ⟨f, ef⟩ => c.lay.ord cc cl m ec (by rw [ef]; rfl)) c.fns (room2 c) c.tk (base_of h2) h8 h9 h5 k1 ((ha false sc o X W c h3).1 rfl) (hs sc xs X W c h4 h5) (nil_evs (X := X) h4) (hk sc ks X W c h7) k2) (fun _ => rfl) (fun ρ S => rfl) (fun _ _ _ z => by cases z)
    | _ => simp [mX] at h
  | _ => simp [mX] at h
end NH
end
section
namespace NH
open PySem L2 PyProof.Rows

variable {A : Ad} {G : Gam} {n : Nat} {tb : Tb}
theorem small_line {m : Nat} (h : m ≤ 1000) : m ≤ sizeLine := by rw [sizeLine_eq]; omega
theorem ok_tup {es : List E} (hs : OkEs A G n tb es) : OkX A G n tb (.tup es) := fun t sc e X W c h => by
  cases e with
  | Tuple xs k p =>
    simp only [mX, Bool.and_eq_true, Bool.not_eq_true', decide_eq_true_eq] at h
    obtain ⟨⟨⟨h0, h1⟩, h2⟩, h3⟩ := h
    subst h0
    exact ⟨fun _ => snd_tup (hs sc xs X W c h1 h2) fun ρ S ts S' e => by rw [evs_len e]; exact small_line h3, fun z => by cases z⟩
  | _ => simp [mX] at h
def OkO (A : Ad) (G : Gam) (n : Nat) (tb : Tb) (o : Option E) : Prop := ∀ (sc : Sc) (x : Option Expr) (X : Cx) (W : WX), CtxOk X A G n W tb sc → mO tb sc o x = true → PO X x (RdO X.K A W fun ρ S => evO G (runN G n) o ρ S)
theorem oko_none : OkO A G n tb none := fun sc x X W c h => by
  cases x with
  | none => exact snd_po_none
  | some _ => simp [mO] at h
theorem oko_some {a : E} (ha : OkX A G n tb a) : OkO A G n tb (some a) := fun sc x X W c h => by
  cases x with
  | none => simp [mO] at h
  | some e => simp only [mO] at h; exact snd_po_some ((ha false sc e X W c h).1 rfl)
theorem ok_cut {a : E} {lo hi : Option E} (ha : OkX A G n tb a) (hl : OkO A G n tb lo) (hh : OkO A G n tb hi) : OkX A G n tb (.cut a lo hi) := fun t sc e X W c h => by
  cases e with
  | Subscript x y p =>
    cases y with
    | Slice l u st p2 =>
      cases st with
      | none =>
        simp only [mX, Bool.and_eq_true, Bool.not_eq_true'] at h
        obtain ⟨⟨⟨h0, h1⟩, h2⟩, h3⟩ := h
        subst h0
        exact ⟨fun _ => snd_cut ((ha false sc x X W c h1).1 rfl) (hl sc l X W c h2) (hh sc u X W c h3), fun z => by cases z⟩
      | some _ => simp [mX] at h
    | _ => simp [mX] at h
  | _ => simp [mX] at h
theorem ok_bm {a : E} {b : Bm} {es : List E} (ha : OkX A G n tb a) (hs : OkEs A G n tb es) : OkX A G n tb (.bm a b es) := fun t sc e X W c h => by
  cases e with
  | Call fe xs ks p =>
    cases fe with
    | Attribute o nm ap =>
      cases xs with
      | nil => simp [mX] at h
      | cons y ys =>
        cases ks with
        | cons _ _ => simp [mX] at h
        | nil =>
          simp only [mX, Bool.and_eq_true, decide_eq_true_eq] at h
          obtain ⟨⟨⟨⟨⟨⟨h1, h2⟩, h3⟩, h4⟩, h5⟩, h6⟩, h7⟩ := h
          subst h1
          refine okx_plain (snd_bm (by have := c.room.un; omega) ((ha false sc o X W c h3).1 rfl) (hs sc _ X W c h4 h5) (base_of h2) h7 h5 h6) (fun _ => rfl) (fun ρ S => rfl) (fun _ _ _ z => by cases z)
    | _ => simp [mX] at h
  | _ => simp [mX] at h
end NH
end
section
namespace NH
open PySem L2 PyProof.Rows

variable {A : Ad} {G : Gam} {n : Nat} {tb : Tb}
/-- a built-in function: its place among the names, its rule -/
theorem bi_rule {X : Cx} {W : WX} {sc : Sc} (c : CtxOk X A G n W tb sc) (b : Bi) : X.mg b.nm = none ∧ noDun b.nm = true ∧ ((∃ id, bootBuiltins b.nm = some (.builtin id) ∧ CallR X (.builtin id) (PVs X.K A (biT G (runN G n) b))) ∨ ∃ T', bootBuiltins b.nm = some (.type T') ∧ CallR X (.type T') (PVs X.K A (biT G (runN G n) b))) := by
  cases b with
  | len => exact ⟨c.blt _ (by decide), by decide, .inl ⟨"len", by decide +kernel, (cr_len c.lay c.fns c.room).call⟩⟩
  | int => exact ⟨c.blt _ (by decide), by decide, .inr ⟨"int", by decide +kernel, cr_int.call⟩⟩
  | str => exact ⟨c.blt _ (by decide), by decide, .inr ⟨"str", by decide +kernel, cr_str.call⟩⟩
  | tuple => exact ⟨c.blt _ (by decide), by decide, .inr ⟨"tuple", by decide +kernel, cr_tuple.call⟩⟩
  | isinstance => exact ⟨c.blt _ (by decide), by decide, .inl ⟨"isinstance", by decide +kernel, (cr_isi c.lay).call⟩⟩
  | all => exact ⟨c.blt _ (by decide), by decide, .inl ⟨"all", by decide +kernel, (cr_allT c.calm).call⟩⟩
  | any => exact ⟨c.blt _ (by decide), by decide, .inl ⟨"any", by decide +kernel, (cr_anyT c.calm).call⟩⟩
  | max => exact ⟨c.blt _ (by decide), by decide, .inl ⟨"max", by decide +kernel, (cr_maxT c.calm).call⟩⟩
  | min => exact ⟨c.blt _ (by decide), by decide, .inl ⟨"min", by decide +kernel, (cr_minT c.calm).call⟩⟩
  | repr => exact ⟨c.blt _ (by decide), by decide, .inl ⟨"repr", by decide +kernel, (cr_repr c.lay c.fns c.room).call⟩⟩
theorem bi_rd {K : PySem.W.Frag} {W : WX} {f : List T → Store → R T} {fs : Fr → Store → R (List T)} {σ : L2.St} {H : Hp} {Q : VK} (h : RdE K A W (fun ρ S => (fs ρ S).bind fun vs S1 => (f vs S1).noX) σ H Q) : tCB (PVs K A f) (RdA K A W fs) σ H Q := by
  obtain ⟨g, ρ, S, c, fr, h⟩ := h
  exact ⟨g, ρ, S, c, fr, h.bind fun ts S1 g1 H1 vs _ x1 c1 l1 r1 h1 => ⟨g1, S1, ts, c1, r1, h1.noX⟩⟩
theorem ok_bi {b : Bi} {es : List E} (hs : OkEs A G n tb es) : OkX A G n tb (.bi b es) := fun t sc e X W c h => by
  cases e with
  | Call fe xs ks p =>
    cases fe with
    | Name x p2 =>
      cases xs with
      | nil => simp [mX] at h
      | cons y ys =>
        cases ks with
        | cons _ _ => simp [mX] at h
        | nil =>
          simp only [mX, Bool.and_eq_true, decide_eq_true_eq] at h
          obtain ⟨⟨⟨h1, h2⟩, h3⟩, h4⟩ := h
          subst h2
          obtain ⟨q1, q2, q3⟩ := bi_rule c b
          obtain ⟨d1, d2, d3⟩ := noDun_of q2
          have h4' := h4
          unfold noStar at h4'
          simp only [List.all_cons, Bool.and_eq_true, Bool.not_eq_true'] at h4'
          have pa := hs sc _ X W c h3 h4
          have pe : PE X (.Call (.Name b.nm p2) (y :: ys) [] p) (RdE X.K A W fun ρ S => ev G (runN G n) (.bi b es) ρ S) := by
            rcases q3 with ⟨id, e1, e2⟩ | ⟨T', e1, e2⟩
            · exact (pe_callB e2 (c.gl h1) q1 e1 pa d3 d1 (starEach_plain h4'.1) (star_any h4'.2)).imp fun σ H Q h => bi_rd h
            · exact (pe_callTy e2 (c.gl h1) q1 e1 pa d3 d1 (starEach_plain h4'.1) (star_any h4'.2)).imp fun σ H Q h => bi_rd h
          exact okx_plain pe (fun _ => rfl) (fun ρ S => rfl) (fun _ _ _ z => by cases z)
    | _ => simp [mX] at h
  | _ => simp [mX] at h
end NH
end
section
namespace NH
open PySem L2 PyProof.Rows

variable {A : Ad} {G : Gam} {n : Nat} {tb : Tb}
theorem ok_glo (i : Nat) : OkX A G n tb (.glo i) := fun t sc e X W c h => by
  cases e with
  | Name x p =>
    simp only [mX, Bool.and_eq_true, Bool.or_eq_true, Bool.not_eq_true', List.contains_iff_mem, List.any_eq_true, beq_iff_eq] at h
    obtain ⟨⟨⟨h0, h1⟩, h2⟩, h3⟩ := h
    subst h0
    refine ⟨fun _ => ?_, fun z => by cases z⟩
    obtain ⟨d1, d2, d3⟩ := noDun_of h2
    rcases h3 with h3 | ⟨q, hq, e1, e2⟩
    · obtain ⟨u, v, t, m1, m2, m3, m4⟩ := c.tg _ h3
      exact snd_glo (c.gl h1) m1 m2 d1 m3 m4
    · obtain ⟨m1, m2, m3⟩ := c.ty q hq
      rw [e1] at m1 m2
      rw [e2] at m3
      exact snd_gty (c.gl h1) m1 m2 d3 d1 m3
  | _ => simp [mX] at h
/-- a new list or dict: its judgement -/
def OkA (A : Ad) (G : Gam) (n : Nat) (tb : Tb) (a : NH.A) : Prop := ∀ (sc : Sc) (e : Expr) (X : Cx) (W : WX), CtxOk X A G n W tb sc → mA tb sc a e = true → PE X e (RdN X.K A W fun ρ S => evA G (runN G n) a ρ S)
theorem ok_al {m : Bool} {a : NH.A} (ha : OkA A G n tb a) : OkX A G n tb (.al m a) := fun t sc e X W c h => by
  simp only [mX, Bool.and_eq_true, Bool.not_eq_true'] at h
  obtain ⟨h0, h1⟩ := h
  subst h0
  exact ⟨fun _ => snd_al (m := m) (ha sc e X W c h1), fun z => by cases z⟩
theorem oka_lst {es : List E} (hs : OkEs A G n tb es) : OkA A G n tb (.lst es) := fun sc e X W c h => by
  cases e with
  | List xs p =>
    simp only [mA, Bool.and_eq_true, decide_eq_true_eq] at h
    exact snd_lst (hs sc xs X W c h.1.1 h.1.2) fun ρ S ts S' e => by rw [evs_len e]; exact small_line h.2
  | _ => simp [mA] at h
theorem oka_dct0 : OkA A G n tb .dct0 := fun sc e X W c h => by
  cases e with
  | Dict ks vs p =>
    cases ks with
    | nil =>
      cases vs with
      | nil => exact snd_dct0
      | cons _ _ => simp [mA] at h
    | cons _ _ => simp [mA] at h
  | _ => simp [mA] at h
theorem oka_list {a : E} (ha : OkX A G n tb a) : OkA A G n tb (.list a) := fun sc e X W c h => by
  cases e with
  | Call fe xs ks p =>
    cases fe with
    | Name x p2 =>
      rcases xs with _ | ⟨y, _ | ⟨y2, ys⟩⟩ <;> rcases ks with _ | ⟨k, ks⟩ <;> try (simp [mA] at h; done)
      simp only [mA, Bool.and_eq_true, decide_eq_true_eq, Bool.not_eq_true'] at h
      obtain ⟨⟨⟨h1, h2⟩, h3⟩, h4⟩ := h
      subst h2
      exact snd_list c.calm ((ha false sc y X W c h3).1 rfl) (c.gl h1) (c.blt _ (by decide)) h4
    | _ => simp [mA] at h
  | _ => simp [mA] at h
theorem oka_srt {a : E} (ha : OkX A G n tb a) : OkA A G n tb (.srt a) := fun sc e X W c h => by
  cases e with
  | Call fe xs ks p =>
    cases fe with
    | Name x p2 =>
      rcases xs with _ | ⟨y, _ | ⟨y2, ys⟩⟩ <;> rcases ks with _ | ⟨k, ks⟩ <;> try (simp [mA] at h; done)
      simp only [mA, Bool.and_eq_true, decide_eq_true_eq, Bool.not_eq_true'] at h
      obtain ⟨⟨⟨h1, h2⟩, h3⟩, h4⟩ := h
      subst h2
      exact snd_srt c.room ((ha false sc y X W c h3).1 rfl) (c.gl h1) (c.blt _ (by decide)) h4
    | _ => simp [mA] at h
  | _ => simp [mA] at h
end NH
end
section
namespace NH
open PySem L2 PyProof.Rows

variable {A : Ad} {G : Gam} {n : Nat} {tb : Tb}
theorem CtxOk.into {X : Cx} {W : WX} {sc : Sc} (c : CtxOk X A G n W tb sc) {scope : Scope} (hk : scope.kind = .function) (s : Shared) (H : Hp) (C : Addr) (cl : List (Str × Addr)) (fp : List Addr) : CtxOk (X.blk s H scope (compEnvC scope cl C X.env) fp) A G n WF tb (sc.into scope) := by
  refine ⟨c.N, c.nd, ?_, hk, c.calm, c.room, ?_, c.lay, fun f fn hf => ⟨(c.fns f fn hf).kp, (c.fns f fn hf).ex⟩, c.nm, fun x h => ?_, c.tf, c.tc, c.tg, c.ty, (fun z => by cases z), c.blt, c.attrs⟩
  · show relS scope X.env.scope = relS scope sc.scope
    rw [c.scope]
  · exact takes_none5
  · unfold Sc.sto at h
    show (scope.names.lookup x == some NameKind.cell) = true ∨ (relS scope X.env.scope).names.lookup x = some .local
    rw [c.scope]
    split at h
    · exact .inr (by assumption)
    · exact .inl h
    · cases h
theorem CtxOk.lamC {X : Cx} {W : WX} {sc : Sc} (c : CtxOk X A G n W tb sc) {scope : Scope} {y : Str} {capN : List Str} (L : LamP X.env.scope scope y capN) (hl : sc.lam = true) (hn : (y :: capN).Nodup) {A' : Around} (hA : A' = X.A.in1 ∨ A' = X.A.in1.in1) (s : Shared) (H : Hp) (f c' : Addr) : CtxOk (NH.lamC X A' (y :: capN) s H scope f c') A G n WF tb (lamSc scope y capN) := by
  have hr := (c.lm hl).1
  refine ⟨rfl, hn, rfl, L.kind, rfl, ?_, takes_none5, c.lay, fun f fn hf => ⟨(c.fns f fn hf).kp, (c.fns f fn hf).ex⟩, c.nm, fun x h => ?_, c.tf, c.tc, c.tg, c.ty, (fun z => by cases z), c.blt, c.attrs⟩
  · rcases hA with rfl | rfl
    · exact (Room.deeper (k := 5 * n + 1) (Room.in1 (k := 5 * n + 2) (hr.mono (by omega))) _)
    · exact (Room.deeper (k := 5 * n + 1) (Room.in1 (k := 5 * n + 2) (Room.in1 (k := 5 * n + 3) hr)) _)
  · unfold Sc.sto at h
    right
    show scope.names.lookup x = some .local
    split at h
    · assumption
    · rename_i e
      exact absurd rfl (L.own _ (PySem.mem_of_lookup (show scope.names.lookup x = some .cell from e))).1
    · cases h
theorem tgn_ok {X : Cx} {W : WX} {sc : Sc} (c : CtxOk X A G n W tb sc) {i : Nat} {e : Expr} (h : mTgN sc i e = true) : ∃ x p, e = .Name x p ∧ X.N[i]? = some x ∧ Loc X.env.scope x ∧ (X.fn x = true ∨ X.env.scope.names.lookup x = some .local) := by
  cases e with
  | Name x p =>
    simp only [mTgN, Bool.and_eq_true, beq_iff_eq] at h
    exact ⟨x, p, rfl, by rw [c.N]; exact h.1, c.loc h.2, c.fn x h.2⟩
  | _ => simp [mTgN] at h
theorem tgs_ok {X : Cx} {W : WX} {sc : Sc} (c : CtxOk X A G n W tb sc) : ∀ {is : List Nat} {es : List Expr}, mTgs sc is es = true → es.length = is.length ∧ ∀ (j : Nat) (e : Expr), es[j]? = some e → ∃ (x : Str) (p : Pos) (i : Nat), is[j]? = some i ∧ e = .Name x p ∧ X.N[i]? = some x ∧ Loc X.env.scope x ∧ (X.fn x = true ∨ X.env.scope.names.lookup x = some .local)
  | [], [], _ => ⟨rfl, fun j e h => by simp at h⟩
  | [], _ :: _, h => by simp [mTgs] at h
  | _ :: _, [], h => by simp [mTgs] at h
  | i :: is, e :: es, h => by
    simp only [mTgs, Bool.and_eq_true] at h
    obtain ⟨h1, h2⟩ := tgs_ok c h.2
    refine ⟨congrArg Nat.succ h1, fun j e' hj => ?_⟩
    cases j with
    | zero =>
      simp at hj
      subst hj
      obtain ⟨x, p, q1, q2, q3, q4⟩ := tgn_ok c h.1
      exact ⟨x, p, i, rfl, q1, q2, q3, q4⟩
    | succ j =>
      obtain ⟨x, p, i', q0, q1, q2, q3, q4⟩ := h2 j e' (by simpa using hj)
      exact ⟨x, p, i', by simpa using q0, q1, q2, q3, q4⟩
theorem tg_ok {X : Cx} {W : WX} {sc : Sc} (c : CtxOk X A G n W tb sc) {tg : Tg} {e : Expr} (h : mTg sc tg e = true) : PG X e (gT X.K A tg) := by
  cases tg with
  | nm i =>
    obtain ⟨x, p, rfl, q2, q3, q4⟩ := tgn_ok c (show mTgN sc i e = true from by simpa [mTg] using h)
    exact snd_tgN c.nd q2 q3 q4
  | tp is =>
    cases e with
    | Tuple es k p =>
      obtain ⟨h1, h2⟩ := tgs_ok c (show mTgs sc is es = true from by simpa [mTg] using h)
      exact snd_tgT c.calm c.nd h1 h2
    | _ => simp [mTg] at h
end NH
end
section
namespace NH
open PySem L2 PyProof.Rows

variable {A : Ad} {G : Gam} {n : Nat} {tb : Tb}
def isKeys : It → Bool
  | .keys _ _ => true
  | _ => false
def OkI (A : Ad) (G : Gam) (n : Nat) (tb : Tb) (it : It) : Prop := isKeys it = false → ∀ (sc : Sc) (e tg : Expr) (X : Cx) (W : WX), CtxOk X A G n W tb sc → mI tb sc it e tg = true → PI X tg e (RdI X.K A W fun ρ S => evI G (runN G n) it ρ S)
theorem oki_seq {a : E} (ha : OkX A G n tb a) : OkI A G n tb (.seq a) := fun _ sc e tg X W c h => by
  simp only [mI] at h
  exact snd_seq ((ha false sc e X W c h).1 rfl)
theorem oki_enum {a : E} (ha : OkX A G n tb a) : OkI A G n tb (.enum a) := fun _ sc e tg X W c h => by
  cases e with
  | Call fe xs ks p =>
    cases fe with
    | Name x p2 =>
      rcases xs with _ | ⟨y, _ | ⟨y2, ys⟩⟩ <;> rcases ks with _ | ⟨k, ks⟩ <;> try (simp [mI] at h; done)
      cases tg with
      | Tuple es k tp =>
        simp only [mI, Bool.and_eq_true, decide_eq_true_eq, Bool.not_eq_true'] at h
        obtain ⟨⟨⟨h1, h2⟩, h3⟩, h4⟩ := h
        subst h2
        exact snd_enum (c.gl h1) (c.blt _ (by decide)) ((ha false sc y X W c h3).1 rfl) h4
      | _ => simp [mI] at h
    | _ => simp [mI] at h
  | _ => simp [mI] at h
theorem oki_zip {a b : E} (ha : OkX A G n tb a) (hb : OkX A G n tb b) : OkI A G n tb (.zip a b) := fun _ sc e tg X W c h => by
  cases e with
  | Call fe xs ks p =>
    cases fe with
    | Name x p2 =>
      rcases xs with _ | ⟨y, _ | ⟨y2, _ | ⟨y3, ys⟩⟩⟩ <;> rcases ks with _ | ⟨k, ks⟩ <;> try (simp [mI] at h; done)
      cases tg with
      | Tuple es k tp =>
        simp only [mI, Bool.and_eq_true, decide_eq_true_eq, Bool.not_eq_true'] at h
        obtain ⟨⟨⟨⟨⟨h1, h2⟩, h3⟩, h5⟩, h4⟩, h6⟩ := h
        subst h2
        exact snd_zip (c.gl h1) (c.blt _ (by decide)) ((ha false sc y X W c h3).1 rfl) ((hb false sc y2 X W c h5).1 rfl) h4 h6
      | _ => simp [mI] at h
    | _ => simp [mI] at h
  | _ => simp [mI] at h
theorem oki_rng1 {a : E} (ha : OkX A G n tb a) : OkI A G n tb (.rng1 a) := fun _ sc e tg X W c h => by
  cases e with
  | Call fe xs ks p =>
    cases fe with
    | Name x p2 =>
      rcases xs with _ | ⟨y, _ | ⟨y2, ys⟩⟩ <;> rcases ks with _ | ⟨k, ks⟩ <;> try (simp [mI] at h; done)
      simp only [mI, Bool.and_eq_true, decide_eq_true_eq, Bool.not_eq_true'] at h
      obtain ⟨⟨⟨h1, h2⟩, h3⟩, h4⟩ := h
      subst h2
      exact snd_rng1 (c.gl h1) (c.blt _ (by decide)) ((ha false sc y X W c h3).1 rfl) h4
    | _ => simp [mI] at h
  | _ => simp [mI] at h
theorem oki_rng2 {a b : E} (ha : OkX A G n tb a) (hb : OkX A G n tb b) : OkI A G n tb (.rng2 a b) := fun _ sc e tg X W c h => by
  cases e with
  | Call fe xs ks p =>
    cases fe with
    | Name x p2 =>
      rcases xs with _ | ⟨y, _ | ⟨y2, _ | ⟨y3, ys⟩⟩⟩ <;> rcases ks with _ | ⟨k, ks⟩ <;> try (simp [mI] at h; done)
      simp only [mI, Bool.and_eq_true, decide_eq_true_eq, Bool.not_eq_true'] at h
      obtain ⟨⟨⟨⟨⟨h1, h2⟩, h3⟩, h5⟩, h4⟩, h6⟩ := h
      subst h2
      exact snd_rng2 (c.gl h1) (c.blt _ (by decide)) ((ha false sc y X W c h3).1 rfl) ((hb false sc y2 X W c h5).1 rfl) h4 h6
    | _ => simp [mI] at h
  | _ => simp [mI] at h
end NH
end
section
namespace NH
open PySem L2 PyProof.Rows

variable {A : Ad} {G : Gam} {n : Nat} {tb : Tb}
def OkIf (A : Ad) (G : Gam) (n : Nat) (tb : Tb) (o : Option E) : Prop := ∀ a, o = some a → OkX A G n tb a
noncomputable def ftOf (G : Gam) (n : Nat) (o : Option E) : Fr → Store → R Bool := match o with
  | none => fun _ S => .ok true S
  | some a => fun ρ S => tst G (runN G n) a ρ S
theorem if_ok {o : Option E} (ho : OkIf A G n tb o) {sc : Sc} {cs : List Expr} {X : Cx} {W : WX} (c : CtxOk X A G n W tb sc) (h : mIf tb sc o cs = true) : PTs X cs (RdT X.K A W (ftOf G n o)) := by
  cases o with
  | none =>
    cases cs with
    | nil => exact ⟨fun pins s σ H Q I ⟨g, ρ, S, c, f, h⟩ => pts_nil.run pins s σ H Q I (Aft.use (rep := repB) (W := W) (σ := σ) h c rfl)⟩
    | cons _ _ => simp [mIf] at h
  | some a =>
    rcases cs with _ | ⟨e, _ | ⟨e2, es⟩⟩ <;> try (simp [mIf] at h; done)
    simp only [mIf] at h
    exact pts_one ((ho a rfl true sc e X W c h).2 rfl).1
theorem lc_eq {elt : E} {tg : Tg} {it : It} {ifs : Option E} {own : List Nat} : (fun ρ S => evA G (runN G n) (.lc elt tg it ifs own) ρ S) = fun ρ S => (evI G (runN G n) it ρ S).bind fun p S1 => (lcLoop p.2 (lcTurn tg own ρ (ftOf G n ifs) (fun ρ S => ev G (runN G n) elt ρ S)) p.1 [] S1).bind fun ys S2 => .ok (.lst ys) S2 := by
  funext ρ S
  cases ifs <;> rfl
theorem lcok {elt : E} {tg : Tg} {ifs : Option E} (he : OkX A G n tb elt) (ho : OkIf A G n tb ifs) {sc : Sc} {X : Cx} {W : WX} (c : CtxOk X A G n W tb sc) {e t : Expr} {cs : List Expr} {scope : Scope} (h1 : mTg (sc.into scope) tg t = true) (h2 : mIf tb (sc.into scope) ifs cs = true) (h3 : mX tb false (sc.into scope) elt e = true)
    (h4 : blkC sc.N sc.scope scope (ownOf sc scope) = true) (h5 : tg.is.all (((ownOf sc scope).map (·.2)).contains ·) = true) : LcOk X A e t cs scope (ownOf sc scope) tg (ftOf G n ifs) (fun ρ S => ev G (runN G n) elt ρ S) := by
  have b := blkOk_by h4
  refine ⟨c.calm, c.nd, by rw [c.N, c.scope]; exact b, fun i hi => by simpa using List.all_eq_true.mp h5 i hi, fun s H C cl fp => tg_ok (c.into b.kind s H C cl fp) h1, fun s H C cl fp => if_ok ho (c.into b.kind s H C cl fp) h2, fun s H C cl fp => (he false _ _ _ _ (c.into b.kind s H C cl fp) h3).1 rfl⟩
theorem oka_lc {elt : E} {tg : Tg} {it : It} {ifs : Option E} {own : List Nat} (he : OkX A G n tb elt) (hi : OkI A G n tb it) (ho : OkIf A G n tb ifs) (hk : isKeys it = false) : OkA A G n tb (.lc elt tg it ifs own) := fun sc e X W c h => by
  cases e with
  | ListComp el gs scope p =>
    rcases gs with _ | ⟨g, _ | ⟨g2, gs⟩⟩ <;> try (simp [mA] at h; done)
    obtain ⟨t, i, cs, a⟩ := g
    simp only [mA, Bool.and_eq_true, decide_eq_true_eq, Bool.not_eq_true'] at h
    obtain ⟨⟨⟨⟨⟨⟨⟨⟨h0, h1⟩, h2⟩, h3⟩, h4⟩, h5⟩, h6⟩, h7⟩, h8⟩ := h
    subst h0
    subst h6
    rw [lc_eq]
    exact (lcok he ho c h1 h3 h4 h5 h7).pe (hi hk sc i t X W c h2) (fold_of h8)
  | _ => simp [mA] at h
end NH
end
section
namespace NH
open PySem L2 PyProof.Rows

variable {A : Ad} {G : Gam} {n : Nat} {tb : Tb}
theorem keys_pe {i : Nat} {fo : Option Nat} {sc : Sc} {e tg : Expr} {X : Cx} {W : WX} (c : CtxOk X A G n W tb sc) (h : mI tb sc (.keys i fo) e tg = true) : PE X e (tdOf X.K A i fo) := by
  cases fo with
  | none =>
    cases e with
    | Name x p =>
      simp only [mI, Bool.and_eq_true, beq_iff_eq] at h
      obtain ⟨⟨h1, h2⟩, h3⟩ := h
      obtain ⟨d1, d2, _⟩ := noDun_of h3
      exact pe_var (by rw [c.N]; exact h1) (c.vis h2) d1 d2
    | _ => simp [mI] at h
  | some f =>
    cases e with
    | Attribute o nm p =>
      cases o with
      | Name x p2 =>
        simp only [mI, Bool.and_eq_true, beq_iff_eq] at h
        obtain ⟨⟨⟨h0, h1⟩, h2⟩, h3⟩ := h
        obtain ⟨d1, d2, _⟩ := noDun_of h3
        have hl : f < tb.nm.length := (List.getElem?_eq_some_iff.mp h0).1
        obtain ⟨n1, n2⟩ := c.nm f hl
        obtain rfl : nm = A.nm f := Option.some.inj (h0.symm.trans n2)
        exact pe_fld (pe_var (by rw [c.N]; exact h1) (c.vis h2) d1 d2) (base_of rfl)
      | _ => simp [mI] at h
    | _ => simp [mI] at h
theorem oka_lcK {elt : E} {tg : Tg} {i : Nat} {fo : Option Nat} {ifs : Option E} {own : List Nat} (he : OkX A G n tb elt) (ho : OkIf A G n tb ifs) : OkA A G n tb (.lc elt tg (.keys i fo) ifs own) := fun sc e X W c h => by
  cases e with
  | ListComp el gs scope p =>
    rcases gs with _ | ⟨g, _ | ⟨g2, gs⟩⟩ <;> try (simp [mA] at h; done)
    obtain ⟨t, it, cs, a⟩ := g
    simp only [mA, Bool.and_eq_true, decide_eq_true_eq, Bool.not_eq_true'] at h
    obtain ⟨⟨⟨⟨⟨⟨⟨⟨h0, h1⟩, h2⟩, h3⟩, h4⟩, h5⟩, h6⟩, h7⟩, h8⟩ := h
    subst h0
    subst h6
    rw [lc_eq]
    exact (lcok he ho c h1 h3 h4 h5 h7).peK c.lay (keys_pe c h2) (fold_of h8)
  | _ => simp [mA] at h
end NH
end
section
namespace NH
open PySem L2 PyProof.Rows

variable {A : Ad} {G : Gam} {n : Nat} {tb : Tb}
def OkFs (A : Ad) (G : Gam) (n : Nat) (tb : Tb) (es : List E) : Prop := ∀ (sc : Sc) (xs : List Expr) (X : Cx) (W : WX), CtxOk X A G n W tb sc → mFs tb sc es xs = true → PFs X A xs (fun acc ρ S => evF G (runN G n) es acc ρ S)
theorem okfs_nil : OkFs A G n tb [] := fun sc xs X W c h => by
  cases xs with
  | nil => exact .nil
  | cons x xs => simp [mFs] at h
theorem ok_fstr {es : List E} (hs : OkFs A G n tb es) : OkX A G n tb (.fstr es) := fun t sc e X W c h => by
  cases e with
  | JoinedStr vs p =>
    rcases vs with _ | ⟨v1, _ | ⟨v2, vs⟩⟩ <;> try (simp [mX] at h; done)
    simp only [mX, Bool.and_eq_true, Bool.not_eq_true'] at h
    obtain ⟨h0, h1⟩ := h
    subst h0
    exact ⟨fun _ => snd_fstr (hs sc _ X W c h1), fun z => by cases z⟩
  | _ => simp [mX] at h
end NH
end
section
namespace NH
open PySem L2 PyProof.Rows

variable {A : Ad} {G : Gam} {n : Nat} {tb : Tb}
theorem capsN_get {sc : Sc} : ∀ {caps : List Nat}, (capsN sc caps).length = caps.length → ∀ (j : Nat) (x : Str), (capsN sc caps)[j]? = some x → ∃ i, caps[j]? = some i ∧ sc.N[i]? = some x
  | [], _, j, x, h => by simp [capsN] at h
  | a :: r, hl, j, x, h => by
    have hle : ∀ l : List Nat, (capsN sc l).length ≤ l.length := fun l => List.length_filterMap_le _ _
    unfold capsN at hl h
    rw [List.filterMap_cons] at hl h
    cases e : sc.N[a]? with
    | none =>
      rw [e] at hl
      have := hle r
      unfold capsN at this
      simp only [List.length_cons] at hl
      omega
    | some z =>
      rw [e] at hl h
      simp only [List.length_cons, Nat.add_right_cancel_iff] at hl
      cases j with
      | zero =>
        simp only [List.getElem?_cons_zero, Option.some.injEq] at h
        subst h
        exact ⟨a, rfl, e⟩
      | succ j =>
        obtain ⟨i, h1, h2⟩ := capsN_get (caps := r) hl j x (by simpa [capsN] using h)
        exact ⟨i, by simpa using h1, h2⟩
theorem lamOk_of {X : Cx} {W : WX} {sc : Sc} (c : CtxOk X A G n W tb sc) {b : E} (hb : OkX A G n tb b) {params : Arguments} {body : Expr} {scope : Scope} {caps : List Nat} (h : lamOkB sc params scope caps = true) (hm : mX tb false (lamSc scope (parOf params) (capsN sc caps)) b body = true) :
    LamOk X A params body scope (parOf params) (capsN sc caps) caps (fun ρ S => ev G (runN G n) b ρ S) := by
  unfold lamOkB at h
  simp only [Bool.and_eq_true, decide_eq_true_eq] at h
  obtain ⟨⟨⟨⟨h1, h2⟩, h3⟩, h4⟩, h5⟩ := h
  have L : LamP X.env.scope scope (parOf params) (capsN sc caps) := by rw [c.scope]; exact lamP_by h3
  refine ⟨(c.lm h1).2, L, h2, fun j x hx => ⟨fun e => ?_, ?_⟩, h5.symm, fun A' s H f c' hA => (hb false _ body _ WF (c.lamC L h1 h4 hA s H f c') hm).1 rfl⟩
  · have := (List.nodup_cons.mp h4).1
    exact this (by rw [← e]; exact List.mem_of_getElem? hx)
  · obtain ⟨i, e1, e2⟩ := capsN_get h5 j x hx
    exact ⟨i, e1, by rw [c.N]; exact e2⟩
theorem oka_srtK {a b : E} {caps : List Nat} (ha : OkX A G n tb a) (hb : OkX A G n tb b) : OkA A G n tb (.srtK a b caps) := fun sc e X W c h => by
  cases e with
  | Call fe xs ks p =>
    cases fe with
    | Name x p2 =>
      rcases xs with _ | ⟨y, _ | ⟨y2, ys⟩⟩ <;> rcases ks with _ | ⟨k, _ | ⟨k2, ks⟩⟩ <;> try (simp [mA] at h; done)
      simp only [mA, Bool.and_eq_true, decide_eq_true_eq, Bool.not_eq_true'] at h
      obtain ⟨⟨⟨⟨h1, h2⟩, h4⟩, h5⟩, h6⟩ := h
      subst h2
      cases ek : keyLam k with
      | none => rw [ek] at h6; cases h6
      | some q =>
        rw [ek] at h6
        simp only [Bool.and_eq_true] at h6
        obtain ⟨h6, h7⟩ := h6
        obtain ⟨lp, kp, rfl⟩ := keyLam_inv ek
        have hl : sc.lam = true := by
          unfold lamOkB at h6
          simp only [Bool.and_eq_true] at h6
          exact h6.1.1.1.1
        exact snd_srtK (c.lm hl).1 (lamOk_of c hb h6 h7) ((ha false sc y X W c h4).1 rfl) (c.gl h1) (c.blt _ (by decide)) h5
    | _ => simp [mA] at h
  | _ => simp [mA] at h
theorem ok_minK {a b : E} {caps : List Nat} (ha : OkX A G n tb a) (hb : OkX A G n tb b) : OkX A G n tb (.minK a b caps) := fun t sc e X W c h => by
  cases e with
  | Call fe xs ks p =>
    cases fe with
    | Name x p2 =>
      rcases xs with _ | ⟨y, _ | ⟨y2, ys⟩⟩ <;> rcases ks with _ | ⟨k, _ | ⟨k2, ks⟩⟩ <;> try (simp [mX] at h; done)
      simp only [mX, Bool.and_eq_true, decide_eq_true_eq, Bool.not_eq_true'] at h
      obtain ⟨⟨⟨⟨⟨h0, h1⟩, h2⟩, h4⟩, h5⟩, h6⟩ := h
      subst h0
      subst h2
      cases ek : keyLam k with
      | none => rw [ek] at h6; cases h6
      | some q =>
        rw [ek] at h6
        simp only [Bool.and_eq_true] at h6
        obtain ⟨h6, h7⟩ := h6
        obtain ⟨lp, kp, rfl⟩ := keyLam_inv ek
        have hl : sc.lam = true := by
          unfold lamOkB at h6
          simp only [Bool.and_eq_true] at h6
          exact h6.1.1.1.1
        exact ⟨fun _ => snd_minK (c.lm hl).1 (lamOk_of c hb h6 h7) ((ha false sc y X W c h4).1 rfl) (c.gl h1) (c.blt _ (by decide)) h5, fun z => by cases z⟩
    | _ => simp [mX] at h
  | _ => simp [mX] at h
theorem okfs_cons {a : E} {es : List E} (ha : OkX A G n tb a) (hs : OkFs A G n tb es) : OkFs A G n tb (a :: es) := fun sc xs X W c h => by
  cases xs with
  | nil => simp [mFs] at h
  | cons x xs =>
    cases x with
    | Constant k m p =>
      cases k with
      | str y =>
        cases a with
        | str z =>
          simp only [mFs, Bool.and_eq_true, beq_iff_eq] at h
          obtain ⟨⟨h1, h2⟩, h3⟩ := h
          subst h1
          exact .lit h2 (hs sc xs X W c h3)
        | _ => simp [mFs] at h
      | _ => cases a <;> simp [mFs] at h
    | FormattedValue e k sp p =>
      have h' : decide (k = -1) = true ∧ sp.isNone = true ∧ mX tb false sc a e = true ∧ mFs tb sc es xs = true := by
        cases a <;> simp [mFs] at h ⊢ <;> simp_all
      obtain ⟨h1, h2, h3, h4⟩ := h'
      have h1 := of_decide_eq_true h1
      subst h1
      cases sp with
      | some _ => cases h2
      | none => exact .fmt (toWF ((ha false sc e X W c h3).1 rfl)) (hs sc xs X W c h4)
    | _ => cases a <;> simp [mFs] at h
def OkSs (A : Ad) (G : Gam) (n : Nat) (tb : Tb) (es : List (Bool × E)) : Prop := ∀ (sc : Sc) (xs : List Expr) (X : Cx) (W : WX), CtxOk X A G n W tb sc → mSs tb sc es xs = true → PA X xs (RdA X.K A W fun ρ S => evSt G (runN G n) es ρ S)
theorem okss_nil : OkSs A G n tb [] := fun sc xs X W c h => by
  cases xs with
  | nil => exact snd_nil
  | cons x xs => simp [mSs] at h
theorem okss_cons {b : Bool} {a : E} {es : List (Bool × E)} (ha : OkX A G n tb a) (hs : OkSs A G n tb es) : OkSs A G n tb ((b, a) :: es) := fun sc xs X W c h => by
  cases xs with
  | nil => cases b <;> simp [mSs] at h
  | cons x xs =>
    cases b with
    | true =>
      cases x with
      | Starred e p =>
        simp only [mSs, Bool.and_eq_true] at h
        exact snd_consS ((ha false sc e X W c h.1).1 rfl) (hs sc xs X W c h.2) rfl
      | _ => simp [mSs] at h
    | false =>
      have h' : (mX tb false sc a x = true ∧ isStar x = false) ∧ mSs tb sc es xs = true := by
        simpa [mSs] using h
      exact snd_cons ((ha false sc x X W c h'.1.1).1 rfl) (hs sc xs X W c h'.2) (starEach_plain h'.1.2)
/-- only what is not too long -/
def capLen (r : R (List T)) : R (List T) := r.bind fun vs S1 => if vs.length ≤ sizeLine then .ok vs S1 else .no
theorem pa_cap {X : Cx} {W : WX} {xs : List Expr} {fs : Fr → Store → R (List T)} (h : PA X xs (RdA X.K A W fs)) : PA X xs (RdA X.K A W fun ρ S => capLen (fs ρ S)) := h.imp fun σ H Q ⟨g, ρ, S, c, f, h⟩ => ⟨g, ρ, S, c, f, by
  replace h : Aft X.K A (repL X.K A) W σ (capLen (fs ρ S)) g H S Q := h
  show Aft X.K A (repL X.K A) W σ (fs ρ S) g H S Q
  cases e : fs ρ S with
  | ok t S1 =>
    rw [e] at h
    replace h : Aft X.K A (repL X.K A) W σ (if t.length ≤ sizeLine then .ok t S1 else .no) g H S Q := h
    split at h
    · exact h
    · exact h.elim
  | exc x S1 => rw [e] at h; exact h
  | no => rw [e] at h; exact h⟩
theorem capLen_le {r : R (List T)} {ts : List T} {S : Store} (h : capLen r = .ok ts S) : ts.length ≤ sizeLine := by
  cases r with
  | ok vs S1 =>
    replace h : (if vs.length ≤ sizeLine then R.ok vs S1 else .no) = .ok ts S := h
    split at h
    · cases h; assumption
    · cases h
  | exc _ _ => cases h
  | no => cases h
theorem ok_tupS {es : List (Bool × E)} (hs : OkSs A G n tb es) : OkX A G n tb (.tupS es) := fun t sc e X W c h => by
  cases e with
  | Tuple xs k p =>
    simp only [mX, Bool.and_eq_true, Bool.not_eq_true'] at h
    obtain ⟨h0, h1⟩ := h
    subst h0
    refine ⟨fun _ => ?_, fun z => by cases z⟩
    have e : (fun ρ S => ev G (runN G n) (.tupS es) ρ S) = fun ρ S => (capLen (evSt G (runN G n) es ρ S)).bind fun vs S1 => .ok (.tup vs) S1 := by
      funext ρ S
      show (evSt G (runN G n) es ρ S).bind _ = _
      cases evSt G (runN G n) es ρ S with
      | ok vs S1 =>
        show (if vs.length ≤ sizeLine then R.ok (T.tup vs) S1 else .no) = R.bind (if vs.length ≤ sizeLine then .ok vs S1 else .no) _
        split <;> rfl
      | exc x S1 => rfl
      | no => rfl
    rw [e]
    exact snd_tup (pa_cap (hs sc xs X W c h1)) fun ρ S ts S' z => capLen_le z
  | _ => simp [mX] at h
theorem oka_lstS {es : List (Bool × E)} (hs : OkSs A G n tb es) : OkA A G n tb (.lstS es) := fun sc e X W c h => by
  cases e with
  | List xs p =>
    simp only [mA] at h
    have e : (fun ρ S => evA G (runN G n) (.lstS es) ρ S) = fun ρ S => (capLen (evSt G (runN G n) es ρ S)).bind fun vs S1 => .ok (.lst vs) S1 := by
      funext ρ S
      show (evSt G (runN G n) es ρ S).bind _ = _
      cases evSt G (runN G n) es ρ S with
      | ok vs S1 =>
        show (if vs.length ≤ sizeLine then R.ok (Nd.lst vs) S1 else .no) = R.bind (if vs.length ≤ sizeLine then .ok vs S1 else .no) _
        split <;> rfl
      | exc x S1 => rfl
      | no => rfl
    rw [e]
    exact snd_lst (pa_cap (hs sc xs X W c h)) fun ρ S ts S' z => capLen_le z
  | _ => simp [mA] at h
end NH
end
section
namespace NH
open PySem L2 PyProof.Rows

def isStarE : Expr → Bool
  | .Starred .. => true
  | _ => false
/-- the stores of a tuple of names, one behind another, with no tuple made -/
def locAll (sc : Sc) : List Expr → Bool
  | [] => true
  | .Name x _ :: es => decide (sc.scope.names.lookup x = some .local) && locAll sc es
  | _ :: _ => false
def nameOf : Expr → Str
  | .Name x _ => x
  | _ => ⟨#[]⟩
def parB (sc : Sc) (ts vs : List Expr) : Bool :=
  (ts.length == 2 || ts.length == 3) && vs.length == ts.length && locAll sc ts && ts.all (fun t => t.pos.line == (ts.head?.map (·.pos.line)).getD 0) && decide ((ts.map nameOf).Nodup) && vs.all (fun e => !isStarE e) && !(vs.all (foldedForSure 8)) && !(vs.all (constantsAlone 8))
/-- a tuple of names gets a value whose parts are not stored ahead -/
def noParB (sc : Sc) (ts : List Expr) : Expr → Bool
  | .Tuple vs _ _ => vs.all (foldedForSure 8) || ts.any (fun t => match t with
    | .Name x _ => !decide (sc.scope.names.lookup x = some .local)
    | _ => true)
  | _ => true
def lcHere (e : E) : Bool := match e with
  | .al _ (.lc ..) => true
  | _ => false
variable (tb : Tb)
/-- x = [..] -/
def mLcAsg (sc : Sc) (x : Str) (px : Pos) : E → Expr → Bool
  | .al _ (.lc elt tg it ifs own), .ListComp e gs scope p => mA tb sc (.lc elt tg it ifs own) (.ListComp e gs scope p) && decide (sc.scope.names.lookup x = some .local) && (px.line == p.line) && !(scope.names.any fun (n, k) => n == x && (k == .local || k == .cell))
  | _, _ => false
/-- a store into one target -/
def mLv (sc : Sc) : Lv → E → Expr → Expr → Bool
  | .nm i, e, .Name x px, v => mTgN sc i (.Name x px) && (((!isComp v || !decide (sc.scope.names.lookup x = some .local)) && mX tb false sc e v) || mLcAsg tb sc x px e v)
  | .tp is, e, .Tuple ts _ _, v => mTgs sc is ts && mX tb false sc e v && !isComp v && noParB sc ts v
  | .at o f, e, .Attribute x nm _, v => tb.nm[f]? == some nm && mX tb false sc o x && mX tb false sc e v
  | .sbL o i, e, .Subscript x y _, v => mX tb false sc o x && mX tb false sc i y && !isSlice y && mX tb false sc e v
  | .sbD o i, e, .Subscript x y _, v => mX tb false sc o x && mX tb false sc i y && mX tb false sc e v
  | _, _, _, _ => false
def mPar (sc : Sc) (is : List Nat) (es : List E) : Expr → Expr → Bool
  | .Tuple ts _ _, .Tuple vs _ _ => mTgs sc is ts && parB sc ts vs && mEs tb sc es vs && noStar vs
  | _, _ => false
mutual
def mSt (sc : Sc) : St → Stmt → Bool
  | .no, _ => true
  | .pass, .Pass _ => true
  | .pass, .Expr (.Constant (.str _) _ _) _ => true
  | .ex e, .Expr x _ => mX tb false sc e x && !isComp x
  | .asg lv e, .Assign [t] v _ => mLv tb sc lv e t v
  | .par is es, .Assign [t] v _ => mPar tb sc is es t v
  | .ret e, .Return (some x) _ => mX tb false sc e x
  | .retN, .Return none _ => true
  | .ifS c a b, .If x y z _ => mX tb true sc c x && mSts sc a y && mSts sc b z
  | .forS tg it body, .For t i b [] _ => mTg sc tg t && mI tb sc it i t && !isKeys it && mSts sc body b && !isSetE i
  | _, _ => false
def mSts (sc : Sc) : List St → List Stmt → Bool
  | [], [] => true
  | s :: r, sts => (match s with
    | .settle _ f => decide (f < tb.nm.length) && mSts sc r sts
    | .hard _ => mSts sc r sts
    | _ => false) || (match sts with
    | t :: ts => mSt sc s t && mSts sc r ts
    | [] => false)
  | _, _ => false
end
end NH
end
section
namespace NH
open PySem L2 PyProof.Rows

variable {A : Ad} {G : Gam} {n : Nat} {tb : Tb}
def OkS (A : Ad) (G : Gam) (n : Nat) (tb : Tb) (st : St) : Prop := ∀ (sc : Sc) (s : Stmt) (X : Cx) (W : WX), CtxOk X A G n W tb sc → PassesOwn (model X.prog X.w) X.A X.env X.xe → mSt tb sc st s = true → PS X s (RdS X.K A W fun ρ S => exec G (runN G n) st ρ S)
def OkB (A : Ad) (G : Gam) (n : Nat) (tb : Tb) (b : List St) : Prop := ∀ (sc : Sc) (ss : List Stmt) (X : Cx) (W : WX), CtxOk X A G n W tb sc → PassesOwn (model X.prog X.w) X.A X.env X.xe → mSts tb sc b ss = true → PSs X ss (RdS X.K A W fun ρ S => execs G (runN G n) b ρ S)
theorem swapsA_of {v o : Expr} {f : Str} {p : Pos} {l : Nat} {env : Env} : swapsWith v (some (.Attribute o f p)) l env = pure false := by
  cases v <;> rfl
theorem swapsN_of {v : Expr} {x : Str} {px : Pos} {l : Nat} {env : Env} (h : ¬ env.kindOf x = some .local) : swapsWith v (some (.Name x px)) l env = pure false := by
  have e : (env.kindOf x == some NameKind.local) = false := by simpa using h
  cases v <;> first | rfl | (unfold swapsWith; simp [e])
theorem swapsS_of {v o i : Expr} {p : Pos} {l : Nat} {env : Env} : swapsWith v (some (.Subscript o i p)) l env = pure false := by
  cases v <;> rfl
theorem swapsT_of {v : Expr} {ts : List Expr} {k : Nat} {p : Pos} {l : Nat} {env : Env} : swapsWithSole [.Tuple ts k p] v l env = pure false := by
  show swapsWith v (some (.Tuple ts k p)) l env = pure false
  cases v <;> rfl
theorem blk_fun {X : Cx} {W : WX} {sc : Sc} (c : CtxOk X A G n W tb sc) : X.env.blockKind = .function := by
  unfold Env.blockKind
  rw [c.scope, c.kind]; rfl
theorem oks_no : OkS A G n tb .no := fun sc s X W c hp h => snd_never
theorem oks_pass : OkS A G n tb .pass := fun sc s X W c hp h => by
  cases s with
  | Pass p => exact snd_pass
  | Expr e p =>
    cases e with
    | Constant k m p2 =>
      cases k with
      | str x => exact snd_doc
      | _ => simp [mSt] at h
    | _ => simp [mSt] at h
  | _ => simp [mSt] at h
theorem oks_retN : OkS A G n tb .retN := fun sc s X W c hp h => by
  cases s with
  | Return o p =>
    cases o with
    | none => exact snd_retN
    | some e => simp [mSt] at h
  | _ => simp [mSt] at h
theorem oks_ret {e : E} (he : OkX A G n tb e) : OkS A G n tb (.ret e) := fun sc s X W c hp h => by
  cases s with
  | Return o p =>
    cases o with
    | none => simp [mSt] at h
    | some x =>
      simp only [mSt] at h
      exact snd_ret ((he false sc x X W c h).1 rfl)
  | _ => simp [mSt] at h
theorem oks_ex {e : E} (he : OkX A G n tb e) : OkS A G n tb (.ex e) := fun sc s X W c hp h => by
  cases s with
  | Expr x p =>
    simp only [mSt, Bool.and_eq_true, Bool.not_eq_true'] at h
    exact snd_expr ((he false sc x X W c h.1).1 rfl) (swaps_of h.2)
  | _ => simp [mSt] at h
theorem oks_if {k : E} {a b : List St} (hk : OkX A G n tb k) (ha : OkB A G n tb a) (hb : OkB A G n tb b) : OkS A G n tb (.ifS k a b) := fun sc s X W c hp h => by
  cases s with
  | If x y z p =>
    simp only [mSt, Bool.and_eq_true] at h
    exact snd_if ((hk true sc x X W c h.1.1).2 rfl).1 (ha sc y X W c hp h.1.2) (hb sc z X W c hp h.2)
  | _ => simp [mSt] at h
theorem oks_for {tg : Tg} {it : It} {body : List St} (hi : OkI A G n tb it) (hb : OkB A G n tb body) : OkS A G n tb (.forS tg it body) := fun sc s X W c hp h => by
  cases s with
  | For t i b o p =>
    cases o with
    | cons _ _ => simp [mSt] at h
    | nil =>
      simp only [mSt, Bool.and_eq_true, Bool.not_eq_true'] at h
      obtain ⟨⟨⟨⟨h1, h2⟩, h3⟩, h4⟩, h5⟩ := h
      exact snd_for hp c.calm (hi h3 sc i t X W c h2) (tg_ok c h1) (hb sc b X W c hp h4) (fold_of h5)
  | _ => simp [mSt] at h
theorem oks_at {o e : E} {f : Nat} (ho : OkX A G n tb o) (he : OkX A G n tb e) : OkS A G n tb (.asg (.at o f) e) := fun sc s X W c hp h => by
  cases s with
  | Assign ts v p =>
    rcases ts with _ | ⟨t, _ | ⟨t2, ts⟩⟩ <;> try (simp [mSt] at h; done)
    replace h : mLv tb sc (.at o f) e t v = true := by simpa [mSt] using h
    cases t with
    | Attribute x nm p2 =>
      simp only [mLv, Bool.and_eq_true, beq_iff_eq] at h
      obtain ⟨⟨h1, h2⟩, h3⟩ := h
      have hl : f < tb.nm.length := (List.getElem?_eq_some_iff.mp h1).1
      obtain ⟨n1, n2⟩ := c.nm f hl
      obtain rfl : nm = A.nm f := Option.some.inj (h1.symm.trans n2)
      exact snd_at c.lay ((he false sc v X W c h3).1 rfl) ((ho false sc x X W c h2).1 rfl) swapsA_of
    | _ => simp [mLv] at h
  | _ => simp [mSt] at h
theorem sub_assign {x y : Expr} {p : Pos} {env : Env} (h : isSlice y = false) : ∀ v, assign (.Subscript x y p) env v = (do
      let ov ← holding [v] (eval x env)
      let iv ← holding [v, ov] (eval y env)
      standAt p
      holding [v, ov, iv] (setItem ov iv v)
      release [v, ov, iv] []) := fun v => by
  cases y <;> first | rfl | cases h
theorem oks_sbL {o i e : E} (ho : OkX A G n tb o) (hi : OkX A G n tb i) (he : OkX A G n tb e) : OkS A G n tb (.asg (.sbL o i) e) := fun sc s X W c hp h => by
  cases s with
  | Assign ts v p =>
    rcases ts with _ | ⟨t, _ | ⟨t2, ts⟩⟩ <;> try (simp [mSt] at h; done)
    replace h : mLv tb sc (.sbL o i) e t v = true := by simpa [mSt] using h
    cases t with
    | Subscript x y p2 =>
      simp only [mLv, Bool.and_eq_true, Bool.not_eq_true'] at h
      obtain ⟨⟨⟨h1, h2⟩, h3⟩, h4⟩ := h
      exact snd_sbL ((he false sc v X W c h4).1 rfl) ((ho false sc x X W c h1).1 rfl) ((hi false sc y X W c h2).1 rfl) (sub_assign h3) (show swapsWith v (some (.Subscript x y p2)) p.line X.env = pure false from swapsS_of) (by cases v <;> rfl) rfl
    | _ => simp [mLv] at h
  | _ => simp [mSt] at h
theorem oks_sbD {o i e : E} (ho : OkX A G n tb o) (hi : OkX A G n tb i) (he : OkX A G n tb e) : OkS A G n tb (.asg (.sbD o i) e) := fun sc s X W c hp h => by
  cases s with
  | Assign ts v p =>
    rcases ts with _ | ⟨t, _ | ⟨t2, ts⟩⟩ <;> try (simp [mSt] at h; done)
    replace h : mLv tb sc (.sbD o i) e t v = true := by simpa [mSt] using h
    cases t with
    | Subscript x y p2 =>
      simp only [mLv, Bool.and_eq_true] at h
      obtain ⟨⟨h1, h2⟩, h4⟩ := h
      exact snd_sbD (by have := c.room.un; omega) ((he false sc v X W c h4).1 rfl) ((ho false sc x X W c h1).1 rfl) ((hi false sc y X W c h2).1 rfl) swapsS_of
    | _ => simp [mLv] at h
  | _ => simp [mSt] at h
theorem oks_nm {i : Nat} {e : E} (he : OkX A G n tb e) (hlc : ∀ m elt tg it ifs own, e = .al m (.lc elt tg it ifs own) → OkX A G n tb elt ∧ OkI A G n tb it ∧ OkIf A G n tb ifs) : OkS A G n tb (.asg (.nm i) e) := fun sc s X W c hp h => by
  cases s with
  | Assign ts v p =>
    rcases ts with _ | ⟨t, _ | ⟨t2, ts⟩⟩ <;> try (simp [mSt] at h; done)
    replace h : mLv tb sc (.nm i) e t v = true := by simpa [mSt] using h
    cases t with
    | Name x px =>
      simp only [mLv, Bool.and_eq_true, Bool.or_eq_true, Bool.not_eq_true'] at h
      obtain ⟨h1, h2⟩ := h
      obtain ⟨y, py, e1, e2, e3, e4⟩ := tgn_ok c h1
      cases e1
      rcases h2 with ⟨h2, h3⟩ | h2
      · refine snd_set c.nd e2 e3 ((he false sc v X W c h3).1 rfl) ?_ e4
        rcases h2 with h2 | h2
        · exact swaps_of h2
        · refine swapsN_of fun z => ?_
          have z : X.env.scope.names.lookup x = some .local := z
          rw [c.scope] at z
          exact (of_decide_eq_false h2) z
      · unfold mLcAsg at h2
        split at h2
        · rename_i m elt tg it ifs own el gs scope p2
          simp only [Bool.and_eq_true, Bool.not_eq_true', decide_eq_true_eq] at h2
          obtain ⟨⟨⟨h3, h4⟩, h5⟩, h6⟩ := h2
          obtain ⟨hel, hit, hif⟩ := hlc m elt tg it ifs own rfl
          rcases gs with _ | ⟨g, _ | ⟨g2, gs⟩⟩ <;> try (simp [mA] at h3; done)
          obtain ⟨t, iter, cs, a⟩ := g
          simp only [mA, Bool.and_eq_true, decide_eq_true_eq, Bool.not_eq_true'] at h3
          obtain ⟨⟨⟨⟨⟨⟨⟨⟨q0, q1⟩, q2⟩, q3⟩, q4⟩, q5⟩, q6⟩, q7⟩, q8⟩ := h3
          subst q0
          subst q6
          have hyl : X.env.scope.names.lookup x = some .local := by rw [c.scope]; exact h4
          have hsw := sw_true (elt := el) (gs := [⟨t, iter, cs, 0⟩]) (scope := scope) (pos := p2) (py := px) (l := p.line) (env := X.env) (by rw [c.scope]; exact c.kind) hyl h5 h6
          have e : (fun ρ S => exec G (runN G n) (.asg (.nm i) (.al m (.lc elt tg it ifs ((ownOf sc scope).map (·.2))))) ρ S) = fun ρ S => (alR m (evA G (runN G n) (.lc elt tg it ifs ((ownOf sc scope).map (·.2))) ρ S)).thn ρ fun v S1 => .nx (ρ.set i (some v)) S1 := by
            funext ρ S; rfl
          rw [e]
          have e2' : (fun ρ S => (alR m (evA G (runN G n) (.lc elt tg it ifs ((ownOf sc scope).map (·.2))) ρ S)).thn ρ fun v S1 => O.nx (ρ.set i (some v)) S1) = fun ρ S => (alR m ((evI G (runN G n) it ρ S).bind fun p S1 => (lcLoop p.2 (lcTurn tg ((ownOf sc scope).map (·.2)) ρ (ftOf G n ifs) (fun ρ S => ev G (runN G n) elt ρ S)) p.1 [] S1).bind fun ys S2 => .ok (.lst ys) S2)).thn ρ fun v S1 => .nx (ρ.set i (some v)) S1 := by
            have := lc_eq (G := G) (n := n) (elt := elt) (tg := tg) (it := it) (ifs := ifs) (own := (ownOf sc scope).map (·.2))
            funext ρ S
            rw [congrFun (congrFun this ρ) S]
          rw [e2']
          by_cases hk : isKeys it = true
          · cases it with
            | keys j fo => exact (lcok hel hif c q1 q3 q4 q5 q7).psK c.lay (keys_pe c q2) (fold_of q8) e2 hyl hsw
            | _ => cases hk
          · exact (lcok hel hif c q1 q3 q4 q5 q7).ps (hit (by simpa using hk) sc iter t X W c q2) (fold_of q8) e2 hyl hsw
        · cases h2
    | _ => simp [mLv] at h
  | _ => simp [mSt] at h
end NH
end
section
namespace NH
open PySem L2 PyProof.Rows

variable {A : Ad} {G : Gam} {n : Nat} {tb : Tb}
theorem filter_short {α β : Type} {f : α → Option β} : ∀ {l : List α}, (∃ a ∈ l, f a = none) → (l.filterMap f).length < l.length
  | [], h => by obtain ⟨a, h, _⟩ := h; simp at h
  | x :: l, h => by
    have hle := List.length_filterMap_le f l
    rw [List.filterMap_cons]
    obtain ⟨a, ha, e⟩ := h
    rcases List.mem_cons.mp ha with rfl | ha
    · rw [e]; simp only [List.length_cons]; omega
    · have := filter_short ⟨a, ha, e⟩
      cases f x <;> simp only [List.length_cons] <;> omega
theorem noPar_of {X : Cx} {W : WX} {sc : Sc} (c : CtxOk X A G n W tb sc) {ts : List Expr} {k : Nat} {p : Pos} {v : Expr} (h : noParB sc ts v = true) : swappedStores [.Tuple ts k p] v X.env = pure none := by
  cases v with
  | Tuple vs k2 p2 =>
    simp only [noParB, Bool.or_eq_true] at h
    unfold swappedStores
    simp only
    by_cases h1 : (!(ts.length == 2 || ts.length == 3) || vs.length != ts.length || X.env.blockKind != .function) = true
    · rw [if_pos h1]
    · rw [if_neg h1]
      show (if _ then _ else _) = _
      split
      · rfl
      · rcases h with h | h
        · split
          · rfl
          · first | rfl | (rw [if_pos h]; rfl) | rw [if_pos h]
        · rw [if_pos]
          · obtain ⟨t, ht, q⟩ := List.any_eq_true.mp h
            simp only [Bool.or_eq_true, bne_iff_ne, ne_eq]
            left
            refine Nat.ne_of_lt (filter_short ⟨t, ht, ?_⟩)
            cases t with
            | Name x px =>
              simp only [Bool.not_eq_true', decide_eq_false_iff_not] at q
              have : ¬ X.env.kindOf x = some .local := by
                show ¬ X.env.scope.names.lookup x = some .local
                rw [c.scope]; exact q
              simp [this]
            | _ => rfl
  | _ => rfl
theorem oks_tp {is : List Nat} {e : E} (he : OkX A G n tb e) : OkS A G n tb (.asg (.tp is) e) := fun sc s X W c hp h => by
  cases s with
  | Assign ts v p =>
    rcases ts with _ | ⟨t, _ | ⟨t2, ts⟩⟩ <;> try (simp [mSt] at h; done)
    replace h : mLv tb sc (.tp is) e t v = true := by simpa [mSt] using h
    cases t with
    | Tuple ts k p2 =>
      simp only [mLv, Bool.and_eq_true, Bool.not_eq_true'] at h
      obtain ⟨⟨⟨h1, h2⟩, h3⟩, h4⟩ := h
      exact snd_setT (tg_ok c (tg := .tp is) (show mTg sc (.tp is) (.Tuple ts k p2) = true by simpa [mTg] using h1)) ((he false sc v X W c h2).1 rfl) swapsT_of (noPar_of c h4)
    | _ => simp [mLv] at h
  | _ => simp [mSt] at h
theorem name_of {sc : Sc} {i : Nat} {e : Expr} (h : mTgN sc i e = true) : ∃ x p, e = .Name x p ∧ sc.N[i]? = some x := by
  cases e with
  | Name x p =>
    simp only [mTgN, Bool.and_eq_true, beq_iff_eq] at h
    exact ⟨x, p, rfl, h.1⟩
  | _ => simp [mTgN] at h
theorem tgs2 {sc : Sc} : ∀ {is : List Nat} {ts : List Expr}, mTgs sc is ts = true → is.length = ts.length
  | [], [], _ => rfl
  | [], _ :: _, h => by simp [mTgs] at h
  | _ :: _, [], h => by simp [mTgs] at h
  | i :: is, t :: ts, h => by
    simp only [mTgs, Bool.and_eq_true] at h
    exact congrArg Nat.succ (tgs2 h.2)
theorem ix_ne {N : List Str} {i j : Nat} {x y : Str} (h1 : N[i]? = some x) (h2 : N[j]? = some y) (h : x ≠ y) : i ≠ j := fun e => by
  subst e
  exact h (Option.some.inj (h1.symm.trans h2))
theorem oks_par {is : List Nat} {es : List E} (hs : OkEs A G n tb es) : OkS A G n tb (.par is es) := fun sc s X W c hp h => by
  cases s with
  | Assign ts v p =>
    rcases ts with _ | ⟨t, _ | ⟨t2, ts⟩⟩ <;> try (simp [mSt] at h; done)
    replace h : mPar tb sc is es t v = true := by simpa [mSt] using h
    cases t with
    | Tuple ts k p2 =>
      cases v with
      | Tuple vs k3 p3 =>
        simp only [mPar, Bool.and_eq_true] at h
        obtain ⟨⟨⟨h1, h2⟩, h3⟩, h4⟩ := h
        have ha := hs sc vs X W c h3 h4
        have bk := blk_fun c
        unfold parB at h2
        simp only [Bool.and_eq_true, Bool.not_eq_true', Bool.or_eq_true, beq_iff_eq, decide_eq_true_eq] at h2
        obtain ⟨⟨⟨⟨⟨⟨⟨k1, k2⟩, k3⟩, k4⟩, k5⟩, k6⟩, k7⟩, k8⟩ := h2
        have hl := tgs2 h1
        have nst : (vs.any fun | .Starred .. => true | _ => false) = false := by
          rw [List.any_eq_false]
          intro e he z
          have := List.all_eq_true.mp k6 e he
          cases e <;> first | (simp [isStarE] at this; done) | cases z
        rcases k1 with k1 | k1
        · match ts, vs, is, k1, k2, hl with
          | [t1, t2], [a, b], [i, j], _, _, _ =>
            simp only [mTgs, Bool.and_eq_true] at h1
            obtain ⟨x, px, rfl, hx⟩ := name_of h1.1
            obtain ⟨y, py, rfl, hy⟩ := name_of h1.2.1
            simp only [locAll, Bool.and_eq_true, decide_eq_true_eq] at k3
            simp only [List.map_cons, List.map_nil, nameOf, List.nodup_cons, List.mem_singleton, List.not_mem_nil, not_false_eq_true, List.nodup_nil, and_true] at k5
            have lx : X.env.scope.names.lookup x = some .local := by rw [c.scope]; exact k3.1
            have ly : X.env.scope.names.lookup y = some .local := by rw [c.scope]; exact k3.2.1
            have kx : X.env.kindOf x = some .local := lx
            have ky : X.env.kindOf y = some .local := ly
            simp only [List.all_cons, List.all_nil, Bool.and_true, Bool.and_eq_true, beq_iff_eq, List.head?_cons, Option.map_some, Option.getD_some] at k4
            have l2 : py.line = px.line := k4.2
            refine snd_par2 c.calm c.nd (by rw [c.N]; exact hx) (by rw [c.N]; exact hy) (ix_ne hx hy k5) lx ly ha ?_ swapsT_of
            unfold swappedStores
            simp only [bk, nst, k7, k8]
            have nd : [x, y].eraseDups.length = 2 := by
              have : (y == x) = false := by simpa using fun e : y = x => k5 e.symm
              simp [List.eraseDups_cons, this]
            have n2 : ∀ e ∈ [a, b], (match e with
              | .Starred .. => true
              | _ => false) = false := fun e he => by
              have := List.any_eq_false.mp nst e he
              simpa using this
            have na := n2 a (by simp)
            have nb := n2 b (by simp)
            simp [kx, ky, l2, Expr.pos, nd]
            rintro (q | q)
            · exact absurd (na.symm.trans q) (by simp)
            · exact absurd (nb.symm.trans q) (by simp)
        · match ts, vs, is, k1, k2, hl with
          | [t1, t2, t3], [a, b, d], [i, j, l], _, _, _ =>
            simp only [mTgs, Bool.and_eq_true] at h1
            obtain ⟨x, px, rfl, hx⟩ := name_of h1.1
            obtain ⟨y, py, rfl, hy⟩ := name_of h1.2.1
            obtain ⟨z, pz, rfl, hz⟩ := name_of h1.2.2.1
            simp only [locAll, Bool.and_eq_true, decide_eq_true_eq] at k3
            simp only [List.map_cons, List.map_nil, nameOf, List.nodup_cons, List.mem_cons, List.mem_singleton, List.not_mem_nil, not_false_eq_true, List.nodup_nil, and_true, not_or, or_false] at k5
            obtain ⟨⟨n1, n2⟩, n3⟩ := k5
            have lx : X.env.scope.names.lookup x = some .local := by rw [c.scope]; exact k3.1
            have ly : X.env.scope.names.lookup y = some .local := by rw [c.scope]; exact k3.2.1
            have lz : X.env.scope.names.lookup z = some .local := by rw [c.scope]; exact k3.2.2.1
            have kx : X.env.kindOf x = some .local := lx
            have ky : X.env.kindOf y = some .local := ly
            have kz : X.env.kindOf z = some .local := lz
            simp only [List.all_cons, List.all_nil, Bool.and_true, Bool.and_eq_true, beq_iff_eq, List.head?_cons, Option.map_some, Option.getD_some] at k4
            have l2 : py.line = px.line := k4.2.1
            have l3 : pz.line = px.line := k4.2.2
            refine snd_par3 c.calm c.nd (by rw [c.N]; exact hx) (by rw [c.N]; exact hy) (by rw [c.N]; exact hz) (ix_ne hx hy n1) (ix_ne hx hz n2) (ix_ne hy hz n3) lx ly lz ha ?_ swapsT_of
            unfold swappedStores
            simp only [bk, nst, k7, k8]
            have nd : [x, y, z].eraseDups.length = 3 := by
              have e1 : (y == x) = false := by simpa using fun e : y = x => n1 e.symm
              have e2 : (z == x) = false := by simpa using fun e : z = x => n2 e.symm
              have e3 : (z == y) = false := by simpa using fun e : z = y => n3 e.symm
              simp [List.eraseDups_cons, e1, e2, e3]
            have n9 : ∀ e ∈ [a, b, d], (match e with
              | .Starred .. => true
              | _ => false) = false := fun e he => by
              have := List.any_eq_false.mp nst e he
              simpa using this
            have na := n9 a (by simp)
            have nb := n9 b (by simp)
            have nc := n9 d (by simp)
            simp [kx, ky, kz, l2, l3, Expr.pos, nd]
            rintro (q | q | q)
            · exact absurd (na.symm.trans q) (by simp)
            · exact absurd (nb.symm.trans q) (by simp)
            · exact absurd (nc.symm.trans q) (by simp)
      | _ => simp [mPar] at h
    | _ => cases v <;> simp [mPar] at h
  | _ => simp [mSt] at h
end NH
end
section
namespace NH
open PySem L2 PyProof.Rows

variable {A : Ad} {G : Gam} {n : Nat} {tb : Tb}
theorem ok_supN (d f : Nat) (es : List E) : OkX A G n tb (.sup d f es) := fun t sc e X W c h => by
  simp [mX] at h
theorem oka_lc2N (elt : E) (tg : Tg) (it : It) (tg1 : Tg) (it1 : It) (ifs1 : Option E) (own own1 : List Nat) : OkA A G n tb (.lc2 elt tg it tg1 it1 ifs1 own own1) := fun sc e X W c h => by
  simp [mA] at h
theorem oki_keysN (i : Nat) (f : Option Nat) : OkI A G n tb (.keys i f) := fun h => by cases h
mutual
theorem okX : ∀ e : E, OkX A G n tb e
  | .var i => ok_var i
  | .non => ok_non
  | .bl b => ok_bl b
  | .int i => ok_int i
  | .str x => ok_str x
  | .glo x => ok_glo x
  | .tup es => ok_tup (okEs es)
  | .tupS es => ok_tupS (okSs es)
  | .al m a => ok_al (okA a)
  | .and a b => ok_and (okX a) (okX b)
  | .or a b => ok_or (okX a) (okX b)
  | .not a => ok_not (okX a)
  | .neg a => ok_neg (okX a)
  | .ite c a b => ok_ite (okX c) (okX a) (okX b)
  | .cmp op a b => ok_cmp (okX a) (okX b)
  | .cmp2 op op' a b c => ok_cmp2 (okX a) (okX b) (okX c)
  | .bin op a b => ok_bin (okX a) (okX b)
  | .sub a b => ok_sub (okX a) (okX b)
  | .cut a lo hi => ok_cut (okX a) (okO lo) (okO hi)
  | .attr e f => ok_attr (okX e)
  | .call f es kws => ok_call (okEs es) (okKs kws)
  | .make c es kws => ok_make (okEs es) (okKs kws)
  | .meth e f es kws => ok_meth (okX e) (okEs es) (okKs kws)
  | .bi b es => ok_bi (okEs es)
  | .bm e b es => ok_bm (okX e) (okEs es)
  | .no => ok_no
  | .frz e => ok_frz (okX e)
  | .fstr es => ok_fstr (okFs es)
  | .sup d f es => ok_supN d f es
  | .minK e b caps => ok_minK (okX e) (okX b)
theorem okEs : ∀ es : List E, OkEs A G n tb es
  | [] => okes_nil
  | e :: es => okes_cons (okX e) (okEs es)
theorem okSs : ∀ es : List (Bool × E), OkSs A G n tb es
  | [] => okss_nil
  | (b, e) :: es => okss_cons (okX e) (okSs es)
theorem okKs : ∀ ks : List (Nat × E), OkKs A G n tb ks
  | [] => okks_nil
  | (k, e) :: ks => okks_cons (okX e) (okKs ks)
theorem okO : ∀ o : Option E, OkO A G n tb o
  | none => oko_none
  | some e => oko_some (okX e)
theorem okFs : ∀ es : List E, OkFs A G n tb es
  | [] => okfs_nil
  | e :: es => okfs_cons (okX e) (okFs es)
theorem okA : ∀ a : NH.A, OkA A G n tb a
  | .lst es => oka_lst (okEs es)
  | .lstS es => oka_lstS (okSs es)
  | .dct0 => oka_dct0
  | .lc elt tg it ifs own => by
    by_cases h : isKeys it = true
    · cases it with
      | keys i f => exact oka_lcK (okX elt) (okIf ifs)
      | _ => cases h
    · exact oka_lc (okX elt) (okI it) (okIf ifs) (by simpa using h)
  | .lc2 elt tg it tg1 it1 ifs1 own own1 => oka_lc2N elt tg it tg1 it1 ifs1 own own1
  | .list e => oka_list (okX e)
  | .srt e => oka_srt (okX e)
  | .srtK e b caps => oka_srtK (okX e) (okX b)
theorem okIf : ∀ o : Option E, OkIf A G n tb o
  | none => fun a e => by cases e
  | some e => fun a h => by cases h; exact okX e
theorem okI : ∀ it : It, OkI A G n tb it
  | .seq e => oki_seq (okX e)
  | .enum e => oki_enum (okX e)
  | .zip a b => oki_zip (okX a) (okX b)
  | .rng1 a => oki_rng1 (okX a)
  | .rng2 a b => oki_rng2 (okX a) (okX b)
  | .keys i f => oki_keysN i f
end
theorem lc_parts {e : E} : ∀ m elt tg it ifs own, e = .al m (.lc elt tg it ifs own) → OkX A G n tb elt ∧ OkI A G n tb it ∧ OkIf A G n tb ifs := fun m elt tg it ifs own _ => ⟨okX elt, okI it, okIf ifs⟩
theorem okb_nil : OkB A G n tb [] := fun sc ss X W c hp h => by
  cases ss with
  | nil => exact snd_ssnil
  | cons _ _ => simp [mSts] at h
theorem okb_cons {s : St} {r : List St} (hs : OkS A G n tb s) (hr : OkB A G n tb r) : OkB A G n tb (s :: r) := fun sc ss X W c hp h => by
  simp only [mSts, Bool.or_eq_true] at h
  rcases h with h | h
  · cases s with
    | settle i f =>
      simp only [Bool.and_eq_true, decide_eq_true_eq] at h
      exact snd_settle (c.nm f h.1).1 (hr sc ss X W c hp h.2)
    | hard i => exact snd_hard (hr sc ss X W c hp h)
    | _ => cases h
  · cases ss with
    | nil => cases h
    | cons t ts =>
      simp only [Bool.and_eq_true] at h
      exact snd_sscons (hs sc t X W c hp h.1) (hr sc ts X W c hp h.2)
theorem oks_hardN (i : Nat) : OkS A G n tb (.hard i) := fun sc s X W c hp h => by
  cases s <;> simp [mSt] at h
theorem oks_settleN (i f : Nat) : OkS A G n tb (.settle i f) := fun sc s X W c hp h => by
  cases s <;> simp [mSt] at h
mutual
theorem okS : ∀ s : St, OkS A G n tb s
  | .pass => oks_pass
  | .ex e => oks_ex (okX e)
  | .asg (.nm i) e => oks_nm (okX e) lc_parts
  | .asg (.tp is) e => oks_tp (okX e)
  | .asg (.at o f) e => oks_at (okX o) (okX e)
  | .asg (.sbL o i) e => oks_sbL (okX o) (okX i) (okX e)
  | .asg (.sbD o i) e => oks_sbD (okX o) (okX i) (okX e)
  | .par is es => oks_par (okEs es)
  | .ret e => oks_ret (okX e)
  | .retN => oks_retN
  | .ifS c a b => oks_if (okX c) (okB a) (okB b)
  | .forS tg it body => oks_for (okI it) (okB body)
  | .no => oks_no
  | .settle i f => oks_settleN i f
  | .hard i => oks_hardN i
theorem okB : ∀ b : List St, OkB A G n tb b
  | [] => okb_nil
  | s :: r => okb_cons (okS s) (okB r)
end
end NH
end
section
namespace NH
open PySem L2 PyProof.Rows

/-- a def: where it stands, its statement, its slots, its reduced form, its defaults -/
structure PF where
  at_ : Str × Option Str
  st : Stmt
  qual : Str
  N : List Str
  fn : Fn
  dfl : List He.Dv
  kwd : List (Str × He.Dv)
  lam : Bool
  sup : Bool
  sups : List (Nat × Nat × Str)
structure PC where
  name : Str
  cl : Cl
  conV : List He.Dv
structure Prg where
  nm : List Str
  fns : List PF
  cls : List PC
  glo : List (Str × T)
  nd : nm.Nodup
def Prg.name (p : Prg) (i : Nat) : Str := p.nm.getD i ⟨#[]⟩
theorem Prg.name_at (p : Prg) {i : Nat} (h : i < p.nm.length) : p.nm[i]? = some (p.name i) := by
  unfold Prg.name
  rw [List.getD_eq_getElem?_getD, List.getElem?_eq_getElem h]; rfl
def PF.lamQ (q : PF) : Str := q.qual ++ ".<locals>." ++ "<lambda>"
def Prg.tf (p : Prg) : List PF := p.fns.filter (·.lam)
def Prg.ad (p : Prg) (K : PySem.W.Frag) : Ad where
  c := fun i => match p.cls[i]? with
    | some c => He.ga K c.name
    | none => 0
  f := fun i => match p.fns[i]? with
    | some q => He.fAd K q.at_
    | none => 0
  nm := p.name
  n := p.nm.length
  inj := fun i j hi hj e => nodup_ix p.nd (p.name_at hi) (by rw [e]; exact p.name_at hj)
  T := p.tf.map fun q => (He.tabOf K (He.codeOf K q.at_), q.lamQ)
def Prg.gam (p : Prg) : Gam := ⟨fun f => (p.fns[f]?).map (·.fn), fun c => (p.cls[c]?).map (·.cl), fun i => (p.glo[i]?).map (·.2)⟩
def tyOfT : T → Option String
  | .ty n => some n
  | _ => none
def Prg.tb (p : Prg) : Tb where
  nm := p.nm
  fns := p.fns.zipIdx.filterMap fun q => match q.1.at_.2 with
    | none => some (q.1.at_.1, q.2)
    | some _ => none
  cls := p.cls.zipIdx.map fun q => (q.1.name, q.2)
  glo := p.glo.zipIdx.filterMap fun q => match tyOfT q.1.2 with
    | some _ => none
    | none => some (q.1.1, q.2)
  tys := p.glo.zipIdx.filterMap fun q => match tyOfT q.1.2 with
    | some n => some (q.1.1, q.2, n)
    | none => none
/-! ### facts for the head -/
def Prg.gloFa (p : Prg) (g : Str × T) : List He.Fa := match g.2 with
  | .int i => [.int g.1 i]
  | .str z => [.str g.1 z]
  | .ty _ => [.free g.1]
  | .cls _ => [.glo g.1]
  | _ => []
def Prg.clsFa (p : Prg) (c : PC) : List He.Fa := [.glo c.name, .keep c.name, .cls c.name] ++ c.cl.flds.map (fun f => .noat c.name (p.name f)) ++ c.cl.meth.map (fun m => .meth c.name (p.name m.1)) ++ (match c.cl.init with
  | some _ => [.mkr c.name]
  | none => [])
def Prg.fa (p : Prg) : List He.Fa := bltNames.map .free ++ p.fns.filterMap (fun q => match q.at_.2 with
  | none => some (.glo q.at_.1)
  | some _ => none) ++ p.cls.flatMap p.clsFa ++ p.glo.flatMap p.gloFa
def PF.nmOf (q : PF) : Str := match q.at_.2 with
  | none => q.at_.1
  | some m => m
def PF.def_ (q : PF) : He.DefD := ⟨q.at_, q.nmOf, q.qual, defArgs q.st, defBody q.st, defScope q.st, q.dfl, q.kwd⟩
def Prg.fnD (p : Prg) : List He.DefD := (p.fns.filter fun q => !q.sup).map PF.def_
/-- a default stands for a value -/
def dvT (K : PySem.W.Frag) : He.Dv → T → Bool
  | .non, .non => true
  | .bl b, .bl c => b == c
  | .int i, .int j => decide (i = j)
  | .str x, .str y => decide (x = y) && PyData.strOk x
  | .ty n, .ty m => decide (n = m)
  | .adr p, .tup [] => (match K.lookup (p K) with
    | some ⟨.type c, _, .seq its _, _⟩ => decide (c = "tuple") && decide (its = #[])
    | _ => false)
  | _, _ => false
theorem dvT_ok {K : PySem.W.Frag} {A : Ad} {d : He.Dv} {t : T} (h : dvT K d t = true) (H : Hp) (g : Gh) : Rep K A H g (d.v K) t := by
  unfold dvT at h
  split at h
  · exact .non
  · rw [eq_of_beq h]; exact .bl _
  · rw [of_decide_eq_true h]; exact .int _
  · simp only [Bool.and_eq_true, decide_eq_true_eq] at h
    obtain ⟨h1, h2⟩ := h
    subst h1
    exact .str _ h2
  · rw [of_decide_eq_true h]; exact .ty _
  · split at h
    · rename_i c od its n sl e
      simp only [Bool.and_eq_true, decide_eq_true_eq] at h
      obtain ⟨rfl, rfl⟩ := h
      exact .tup (.inr ⟨_, #[], n, e, rfl, rfl, Nat.zero_le _, .nil⟩) .nil
    · cases h
  · cases h
def dvTs (K : PySem.W.Frag) : List He.Dv → List T → Bool
  | [], [] => true
  | d :: ds, t :: ts => dvT K d t && dvTs K ds ts
  | _, _ => false
theorem dvTs_ok {K : PySem.W.Frag} {A : Ad} (H : Hp) (g : Gh) : ∀ {ds : List He.Dv} {ts : List T}, dvTs K ds ts = true → Reps K A H g (ds.map (He.Dv.v K)) ts
  | [], [], _ => .nil
  | d :: ds, t :: ts, h => by
    simp only [dvTs, Bool.and_eq_true] at h
    exact .cons (dvT_ok h.1 H g) (dvTs_ok H g h.2)
  | [], _ :: _, h => by cases h
  | _ :: _, [], h => by cases h
def Prg.fnEx (p : Prg) (K : PySem.W.Frag) (q : PF) : Bool := dvTs K q.dfl q.fn.dfl && q.fn.kwo.all fun k => match k.2 with
  | none => true
  | some t => (match q.kwd.lookup (p.name k.1) with
    | some d => dvT K d t
    | none => false)
def Prg.conEx (p : Prg) (K : PySem.W.Frag) (c : PC) : List (Nat × T) → List He.Dv → Bool
  | [], [] => true
  | k :: ks, d :: ds => He.conB K c.name (p.name k.1) d && !PySem.W.copiedNames.contains (p.name k.1) && dvT K d k.2 && decide (k.1 < p.nm.length) && p.conEx K c ks ds
  | _, _ => false
def Prg.isFnAt (p : Prg) (K : PySem.W.Frag) (f : Nat) (a : Addr) : Bool := match p.fns[f]? with
  | some q => decide (a = He.fAd K q.at_)
  | none => false
def Prg.clsEx (p : Prg) (K : PySem.W.Frag) (c : PC) : Bool :=
  He.eqO (PySem.W.findIn K (.ref (He.ga K c.name)) "__class__") (some (some (.builtin "object.__class__"))) && decide (PySem.W.mroIn K (He.ga K c.name) (.type "object") = some true) &&
  c.cl.meth.all (fun m => p.isFnAt K m.2 (He.ma K (He.ga K c.name) (p.name m.1))) && (match c.cl.init with
    | some f => p.isFnAt K f (He.ma K (He.ga K c.name) "__init__")
    | none => true) && p.conEx K c c.cl.con c.conV &&
  p.cls.zipIdx.all (fun d => decide (PySem.W.kitOne K (.ref (He.ga K c.name)) (.ref (He.ga K d.1.name)) = some (c.cl.mro.contains d.2))) &&
  tyNames.all (fun n => decide (PySem.W.kitOne K (.ref (He.ga K c.name)) (.type n) = some false)) && ("NoneType" :: tyNames).all (fun n => decide (PySem.W.kitOne K (.type n) (.ref (He.ga K c.name)) = some false))
/-- what the head must tell of the written part, besides the facts by names -/
def Prg.ex (p : Prg) (K : PySem.W.Frag) : Bool :=
  p.cls.all (p.clsEx K) && p.fns.all (p.fnEx K) && He.eqO (PySem.W.specialIn K (.builtin "object.__class__") "__get__") (some (some (.builtin "getset_descriptor.__get__"))) && decide (PySem.W.takesIn K (.builtin "object.__class__") = some true) &&
  decide ((p.tf.map fun q => He.tabOf K (He.codeOf K q.at_)).Nodup)
/-! ### what the matcher says -/
def PF.ps (p : Prg) (q : PF) : List Str := q.fn.pos.map p.name ++ q.fn.kwo.map fun k => p.name k.1
def PF.sc (q : PF) : Sc := ⟨q.N, defScope q.st, none, q.lam⟩
def scopeB (N ps : List Str) (sc : Scope) : Bool := decide (sc.kind = .function) && !sc.isCoroutine && !sc.isGenerator && decide N.Nodup && decide (N.take ps.length = ps) && ps.all (fun x => decide (sc.names.lookup x = some .local) || decide (sc.names.lookup x = some .cell)) && sc.names.all fun y => !decide (y.2 = .free)
theorem scopeB_ok {N ps : List Str} {sc : Scope} (h : scopeB N ps sc = true) : FnScope N ps sc := by
  unfold scopeB at h
  simp only [Bool.and_eq_true, Bool.or_eq_true, Bool.not_eq_true', decide_eq_true_eq, decide_eq_false_iff_not, List.all_eq_true] at h
  obtain ⟨⟨⟨⟨⟨⟨h1, h2⟩, h3⟩, h4⟩, h5⟩, h6⟩, h7⟩ := h
  exact ⟨h1, h2, h3, h4, h5, h6, h7⟩
def PF.chkA (p : Prg) (q : PF) : Bool :=
  (defArgs q.st).posonlyargs.isEmpty && (defArgs q.st).vararg.isNone && (defArgs q.st).kwarg.isNone && decide ((defArgs q.st).args.map (·.arg) = q.fn.pos.map p.name) && decide ((defArgs q.st).kwonlyargs.map (·.arg) = q.fn.kwo.map fun k => p.name k.1) &&
  (q.fn.pos ++ q.fn.kwo.map (·.1)).all (fun i => decide (i < p.nm.length)) && decide ((q.fn.pos ++ q.fn.kwo.map (·.1)).Nodup) && decide (q.fn.dfl.length ≤ q.fn.pos.length) && decide (q.fn.slots = q.N.length)
def PF.chk (p : Prg) (q : PF) : Bool := q.chkA p && scopeB q.N (q.ps p) (defScope q.st) && mSts p.tb q.sc q.fn.body (defBody q.st)
def Prg.chkG (p : Prg) : Bool := p.cls.all (fun c => decide (c.cl.kind ≠ 2) && c.cl.flds.all (fun f => decide (f < p.nm.length)) && c.cl.meth.all (fun m => decide (m.1 < p.nm.length))) &&
  p.glo.all (fun g => match g.2 with
    | .int _ => true
    | .str z => PyData.strOk z
    | .ty n => decide (bootBuiltins g.1 = some (.type n))
    | .cls c => (match p.cls[c]? with
      | some d => decide (d.name = g.1)
      | none => false)
    | _ => false) && decide (p.nm[1]? = some ("__len__" : Str)) && decide (p.nm[3]? = some ("__contains__" : Str)) && decide (p.nm[4]? = some ("__repr__" : Str))
end NH
end
section
namespace NH
open PySem L2 PyProof.Rows

section
variable {p : Prg} {K : PySem.W.Frag}
theorem mem_lookN {β : Type} {m : Nat} {f : β} : ∀ {l : List (Nat × β)}, l.lookup m = some f → (m, f) ∈ l
  | [], h => by simp at h
  | (a, b) :: l, h => by
    by_cases z : m = a
    · subst z
      simp only [List.lookup_cons, beq_self_eq_true, Option.some.injEq] at h
      subst h
      exact List.mem_cons_self ..
    · have z' : (m == a) = false := by simpa using z
      simp only [List.lookup_cons, z'] at h
      exact List.mem_cons_of_mem _ (mem_lookN h)
theorem Prg.cls_get {c : Nat} {cl : Cl} (h : p.gam.cls c = some cl) : ∃ d, p.cls[c]? = some d ∧ d.cl = cl ∧ (p.ad K).c c = He.ga K d.name := by
  have h' : (p.cls[c]?).map (·.cl) = some cl := h
  cases e : p.cls[c]? with
  | none => rw [e] at h'; cases h'
  | some d =>
    rw [e] at h'
    refine ⟨d, rfl, Option.some.inj h', ?_⟩
    show (match p.cls[c]? with
      | some c => He.ga K c.name
      | none => 0) = _
    rw [e]
theorem Prg.fn_at {i : Nat} {q : PF} (h : p.fns[i]? = some q) : (p.ad K).f i = He.fAd K q.at_ := by
  show (match p.fns[i]? with
    | some q => He.fAd K q.at_
    | none => 0) = _
  rw [h]
theorem isFnAt_ok {f : Nat} {a : Addr} (h : p.isFnAt K f a = true) : a = (p.ad K).f f := by
  unfold Prg.isFnAt at h
  cases e : p.fns[f]? with
  | none => rw [e] at h; cases h
  | some q =>
    rw [e] at h
    rw [Prg.fn_at e]
    exact of_decide_eq_true h
theorem conEx_ok {c : PC} {f : Nat} {t : T} : ∀ {ks : List (Nat × T)} {ds : List He.Dv}, p.conEx K c ks ds = true → ks.lookup f = some t → f < p.nm.length ∧ ∃ v u, Con K (He.ga K c.name) (p.name f) v u ∧ ∀ H g, Rep K (p.ad K) H g v t
  | [], ds, h, e => by simp at e
  | k :: ks, [], h, e => by simp [Prg.conEx] at h
  | (k, tk) :: ks, d :: ds, h, e => by
    simp only [Prg.conEx, Bool.and_eq_true, Bool.not_eq_true', decide_eq_true_eq] at h
    obtain ⟨⟨⟨⟨h1, h2⟩, h3⟩, h4⟩, h5⟩ := h
    by_cases z : f = k
    · subst z
      simp only [List.lookup_cons, beq_self_eq_true, Option.some.injEq] at e
      subst e
      obtain ⟨u, hu⟩ := He.conB_ok h1 h2
      exact ⟨h4, _, u, hu, fun H g => dvT_ok h3 H g⟩
    · have z' : (f == k) = false := by simpa using z
      simp only [List.lookup_cons, z'] at e
      exact conEx_ok h5 e
theorem mem_clsFa {d : PC} {f : He.Fa} {c : Nat} (hd : p.cls[c]? = some d) (h : f ∈ p.clsFa d) : f ∈ p.fa := by
  unfold Prg.fa
  exact List.mem_append_left _ (List.mem_append_right _ (List.mem_flatMap.mpr ⟨d, List.mem_of_getElem? hd, h⟩))
theorem lay_of (hfa : ∀ f ∈ p.fa, f.ok K = true) (hex : p.ex K = true) (hg : p.chkG = true) : Lay K (p.ad K) p.gam := by
  unfold Prg.ex at hex
  simp only [Bool.and_eq_true, decide_eq_true_eq] at hex
  obtain ⟨⟨⟨⟨e1, e2⟩, e3⟩, e4⟩, e5⟩ := hex
  unfold Prg.chkG at hg
  simp only [Bool.and_eq_true, decide_eq_true_eq] at hg
  obtain ⟨⟨⟨⟨g1, g2⟩, g3⟩, g4⟩, g5⟩ := hg
  have ce : ∀ {c : Nat} {d : PC}, p.cls[c]? = some d → p.clsEx K d = true := fun h => List.all_eq_true.mp e1 _ (List.mem_of_getElem? h)
  have cg : ∀ {c : Nat} {d : PC}, p.cls[c]? = some d → d.cl.kind ≠ 2 ∧ (∀ f ∈ d.cl.flds, f < p.nm.length) ∧ ∀ m ∈ d.cl.meth, m.1 < p.nm.length := fun h => by
    have := List.all_eq_true.mp g1 _ (List.mem_of_getElem? h)
    simp only [Bool.and_eq_true, decide_eq_true_eq, List.all_eq_true] at this
    exact ⟨this.1.1, this.1.2, this.2⟩
  have dec : ∀ {d : PC}, p.clsEx K d = true → _ := fun {d} h => by
    unfold Prg.clsEx at h
    simp only [Bool.and_eq_true, decide_eq_true_eq] at h
    exact h
  have isSome : ∀ {c : Nat}, (p.gam.cls c).isSome = true → ∃ d, p.cls[c]? = some d := fun {c} h => by
    have h' : ((p.cls[c]?).map (·.cl)).isSome = true := h
    cases e : p.cls[c]? with
    | none => rw [e] at h'; cases h'
    | some d => exact ⟨d, rfl⟩
  have nmAt : ∀ {i : Nat} {x : Str}, p.nm[i]? = some x → (p.ad K).nm i = x ∧ i < (p.ad K).n := fun {i x} h => by
    have hl := (List.getElem?_eq_some_iff.mp h).1
    exact ⟨Option.some.inj ((p.name_at hl).symm.trans h), hl⟩
  refine ⟨fun c cl hc _ => ?_, fun c cl f hc _ hf => ?_, fun c cl f t hc _ hf => ?_, fun c cl m f hc _ hm => ?_, fun c cl f hc _ hi => ?_, fun c cl hc _ => ?_, ⟨He.eqO_ok e3, e4⟩, fun d cl c hd _ hc => ?_, fun d cl n hd _ hn => ?_, fun n c hn hc => ?_, nmAt g3, nmAt g4, nmAt g5, fun c cl m hc _ => ?_⟩
  · obtain ⟨d, h1, h2, h3⟩ := Prg.cls_get (K := K) hc
    rw [h3]
    exact He.cls_ok (hfa _ (mem_clsFa h1 (by simp [Prg.clsFa])))
  · obtain ⟨d, h1, h2, h3⟩ := Prg.cls_get (K := K) hc
    subst h2
    refine ⟨(cg h1).2.1 f hf, ?_⟩
    rw [h3]
    exact He.noat_ok (hfa _ (mem_clsFa h1 (by
      unfold Prg.clsFa
      exact List.mem_append_left _ (List.mem_append_left _ (List.mem_append_right _ (List.mem_map_of_mem hf))))))
  · obtain ⟨d, h1, h2, h3⟩ := Prg.cls_get (K := K) hc
    subst h2
    rw [h3]
    exact conEx_ok (dec (ce h1)).1.1.1.2 hf
  · obtain ⟨d, h1, h2, h3⟩ := Prg.cls_get (K := K) hc
    subst h2
    have hmem := mem_lookN hm
    refine ⟨(cg h1).2.2 _ hmem, ?_⟩
    have hm2 := He.meth_ok (hfa _ (mem_clsFa h1 (by
      unfold Prg.clsFa
      exact List.mem_append_left _ (List.mem_append_right _ (List.mem_map_of_mem (f := fun m : Nat × Nat => He.Fa.meth d.name (p.name m.1)) hmem)))))
    rw [h3, ← isFnAt_ok (List.all_eq_true.mp (dec (ce h1)).1.1.1.1.1.2 _ hmem)]
    exact hm2
  · obtain ⟨d, h1, h2, h3⟩ := Prg.cls_get (K := K) hc
    subst h2
    have hmk := He.mkr_ok (hfa (.mkr d.name) (mem_clsFa h1 (by
      unfold Prg.clsFa
      rw [hi]
      exact List.mem_append_right _ (List.mem_singleton.mpr rfl))))
    have hat := (dec (ce h1)).1.1.1.1.2
    rw [hi] at hat
    rw [h3, ← isFnAt_ok hat]
    exact hmk
  · obtain ⟨d, h1, h2, h3⟩ := Prg.cls_get (K := K) hc
    rw [h3]
    exact ⟨He.eqO_ok (dec (ce h1)).1.1.1.1.1.1.1, (dec (ce h1)).1.1.1.1.1.1.2⟩
  · obtain ⟨d', h1, h2, h3⟩ := Prg.cls_get (K := K) hd
    subst h2
    obtain ⟨dc, hdc⟩ := isSome hc
    have hcc : (p.ad K).c c = He.ga K dc.name := by
      show (match p.cls[c]? with
        | some c => He.ga K c.name
        | none => 0) = _
      rw [hdc]
    rw [h3, hcc]
    have := List.all_eq_true.mp (dec (ce h1)).1.1.2 (dc, c) (List.mem_of_getElem? (i := c) (by rw [List.getElem?_zipIdx, hdc]; simp))
    exact of_decide_eq_true this
  · obtain ⟨d', h1, h2, h3⟩ := Prg.cls_get (K := K) hd
    rw [h3]
    exact of_decide_eq_true (List.all_eq_true.mp (dec (ce h1)).1.2 n hn)
  · obtain ⟨dc, hdc⟩ := isSome hc
    have hcc : (p.ad K).c c = He.ga K dc.name := by
      show (match p.cls[c]? with
        | some c => He.ga K c.name
        | none => 0) = _
      rw [hdc]
    rw [hcc]
    exact of_decide_eq_true (List.all_eq_true.mp (dec (ce hdc)).2 n hn)
  · obtain ⟨d, h1, h2, h3⟩ := Prg.cls_get (K := K) hc
    subst h2
    exact (cg h1).1
end
end NH
end
section
namespace NH
open PySem L2 PyProof.Rows

section
variable {p : Prg} {K : PySem.W.Frag} {P : Program} {w : World} {mg : Str → Option Value} {base h : Heap}
theorem fa_fn {i : Nat} {q : PF} {x : Str} (hq : p.fns[i]? = some q) (e : q.at_ = (x, none)) : He.Fa.glo x ∈ p.fa := by
  unfold Prg.fa
  refine List.mem_append_left _ (List.mem_append_left _ (List.mem_append_right _ (List.mem_filterMap.mpr ⟨q, List.mem_of_getElem? hq, ?_⟩)))
  rw [e]
theorem fa_glo {i : Nat} {g : Str × T} {f : He.Fa} (hg : p.glo[i]? = some g) (hf : f ∈ p.gloFa g) : f ∈ p.fa := by
  unfold Prg.fa
  exact List.mem_append_right _ (List.mem_flatMap.mpr ⟨g, List.mem_of_getElem? hg, hf⟩)
theorem fa_blt {x : Str} (hx : x ∈ bltNames) : He.Fa.free x ∈ p.fa := by
  unfold Prg.fa
  exact List.mem_append_left _ (List.mem_append_left _ (List.mem_append_left _ (List.mem_map_of_mem hx)))
/-- what the head tells, at once -/
structure Told (p : Prg) (K : PySem.W.Frag) (mg : Str → Option Value) (h : Heap) : Prop where
  X : K.In h
  g : h.Ns mainGlobals mg
  fa : ∀ f ∈ p.fa, f.ok K = true
  ex : p.ex K = true
  chk : p.chkG = true
  kp : ∀ (i : Nat) (q : PF), p.fns[i]? = some q → PySem.W.keepIn K (.ref (He.fAd K q.at_)) = true
theorem Told.glo (t : Told p K mg h) {i : Nat} {g : Str × T} (hg : p.glo[i]? = some g) : match g.2 with
    | .ty n => mg g.1 = none ∧ bootBuiltins g.1 = some (.type n)
    | _ => ∃ u v, mg g.1 = some u ∧ RelV v u ∧ ∀ H gh, Rep K (p.ad K) H gh v g.2 := by
  have hc := t.chk
  unfold Prg.chkG at hc
  simp only [Bool.and_eq_true, decide_eq_true_eq] at hc
  have hc := List.all_eq_true.mp hc.1.1.1.2 g (List.mem_of_getElem? hg)
  obtain ⟨x, tt⟩ := g
  cases tt with
  | int j =>
    obtain ⟨tk, e⟩ := He.int_ok t.X t.g (t.fa _ (fa_glo hg (f := .int x j) (by simp [Prg.gloFa])))
    exact ⟨_, .int j, e, ⟨tk, rfl⟩, fun _ _ => .int _⟩
  | str z =>
    obtain ⟨tk, e⟩ := He.str_ok t.X t.g (t.fa _ (fa_glo hg (f := .str x z) (by simp [Prg.gloFa])))
    exact ⟨_, .str z, e, ⟨tk, rfl⟩, fun _ _ => .str _ hc⟩
  | ty n => exact ⟨He.free_ok t.X t.g (t.fa _ (fa_glo hg (f := .free x) (by simp [Prg.gloFa]))), by simpa using hc⟩
  | cls c =>
    have e := He.glo_ok t.X t.g (t.fa _ (fa_glo hg (f := .glo x) (by simp [Prg.gloFa])))
    simp only at hc
    cases ec : p.cls[c]? with
    | none => rw [ec] at hc; cases hc
    | some d =>
      rw [ec] at hc
      have hd : d.name = x := of_decide_eq_true hc
      have ea : (p.ad K).c c = He.ga K x := by
        show (match p.cls[c]? with
          | some c => He.ga K c.name
          | none => 0) = _
        rw [ec, ← hd]
      exact ⟨_, .ref (He.ga K x), e, rfl, fun _ _ => by
        rw [← ea]
        exact .cls c⟩
  | _ => exact absurd hc (by simp)
theorem Told.ctxX {X : Cx} {W : WX} (t : Told p X.K X.mg h) {i n : Nat} {q : PF} (hq : p.fns[i]? = some q) (hN : X.N = q.N) (hnd : X.N.Nodup) (hsc : X.env.scope = defScope q.st) (hk : (defScope q.st).kind = .function) (hcalm : X.calm = true) (tk : Takes X W)
    (hfn : ∀ x, q.sc.sto x = true → X.fn x = true ∨ X.env.scope.names.lookup x = some .local) (hl : q.lam = true → CodeOk X (p.ad X.K))
    (hF : ∀ f fn, p.gam.fns f = some fn → FnI X (p.ad X.K) p.gam n f fn) (hr : Room (5 * n + 4) X.A) :
    CtxOk X (p.ad X.K) p.gam n W p.tb q.sc := by
  have hc := t.chk
  unfold Prg.chkG at hc
  simp only [Bool.and_eq_true, decide_eq_true_eq] at hc
  refine ⟨hN, hnd, hsc, hk, hcalm, hr.mono (by omega), tk, lay_of t.fa t.ex t.chk, hF, fun j hj => ⟨hj, p.name_at hj⟩, hfn, fun z hz => ?_, fun z hz => ?_, fun z hz => ?_, fun z hz => ?_, fun z => ⟨hr, hl z⟩, fun x hx => He.free_ok t.X t.g (t.fa _ (fa_blt hx)), fun c cl f hcl _ => ?_⟩
  · obtain ⟨⟨q', j⟩, hm, e⟩ := List.mem_filterMap.mp (show z ∈ p.fns.zipIdx.filterMap _ from hz)
    have hj : p.fns[j]? = some q' := List.mem_zipIdx_iff_getElem?.mp hm
    obtain ⟨⟨x, m⟩, st, qual, N, fn, dfl, kwd, lam, sup, sups⟩ := q'
    cases m with
    | some m => cases e
    | none =>
      cases e
      have e1 := He.glo_ok t.X t.g (t.fa _ (fa_fn hj rfl))
      have e2 := t.kp j _ hj
      have ea : (p.ad X.K).f j = He.ga X.K x := Prg.fn_at hj
      rw [show (p.ad X.K).f (x, j).2 = (p.ad X.K).f j from rfl, ea]
      exact ⟨e1, e2⟩
  · obtain ⟨⟨d, j⟩, hm, e⟩ := List.mem_map.mp (show z ∈ p.cls.zipIdx.map _ from hz)
    have hj : p.cls[j]? = some d := List.mem_zipIdx_iff_getElem?.mp hm
    subst e
    have ea : (p.ad X.K).c j = He.ga X.K d.name := by
      show (match p.cls[j]? with
        | some c => He.ga X.K c.name
        | none => 0) = _
      rw [hj]
    have e1 := He.glo_ok t.X t.g (t.fa (.glo d.name) (mem_clsFa hj (by simp [Prg.clsFa])))
    have e2 := He.keep_ok (t.fa (.keep d.name) (mem_clsFa hj (by simp [Prg.clsFa])))
    show X.mg d.name = some (.ref ((p.ad X.K).c j)) ∧ PySem.W.keepIn X.K (.ref ((p.ad X.K).c j)) = true
    rw [ea]
    exact ⟨e1, e2⟩
  · obtain ⟨⟨g, j⟩, hm, e⟩ := List.mem_filterMap.mp (show z ∈ p.glo.zipIdx.filterMap _ from hz)
    have hj : p.glo[j]? = some g := List.mem_zipIdx_iff_getElem?.mp hm
    have tg := t.glo hj
    have eg : p.gam.glo j = some g.2 := by
      show (p.glo[j]?).map (·.2) = _
      rw [hj]; rfl
    obtain ⟨x, tt⟩ := g
    cases tt with
    | ty n => cases e
    | _ =>
      cases e
      obtain ⟨u, v, m1, m2, m3⟩ := tg
      exact ⟨u, v, _, m1, m2, eg, m3⟩
  · obtain ⟨⟨g, j⟩, hm, e⟩ := List.mem_filterMap.mp (show z ∈ p.glo.zipIdx.filterMap _ from hz)
    have hj : p.glo[j]? = some g := List.mem_zipIdx_iff_getElem?.mp hm
    have tg := t.glo hj
    have eg : p.gam.glo j = some g.2 := by
      show (p.glo[j]?).map (·.2) = _
      rw [hj]; rfl
    obtain ⟨x, tt⟩ := g
    cases tt with
    | ty n =>
      cases e
      exact ⟨tg.1, tg.2, eg⟩
    | _ => cases e
  · obtain ⟨d, h1, h2, h3⟩ := Prg.cls_get (K := X.K) hcl
    subst h2
    have := List.all_eq_true.mp hc.1.1.1.1 d (List.mem_of_getElem? h1)
    simp only [Bool.and_eq_true, decide_eq_true_eq] at this
    exact this.1.1
theorem Told.ctx (t : Told p K mg h) {i n : Nat} {q : PF} (hq : p.fns[i]? = some q) (hs : FnScope q.N (q.ps p) (defScope q.st)) {cdv : Value} {Ar : Around} {outer : List Env} {s : Shared} {H : Hp} {E : XK} (hl : q.lam = true → CodeOk (bodyCx P w K mg base q.N q.qual (defScope q.st) ((p.ad K).f i) cdv Ar outer s H E) (p.ad K))
    (hF : ∀ f fn, p.gam.fns f = some fn → FnI (bodyCx P w K mg base q.N q.qual (defScope q.st) ((p.ad K).f i) cdv Ar outer s H E) (p.ad K) p.gam n f fn) (hr : Room (5 * n + 4) (Ar.deeper (envOfC q.qual (defScope q.st) s.heap.objs.size ((p.ad K).f i) cdv))) :
    CtxOk (bodyCx P w K mg base q.N q.qual (defScope q.st) ((p.ad K).f i) cdv Ar outer s H E) (p.ad K) p.gam n (WE E) p.tb q.sc :=
  Told.ctxX (X := bodyCx P w K mg base q.N q.qual (defScope q.st) ((p.ad K).f i) cdv Ar outer s H E) t hq rfl hs.nd rfl hs.kind rfl body_takes (fun x _ => .inl rfl) hl hF hr
end
end NH
end
section
namespace NH
open PySem L2 PyProof.Rows

theorem map_inj {α β : Type} {f : α → β} : ∀ {l : List α}, (l.map f).Nodup → ∀ {a b : α}, a ∈ l → b ∈ l → f a = f b → a = b
  | [], _, _, _, h, _, _ => by simp at h
  | x :: l, nd, a, b, ha, hb, e => by
    rw [List.map_cons, List.nodup_cons] at nd
    rcases List.mem_cons.mp ha with h1 | h1
    · rcases List.mem_cons.mp hb with h2 | h2
      · rw [h1, h2]
      · exact absurd (by rw [← h1, e]; exact List.mem_map_of_mem h2) nd.1
    · rcases List.mem_cons.mp hb with h2 | h2
      · exact absurd (by rw [← h2, ← e]; exact List.mem_map_of_mem h1) nd.1
      · exact map_inj nd.2 h1 h2 e
section
variable {p : Prg} {K : PySem.W.Frag} {P : Program} {w : World} {mg : Str → Option Value} {base h : Heap}
/-- the tables stand where the defs that make lambdas want them -/
def TabsOk (p : Prg) (K : PySem.W.Frag) (mg : Str → Option Value) (base : Heap) : Prop := ∀ q ∈ p.tf, LamX.TabB base mg (He.codeOf K q.at_) (He.tabOf K (He.codeOf K q.at_))
theorem Told.lay (t : Told p K mg h) (tb : TabsOk p K mg base) {i : Nat} {q : PF} {fd : FuncData} (hq : p.fns[i]? = some q) (hc : q.chk p = true)
    (F : FunD K q.nmOf q.qual (defArgs q.st) (defBody q.st) (defScope q.st) (q.dfl.map (He.Dv.v K)) (q.kwd.map fun z => (z.1, z.2.v K)) (He.fAd K q.at_) fd) : FnLay P w K mg base (p.ad K) p.gam i q.fn fd (q.ps p) := by
  unfold PF.chk at hc
  simp only [Bool.and_eq_true] at hc
  obtain ⟨⟨hA, hS⟩, hM⟩ := hc
  have S := scopeB_ok hS
  unfold PF.chkA at hA
  simp only [Bool.and_eq_true, decide_eq_true_eq, List.isEmpty_iff, Option.isNone_iff_eq_none, List.all_eq_true] at hA
  obtain ⟨⟨⟨⟨⟨⟨⟨⟨a1, a2⟩, a3⟩, a4⟩, a5⟩, a6⟩, a7⟩, a8⟩, a9⟩ := hA
  have ex := t.ex
  unfold Prg.ex at ex
  simp only [Bool.and_eq_true, decide_eq_true_eq] at ex
  have fex := List.all_eq_true.mp ex.1.1.1.2 q (List.mem_of_getElem? hq)
  unfold Prg.fnEx at fex
  simp only [Bool.and_eq_true, List.all_eq_true] at fex
  have hat : (p.ad K).f i = He.fAd K q.at_ := Prg.fn_at hq
  have F' := F
  rw [← hat] at F'
  have B := bindOk_of (A := p.ad K) (fn := q.fn) F a1 a2 a3 a4 a5 a6 a7 a8 (fun H g => dvTs_ok H g fex.1) fun k hk tt e => by
    have := fex.2 k hk
    rw [e] at this
    simp only at this
    cases ek : q.kwd.lookup (p.name k.1) with
    | none => rw [ek] at this; cases this
    | some d =>
      rw [ek] at this
      refine ⟨d.v K, ?_, fun H g => dvT_ok this H g⟩
      have go : ∀ (l : List (Str × He.Dv)) (x : Str), l.lookup x = some d → (l.map fun z => (z.1, z.2.v K)).lookup x = some (d.v K) := by
        intro l x
        induction l with
        | nil => intro h; simp at h
        | cons a l ih =>
          intro h
          obtain ⟨y, z⟩ := a
          simp only [List.map_cons, List.lookup_cons] at h ⊢
          cases q : x == y with
          | true => rw [q] at h; simp only [Option.some.injEq] at h ⊢; rw [h]
          | false => rw [q] at h; exact ih h
      exact go _ _ ek
  refine ⟨⟨q.nmOf, q.qual, defArgs q.st, defBody q.st, defScope q.st, _, _, q.N, F', S, B, by unfold PF.ps Fn.np; simp, a9, fun n cdv Ar outer s H E hcd hF hr => ?_⟩⟩
  refine okB q.fn.body q.sc (defBody q.st) _ _ (t.ctx hq S (fun hl => ?_) (fun f fn hf => ⟨(hF f fn hf).kp, (hF f fn hf).ex⟩) hr) body_passes hM
  obtain ⟨oc, od, dV, kV, doc, pm, an, cdv', ct, osl, e1, lk, hci, _, _⟩ := F.ex
  subst e1
  obtain rfl : cdv' = cdv := hcd
  obtain ⟨c, rfl⟩ := He.codeIn_ref hci
  have ec : He.codeOf K q.at_ = c := He.codeOf_eq lk rfl
  have hmem : q ∈ p.tf := List.mem_filter.mpr ⟨List.mem_of_getElem? hq, hl⟩
  refine ⟨⟨c, He.tabOf K c, rfl, by rw [← ec]; exact tb q hmem, ?_, fun z hz e => ?_⟩⟩
  · exact List.mem_map.mpr ⟨q, hmem, by rw [ec]; rfl⟩
  · obtain ⟨q2, hm2, rfl⟩ := List.mem_map.mp hz
    have nd : (p.tf.map fun q => He.tabOf K (He.codeOf K q.at_)).Nodup := ex.2
    have : q2 = q := map_inj nd hm2 hmem (by rw [ec]; exact e)
    rw [this]; rfl
/-- all defs, to any depth -/
theorem Told.all (t : Told p K mg h) (tb : TabsOk p K mg base) (hc : p.fns.all (fun q => q.sup || q.chk p) = true) (hF : ∀ q ∈ p.fns, q.sup = false → ∃ fd, FunD K q.nmOf q.qual (defArgs q.st) (defBody q.st) (defScope q.st) (q.dfl.map (He.Dv.v K)) (q.kwd.map fun z => (z.1, z.2.v K)) (He.fAd K q.at_) fd)
    (hs : ∀ i q, p.fns[i]? = some q → q.sup = true → FnRule P w K mg base (p.ad K) p.gam i q.fn) (n : Nat) : ∀ f fn, p.gam.fns f = some fn → FnK P w K mg base (p.ad K) p.gam n f fn := by
  refine fun f fn hf => all_fn (fun f fn hf => ?_) n f fn hf
  have h' : (p.fns[f]?).map (·.fn) = some fn := hf
  cases e : p.fns[f]? with
  | none => rw [e] at h'; cases h'
  | some q =>
    rw [e] at h'
    obtain rfl : q.fn = fn := Option.some.inj h'
    cases es : q.sup with
    | true => exact hs f q e es
    | false =>
      obtain ⟨fd, F⟩ := hF q (List.mem_of_getElem? e) es
      have := List.all_eq_true.mp hc q (List.mem_of_getElem? e)
      rw [es, Bool.false_or] at this
      exact (t.lay tb e this F).rule hf
end
/-- what a law's def is -/
theorem run_sp {K : PySem.W.Frag} {A : Ad} {G : Gam} {n f : Nat} {fn : Fn} {H : Hp} {a : Addr} {ns : List Int} {S' : Store} (hT : LamX.Tabs A.T H) (hS : SqL K H a (ns.map V.int)) (hnp : fn.np = 1) (hr : runN G n f [.scr ns] [] = .ok (.bl true) S') : spF K A G n f fn [.ref a] H (fun v _ => v = .bl true) fun _ _ _ => False := by
  refine ⟨⟨fun b => b = a ∧ Rd H a (.lst (ns.map V.int)), fun _ => none⟩, [], [.scr ns], ⟨fun b hb => ?_, (fun k b z => by cases z), (fun k x z => by simp at z), (fun i j b z => by cases z), (fun k b z => by cases z), hT, fun b hb ps z => ?_⟩, .cons (.scr ?_) .nil, by rw [hnp]; rfl, ?_⟩
  · obtain ⟨rfl, hb⟩ := hb
    rcases hb with z | ⟨o, z⟩ <;> rw [z] <;> simp
  · obtain ⟨rfl, hb⟩ := hb
    rcases hb with e | ⟨o, e⟩ <;> rw [e] at z <;> cases z
  · rcases hS with z | z
    · exact .inl ⟨⟨rfl, z⟩, z⟩
    · exact .inr z
  · rw [hr]
    intro g' H' v x c l r
    cases r
    rfl
end NH
end
section
namespace NH
open PySem L2 PyProof.Rows

theorem oneArg_def {params : Arguments} {y : Str} (h : oneArg params y = true) {name qual : Str} {body : List Stmt} {scope : Scope} {kV doc pm : Value} {an : Option Addr} {cdv ct : Value} : ∀ us : List Value, us.length = [y].length → bindArgs (PySem.W.fnOf name qual params body scope .none kV doc pm an cdv ct) ⟨us, []⟩ = pure ([y].zip us) := fun us hl => by
  match us, hl with
  | [u], _ =>
    unfold oneArg at h
    split at h
    · rename_i z an' p
      obtain rfl : z = y := by simpa using h
      unfold bindArgs
      simp [PySem.W.fnOf, seqItems?]
      rfl
    · cases h
section
variable {p : Prg} {K : PySem.W.Frag} {w : World} {mg : Str → Option Value} {h : Heap}
theorem law_at {l : PySem.W.OpenLaw} {fa : Addr} {x nm : Str} {L n : Nat} {q : PF} (c : He.SaysX p.fa p.fnD [] (p.tf.map (·.at_)) p.ex w h K) (X : K.In h) (g : h.Ns mainGlobals mg) (hq : p.fns[L]? = some q) (hat : q.at_ = (nm, none)) (hsp : q.sup = false) (hfa : mg nm = some (.ref fa))
    (hG : p.chkG = true) (hc : p.fns.all (fun q => q.sup || q.chk p) = true) (kpS : ∀ q ∈ p.fns, q.sup = true → PySem.W.keepIn K (.ref (He.fAd K q.at_)) = true) (hs : ∀ base : Heap, K.In base → base.Ns mainGlobals mg → TabsOk p K mg base → ∀ i q, p.fns[i]? = some q → q.sup = true → FnRule l.prog w K mg base (p.ad K) p.gam i q.fn)
    (h1 : q.dfl = []) (h2 : q.kwd = []) (h3 : oneArg (defArgs q.st) x = true) (h4 : q.ps p = [x]) (h5 : q.fn.np = 1) (law : ∀ ns : List Int, ns.length ≤ 63 → (∀ z ∈ ns, Builtin.Int.intBits z ≤ 1048576) → ∃ S', runN p.gam (n + 1) L [.scr ns] [] = .ok (.bl true) S') :
    LamX.LawAtS l w K (L2.CX l.prog w) (5 * n + 4 + 1) 63 x mg fa h := by
  have cd := c.t.d
  have F0 : ∀ q ∈ p.fns, q.sup = false → ∃ fd, FunD K q.nmOf q.qual (defArgs q.st) (defBody q.st) (defScope q.st) (q.dfl.map (He.Dv.v K)) (q.kwd.map fun z => (z.1, z.2.v K)) (He.fAd K q.at_) fd := fun q hq hs => by
    have hm : q.def_ ∈ p.fnD := List.mem_map_of_mem (List.mem_filter.mpr ⟨hq, by rw [hs]; rfl⟩)
    exact cd.defs hm
  have told : ∀ {b : Heap}, K.In b → b.Ns mainGlobals mg → Told p K mg b := fun X' g' => ⟨X', g', fun f hf => cd.facts hf, c.more, hG, fun i q hi => by
    have hm := List.mem_of_getElem? hi
    cases e : q.sup with
    | true => exact kpS q hm e
    | false =>
      obtain ⟨fd, F⟩ := F0 q hm e
      exact F.kp⟩
  obtain ⟨fd, F⟩ := F0 q (List.mem_of_getElem? hq) hsp
  have hfat : (p.ad K).f L = fa := by
    rw [Prg.fn_at hq, hat]
    have := He.glo_ok X g (cd.facts (fa_fn hq hat))
    exact Value.ref.inj (Option.some.inj (this.symm.trans hfa))
  have hb : ∀ (s : Shared) (u : Value), BindsTo s fd ⟨[u], []⟩ [(x, u)] := fun s u => by
    have F1 := F
    rw [h1, h2] at F1
    exact F1.bindsA (ps := [x]) (fun kV doc pm an cdv ct us hl => oneArg_def h3 us hl) s [u] rfl
  have tm : ∀ {z : Addr × Addr}, z ∈ (p.tf.map fun q => He.cT K q.at_) → ∃ q ∈ p.tf, z = He.cT K q.at_ := fun hz => by
    obtain ⟨q, h1, h2⟩ := List.mem_map.mp hz
    exact ⟨q, h1, h2.symm⟩
  refine ⟨fd, p.tf.map fun q => He.cT K q.at_, spF K (p.ad K) p.gam (n + 1) L q.fn, fun z hz => ?_, fun z hz => ?_, fun z hz => ?_, hb, fun H a ns hl hbits hT hS => ?_, fun base Xb gb TB => ?_⟩
  · obtain ⟨q', hm, rfl⟩ := tm hz
    exact c.empty _ (List.mem_map_of_mem hm)
  · obtain ⟨q', hm, rfl⟩ := tm hz
    exact c.out _ (List.mem_map_of_mem hm)
  · obtain ⟨q', hm, rfl⟩ := tm hz
    exact PySem.W.codeHd_of_K X (c.hd _ (List.mem_map_of_mem hm))
  · obtain ⟨S', hr⟩ := law ns hl hbits
    refine run_sp (S' := S') (fun z hz => ?_) hS h5 hr
    obtain ⟨q', hm, rfl⟩ := List.mem_map.mp (show z ∈ p.tf.map fun q => (He.tabOf K (He.codeOf K q.at_), q.lamQ) from hz)
    exact LamX.TabS.nil (hT (He.cT K q'.at_) (List.mem_map_of_mem hm))
  · have tb : TabsOk p K mg base := fun q' hm => TB (He.cT K q'.at_) (List.mem_map_of_mem hm)
    have t := told Xb gb
    have hcq := List.all_eq_true.mp hc q (List.mem_of_getElem? hq)
    rw [hsp, Bool.false_or] at hcq
    have lay := t.lay (P := l.prog) (w := w) tb hq hcq F
    have ok := lay.ok (show p.gam.fns L = some q.fn by show (p.fns[L]?).map (·.fn) = _; rw [hq]; rfl) n (t.all tb hc F0 (hs base Xb gb tb) n)
    rw [hfat, h4] at ok
    exact ok
end
end NH
end
section
namespace NH
open PySem L2 PyProof.Rows

theorem cells_app : ∀ (names : List (Str × NameKind)) (n : Nat) (acc : List (Str × Addr)), cellsFrom n names acc = cellsFrom n names [] ++ acc
  | [], n, acc => rfl
  | (x, k) :: r, n, acc => by
    unfold cellsFrom
    split
    · rw [cells_app r (n + 1) ((x, n) :: acc), cells_app r (n + 1) [(x, n)]]
      simp
    · exact cells_app r n acc
section
variable {M : Model} {A : Around} {E : Value → Shared → Prop} {s₀ s : Shared} {m cm : Str → Option Value} {env env' : Env}
/-- the arguments are put in their places -/
theorem bindP (hs : env.scope = env'.scope) (hl : env.locals = env'.locals) (hk : env'.scope.kind = .function) (hc : ∀ x, (env'.cells.lookup x).isSome = true → env.cells.lookup x = env'.cells.lookup x) (f : Str × Value → PUnit → Sem (ForInStep PUnit)) (hf : ∀ n v u, f (n, v) u = (do storeName env n v; pure (.yield ⟨⟩))) :
    ∀ (binds : List (Str × Value)) (m cm : Str → Option Value) (s : Shared) (Q : PUnit → Shared → Prop), InCallC s₀ env'.locals m env'.cells cm s →
      (∀ x ∈ binds, env'.kindOf x.1 = some .local ∨ (env'.kindOf x.1 = some .cell ∧ (env'.cells.lookup x.1).isSome = true)) →
      (∀ s', InCallC s₀ env'.locals (bindL env'.kindOf binds m) env'.cells (bindC env'.kindOf binds cm) s' → Q ⟨⟩ s') → wpAny M A (forIn binds ⟨⟩ f) Q E s
  | [], m, cm, s, Q, x, _, h => by rw [List.forIn_nil]; exact wpAny_pure (h s x)
  | (n, v) :: r, m, cm, s, Q, x, hkind, h => by
    have hr : ∀ y ∈ r, env'.kindOf y.1 = some .local ∨ (env'.kindOf y.1 = some .cell ∧ (env'.cells.lookup y.1).isSome = true) := fun y hy => hkind y (List.mem_cons_of_mem _ hy)
    have ek : env.kindOf n = env'.kindOf n := by
      show env.scope.names.lookup n = env'.scope.names.lookup n
      rw [hs]
    have eb : env.blockKind = env'.blockKind := by unfold Env.blockKind; rw [hs]
    rcases hkind (n, v) List.mem_cons_self with hl' | ⟨hl', hcs⟩
    · rw [List.forIn_cons, hf]
      have es : storeName env n v = storeName env' n v := by
        unfold storeName
        rw [ek, eb, hs, hl, hl', hk]
        rfl
      rw [es]
      refine wpAny_bind (wpAny_bind (stLC x hk hl' fun s' x' => wpAny_pure (bindP hs hl hk hc f hf r _ _ s' Q x' hr fun s'' x'' => h s'' ?_)))
      unfold bindL bindC; rw [if_pos hl', if_pos hl']; exact x''
    · rw [List.forIn_cons, hf]
      have es : storeName env n v = storeName env' n v := by
        unfold storeName
        rw [ek, eb, hs, hl, hl', hk]
        unfold PySem.cellOf
        rw [hc n hcs]
        rfl
      rw [es]
      obtain ⟨c, hcc⟩ := Option.isSome_iff_exists.mp hcs
      have hnl : ¬ env'.kindOf n = some .local := by rw [hl']; decide
      refine wpAny_bind (wpAny_bind (stCC x hk hl' hcc fun s' x' => wpAny_pure (bindP hs hl hk hc f hf r _ _ s' Q x' hr fun s'' x'' => h s'' ?_)))
      unfold bindL bindC; rw [if_neg hnl, if_neg hnl]; exact x''
/-- a frame with captured cells -/
theorem newEnv_clo {scope : Scope} {globals : Addr} {clo : List (Str × Addr)} {binds : List (Str × Value)} {qual : Str} {func : Option Addr} {code : Value} {builtins : Addr} {Q : Env → Shared → Prop} (hk : scope.kind = .function)
    (hkind : ∀ x ∈ binds, scope.names.lookup x.1 = some .local ∨ (scope.names.lookup x.1 = some .cell ∧ ((cellsFrom (s.heap.objs.size + 1) scope.names []).lookup x.1).isSome = true))
    (hQ : ∀ s', InCallC s s.heap.objs.size (bindL (fun x => scope.names.lookup x) binds fun _ => none) (cellsFrom (s.heap.objs.size + 1) scope.names []) (bindC (fun x => scope.names.lookup x) binds fun _ => none) s' →
      Q (newEnv scope s.heap.objs.size globals (cellsFrom (s.heap.objs.size + 1) scope.names clo) qual func code none builtins) s') :
    wpAny M A (newFunctionEnv scope globals clo binds qual func code none builtins) Q E s := by
  simp only [newFunctionEnv, Option.isSome_none, Bool.false_eq_true, if_false]
  refine wpAny_bind (wpAny_alloc ?_)
  refine wpAny_bind (wpAny_layCells _ (fun name kind cells => by cases hkc : kind == NameKind.cell <;> simp [hkc]) _ _ _ _ ?_)
  have ok := cellsFrom_ok scope.names (s.heap.push { cls := .type "frame", data := .dict #[] }) (s.heap.objs.size + 1) [] ⟨fun _ _ hm => (nomatch hm), List.Pairwise.nil⟩ (by rw [Heap.size_push]; exact Nat.le_refl _)
  rw [Heap.size_push] at ok
  have sz : ({ s with heap := s.heap.push { cls := .type "frame", data := .dict #[] } } : Shared).heap.objs.size = s.heap.objs.size + 1 := Heap.size_push ..
  rw [sz]
  let env' := newEnv scope s.heap.objs.size globals (cellsFrom (s.heap.objs.size + 1) scope.names []) qual func code none builtins
  refine wpAny_bind (bindP (s₀ := s) (env := newEnv scope s.heap.objs.size globals (cellsFrom (s.heap.objs.size + 1) scope.names clo) qual func code none builtins) (env' := env') rfl rfl hk (fun x hx => ?_) _ (fun _ _ _ => rfl) binds (fun _ => none) (fun _ => none) _ _
    ⟨⟨⟨_, _, rfl⟩, (Heap.Ns.new s.heap (.type "frame")).keeps (pushCells_keeps _ _), fun b o e => pushCells_keeps _ _ b o (Heap.get?_push_of_some _ e), Nat.le_refl _⟩, fun n c hc => (ok.empty n c (PySem.mem_of_lookup hc)).1, ok.apart, fun n c hm => (ok.empty n c hm).2⟩
    hkind fun s' x => wpAny_pure (hQ s' x))
  show (cellsFrom (s.heap.objs.size + 1) scope.names clo).lookup x = (cellsFrom (s.heap.objs.size + 1) scope.names []).lookup x
  rw [cells_app, lookup_app]
  obtain ⟨c, e⟩ := Option.isSome_iff_exists.mp (show ((cellsFrom (s.heap.objs.size + 1) scope.names []).lookup x).isSome = true from hx)
  rw [e]; rfl
end
abbrev clsN : Str := "__class__"
abbrev cloOf (cc : Addr) : List (Str × Addr) := [(clsN, cc)]
abbrev supEnv (qual : Str) (scope : Scope) (L f : Addr) (cdv : Value) (cc : Addr) : Env := PySem.W.envX qual scope L f cdv (cellsFrom (L + 1) scope.names (cloOf cc))
/-- the context of such a method's body -/
def supCx (P : Program) (w : World) (K : PySem.W.Frag) (mg : Str → Option Value) (base : Heap) (N : List Str) (qual : Str) (scope : Scope) (f : Addr) (cdv : Value) (cc : Addr) (A : Around) (outer : List Env) (s : Shared) (H : Hp) (E : XK) : Cx where
  prog := P
  w := w
  K := K
  mg := mg
  base := base
  A := A.deeper (supEnv qual scope s.heap.objs.size f cdv cc)
  N := N
  s_0 := s
  H_0 := H
  env := supEnv qual scope s.heap.objs.size f cdv cc
  outer := outer
  stack := supEnv qual scope s.heap.objs.size f cdv cc :: outer
  ex := []
  calm := true
  fn := fun x => ((cellsFrom (s.heap.objs.size + 1) scope.names []).lookup x).isSome
  pn := []
  xe := fun e s' => wpAny (model P w) (A.deeper (supEnv qual scope s.heap.objs.size f cdv cc)) (leaving (supEnv qual scope s.heap.objs.size f cdv cc) e) (fun _ s'' => L2.CX P w outer H s E e s'') (fun e' s'' => L2.CX P w outer H s E e' s'') s'
structure SupScope (N ps : List Str) (sc : Scope) : Prop where
  kind : sc.kind = .function
  co : sc.isCoroutine = false
  gen : sc.isGenerator = false
  nd : N.Nodup
  pre : N.take ps.length = ps
  par : ∀ x ∈ ps, sc.names.lookup x = some .local ∨ sc.names.lookup x = some .cell
  free : ∀ y ∈ sc.names, y.2 = .free → y.1 = clsN
  cls : sc.names.lookup clsN = some .free
theorem inv_sup {P : Program} {w : World} {K : PySem.W.Frag} {mg : Str → Option Value} {base : Heap} {N ps : List Str} {qual : Str} {scope : Scope} {f cc : Addr} {cdv cv : Value} {A : Around} {outer : List Env} {s s1 : Shared} {H : Hp} {E : XK} {us : List Value} {vs : List V} {co : Obj}
    (S : SupScope N ps scope) (hd : A.handled = none) (e0 : Env0 P w K mg base A outer s H) (hl : vs.length = ps.length) (r : Vals vs us) (hcc : base.get? cc = some co) (hco : co.data = .cell (some cv))
    (x : InCallC s s.heap.objs.size (bindL (fun x => scope.names.lookup x) (ps.zip us) fun _ => none) (cellsFrom (s.heap.objs.size + 1) scope.names []) (bindC (fun x => scope.names.lookup x) (ps.zip us) fun _ => none) s1) :
    Inv (supCx P w K mg base N qual scope f cdv cc A outer s H E) [] (L2.start N vs) H s1 := by
  have hpl : ps.length ≤ N.length := by have := congrArg List.length S.pre; rw [List.length_take] at this; omega
  obtain ⟨h1, tk, rfl, hk⟩ := x.done
  have noA : ∀ b : Addr, b ∉ (supCx P w K mg base N qual scope f cdv cc A outer s H E).ex := fun b z => absurd (show b ∈ ([] : List Addr) from z) (by simp)
  obtain ⟨cs, cH⟩ := e0.bs cc co hcc
  have ccL : cc < s.heap.objs.size := Heap.lt_size cs
  have look : ∀ {y : Str} {c : Addr}, (cellsFrom (s.heap.objs.size + 1) scope.names (cloOf cc)).lookup y = some c → (cellsFrom (s.heap.objs.size + 1) scope.names []).lookup y = some c ∨ ((cellsFrom (s.heap.objs.size + 1) scope.names []).lookup y = none ∧ y = clsN ∧ c = cc) := fun {y c} e => by
    rw [cells_app, lookup_app] at e
    cases q : (cellsFrom (s.heap.objs.size + 1) scope.names []).lookup y with
    | some c' => rw [q] at e; exact .inl (by simpa using e)
    | none =>
      rw [q] at e
      refine .inr ⟨rfl, ?_⟩
      by_cases z : y = clsN
      · subst z
        simp at e
        exact ⟨rfl, e.symm⟩
      · have z' : (y == clsN) = false := by simpa using z
        simp [List.lookup_cons, z'] at e
  have above : ∀ {y : Str} {c : Addr}, (cellsFrom (s.heap.objs.size + 1) scope.names []).lookup y = some c → s.heap.objs.size < c := fun e => x.above _ _ (PySem.mem_of_lookup e)
  have own : ∀ {y : Str} {c : Addr}, (cellsFrom (s.heap.objs.size + 1) scope.names []).lookup y = some c → (cellsFrom (s.heap.objs.size + 1) scope.names (cloOf cc)).lookup y = some c := fun e => by
    rw [cells_app, lookup_app, e]; rfl
  refine ⟨⟨e0.mod, S.kind, rfl, rfl, Nat.le_refl _, fun y z c h1 h2 => ?_, fun y hy => ?_, fun y c hf h => ?_, fun _ => hd, Around.frames_deeper e0.frames, .inr ⟨rfl, rfl⟩, fun b z => absurd z (noA b), e0.bs, e0.bsz, fun b _ _ => noA b, fun b z => absurd z (noA b), e0.funs, e0.frf⟩,
    rfl, e0.bare, Un.kept hk, ⟨_, x.toInCall.ns, fun i y v h1 h2 h3 => ?_⟩, fun y c h => ?_, e0.hok.fresh (Nat.le_refl _), fun y c h => ?_, fun p hp => absurd (show p ∈ ([] : List (Addr × Obj)) from hp) (by simp), e0.hok.kept hk, ?_⟩
  · rcases look h1 with a | ⟨a, b, d⟩ <;> rcases look h2 with a' | ⟨a', b', d'⟩
    · exact name_of_addr x.apart (PySem.mem_of_lookup a) (PySem.mem_of_lookup a')
    · exact absurd (above a) (by rw [d']; exact Nat.not_lt.mpr (Nat.le_of_lt ccL))
    · exact absurd (above a') (by rw [d]; exact Nat.not_lt.mpr (Nat.le_of_lt ccL))
    · rw [b, b']
  · have hy : scope.names.lookup y = some .cell ∨ scope.names.lookup y = some .free := hy
    rcases hy with hy | hy
    · obtain ⟨c, e⟩ := cell_has (n := s.heap.objs.size + 1) hy
      exact ⟨c, own e⟩
    · have ey := S.free _ (PySem.mem_of_lookup hy) rfl
      simp only at ey
      subst ey
      cases q : (cellsFrom (s.heap.objs.size + 1) scope.names []).lookup clsN with
      | some c => exact ⟨c, own q⟩
      | none => exact ⟨cc, by show (cellsFrom (s.heap.objs.size + 1) scope.names (cloOf cc)).lookup clsN = _; rw [cells_app, lookup_app, q]; simp⟩
  · have hf : ((cellsFrom (s.heap.objs.size + 1) scope.names []).lookup y).isSome = true := hf
    rcases look h with a | ⟨a, b, d⟩
    · exact Nat.le_of_lt (above a)
    · rw [a] at hf; cases hf
  · have hi : i < vs.length := by
      unfold L2.start at h2
      by_cases hi : i < vs.length
      · exact hi
      · rw [List.getElem?_append_right (by simpa using hi), List.getElem?_replicate] at h2
        split at h2 <;> cases h2
    have ha : vs[i]? = some v := by
      unfold L2.start at h2
      rw [List.getElem?_append_left (by simpa using hi), List.getElem?_map] at h2
      cases e : vs[i]? with
      | none => rw [e] at h2; cases h2
      | some a => rw [e] at h2; cases h2; rfl
    obtain ⟨u, hu, rv⟩ := r.get ha
    have hp : ps[i]? = some y := by
      rw [← S.pre, List.getElem?_take_of_lt (by omega)]; exact h1
    have ndP : ps.Nodup := by rw [← S.pre]; exact S.nd.sublist (List.take_sublist _ _)
    refine ⟨u, rv, ?_⟩
    rcases S.par y (List.mem_of_getElem? hp) with k | k
    · exact .inl ⟨k, bindL_get ndP hp hu k⟩
    · obtain ⟨c, e⟩ := cell_has (n := s.heap.objs.size + 1) k
      refine .inr ⟨.inl k, c, own e, ?_⟩
      have q := x.cell y c e
      rw [bindC_get ndP hp hu (by rw [k]; decide)] at q
      exact q
  · rcases look h with a | ⟨a, b, d⟩
    · exact ⟨_, x.cell y c a⟩
    · rw [d]
      exact ⟨some cv, co, hk _ _ cs, hco⟩
  · rcases look h with a | ⟨a, b, d⟩
    · exact e0.hok.fresh (Nat.le_of_lt (above a))
    · rw [d]; exact cH
  · unfold L2.start
    simp
    show vs.length + (N.length - vs.length) = N.length
    omega
end NH
end
section
namespace NH
open PySem L2 PyProof.Rows

/-- an expression's judgement within its def's own code -/
structure PEAt (X : Cx) (c : Code) (e : Expr) (t : TE) : Prop where
  run : ∀ (pins : List (Addr × Obj)) (s : Shared) (σ : L2.St) (H : Hp) (Q : VK), Inv X pins σ H s → t σ H Q → PySem.wpAt (model X.prog X.w) X.A c (eval e X.env) (EP X pins σ Q) X.xe s
/-- the facts of super() in a frame; D: the class whose method it is -/
structure SupOk (X : Cx) (D : Addr) : Prop where
  ks : X.env.kindOf "super" = some .globalImplicit
  kc : X.env.kindOf "__class__" = some .free
  ms : X.mg "super" = none
  fn : ∃ (f : Addr) (of : Obj) (fd : FuncData) (ar : Arg), X.env.func = some f ∧ X.K.lookup f = some of ∧ of.data = .func fd ∧ (fd.params.posonlyargs ++ fd.params.args).head? = some ar ∧ X.N[0]? = some ar.arg ∧ Vis X.env.scope ar.arg ∧ (ar.arg == ("__classdict__" : Str)) = false
  code : ∃ (cc : Addr) (oc : Obj) (vs : Array Value) (file : Str) (tf : Tok), X.env.code = .ref cc ∧ X.K.lookup cc = some oc ∧ oc.data = .fields vs ∧ vs[2]? = some (.str file tf) ∧ ((X.prog.main.file : Str) == file) = true
  top : (X.prog.main.scope.names.lookup ("super" : Str)).isSome = false
  cell : ∃ (c : Addr) (oc : Obj), X.env.cells.lookup clsN = some c ∧ X.K.lookup c = some oc ∧ oc.data = .cell (some (.ref D))
  cls : ∃ cd, PySem.W.clsIn X.K D = some cd
  opq : PySem.W.nsIn X.K cStatics "thirdparty.any" = some none
/-- the method that super() finds for objects of the class C -/
structure SupAt (K : PySem.W.Frag) (D C : Addr) (m : Str) (f : Addr) : Prop where
  sub : PySem.W.mroIn K C (.ref D) = some true
  at_ : PySem.W.ks_superIn K C D m = some (some (.ref f))
  ty : PySem.W.typeIn K (.ref f) = some (.type "function")
  fn : PySem.W.fnIn K f = true
  nm : (m == ("__class__" : Str)) = false
theorem meth_evalB {o : Expr} {m : Str} {apos pos : Pos} {es : List Expr} {env : Env} (hs : es.all (fun e => !isStar e) = true) (hn : es.length + 1 < 30) (hl : (apos.endLine == pos.line) = true) :
    eval (.Call (.Attribute o m apos) es [] pos) env = (do
      let ov ← attributeBase o m env (eval o env)
      standAt apos.atName
      let (f, first) ← holding [ov] (getMethod ov m (do return (← importBound o env).getD true))
      callWith pos f first (backTo pos (starEach es env)) []) := by
  obtain ⟨s1, s2⟩ := star_all (env := env) (pos := pos) hs
  have form : methodCallForm (es.length + 0) (backTo pos (starEach es env)) [] = true := by
    unfold methodCallForm
    rw [s1]
    simp only [List.all_nil, Bool.and_true, Bool.true_and, decide_eq_true_eq]
    split <;> omega
  show (do
    let ov ← attributeBase o m env (eval o env)
    standAt apos.atName
    methodCall o m apos pos env ov (es.length + 0) (backTo pos (starEach es env)) []) = _
  unfold methodCall calleeOf methodCallPos
  rw [form]
  simp only [hl, Bool.not_true, Bool.false_or, if_true, pure_bind, bind_assoc, Bool.true_eq_false]
section
variable {X : Cx} {A : Ad} {G : Gam} {W : WX} {n : Nat}
theorem ld_any {E : Value → Shared → Prop} {pins : List (Addr × Obj)} {s : Shared} {σ : L2.St} {H : Hp} {i : Nat} {x : Str} {v : V} {Q : Value → Shared → Prop} (I : Inv X pins σ H s) (hN : X.N[i]? = some x) (hv : Vis X.env.scope x) (hcd : (x == ("__classdict__" : Str)) = false) (hs : σ[i]? = some (some v)) (h : ∀ u, RelV v u → Q u s) : wpAny (model X.prog X.w) X.A (loadName X.env x) Q E s := by
  obtain ⟨m, hn, hl⟩ := I.loc
  obtain ⟨u, r, l⟩ := hl i x v hN hs hv
  rcases l with ⟨hk, hm⟩ | ⟨hk, c, hc, hcell⟩
  · exact wpAny_loadName_local I.ok.kind hk hn hm (h u r)
  · rcases hk with hk | hk
    · exact wpAny_loadName_cell I.ok.kind hk hc hcell (h u r)
    · exact wpAny_loadName_free I.ok.kind hk hc hcell (h u r) hcd
/-- super() -/
theorem sup_obj {body : List Stmt} {D x C dx : Addr} {fs : List (Str × V)} {attr : Str} {p0 p1 : Pos} {whole : Sem Value} {pins : List (Addr × Obj)} {s : Shared} {σ : L2.St} {H : Hp} {Q : Value → Shared → Prop} (O : SupOk X D) (hat : (attr == ("__class__" : Str)) = false) (hsub : PySem.W.mroIn X.K C (.ref D) = some true) (I : Inv X pins σ H s) (h0 : σ[0]? = some (some (.ref x))) (hx : H x = some (.ins C dx fs))
    (h : ∀ (so : Addr) (s' : Shared), Inv X pins σ H s' → s'.heap.get? so = some (PySem.W.ks_superObj D x C) → Q (.ref so) s') :
    PySem.wpAt (model X.prog X.w) X.A (.func body X.env) (attributeBase (.Call (.Name "super" p0) [] [] p1) attr X.env whole) Q X.xe s := by
  obtain ⟨f, of, fd, ar, f1, f2, f3, f4, f5, f6, f7⟩ := O.fn
  obtain ⟨cc, oc, vs, file, tf, c1, c2, c3, c4, c5⟩ := O.code
  obtain ⟨c, ocl, e1, e2, e3⟩ := O.cell
  obtain ⟨cdD, hD⟩ := O.cls
  have XK := I.kIn
  obtain ⟨oD, hD1, hD2⟩ : ∃ oD, s.heap.get? D = some oD ∧ oD.data = .cls cdD := by
    unfold PySem.W.clsIn at hD
    split at hD
    · rename_i c d cd' sl ho
      cases hD
      exact ⟨_, XK _ _ ho, rfl⟩
    · cases hD
  obtain ⟨_, _, _, hxo, _⟩ := I.hok x _ hx
  obtain ⟨mb, b1, b2⟩ := I.mod.blt
  refine ks_wpAt_super_base O.ks O.kc hat f1 (XK _ _ f2) f3 f4 c1 (XK _ _ c2) c3 c4 c5 O.top ?_
  refine PySem.W.ks_loadName_global I.ok.kind O.ks (Calls.loadGlobal_builtin (by rw [I.ok.glob]; exact I.mod.glob.keeps I.bk) O.ms (by rw [I.ok.blt]; exact b1.keeps I.bk) ((b2 "super" (by decide)).trans (by decide +kernel : bootBuiltins "super" = some (.type "super"))) ⟨rfl, ?_⟩)
  refine wpAny_loadName_free I.ok.kind O.kc e1 ⟨ocl, XK _ _ e2, e3⟩ ?_
  refine ld_any I f5 f6 f7 h0 fun u ru => ?_
  obtain rfl : u = Value.ref x := ru
  obtain ⟨hh, g, d, t, os⟩ := s
  refine ks_wpAny_isType_cls hD1 hD2 ⟨rfl, ?_⟩
  refine ks_wpAny_call_super hD1 hD2 hxo rfl (fun c e => by cases e) (PySem.W.looks_mroIn XK hsub) (fun h' e k => ?_)
  exact h _ _ (I.kept (t' := t) k) e
/-- super().m(..) -/
theorem peat_sup {body : List Stmt} {cI f : Nat} {D : Addr} {m : Str} {p0 p1 apos pos : Pos} {es : List Expr} {fs : Fr → Store → R (List T)} (O : SupOk X D) (hC : SupAt X.K D (A.c cI) m (A.f f)) (hF : ∀ fn, G.fns f = some fn → FnI X A G n f fn) (hr : Room (5 * n) X.A) (tk : Takes X W)
    (hs : es.all (fun e => !isStar e) = true) (hn : es.length + 1 < 30) (hl : (apos.endLine == pos.line) = true) (ha : PA X es (RdA X.K A W fs)) (hnil : es = [] → ∀ ρ S, fs ρ S = .ok [] S) :
    PEAt X (.func body X.env) (.Call (.Attribute (.Call (.Name "super" p0) [] [] p1) m apos) es [] pos) (RdE X.K A W fun ρ S => match ρ[0]? with
      | some (some o) => (match view S o with
        | .ins d _ => if d = cI then (fs ρ S).bind fun vs S1 => callF G (runN G n) f (o :: vs) [] S1 else .no
        | _ => .no)
      | _ => .no) := by
  refine ⟨fun pins s σ H Q I ⟨g, ρ, S, c, fr, h⟩ => ?_⟩
  cases e0 : ρ[0]? with
  | none => simp only [e0] at h; exact h.elim
  | some oo =>
    cases oo with
    | none => simp only [e0] at h; exact h.elim
    | some o =>
      simp only [e0] at h
      cases ev : view S o with
      | ins d fs' =>
        simp only [ev] at h
        by_cases hd : d = cI
        · subst hd
          simp only [if_true] at h
          obtain ⟨v, s0, r0⟩ := fr.2 0 o e0
          obtain ⟨x, dx, fv, rfl, hx, _⟩ := c.insV r0 ev
          refine ks_wpAt_MethodCall (pl := (do return (← importBound (.Call (.Name "super" p0) [] [] p1) X.env).getD true)) ?_ (meth_evalB hs hn hl)
          refine sup_obj O hC.nm hC.sub I s0 hx fun so s1 I1 hso => ?_
          have XK := I1.kIn
          have hnC : x ≠ A.c d := by
            intro z
            cases hc : PySem.W.clsIn X.K (A.c d) with
            | none => have := hC.sub; unfold PySem.W.mroIn at this; rw [hc] at this; cases this
            | some cd =>
              unfold PySem.W.clsIn at hc
              split at hc
              · rename_i c' d' cd' sl ho
                have := (I1.bs _ _ (I1.ok.mod.kin _ _ ho)).2
                rw [← z, hx] at this
                cases this
              · cases hc
          cases hcd : PySem.W.clsIn X.K (A.c d) with
          | none => have := hC.sub; unfold PySem.W.mroIn at this; rw [hcd] at this; cases this
          | some cd =>
            have hat := hC.at_
            unfold PySem.W.ks_superIn at hat
            rw [hcd] at hat
            obtain ⟨of, hof, hofc⟩ : ∃ of, s1.heap.get? (A.f f) = some of ∧ of.cls = .type "function" := by
              have ht' : (X.K.lookup (A.f f)).map (·.cls) = some (.type "function") := hC.ty
              cases z : X.K.lookup (A.f f) with
              | none => rw [z] at ht'; cases ht'
              | some of => rw [z] at ht'; exact ⟨of, XK _ _ z, Option.some.inj ht'⟩
            obtain ⟨hh, gg, dd, tt, os⟩ := s1
            refine ks_wpAny_getMethod_super hso (PySem.W.looks_opaque XK O.opq) (l₀ := cd.mro) (fun A Q E s k q => wpAny_bind ((PySem.W.looks_clsIn XK hcd) A _ E s k (wpAny_pure q))) rfl XK hat hof hofc hnC hC.nm ?_
            show wpAny (model X.prog X.w) X.A (callWith pos (.ref hh.objs.size) [] (backTo pos (starEach es X.env)) []) (EP X pins σ Q) X.xe _
            have I2 : Inv X pins σ H { heap := hh.push (PySem.W.methodObj (.ref (A.f f)) (.ref x)), gens := gg, drawn := dd, toks := tt + 1, os := os } := I1.kept (t' := tt + 1) fun b o e => Heap.get?_push_of_some _ e
            have hq : (hh.push (PySem.W.methodObj (.ref (A.f f)) (.ref x))).get? hh.objs.size = some (PySem.W.methodObj (.ref (A.f f)) (.ref x)) := Heap.get?_push_size _ rfl
            have ok := I1.fpOk (b := hh.objs.size) (Nat.le_refl _) (I1.hok.fresh (Nat.le_refl _))
            have I3 := pin_add (pl := [(hh.objs.size, PySem.W.methodObj (.ref (A.f f)) (.ref x))]) I2 fun p hp => by
              rw [List.mem_singleton] at hp
              subst hp
              exact ⟨hq, ok.1, ok.2.1, ok.2.2.1, fun v z => by cases z⟩
            -- the call behind the arguments
            have fin : ∀ (us : List Value) (vs : List V) (ts : List T) (s2 : Shared) (H2 : Hp) (g2 : Gh) (S2 : Store), Inv X (pins ++ [(hh.objs.size, PySem.W.methodObj (.ref (A.f f)) (.ref x))]) σ H2 s2 → Vals vs us → Reps X.K A H2 g2 vs ts → Ex g H g2 H2 → Cn X.K A g2 H2 S2 → Aft X.K A (repV X.K A) W σ (callF G (runN G n) f (o :: ts) [] S2) g2 H2 S2 Q →
                PySem.W.MethP X.K hh.objs.size (A.f f) (.ref x) s2.heap ∧ wpAny (model X.prog X.w) X.A (call (.ref hh.objs.size) us) (EP X pins σ Q) X.xe s2 := by
              intro us vs ts s2 H2 g2 S2 J rv rs x2 c2 h2
              have pin := pin_at J (p := (hh.objs.size, PySem.W.methodObj (.ref (A.f f)) (.ref x))) (by simp)
              refine ⟨⟨pin.1, J.kIn⟩, ?_⟩
              have J0 : Inv X pins σ H2 s2 := J.unpinned
              unfold callF at h2
              cases eF : G.fns f with
              | none => rw [eF] at h2; exact h2.elim
              | some fn =>
                rw [eF] at h2
                simp only at h2
                cases eb : bind fn (o :: ts) [] with
                | none => rw [eb] at h2; exact h2.elim
                | some zts =>
                  rw [eb] at h2
                  obtain ⟨fd, ps, FO, B, hp⟩ := (hF fn eF).ex
                  obtain ⟨zvs, zus, r1, r2, hl', bt⟩ := B s2 H2 g2 (.ref x :: us) (.ref x :: vs) (o :: ts) [] [] [] [] zts J0.kIn (.cons rfl rv) (.cons (r0.ex x2) rs) .nil .nil rfl (by simp) eb
                  have hsp : spF X.K A G n f fn zvs H2 Q (fun cls d H' => W cls d σ H') := ⟨g2, S2, zts, c2, r2, bind_length eb, h2.toE⟩
                  refine wpAny_call (codeAny_mono (ks_codeAny_call_bound pin.1 (FO.run X.A X.stack s2 H2 ⟨.ref x :: us, []⟩ zus zvs Q _ hr J0.env0 (by simpa using bt) r1 hsp)) fun r s' hq => ?_)
                  cases r with
                  | error e => exact tk e s' (XE.of_call J0 (fun cls d H' h => h) hq)
                  | ok fl =>
                    cases fl with
                    | ret u => exact J0.after hq
                    | next => exact False.elim hq
                    | brk => exact False.elim hq
                    | cont => exact False.elim hq
            cases es with
            | nil =>
              rw [hnil rfl] at h
              obtain ⟨q1, q2⟩ := fin [] [] [] _ H g S I3 .nil .nil .refl c h
              exact PySem.W.callWith_of rfl (PySem.W.keeps_M hC.fn) (evalArgs_nil3 ⟨q1, q2⟩)
            | cons e rest =>
              simp only [List.all_cons, Bool.and_eq_true, Bool.not_eq_true'] at hs
              have es' : starEach (e :: rest) X.env = (false, eval e X.env) :: starEach rest X.env := starEach_plain hs.1
              have run := ha.run pos _ _ σ H (fun vs H1 => ∀ us s2, Inv X (pins ++ [(hh.objs.size, PySem.W.methodObj (.ref (A.f f)) (.ref x))]) σ H1 s2 → Vals vs us → PySem.W.MethP X.K hh.objs.size (A.f f) (.ref x) s2.heap ∧ wpAny (model X.prog X.w) X.A (call (.ref hh.objs.size) us) (EP X pins σ Q) X.xe s2) I3
                ⟨g, ρ, S, c, fr, h.bind fun ts S1 g1 H1 vs _ x1 c1 l1 r1 h1 us s2 J rv => fin us vs ts s2 H1 g1 S1 J rv r1 x1 c1 h1⟩
              rw [es'] at run ⊢
              refine PySem.W.callWith_of (by
                show ((false || (backTo pos (starEach rest X.env)).any (·.1)) || false) = false
                rw [star_any hs.2]; rfl) (PySem.W.keeps_M (self := .ref x) hC.fn) (Calls.evalArgs_plain (thn run fun us s2 ⟨vs, H1, J, rv, q⟩ => ?_))
              exact q us s2 J rv
        · simp only [if_neg hd] at h; exact h.elim
      | _ => simp only [ev] at h; exact h.elim
end
end NH
end
section
namespace NH
open PySem L2 PyProof.Rows

structure PSsAt (X : Cx) (c : Code) (st : List Stmt) (t : TS) : Prop where
  run : ∀ (pins : List (Addr × Obj)) (s : Shared) (σ : L2.St) (H : Hp) (D : Ends), Inv X pins σ H s → t D σ H → PySem.wpAt (model X.prog X.w) X.A c (PySem.execs st X.env) (SP X pins D) X.xe s
section
variable {X : Cx} {A : Ad} {G : Gam} {W : WX} {n : Nat} {c : Code}
theorem PEAt.imp {e : Expr} {t t' : TE} (h : PEAt X c e t) (i : ∀ σ H Q, t' σ H Q → t σ H Q) : PEAt X c e t' := ⟨fun pins s σ H Q I q => h.run pins s σ H Q I (i σ H Q q)⟩
theorem psat_cons {st : Stmt} {rest : List Stmt} {t u : TS} (h1 : PS X st t) (h2 : PSsAt X c rest u) : PSsAt X c (st :: rest) (tSeq t u) := by
  refine ⟨fun pins s σ H D I h => ?_⟩
  refine ks_wpAt_execs_cons (PySem.wpAt_of_wpAny (thn (h1.run pins s σ H { D with nx := u D } I h) fun f s1 q => ?_))
  cases f with
  | next =>
    obtain ⟨σ', H', I', q⟩ := q
    exact h2.run pins s1 σ' H' D I' q
  | ret v => exact q
  | brk => exact q
  | cont => exact q
theorem psat_ret {e : Expr} {te : TE} {pos : Pos} (he : PEAt X c e te) : PSsAt X c [.Return (some e) pos] (tRet te) := by
  refine ⟨fun pins s σ H D I h => ?_⟩
  refine ks_wpAt_execs_cons (ks_wpAt_Return_some (PySem.wpAt_mono (he.run pins s σ H D.rt I h) (fun v s' hq => ?_) fun _ _ z => z))
  obtain ⟨x, H', J, r, q⟩ := hq
  exact ⟨x, σ, H', J, r, q⟩
theorem peat_fmt {e : Expr} {te : TE} {pos : Pos} (he : PEAt X c e te) : PEAt X c (.FormattedValue e (-1) none pos) (tFmt te) := by
  refine ⟨fun pins s σ H Q I h => ?_⟩
  refine PySem.wpAt_bind (PySem.wpAt_mono (he.run pins s σ H _ I h) (fun v s1 hv => PySem.wpAt_of_wpAny (wpAny_bind (wpAny_standAt ?_))) fun _ _ z => z)
  show wpAny _ _ (do let v' ← holding [v] (pure v); formatField v' Str.empty) _ _ _
  refine wpAny_bind (wpAny_holding (wpAny_pure ?_))
  obtain ⟨x, H1, I1, r1, q⟩ := hv
  rcases q with ⟨y, rfl, hz, q⟩ | ⟨i, rfl, hz, q⟩
  · obtain ⟨t, rfl⟩ := r1
    exact wpAny_formatField_str ⟨.str y, H1, I1, ⟨t, rfl⟩, q⟩ ⟨.str y, H1, I1.tok _, ⟨_, rfl⟩, q⟩ hz
  · obtain ⟨t, rfl⟩ := r1
    exact wpAny_formatField_int hz ⟨.str (toString i), H1, I1.tok _, ⟨_, rfl⟩, q⟩
theorem peat_joined {v1 v2 : Expr} {rest : List Expr} {t1 : TE} {ts : List TE} {pos : Pos} (h1 : PEAt X c v1 t1) (h : PJ X (v2 :: rest) ts) : PEAt X c (.JoinedStr (v1 :: v2 :: rest) pos) (fun σ H Q => tJs (t1 :: ts) Str.empty σ H fun out H1 => Q (.str out) H1) := by
  refine ⟨fun pins s σ H Q I q => ?_⟩
  show PySem.wpAt _ _ _ (joinParts Str.empty (eval v1 X.env :: evalEach (v2 :: rest) X.env)) _ _ _
  rw [joinParts]
  refine PySem.wpAt_bind (PySem.wpAt_mono (h1.run pins s σ H _ I q) (fun v s1 hv => PySem.wpAt_of_wpAny ?_) fun _ _ z => z)
  obtain ⟨x, H1, I1, r1, y, rfl, hy, q1⟩ := hv
  obtain ⟨tk, rfl⟩ := r1
  refine wpAny_bind (wpAny_pure ?_)
  have hz : ¬ (Str.empty.length + y.length > sizeLine) := by rw [← strLen_append]; exact Nat.not_lt.mpr hy
  show wpAny _ _ (if Str.empty.length + y.length > sizeLine then _ else _) _ _ _
  rw [if_neg hz]
  have fin := wpAny_joinPartsRec (E := X.xe) (evalEach (v2 :: rest) X.env) (Str.empty ++ y) (EP X pins σ Q) s1 (pj_run h (Str.empty ++ y) s1 H1 (fun out H1 => Q (.str out) H1) _ hy I1 q1 fun out s1 H1 hz I1 q1 => ⟨hz, .str out, H1, I1.tok _, ⟨_, rfl⟩, q1⟩)
  first
    | exact fin
    | exact wpAny_bind (wpAny_pure fin)
/-- a step, then the rest -/
theorem rdat_cons {st : Stmt} {rest : List Stmt} {f1 f2 : Fr → Store → O} (h1 : PS X st (RdS X.K A W f1)) (h2 : PSsAt X c rest (RdS X.K A W f2)) : PSsAt X c (st :: rest) (RdS X.K A W fun ρ S => (f1 ρ S).thn fun ρ1 S1 => f2 ρ1 S1) := by
  refine ⟨fun pins s σ H D I ⟨g, ρ, S, cn, f, h⟩ => (psat_cons h1 h2).run pins s σ H D I ⟨g, ρ, S, cn, f, ?_⟩⟩
  replace h : AftO X.K A W ((f1 ρ S).thn fun ρ1 S1 => f2 ρ1 S1) g H S D := h
  cases e : f1 ρ S with
  | nx ρ1 S1 =>
    rw [e] at h
    exact fun g' H' σ' x c' l f' => ⟨g', ρ1, S1, c', f', AftO.later (show AftO X.K A W (f2 ρ1 S1) g H S D from h) x l⟩
  | rt t S1 => rw [e] at h; exact h
  | xc t ρ1 S1 => rw [e] at h; exact h
  | no => rw [e] at h; exact h.elim
theorem rdat_ret {e : Expr} {fe : Fr → Store → R T} {pos : Pos} (he : PEAt X c e (RdE X.K A W fe)) : PSsAt X c [.Return (some e) pos] (RdS X.K A W fun ρ S => ((fe ρ S).thn ρ fun v S1 => .rt v S1).thn fun ρ1 S1 => .nx ρ1 S1) := by
  refine ⟨fun pins s σ H D I ⟨g, ρ, S, cn, f, h⟩ => (psat_ret he).run pins s σ H D I ⟨g, ρ, S, cn, f, ?_⟩⟩
  have e2 : ((fe ρ S).thn ρ fun v S1 => .rt v S1).thn (fun ρ1 S1 => .nx ρ1 S1) = (fe ρ S).thn ρ fun v S1 => .rt v S1 := by
    cases fe ρ S <;> rfl
  replace h : AftO X.K A W (((fe ρ S).thn ρ fun v S1 => .rt v S1).thn fun ρ1 S1 => .nx ρ1 S1) g H S D := h
  rw [e2] at h
  exact AftO.bindR f h fun t S1 g1 H1 v _ x1 c1 l1 r1 h1 => h1 g1 H1 v .refl c1 (Nat.le_refl _) r1
/-- an f-string whose first part says super() -/
theorem rdat_fstr {v2 e : Expr} {rest : List Expr} {p pos : Pos} {fe : Fr → Store → R T} {fs : Str → Fr → Store → R Str} (he : PEAt X c e (RdE X.K A WF fe)) (h : PFs X A (v2 :: rest) fs) : PEAt X c (.JoinedStr (.FormattedValue e (-1) none p :: v2 :: rest) pos) (RdE X.K A W fun ρ S => ((fe ρ S).bind fun v S1 => match partS v with
      | some y => if (Str.empty ++ y).length ≤ sizeLine then fs (Str.empty ++ y) ρ S1 else .no
      | none => .no).noX.bind fun x S1 => .ok (.str x) S1) := by
  obtain ⟨ts, pj, hr⟩ := pfs_run h
  refine (peat_joined (peat_fmt he) pj).imp fun σ H Q ⟨g, ρ, S, cn, f, h⟩ => ?_
  replace h : Aft X.K A (repV X.K A) W σ (((fe ρ S).bind fun v S1 => match partS v with
      | some y => if (Str.empty ++ y).length ≤ sizeLine then fs (Str.empty ++ y) ρ S1 else .no
      | none => .no).noX.bind fun x S1 => .ok (.str x) S1) g H S Q := h
  refine ⟨g, ρ, S, cn, f, ?_⟩
  show Aft X.K A (repV X.K A) WF σ (fe ρ S) g H S _
  cases ef : fe ρ S with
  | exc x S1 => rw [ef] at h; exact h.elim
  | no => rw [ef] at h; exact h.elim
  | ok t S1 =>
    rw [ef] at h
    intro g1 H1 v x1 c1 l1 r1
    cases ep : partS t with
    | none =>
      have h' : Aft X.K A (repV X.K A) W σ (((match partS t with
        | some y => if (Str.empty ++ y).length ≤ sizeLine then fs (Str.empty ++ y) ρ S1 else .no
        | none => .no) : R Str).noX.bind fun x S1 => .ok (.str x) S1) g H S Q := h
      rw [ep] at h'
      exact h'.elim
    | some z =>
      have h' : Aft X.K A (repV X.K A) W σ (((match partS t with
        | some y => if (Str.empty ++ y).length ≤ sizeLine then fs (Str.empty ++ y) ρ S1 else .no
        | none => .no) : R Str).noX.bind fun x S1 => .ok (.str x) S1) g H S Q := h
      rw [ep] at h'
      simp only at h'
      by_cases hl : (Str.empty ++ z).length ≤ sizeLine
      · rw [if_pos hl] at h'
        obtain ⟨k, oz⟩ := part_ok r1 ep
        have go : tJs ts (Str.empty ++ z) σ H1 fun out H1 => Q (.str out) H1 := hr (Str.empty ++ z) σ H1 _ (strOk_append (by simp [PyData.strOk, Str.empty]) oz) ⟨g1, ρ, S1, c1, f.ex x1, by
          cases es : fs (Str.empty ++ z) ρ S1 with
          | ok t S2 => rw [es] at h'; exact fun g' H' _ x' c' l' ⟨q, o⟩ => h' g' H' _ (x1.trans x') c' (Nat.le_trans l1 l') (by rw [q] at o ⊢; exact .str _ o)
          | exc x S2 => rw [es] at h'; exact h'.elim
          | no => rw [es] at h'; exact h'.elim⟩
        rcases k with ⟨y, rfl, hy, rfl⟩ | ⟨i, rfl, hy, rfl⟩
        · exact .inl ⟨_, rfl, hy, _, rfl, hl, go⟩
        · exact .inr ⟨i, rfl, hy, _, rfl, hl, go⟩
      · rw [if_neg hl] at h'; exact h'.elim
end
end NH
end
section
namespace NH
open PySem L2 PyProof.Rows

theorem sup_fn {P : Program} {w : World} {K : PySem.W.Frag} {mg : Str → Option Value} {base : Heap} {k : Nat} {f cc : Addr} {name qual : Str} {params : Arguments} {body : List Stmt} {scope : Scope} {dV kV doc pm cdv ct oc cv : Value} {an od : Option Addr} {osl : Array (Option Value)} {co : Obj} {N ps : List Str} {sp : Sp}
    (lk : K.lookup f = some ⟨oc, od, .func (PySem.W.fnX name qual params body scope (cloOf cc) dV kV doc pm an cdv ct), osl⟩) (hcd : PySem.W.codeIn K cdv qual = true) (lc : K.lookup cc = some co) (hco : co.data = .cell (some cv)) (S : SupScope N ps scope) (len : ∀ vs H Q E, sp vs H Q E → vs.length = ps.length)
    (hbody : ∀ (A : Around) (outer : List Env) (s : Shared) (H : Hp) (vs : List V) (Q : VK) (E : XK), Room k (A.deeper (supEnv qual scope s.heap.objs.size f cdv cc)) → sp vs H Q E →
      ∃ t, PSsAt (supCx P w K mg base N qual scope f cdv cc A outer s H E) (.func body (supEnv qual scope s.heap.objs.size f cdv cc)) body t ∧ t { nx := fun _ H' => Q .non H', rt := Q } (L2.start N vs) H) :
    FnOk P w K mg base (L2.CX P w) (k + 1) f (PySem.W.fnX name qual params body scope (cloOf cc) dV kV doc pm an cdv ct) ps sp := by
  refine ⟨len, fun A outer s H args us vs Q E hr e0 hb r hsp => ?_⟩
  have hl := len _ _ _ _ hsp
  have KX : K.In s.heap := e0.mod.kin.keeps fun b o e => (e0.bs b o e).1
  have lim : s.heap.NoLimit := e0.mod.nolimit.keeps fun b o e => (e0.bs b o e).1
  refine codeAny_call_function hr.depth (KX _ _ lk) rfl S.co S.gen rfl (PySem.W.codeRec_of KX hcd) (hb _ _ _ _ ?_)
  refine newEnv_clo S.kind (fun ⟨n, v⟩ hy => ?_) fun s1 x => ?_
  · rcases S.par n (List.of_mem_zip hy).1 with q | q
    · exact .inl q
    · exact .inr ⟨q, PySem.W.cellsFrom_some _ _ _ (.inl q)⟩
  · refine ⟨lim.keeps x.toInCall.keep, ks_codeAny_funcAt ?_⟩
    obtain ⟨t, ht, hq⟩ := hbody A outer s H vs Q E (hr.deeper _) hsp
    have I := inv_sup (qual := qual) (f := f) (cdv := cdv) (E := E) S hr.hd e0 hl r (e0.mod.kin _ _ lc) hco x
    refine PySem.wpAt_mono (ht.run [] s1 (L2.start N vs) H _ I hq) (fun fl s' hs => ?_) fun e s' hs => hs
    have fin : ∀ {σ' : L2.St} {H' : Hp} {v : V} {u : Value}, Inv (supCx P w K mg base N qual scope f cdv cc A outer s H E) [] σ' H' s' → RelV v u → Q v H' → CE outer P w H s Q u s' :=
      fun {σ' H' v u} J rv q => ⟨v, H', J.os, J.bare, J.base, J.hok, rv, q⟩
    cases fl with
    | ret u =>
      obtain ⟨v, σ', H', J, rv, q⟩ := hs
      exact fin J rv q
    | next =>
      obtain ⟨σ', H', J, q⟩ := hs
      exact fin (v := V.non) (u := Value.none) J rfl q
    | brk =>
      obtain ⟨_, _, _, q⟩ := hs
      exact False.elim q
    | cont =>
      obtain ⟨_, _, _, q⟩ := hs
      exact False.elim q
/-! ### the matcher -/
def noSt (xs : List Expr) : Bool := xs.all fun e => !isStar e
/-- super().m(..) -/
def supCall : Expr → Option (Str × List Expr)
  | .Call (.Attribute (.Call (.Name sn _) [] [] _) nm ap) xs [] p => if sn = ("super" : Str) ∧ (ap.endLine == p.line) = true ∧ xs.length + 1 < 30 ∧ noStar xs = true then some (nm, xs) else none
  | _ => none
theorem supCall_inv {e : Expr} {q : Str × List Expr} (h : supCall e = some q) : ∃ p0 p1 ap p, e = .Call (.Attribute (.Call (.Name (Str.ofString "super") p0) [] [] p1) q.1 ap) q.2 [] p ∧ (ap.endLine == p.line) = true ∧ q.2.length + 1 < 30 ∧ noStar q.2 = true := by
  unfold supCall at h
  split at h
  · rename_i sn p0 p1 nm ap xs p
    split at h
    · rename_i hc
      cases h
      exact ⟨p0, p1, ap, p, by rw [hc.1], hc.2.1, hc.2.2.1, hc.2.2.2⟩
    · cases h
  · cases h
variable (tb : Tb) (ok : Nat → Nat → Str → Bool)
def mSupE (sc : Sc) : E → Expr → Bool
  | .sup d f es, e => (match supCall e with
    | some q => ok d f q.1 && mEs tb sc es q.2
    | none => false)
  | _, _ => false
/-- the first part of an f-string -/
def fmtPart : Expr → Option Expr
  | .FormattedValue e k sp _ => if k = -1 ∧ sp.isNone = true then some e else none
  | _ => none
theorem fmtPart_inv {x e : Expr} (h : fmtPart x = some e) : ∃ p, x = .FormattedValue e (-1) none p := by
  unfold fmtPart at h
  split at h
  · rename_i e' k sp p
    split at h
    · rename_i hc
      cases h
      obtain ⟨h1, h2⟩ := hc
      cases sp with
      | some _ => cases h2
      | none => exact ⟨p, by rw [h1]⟩
    · cases h
  · cases h
def mSupR (sc : Sc) : E → Expr → Bool
  | .fstr (a :: b :: as), .JoinedStr (v1 :: v2 :: vs) _ => (match fmtPart v1 with
    | some e => mSupE tb ok sc a e && mFs tb sc (b :: as) (v2 :: vs)
    | none => false)
  | a, e => mSupE tb ok sc a e
def retOf : Stmt → Option Expr
  | .Return (some e) _ => some e
  | _ => none
theorem retOf_inv {s : Stmt} {e : Expr} (h : retOf s = some e) : ∃ p, s = .Return (some e) p := by
  unfold retOf at h
  split at h
  · cases h; exact ⟨_, rfl⟩
  · cases h
def irRet : St → Option E
  | .ret e => some e
  | _ => none
theorem irRet_inv {s : St} {e : E} (h : irRet s = some e) : s = .ret e := by
  cases s with
  | ret e' => cases h; rfl
  | _ => cases h
/-- statements, then a return that says super() -/
def mSupB (sc : Sc) : List St → List Stmt → Bool
  | [s], [t] => (match irRet s, retOf t with
    | some a, some e => mSupR tb ok sc a e
    | _, _ => false)
  | s :: s2 :: r, t :: t2 :: ts => mSt tb sc s t && mSupB sc (s2 :: r) (t2 :: ts)
  | _, _ => false
variable {tb : Tb} {ok : Nat → Nat → Str → Bool} {A : Ad} {G : Gam} {n : Nat}
theorem CtxOk.wf {X : Cx} {W : WX} {sc : Sc} (c : CtxOk X A G n W tb sc) : CtxOk X A G n WF tb sc := ⟨c.N, c.nd, c.scope, c.kind, c.calm, c.room, takes_none5, c.lay, c.fns, c.nm, c.fn, c.tf, c.tc, c.tg, c.ty, c.lm, c.blt, c.attrs⟩
theorem supE_ok {body : List Stmt} {D : Addr} {a : E} {sc : Sc} {e : Expr} {X : Cx} {W : WX} (c : CtxOk X A G n W tb sc) (O : SupOk X D) (hat : ∀ d f m, ok d f m = true → SupAt X.K D (A.c d) m (A.f f)) (h : mSupE tb ok sc a e = true) : PEAt X (.func body X.env) e (RdE X.K A W fun ρ S => ev G (runN G n) a ρ S) := by
  cases a with
  | sup d f es =>
    simp only [mSupE] at h
    cases es' : supCall e with
    | none => rw [es'] at h; cases h
    | some q =>
      rw [es'] at h
      simp only [Bool.and_eq_true] at h
      obtain ⟨h1, h2⟩ := h
      obtain ⟨p0, p1, ap, p, rfl, k1, k2, k3⟩ := supCall_inv es'
      exact peat_sup O (hat d f q.1 h1) (fun fn hf => c.fns f fn hf) (c.room.mono (Nat.le_succ _)) c.tk k3 k2 k1 (okEs es sc q.2 X W c h2 k3) (nil_evs (X := X) h2)
  | _ => simp [mSupE] at h
theorem supR_ok {body : List Stmt} {D : Addr} {a : E} {sc : Sc} {e : Expr} {X : Cx} {W : WX} (c : CtxOk X A G n W tb sc) (O : SupOk X D) (hat : ∀ d f m, ok d f m = true → SupAt X.K D (A.c d) m (A.f f)) (h : mSupR tb ok sc a e = true) : PEAt X (.func body X.env) e (RdE X.K A W fun ρ S => ev G (runN G n) a ρ S) := by
  unfold mSupR at h
  split at h
  · rename_i a b as v1 v2 vs p
    cases ef : fmtPart v1 with
    | none => rw [ef] at h; cases h
    | some e' =>
      rw [ef] at h
      simp only [Bool.and_eq_true] at h
      obtain ⟨p2, rfl⟩ := fmtPart_inv ef
      have := rdat_fstr (W := W) (pos := p) (p := p2) (supE_ok (body := body) c.wf O hat h.1) (okFs (b :: as) sc (v2 :: vs) X W c h.2)
      refine this.imp fun σ H Q q => q
  · exact supE_ok c O hat h
theorem supB_ok {body : List Stmt} {D : Addr} {sc : Sc} {X : Cx} {W : WX} (c : CtxOk X A G n W tb sc) (hp : PassesOwn (model X.prog X.w) X.A X.env X.xe) (O : SupOk X D) (hat : ∀ d f m, ok d f m = true → SupAt X.K D (A.c d) m (A.f f)) :
    ∀ {b : List St} {ss : List Stmt}, mSupB tb ok sc b ss = true → PSsAt X (.func body X.env) ss (RdS X.K A W fun ρ S => execs G (runN G n) b ρ S)
  | [], ss, h => by cases ss <;> simp [mSupB] at h
  | [s], [], h => by simp [mSupB] at h
  | [s], [t], h => by
    simp only [mSupB] at h
    cases e1 : irRet s with
    | none => rw [e1] at h; cases h
    | some a =>
      cases e2 : retOf t with
      | none => rw [e1, e2] at h; cases h
      | some e =>
        rw [e1, e2] at h
        obtain rfl := irRet_inv e1
        obtain ⟨p, rfl⟩ := retOf_inv e2
        exact rdat_ret (supR_ok c O hat h)
  | [s], t :: t2 :: ts, h => by simp [mSupB] at h
  | s :: s2 :: r, [], h => by simp [mSupB] at h
  | s :: s2 :: r, [t], h => by simp [mSupB] at h
  | s :: s2 :: r, t :: t2 :: ts, h => by
    simp only [mSupB, Bool.and_eq_true] at h
    exact rdat_cons (okS s sc t X W c hp h.1) (supB_ok c hp O hat h.2)
end NH
end
section
namespace NH
open PySem L2 PyProof.Rows

abbrev FnS : Type := Option (Str × Str × Arguments × FuncBody × Scope × Addr × List Str × Addr)
def fnS (K : PySem.W.Frag) (p : Str × Option Str) : FnS := match K.lookup (He.fAd K p) with
  | some ⟨_, _, .func fd, _⟩ => some (fd.name, fd.qualname, fd.params, fd.body, fd.scope, fd.globals, fd.closure.map (·.1), fd.builtins)
  | _ => none
def PF.valS (q : PF) : FnS := some (q.nmOf, q.qual, defArgs q.st, .stmts (defBody q.st), defScope q.st, mainGlobals, [clsN], builtinsNs)
def supAtB (K : PySem.W.Frag) (D C : Addr) (m : Str) (f : Addr) : Bool := decide (PySem.W.mroIn K C (.ref D) = some true) && He.eqO (PySem.W.ks_superIn K C D m) (some (some (.ref f))) && decide (PySem.W.typeIn K (.ref f) = some (.type "function")) && PySem.W.fnIn K f && !(m == ("__class__" : Str))
theorem supAtB_ok {K : PySem.W.Frag} {D C f : Addr} {m : Str} (h : supAtB K D C m f = true) : SupAt K D C m f := by
  unfold supAtB at h
  simp only [Bool.and_eq_true, decide_eq_true_eq, Bool.not_eq_true'] at h
  obtain ⟨⟨⟨⟨h1, h2⟩, h3⟩, h4⟩, h5⟩ := h
  exact ⟨h1, He.eqO_ok h2, h3, h4, h5⟩
/-- the class whose method it is -/
def PF.D (K : PySem.W.Frag) (q : PF) : Addr := He.ga K q.at_.1
def cellB (K : PySem.W.Frag) (D : Addr) : List (Str × Addr) → Bool
  | [(_, cc)] => (match K.lookup cc with
    | some ⟨_, _, .cell (some (.ref D')), _⟩ => decide (D' = D)
    | _ => false)
  | _ => false
def fileB (K : PySem.W.Frag) (file : Str) : Value → Bool
  | .ref c => (match K.lookup c with
    | some ⟨_, _, .fields vs, _⟩ => (match (vs[2]? : Option Value) with
      | some (.str fl _) => file == fl
      | _ => false)
    | _ => false)
  | _ => false
def isNoneV : Value → Bool
  | .none => true
  | _ => false
def Prg.supEx (p : Prg) (file : Str) (K : PySem.W.Frag) (q : PF) : Bool :=
  PySem.W.keepIn K (.ref (He.fAd K q.at_)) && (match K.lookup (He.fAd K q.at_) with
    | some ⟨_, _, .func fd, _⟩ => PySem.W.codeIn K fd.code q.qual && isNoneV fd.defaults && cellB K (q.D K) fd.closure && fileB K file fd.code
    | _ => false) && (PySem.W.clsIn K (q.D K)).isSome && He.eqO (PySem.W.nsIn K cStatics "thirdparty.any") (some none) && He.eqO (PySem.W.nsIn K mainGlobals "super") (some none) &&
  q.sups.all fun z => supAtB K (q.D K) ((p.ad K).c z.1) z.2.2 ((p.ad K).f z.2.1)
def Prg.supD (p : Prg) : List PF := p.fns.filter (·.sup)
def Prg.exY (p : Prg) (file : Str) (K : PySem.W.Frag) : Bool := p.ex K && p.supD.all (p.supEx file K)
/-! ### the Hook -/
abbrev AlY : Type := He.AlX × List FnS
def Prg.dtf (p : Prg) : List He.Defn := p.tf.map (·.at_)
def obsY (n : List Addr) (p : Prg) (file : Str) (g : Addr → Option Obj) : AlY :=
  ((He.obsT p.fa p.fnD [] (He.frT g n), p.exY file (He.frT g n) && He.tabsB g p.dtf (He.frT g n)), p.supD.map fun q => fnS (He.frT g n) q.at_)
def valY (p : Prg) (w : World) : AlY := (He.valX p.fnD [] w, p.supD.map PF.valS)
structure SaysY (p : Prg) (file : Str) (w : World) (h : Heap) (K : PySem.W.Frag) : Prop where
  x : He.SaysX p.fa p.fnD [] p.dtf (p.exY file) w h K
  s : (p.supD.map fun q => fnS K q.at_) = p.supD.map PF.valS
theorem saysY_of {n : List Addr} {p : Prg} {file : Str} {w : World} {h : Heap} (e : obsY n p file h.get? = valY p w) : SaysY p file w h (He.frT h.get? n) := by
  have e1 : He.obsT p.fa p.fnD [] (He.frT h.get? n) = He.valT p.fnD [] w := congrArg (fun z : AlY => z.1.1) e
  have e2 : (p.exY file (He.frT h.get? n) && He.tabsB h.get? p.dtf (He.frT h.get? n)) = true := congrArg (fun z : AlY => z.1.2) e
  have e3 : (p.supD.map fun q => fnS (He.frT h.get? n) q.at_) = p.supD.map PF.valS := congrArg (fun z : AlY => z.2) e
  obtain ⟨h1, h2⟩ := Bool.and_eq_true_iff.mp e2
  have tab : ∀ z ∈ p.dtf, PySem.W.codeHdIn (He.frT h.get? n) (He.cT (He.frT h.get? n) z).1 (He.cT (He.frT h.get? n) z).2 = true ∧ ∃ o, h.get? (He.cT (He.frT h.get? n) z).2 = some o ∧ He.emptyTab o = true := fun z hz => by
    obtain ⟨a, b⟩ := Bool.and_eq_true_iff.mp (List.all_eq_true.mp h2 z hz)
    refine ⟨a, ?_⟩
    split at b
    · rename_i o ho
      exact ⟨o, ho, b⟩
    · cases b
  refine ⟨⟨e1, h1, fun z hz => (tab z hz).1, fun z hz => ?_, fun z hz => ?_⟩, e3⟩
  · obtain ⟨_, o, a, b⟩ := tab z hz
    exact He.frT_none a b
  · obtain ⟨_, o, a, b⟩ := tab z hz
    rw [a, He.emptyTab_eq b]
def hookY (n : List Addr) (p : Prg) (file : Str) : PySem.W.Hook where
  α := AlY
  obs := fun s => obsY n p file s.heap.get?
  val := fun w => valY p w
  says := fun w h => ∃ K : PySem.W.Frag, K.In h ∧ SaysY p file w h K
  of := fun _ _ e => ⟨_, He.frT_in, saysY_of e⟩
  keeps := fun _ _ _ ⟨K, hK, c⟩ k => ⟨K, PySem.W.Frag.In.keeps hK k, ⟨⟨c.x.t, c.x.more, c.x.hd, c.x.out, fun p hp => k _ _ (c.x.empty p hp)⟩, c.s⟩⟩
theorem obsY_eq {n : List Addr} {p : Prg} {file : Str} {g : Addr → Option Obj} {s : Shared} (h : ∀ a, g a = s.heap.get? a) : obsY n p file g = (hookY n p file).obs s := by
  have e : g = s.heap.get? := funext h
  rw [e] <;> rfl
end NH
end
section
namespace NH
open PySem L2 PyProof.Rows

theorem cells_mem {y : Str} {c : Addr} : ∀ {names : List (Str × NameKind)} {n : Nat} {acc : List (Str × Addr)}, (y, c) ∈ cellsFrom n names acc → (y, c) ∈ acc ∨ (y, NameKind.cell) ∈ names
  | [], n, acc, h => .inl h
  | (x, k) :: r, n, acc, h => by
    unfold cellsFrom at h
    split at h
    · rename_i hk
      rcases cells_mem h with q | q
      · rcases List.mem_cons.mp q with z | z
        · cases z
          refine .inr ?_
          have : k = NameKind.cell := by cases k <;> first | rfl | cases hk
          rw [this]
          exact List.mem_cons_self ..
        · exact .inl z
      · exact .inr (List.mem_cons_of_mem _ q)
    · rcases cells_mem h with q | q
      · exact .inl q
      · exact .inr (List.mem_cons_of_mem _ q)
def isNk (k : NameKind) : Option NameKind → Bool
  | some j => decide (j = k)
  | none => false
theorem isNk_ok {k : NameKind} {o : Option NameKind} (h : isNk k o = true) : o = some k := by
  cases o with
  | none => cases h
  | some j => rw [of_decide_eq_true h]
def supScopeB (N ps : List Str) (sc : Scope) : Bool := decide (sc.kind = .function) && !sc.isCoroutine && !sc.isGenerator && decide N.Nodup && decide (N.take ps.length = ps) && ps.all (fun x => decide (sc.names.lookup x = some .local) || decide (sc.names.lookup x = some .cell)) &&
  sc.names.all (fun y => !decide (y.2 = .free) || decide (y.1 = clsN)) && isNk .free (sc.names.lookup clsN) && sc.names.all (fun y => !decide (y.1 = clsN) || decide (y.2 = .free)) && isNk .globalImplicit (sc.names.lookup ("super" : Str))
theorem supScopeB_ok {N ps : List Str} {sc : Scope} (h : supScopeB N ps sc = true) : SupScope N ps sc ∧ (∀ n : Nat, (cellsFrom n sc.names []).lookup clsN = none) ∧ sc.names.lookup ("super" : Str) = some .globalImplicit := by
  unfold supScopeB at h
  simp only [Bool.and_eq_true, Bool.or_eq_true, Bool.not_eq_true', decide_eq_true_eq, decide_eq_false_iff_not, List.all_eq_true] at h
  obtain ⟨⟨⟨⟨⟨⟨⟨⟨⟨h1, h2⟩, h3⟩, h4⟩, h5⟩, h6⟩, h7⟩, h8⟩, h9⟩, h10⟩ := h
  refine ⟨⟨h1, h2, h3, h4, h5, h6, fun y hy hf => ?_, isNk_ok h8⟩, fun n => ?_, isNk_ok h10⟩
  · rcases h7 y hy with q | q
    · exact absurd hf q
    · exact q
  · cases e : (cellsFrom n sc.names []).lookup clsN with
    | none => rfl
    | some c =>
      rcases cells_mem (PySem.mem_of_lookup e) with q | q
      · simp at q
      · rcases h9 _ q with z | z
        · exact absurd rfl z
        · cases z
def PF.okS (q : PF) (d f : Nat) (m : Str) : Bool := q.sups.any fun z => decide (z.1 = d) && decide (z.2.1 = f) && decide (z.2.2 = m)
def PF.chkS (p : Prg) (q : PF) : Bool := q.chkA p && supScopeB q.N (q.ps p) (defScope q.st) && mSupB p.tb q.okS q.sc q.fn.body (defBody q.st) && q.dfl.isEmpty && q.fn.dfl.isEmpty && q.fn.kwo.isEmpty && !q.lam && !q.fn.pos.isEmpty && (defArgs q.st).args.all fun a => !(a.arg == ("__classdict__" : Str))
section
variable {p : Prg} {K : PySem.W.Frag} {P : Program} {w : World} {mg : Str → Option Value} {base h : Heap}
theorem isNoneV_ok {v : Value} (h : isNoneV v = true) : v = .none := by
  cases v <;> first | rfl | cases h
theorem sup_rule (t : Told p K mg base) {file : Str} {i : Nat} {q : PF} (hq : p.fns[i]? = some q) (hc : q.chkS p = true) (hS : fnS K q.at_ = q.valS) (hE : p.supEx file K q = true) (hfile : P.main.file = file) (htop : (P.main.scope.names.lookup ("super" : Str)).isSome = false) : FnRule P w K mg base (p.ad K) p.gam i q.fn := by
  unfold PF.chkS at hc
  simp only [Bool.and_eq_true, Bool.not_eq_true', List.isEmpty_iff, List.all_eq_true] at hc
  obtain ⟨⟨⟨⟨⟨⟨⟨⟨hA, hSc⟩, hM⟩, c1⟩, c2⟩, c3⟩, c4⟩, c5⟩, c6⟩ := hc
  obtain ⟨S, noC, kSup⟩ := supScopeB_ok hSc
  have hA' := hA
  unfold PF.chkA at hA
  simp only [Bool.and_eq_true, decide_eq_true_eq, List.isEmpty_iff, Option.isNone_iff_eq_none, List.all_eq_true] at hA
  obtain ⟨⟨⟨⟨⟨⟨⟨⟨a1, a2⟩, a3⟩, a4⟩, a5⟩, a6⟩, a7⟩, a8⟩, a9⟩ := hA
  have hat : (p.ad K).f i = He.fAd K q.at_ := Prg.fn_at hq
  unfold Prg.supEx at hE
  simp only [Bool.and_eq_true, List.all_eq_true] at hE
  obtain ⟨⟨⟨⟨⟨e1, e2⟩, e3⟩, e4⟩, e5⟩, e6⟩ := hE
  unfold fnS at hS
  split at hS
  case h_2 => cases hS
  rename_i oc od fd osl lk
  rw [lk] at e2
  simp only [Bool.and_eq_true] at e2
  obtain ⟨⟨⟨b1, b2⟩, b3⟩, b4⟩ := e2
  obtain ⟨fname, fqual, fparams, fbody, fscope, fglob, fclo, fdef, fkw, fdoc, fmod, fan, fcode, fct, fblt⟩ := fd
  unfold PF.valS at hS
  simp only [Option.some.injEq, Prod.mk.injEq] at hS
  obtain ⟨s1, s2, s3, s4, s5, s6, s7, s8⟩ := hS
  subst s1 s2 s3 s4 s5 s6 s8
  simp only at b1 b2 b3 b4 s7
  obtain rfl := isNoneV_ok b2
  obtain ⟨cc, oC, rfl, lc, hco⟩ : ∃ (cc : Addr) (oC : Obj), fclo = cloOf cc ∧ K.lookup cc = some oC ∧ oC.data = .cell (some (.ref (q.D K))) := by
    unfold cellB at b3
    split at b3
    · rename_i x cc
      simp only [List.map_cons, List.map_nil, List.cons.injEq, and_true] at s7
      subst s7
      split at b3
      · rename_i oc' od' D' sl' e
        obtain rfl := of_decide_eq_true b3
        exact ⟨cc, _, rfl, e, rfl⟩
      · cases b3
    · cases b3
  have lk' := lk
  rw [← hat] at lk'
  have hpos : q.ps p = q.fn.pos.map p.name := by unfold PF.ps; rw [c3]; simp
  have hpl : (q.ps p).length = q.fn.np := by unfold PF.ps Fn.np; simp
  have B : BindOk K (p.ad K) (PySem.W.fnX q.nmOf q.qual (defArgs q.st) (defBody q.st) (defScope q.st) (cloOf cc) .none fkw fdoc fmod fan fcode fct) (q.ps p) q.fn :=
    bindOk_fd (x := q.nmOf) (qual := q.qual) (body := defBody q.st) (scope := defScope q.st) (dvs := []) (kws := []) (dV := .none) (kV := fkw) (doc := fdoc) (pm := fmod) (cdv := fcode) (ct := fct) (an := fan) (.inl ⟨rfl, rfl⟩) (.inl rfl) a1 a2 a3 a4 a5 a6 a7 a8 (fun H g => by rw [c2]; exact .nil) (fun k hk => by rw [c3] at hk; cases hk)
  refine ⟨⟨by rw [hat]; exact e1, _, _, ⟨fun vs H Q E ⟨g, S, ts, c, r, hl, h⟩ => by rw [r.length, hl, hpl], fun _ _ _ _ _ _ _ _ _ _ _ _ _ ⟨g, S, ts, c, r, hl, h⟩ => h.elim⟩, B, hpl⟩, fun n ih => ⟨by rw [hat]; exact e1, _, _, ?_, B, hpl⟩⟩
  refine sup_fn (k := 5 * n + 4) (N := q.N) lk' b1 lc hco S (fun vs H Q E ⟨g, S, ts, c, r, hl, h⟩ => by rw [r.length, hl, hpl]) fun Ar outer s H vs Q E hr ⟨g, St, ts, c, r, hl, h⟩ => ?_
  have C : CtxOk (supCx P w K mg base q.N q.qual (defScope q.st) ((p.ad K).f i) fcode cc Ar outer s H E) (p.ad K) p.gam n (WE E) p.tb q.sc :=
    Told.ctxX (X := supCx P w K mg base q.N q.qual (defScope q.st) ((p.ad K).f i) fcode cc Ar outer s H E) t hq rfl S.nd rfl S.kind rfl (takes_of rfl rfl rfl rfl) (fun x hx => by
      unfold Sc.sto at hx
      split at hx
      · rename_i e
        exact .inr e
      · rename_i e
        exact .inl (PySem.W.cellsFrom_some _ _ _ (.inl e))
      · cases hx) (fun z => by rw [c4] at z; cases z) (fun f fn hf => (ih f fn hf).to rfl rfl rfl rfl rfl) hr
  have O : SupOk (supCx P w K mg base q.N q.qual (defScope q.st) ((p.ad K).f i) fcode cc Ar outer s H E) (q.D K) := by
    refine ⟨kSup, S.cls, PySem.W.mg_none_of t.X t.g (He.eqO_ok e5), ?_, ?_, htop, ?_, ?_, He.eqO_ok e4⟩
    · cases ea : (defArgs q.st).args with
      | nil =>
        rw [ea] at a4
        cases ep : q.fn.pos with
        | nil => rw [ep] at c5; simp at c5
        | cons x xs => rw [ep] at a4; simp at a4
      | cons ar ars =>
        have ho : (q.ps p)[0]? = some ar.arg := by rw [hpos, ← a4, ea]; rfl
        have hN : q.N[0]? = some ar.arg := by
          rw [← S.pre, List.getElem?_take] at ho
          split at ho
          · exact ho
          · cases ho
        refine ⟨_, _, _, ar, rfl, lk', rfl, ?_, hN, ?_, c6 ar (by rw [ea]; exact List.mem_cons_self ..)⟩
        · show ((defArgs q.st).posonlyargs ++ (defArgs q.st).args).head? = some ar
          rw [a1, ea]; rfl
        · rcases S.par ar.arg (List.mem_of_getElem? ho) with z | z
          · exact .inl z
          · exact .inr (.inl z)
    · unfold fileB at b4
      split at b4
      · rename_i ca
        split at b4
        · rename_i oc' od' vs sl' e
          split at b4
          · rename_i fl tk ev
            refine ⟨ca, _, vs, fl, tk, rfl, e, rfl, ev, ?_⟩
            show (P.main.file == fl) = true
            rw [hfile]
            exact b4
          · cases b4
        · cases b4
      · cases b4
    · refine ⟨cc, _, ?_, lc, hco⟩
      show (cellsFrom (s.heap.objs.size + 1) (defScope q.st).names (cloOf cc)).lookup clsN = some cc
      rw [cells_app, lookup_app, noC]
      simp
    · cases ec : PySem.W.clsIn K (q.D K) with
      | none => rw [ec] at e3; cases e3
      | some cd => exact ⟨cd, ec⟩
  have hAt : ∀ d f m, q.okS d f m = true → SupAt K (q.D K) ((p.ad K).c d) m ((p.ad K).f f) := fun d f m hm => by
    unfold PF.okS at hm
    obtain ⟨z, hz, hd⟩ := List.any_eq_true.mp hm
    simp only [Bool.and_eq_true, decide_eq_true_eq] at hd
    obtain ⟨⟨rfl, rfl⟩, rfl⟩ := hd
    exact supAtB_ok (e6 z hz)
  exact ⟨_, supB_ok (X := supCx P w K mg base q.N q.qual (defScope q.st) ((p.ad K).f i) fcode cc Ar outer s H E) C (passes_of (X := supCx P w K mg base q.N q.qual (defScope q.st) ((p.ad K).f i) fcode cc Ar outer s H E) rfl) O hAt hM, g, startF q.fn.slots ts, St, c, start_fr r a9, run_ends (W := WE E) (σ := []) (show p.gam.fns i = some q.fn by show (p.fns[i]?).map (·.fn) = _; rw [hq]; rfl) (fun _ _ _ _ _ z => z) c h⟩
theorem law_atY {l : PySem.W.OpenLaw} {fa : Addr} {x nm file : Str} {L n : Nat} {q : PF} (c : SaysY p file w h K) (X : K.In h) (g : h.Ns mainGlobals mg) (hfile : l.prog.main.file = file) (htop : (l.prog.main.scope.names.lookup ("super" : Str)).isSome = false)
    (hq : p.fns[L]? = some q) (hat : q.at_ = (nm, none)) (hsp : q.sup = false) (hfa : mg nm = some (.ref fa))
    (hG : p.chkG = true) (hc : p.fns.all (fun q => q.sup || q.chk p) = true) (hcS : p.supD.all (fun q => q.chkS p) = true)
    (h1 : q.dfl = []) (h2 : q.kwd = []) (h3 : oneArg (defArgs q.st) x = true) (h4 : q.ps p = [x]) (h5 : q.fn.np = 1) (law : ∀ ns : List Int, ns.length ≤ 63 → (∀ z ∈ ns, Builtin.Int.intBits z ≤ 1048576) → ∃ S', runN p.gam (n + 1) L [.scr ns] [] = .ok (.bl true) S') :
    LamX.LawAtS l w K (L2.CX l.prog w) (5 * n + 4 + 1) 63 x mg fa h := by
  have more := c.x.more
  unfold Prg.exY at more
  simp only [Bool.and_eq_true, List.all_eq_true] at more
  obtain ⟨m1, m2⟩ := more
  have inD : ∀ {q : PF}, q ∈ p.fns → q.sup = true → q ∈ p.supD := fun h e => List.mem_filter.mpr ⟨h, e⟩
  have eqS := List.map_inj_left.mp c.s
  have kpS : ∀ q ∈ p.fns, q.sup = true → PySem.W.keepIn K (.ref (He.fAd K q.at_)) = true := fun q hq e => by
    have := m2 q (inD hq e)
    unfold Prg.supEx at this
    simp only [Bool.and_eq_true] at this
    exact this.1.1.1.1.1
  refine law_at ⟨c.x.t, m1, c.x.hd, c.x.out, c.x.empty⟩ X g hq hat hsp hfa hG hc kpS (fun base Xb gb tb i q hi e => ?_) h1 h2 h3 h4 h5 law
  have hm := List.mem_of_getElem? hi
  have cd := c.x.t.d
  refine sup_rule ⟨Xb, gb, fun f hf => cd.facts hf, m1, hG, fun i q hi => ?_⟩ hi (List.all_eq_true.mp hcS q (inD hm e)) (eqS q (inD hm e)) (m2 q (inD hm e)) hfile htop
  have hm := List.mem_of_getElem? hi
  cases e : q.sup with
  | true => exact kpS q hm e
  | false =>
    have hm' : q.def_ ∈ p.fnD := List.mem_map_of_mem (List.mem_filter.mpr ⟨hm, by rw [e]; rfl⟩)
    obtain ⟨fd, F⟩ := cd.defs hm'
    exact F.kp
end
end NH
end
section
namespace NH
open PySem L2

/-! ### small steps -/
section
variable {α β : Type} {a : α} {v : T} {x : T} {S S1 : Store} {ρ : Fr}
@[simp] theorem R.bind_ok (k : α → Store → R β) : (R.ok a S).bind k = k a S := Eq.trans rfl rfl
@[simp] theorem R.bind_no (k : α → Store → R β) : (R.no : R α).bind k = .no := Eq.trans rfl rfl
@[simp] theorem R.noX_ok : (R.ok a S).noX = .ok a S := Eq.trans rfl rfl
@[simp] theorem R.noX_no : (R.no : R α).noX = .no := Eq.trans rfl rfl
@[simp] theorem R.of_some : R.of (some a) S = .ok a S := Eq.trans rfl rfl
@[simp] theorem R.ofP_some : R.ofP (some (a, S)) = .ok a S := Eq.trans rfl rfl
@[simp] theorem R.thn_ok (k : α → Store → O) : (R.ok a S).thn ρ k = k a S := Eq.trans rfl rfl
@[simp] theorem O.thn_nx (k : Fr → Store → O) : (O.nx ρ S).thn k = k ρ S := Eq.trans rfl rfl
@[simp] theorem O.thn_rt (k : Fr → Store → O) : (O.rt v S).thn k = .rt v S := Eq.trans rfl rfl
@[simp] theorem O.toR_rt : (O.rt v S).toR = .ok v S := Eq.trans rfl rfl
@[simp] theorem O.toR_nx : (O.nx ρ S).toR = .ok .non S := Eq.trans rfl rfl
@[simp] theorem vw_non : view S .non = .non := Eq.trans rfl rfl
@[simp] theorem vw_bl {b : Bool} : view S (.bl b) = .bl b := Eq.trans rfl rfl
@[simp] theorem vw_int {i : Int} : view S (.int i) = .int i := Eq.trans rfl rfl
@[simp] theorem vw_str {x : Str} : view S (.str x) = .str x := Eq.trans rfl rfl
@[simp] theorem vw_lst {xs : List T} : view S (.lst xs) = .lst xs := Eq.trans rfl rfl
@[simp] theorem vw_tup {xs : List T} : view S (.tup xs) = .tup xs := Eq.trans rfl rfl
@[simp] theorem vw_dct {xs : List (Str × T)} : view S (.dct xs) = .dct xs := Eq.trans rfl rfl
@[simp] theorem vw_ins {c : Nat} {xs : List (Nat × T)} : view S (.ins c xs) = .ins c xs := Eq.trans rfl rfl
@[simp] theorem vw_scr {xs : List Int} : view S (.scr xs) = .scr xs := Eq.trans rfl rfl
theorem vw_ref {k : Nat} {nd : Nd} (h : S.nd k = some nd) : view S (.ref k) = nd.tree := by
  unfold view
  simp only [h]
@[simp] theorem tree_lst {xs : List T} : (Nd.lst xs).tree = .lst xs := Eq.trans rfl rfl
@[simp] theorem tree_dct {xs : List (Str × T)} : (Nd.dct xs).tree = .dct xs := Eq.trans rfl rfl
@[simp] theorem tree_ins {c : Nat} {xs : List (Nat × T)} : (Nd.ins c xs).tree = .ins c xs := Eq.trans rfl rfl
@[simp] theorem data_non {n : Nat} : T.data n .non = true := by cases n <;> rfl
@[simp] theorem data_bl {n : Nat} {b : Bool} : T.data n (.bl b) = true := by cases n <;> rfl
@[simp] theorem data_int {n : Nat} {i : Int} : T.data n (.int i) = true := by cases n <;> rfl
@[simp] theorem data_str {n : Nat} {i : Str} : T.data n (.str i) = true := by cases n <;> rfl
@[simp] theorem data_tup {n : Nat} {xs : List T} : T.data (n + 1) (.tup xs) = T.dataL n xs := Eq.trans rfl rfl
@[simp] theorem data_lst {n : Nat} {xs : List T} : T.data (n + 1) (.lst xs) = T.dataL n xs := Eq.trans rfl rfl
@[simp] theorem dataL_nil {n : Nat} : T.dataL n [] = true := Eq.trans rfl rfl
@[simp] theorem dataL_cons {n : Nat} {x : T} {xs : List T} : T.dataL n (x :: xs) = (T.data n x && T.dataL n xs) := Eq.trans rfl rfl
theorem dataL_map {n : Nat} {f : α → T} {l : List α} (h : ∀ x ∈ l, T.data n (f x) = true) : T.dataL n (l.map f) = true := by
  induction l with
  | nil => rfl
  | cons a l ih =>
    simp only [List.map_cons, dataL_cons, Bool.and_eq_true]
    exact ⟨h a (List.mem_cons_self ..), ih fun x hx => h x (List.mem_cons_of_mem _ hx)⟩
@[simp] theorem dataL_strs {n : Nat} {l : List Str} : T.dataL n (l.map T.str) = true := dataL_map fun _ _ => data_str
@[simp] theorem truth_bl {b : Bool} : truthT (.bl b) S = .ok b S := Eq.trans rfl rfl
@[simp] theorem cmp_eqT (G : Gam) (D : Run) {v w : T} : cmpT G D .eq v w S = eqD v w S := Eq.trans rfl rfl
@[simp] theorem cmp_neT (G : Gam) (D : Run) {v w : T} : cmpT G D .ne v w S = neD v w S := Eq.trans rfl rfl
@[simp] theorem cmp_ltT (G : Gam) (D : Run) {v w : T} : cmpT G D .lt v w S = ltD v w S := Eq.trans rfl rfl
@[simp] theorem cmp_leT (G : Gam) (D : Run) {v w : T} : cmpT G D .le v w S = leD v w S := Eq.trans rfl rfl
@[simp] theorem cmp_gtT (G : Gam) (D : Run) {v w : T} : cmpT G D .gt v w S = gtD v w S := Eq.trans rfl rfl
@[simp] theorem cmp_isT (G : Gam) (D : Run) {v w : T} : cmpT G D .is v w S = isT false v w S := Eq.trans rfl rfl
@[simp] theorem cmp_isnotT (G : Gam) (D : Run) {v w : T} : cmpT G D .isnot v w S = isT true v w S := Eq.trans rfl rfl
@[simp] theorem cmp_inL (G : Gam) (D : Run) {v : T} {xs : List T} : cmpT G D .isin v (.lst xs) S = inD false v (.lst xs) S := Eq.trans rfl rfl
@[simp] theorem cmp_notinL (G : Gam) (D : Run) {v : T} {xs : List T} : cmpT G D .notin v (.lst xs) S = inD true v (.lst xs) S := Eq.trans rfl rfl
@[simp] theorem cmp_inD (G : Gam) (D : Run) {v : T} {xs : List (Str × T)} : cmpT G D .isin v (.dct xs) S = inD false v (.dct xs) S := Eq.trans rfl rfl
@[simp] theorem cmp_notinD (G : Gam) (D : Run) {v : T} {xs : List (Str × T)} : cmpT G D .notin v (.dct xs) S = inD true v (.dct xs) S := Eq.trans rfl rfl
@[simp] theorem cmp_inS (G : Gam) (D : Run) {v : T} {x : Str} : cmpT G D .isin v (.str x) S = inD false v (.str x) S := Eq.trans rfl rfl
@[simp] theorem eqv_str {x y : Str} : T.eqv (.str x) (.str y) = (x == y) := Eq.trans rfl rfl
@[simp] theorem eqv_int {x y : Int} : T.eqv (.int x) (.int y) = (x == y) := Eq.trans rfl rfl
@[simp] theorem eqv_bl {x y : Bool} : T.eqv (.bl x) (.bl y) = (x == y) := Eq.trans rfl rfl
@[simp] theorem eqv_tup {x y : List T} : T.eqv (.tup x) (.tup y) = T.eqvL x y := Eq.trans rfl rfl
@[simp] theorem eqv_lst {x y : List T} : T.eqv (.lst x) (.lst y) = T.eqvL x y := Eq.trans rfl rfl
@[simp] theorem eqvL_nil : T.eqvL [] [] = true := Eq.trans rfl rfl
@[simp] theorem eqvL_cons {x y : T} {xs ys : List T} : T.eqvL (x :: xs) (y :: ys) = (T.eqv x y && T.eqvL xs ys) := Eq.trans rfl rfl
@[simp] theorem eqvL_nilr {x : T} {xs : List T} : T.eqvL (x :: xs) [] = false := Eq.trans rfl rfl
@[simp] theorem eq_strs {x y : Str} : eqD (.str x) (.str y) S = .ok (.bl (decide (x = y))) S := Eq.trans rfl rfl
@[simp] theorem ne_strs {x y : Str} : neD (.str x) (.str y) S = .ok (.bl (!decide (x = y))) S := Eq.trans rfl rfl
@[simp] theorem eq_ints {x y : Int} : eqD (.int x) (.int y) S = .ok (.bl (decide (x = y))) S := Eq.trans rfl rfl
@[simp] theorem ne_ints {x y : Int} : neD (.int x) (.int y) S = .ok (.bl (!decide (x = y))) S := Eq.trans rfl rfl
@[simp] theorem lt_ints {x y : Int} : ltD (.int x) (.int y) S = .ok (.bl (decide (x < y))) S := Eq.trans rfl rfl
@[simp] theorem le_ints {x y : Int} : leD (.int x) (.int y) S = .ok (.bl (decide (x ≤ y))) S := Eq.trans rfl rfl
@[simp] theorem gt_ints {x y : Int} : gtD (.int x) (.int y) S = .ok (.bl (decide (y < x))) S := Eq.trans rfl rfl
theorem any_eqv_strs {l : List Str} {x : Str} : (l.map T.str).any (fun y => y.eqv (.str x)) = decide (x ∈ l) := by
  induction l with
  | nil => rfl
  | cons a l ih =>
    simp only [List.map_cons, List.any_cons, ih, eqv_str, List.mem_cons]
    by_cases h : a = x
    · subst h; simp
    · have h1 : (a == x) = false := by simpa using h
      have h2 : ¬ x = a := fun e => h e.symm
      simp [h1, h2]
@[simp] theorem in_strs {neg : Bool} {l : List Str} {x : Str} : inD neg (.str x) (.lst (l.map T.str)) S = .ok (.bl (if neg then !decide (x ∈ l) else decide (x ∈ l))) S := by
  unfold inD
  simp only [vw_lst, vw_str, data_str, dataL_strs, Bool.and_self, if_true, any_eqv_strs]
/-- the lists are empty at once -/
theorem ne_nil_lst {l : List T} (h : T.dataL 59 l = true) : neD (.lst l) (.lst []) S = .ok (.bl (!l.isEmpty)) S := by
  unfold neD
  simp only [vw_lst, data_lst, h, dataL_nil, Bool.and_self, if_true, eqv_lst]
  cases l <;> rfl
theorem eq_nil_lst {l : List T} (h : T.dataL 59 l = true) : eqD (.lst l) (.lst []) S = .ok (.bl l.isEmpty) S := by
  unfold eqD
  simp only [vw_lst, data_lst, h, dataL_nil, Bool.and_self, if_true, eqv_lst]
  cases l <;> rfl
end
@[simp] theorem lk_c {β : Type} {k a : Nat} {b : β} {l : List (Nat × β)} : List.lookup k ((a, b) :: l) = if k = a then some b else l.lookup k := by
  rw [List.lookup_cons]
  by_cases h : k = a
  · simp [h]
  · have : (k == a) = false := by simpa using h
    simp [this, h]
/-! ### the store -/
section
variable {S : Store} {k j : Nat} {nd nd' : Nd} {o : Option Nd}
theorem nd_lt (h : S.nd k = some nd) : k < S.length := by
  unfold Store.nd at h
  rcases Nat.lt_or_ge k S.length with q | q
  · exact q
  · rw [List.getElem?_eq_none q] at h; cases h
theorem nd_set (h : k < S.length) : Store.nd (S.set k o) k = o := by
  unfold Store.nd
  rw [List.getElem?_set_self h]
theorem nd_set_ne (h : k ≠ j) : Store.nd (S.set k o) j = S.nd j := by
  unfold Store.nd
  rw [List.getElem?_set_ne h]
theorem nd_app {S2 : Store} (h : k < S.length) : Store.nd (S ++ S2) k = S.nd k := by
  unfold Store.nd
  rw [List.getElem?_append_left h]
theorem nd_new : Store.nd (S ++ [o]) S.length = o := by
  unfold Store.nd
  rw [List.getElem?_append_right (Nat.le_refl _), Nat.sub_self]
  rfl
theorem set_app {S2 : Store} (h : k < S.length) : (S ++ S2).set k o = S.set k o ++ S2 := List.set_append_left k o h
theorem set_new {o' : Option Nd} : (S ++ [o]).set S.length o' = S ++ [o'] := by
  rw [List.set_append_right S.length o' (Nat.le_refl _), Nat.sub_self]
  rfl
end
/-! ### no references -/
theorem T.old_of0 {n : Nat} : ∀ {t : T}, t.old 0 = true → t.old n = true := by
  intro t
  refine T.rec (motive_1 := fun t => t.old 0 = true → t.old n = true) (motive_2 := fun l => T.oldL 0 l = true → T.oldL n l = true) (motive_3 := fun l => T.oldD 0 l = true → T.oldD n l = true) (motive_4 := fun l => T.oldF 0 l = true → T.oldF n l = true) (motive_5 := fun p => p.2.old 0 = true → p.2.old n = true) (motive_6 := fun p => p.2.old 0 = true → p.2.old n = true)
    ?_ ?_ ?_ ?_ ?_ ?_ ?_ ?_ ?_ ?_ ?_ ?_ ?_ ?_ ?_ ?_ ?_ ?_ ?_ ?_ ?_ ?_ t
  all_goals first
    | exact fun _ => rfl
    | exact fun _ _ => rfl
    | exact fun _ _ h => h
    | (intros; simp_all [T.old, T.oldL, T.oldD, T.oldF])
def Flat (S : Store) : Prop := oldAll 0 S = true
theorem Flat.old {S : Store} (h : Flat S) {n : Nat} : oldAll n S = true := by
  unfold Flat oldAll at h
  unfold oldAll
  rw [List.all_eq_true] at h ⊢
  intro o ho
  have := h o ho
  cases o with
  | none => rfl
  | some x =>
    cases x with
    | lst xs => exact T.old_of0 (t := .lst xs) this
    | dct xs => exact T.old_of0 (t := .dct xs) this
    | ins c xs => exact T.old_of0 (t := .ins c xs) this
theorem Flat.app {S S2 : Store} (h : Flat S) (h2 : Flat S2) : Flat (S ++ S2) := by
  unfold Flat oldAll at *
  rw [List.all_append, h, h2]; rfl
theorem Flat.set {S : Store} {k : Nat} {o : Option Nd} (h : Flat S) (ho : Flat [o]) : Flat (S.set k o) := by
  unfold Flat oldAll at *
  rw [List.all_eq_true] at h ⊢
  intro x hx
  rcases List.mem_or_eq_of_mem_set hx with q | q
  · exact h x q
  · subst q
    simpa using ho
theorem Flat.none : Flat [(Option.none : Option Nd)] := rfl
theorem oldL_map {α : Type} {n : Nat} {f : α → T} {l : List α} (h : ∀ x ∈ l, (f x).old n = true) : T.oldL n (l.map f) = true := by
  induction l with
  | nil => rfl
  | cons a l ih =>
    simp only [List.map_cons, T.oldL, Bool.and_eq_true]
    exact ⟨h a (List.mem_cons_self ..), ih fun x hx => h x (List.mem_cons_of_mem _ hx)⟩
theorem frz_old {n d : Nat} {t : T} {S : Store} (h : t.old n = true) : frz n d t S = some (t, S) := by
  cases d <;> simp [frz, h]
/-- a sealed run that has kept the old nodes' number -/
theorem seal_old {S S1 E : Store} {v : T} (hl : S1.length = S.length) (hv : v.old 0 = true) (hf : Flat S1) : sealR S (.ok v (S1 ++ E)) = .ok v S1 := by
  unfold sealR
  simp only [frz_old (T.old_of0 hv)]
  have e : (S1 ++ E).take S.length = S1 := by rw [← hl]; simp
  rw [e, hf.old]
  rfl
theorem mapS_old {n d : Nat} {S : Store} : ∀ {xs : List T}, T.oldL n xs = true → mapS (frz n d) xs S = some (xs, S)
  | [], _ => rfl
  | x :: xs, h => by
    simp only [T.oldL, Bool.and_eq_true] at h
    simp only [mapS, frz_old h.1, mapS_old h.2]
theorem mapD_old {n d : Nat} {S : Store} : ∀ {xs : List (Str × T)}, T.oldD n xs = true → mapS (sndS (frz n d)) xs S = some (xs, S)
  | [], _ => rfl
  | x :: xs, h => by
    simp only [T.oldD, Bool.and_eq_true] at h
    simp only [mapS, sndS, frz_old h.1, mapD_old h.2]
theorem mapF_old {n d : Nat} {S : Store} : ∀ {xs : List (Nat × T)}, T.oldF n xs = true → mapS (sndS (frz n d)) xs S = some (xs, S)
  | [], _ => rfl
  | x :: xs, h => by
    simp only [T.oldF, Bool.and_eq_true] at h
    simp only [mapS, sndS, frz_old h.1, mapF_old h.2]
/-- a new node is frozen -/
theorem frz_new {n k : Nat} {S : Store} {nd : Nd} (hk : n ≤ k) (h : S.nd k = some nd) (ho : nd.tree.old 0 = true) : frz n 8 (.ref k) S = some (nd.tree, S.set k none) := by
  have e : (T.ref k).old n = false := by simp [T.old]; omega
  unfold frz
  rw [e]
  simp only [Bool.false_eq_true, if_false, h]
  cases nd with
  | lst xs => simp only [mapS_old (T.old_of0 (t := .lst xs) ho : T.oldL n xs = true)]; rfl
  | dct xs => simp only [mapD_old (T.old_of0 (t := .dct xs) ho : T.oldD n xs = true)]; rfl
  | ins c xs => simp only [mapF_old (T.old_of0 (t := .ins c xs) ho : T.oldF n xs = true)]; rfl
/-- a sealed run that gives a new node -/
theorem seal_new {S S1 E : Store} {k : Nat} {nd : Nd} (hl : S1.length = S.length) (hk : S.length ≤ k) (h : Store.nd (S1 ++ E) k = some nd) (ho : nd.tree.old 0 = true) (hf : Flat S1) : sealR S (.ok (.ref k) (S1 ++ E)) = .ok nd.tree S1 := by
  unfold sealR
  simp only [frz_new hk h ho]
  have e : ((S1 ++ E).set k none).take S.length = S1 := by
    rw [List.set_append_right k none (by omega), ← hl]
    simp
  rw [e, hf.old]
  rfl
/-! ### loops -/
theorem lc_flat {α : Type} {enc : α → T} {f : α → List T} {ks : List (Nat × List T)} {turn : T → Store → R (List T)} {S : Store} (hs : still S ks) : ∀ {xs : List α} {acc : List T}, acc.length + xs.length ≤ sizeLine → (∀ x ∈ xs, (f x).length ≤ 1) → (∀ x ∈ xs, turn (enc x) S = .ok (f x) S) → lcLoop ks turn (xs.map enc) acc S = .ok (acc ++ xs.flatMap f) S
  | [], acc, _, _, _ => by simp [lcLoop, hs]
  | x :: xs, acc, hl, h1, ht => by
    have l1 := h1 x (List.mem_cons_self ..)
    simp only [List.length_cons] at hl
    rw [List.map_cons]
    unfold lcLoop
    rw [if_pos ⟨hs, by omega⟩, ht x (List.mem_cons_self ..)]
    simp only
    rw [lc_flat hs (by rw [List.length_append]; omega) (fun y hy => h1 y (List.mem_cons_of_mem _ hy)) fun y hy => ht y (List.mem_cons_of_mem _ hy)]
    simp
theorem flatMap_one {α β : Type} {f : α → β} {l : List α} : l.flatMap (fun x => [f x]) = l.map f := by
  induction l with
  | nil => rfl
  | cons a l ih => simp [List.flatMap_cons, ih]
theorem flatMap_if {α β : Type} {p : α → Bool} {f : α → β} {l : List α} : l.flatMap (fun x => if p x then [f x] else []) = (l.filter p).map f := by
  induction l with
  | nil => rfl
  | cons a l ih =>
    rw [List.flatMap_cons, ih]
    by_cases h : p a = true
    · simp [h]
    · simp [h]
theorem lc_map {α : Type} {enc : α → T} (f : α → T) {ks : List (Nat × List T)} {turn : T → Store → R (List T)} {S : Store} {xs : List α} (hs : still S ks) (hl : xs.length ≤ sizeLine) (ht : ∀ x ∈ xs, turn (enc x) S = .ok [f x] S) : lcLoop ks turn (xs.map enc) [] S = .ok (xs.map f) S := by
  rw [lc_flat (f := fun x => [f x]) hs (by simpa using hl) (fun _ _ => by simp) ht, flatMap_one]
  rfl
theorem lc_filt {α : Type} {enc : α → T} (p : α → Bool) (f : α → T) {ks : List (Nat × List T)} {turn : T → Store → R (List T)} {S : Store} {xs : List α} (hs : still S ks) (hl : xs.length ≤ sizeLine) (ht : ∀ x ∈ xs, turn (enc x) S = .ok (if p x then [f x] else []) S) : lcLoop ks turn (xs.map enc) [] S = .ok ((xs.filter p).map f) S := by
  rw [lc_flat (f := fun x => if p x then [f x] else []) hs (by simpa using hl) (fun x _ => by by_cases h : p x = true <;> simp [h]) ht, flatMap_if]
  rfl
/-- turns that change the store -/
theorem lc_ex {α : Type} {enc : α → T} {ks : List (Nat × List T)} {turn : T → Store → R (List T)} (I : Store → Prop) (P : α → T → Prop) (hs : ∀ S, I S → still S ks) : ∀ {xs : List α} {acc : List T} {S : Store}, acc.length + xs.length ≤ sizeLine → (∀ x ∈ xs, ∀ S, I S → ∃ y S', turn (enc x) S = .ok [y] S' ∧ I S' ∧ P x y) → I S →
    ∃ ys S', lcLoop ks turn (xs.map enc) acc S = .ok (acc ++ ys) S' ∧ I S' ∧ ys.length = xs.length ∧ ∀ z ∈ xs.zip ys, P z.1 z.2
  | [], acc, S, _, _, i => ⟨[], S, by simp [lcLoop, hs S i], i, rfl, by simp⟩
  | x :: xs, acc, S, hl, ht, i => by
    simp only [List.length_cons] at hl
    obtain ⟨y, S1, e1, i1, p1⟩ := ht x (List.mem_cons_self ..) S i
    obtain ⟨ys, S2, e2, i2, l2, p2⟩ := lc_ex I P hs (xs := xs) (acc := acc ++ [y]) (S := S1) (by rw [List.length_append, List.length_singleton]; omega) (fun z hz => ht z (List.mem_cons_of_mem _ hz)) i1
    refine ⟨y :: ys, S2, ?_, i2, by simp [l2], ?_⟩
    · rw [List.map_cons]
      unfold lcLoop
      rw [if_pos ⟨hs S i, by omega⟩, e1]
      simp only
      rw [e2, List.append_assoc]
      rfl
    · intro z hz
      rw [List.zip_cons_cons, List.mem_cons] at hz
      rcases hz with q | q
      · subst q; exact p1
      · exact p2 z q
/-- a for, by what holds of it -/
theorem for_ex {α : Type} {enc : α → T} {ks : List (Nat × List T)} {turn : T → Fr → Store → O} (I : List α → Fr → Store → Prop) (hs : ∀ d ρ S, I d ρ S → still S ks) : ∀ {xs d : List α} {ρ : Fr} {S : Store}, (∀ d' x r ρ S, d ++ xs = d' ++ x :: r → I d' ρ S → ∃ ρ' S', turn (enc x) ρ S = .nx ρ' S' ∧ I (d' ++ [x]) ρ' S') → I d ρ S →
    ∃ ρ' S', forLoop ks turn (xs.map enc) ρ S = .nx ρ' S' ∧ I (d ++ xs) ρ' S'
  | [], d, ρ, S, _, i => ⟨ρ, S, by simp [forLoop, hs d ρ S i], by simpa using i⟩
  | x :: xs, d, ρ, S, ht, i => by
    obtain ⟨ρ1, S1, e1, i1⟩ := ht d x xs ρ S rfl i
    obtain ⟨ρ2, S2, e2, i2⟩ := for_ex I hs (xs := xs) (d := d ++ [x]) (fun d' y r ρ S e => ht d' y r ρ S (by simpa using e)) i1
    refine ⟨ρ2, S2, ?_, by simpa using i2⟩
    rw [List.map_cons]
    unfold forLoop
    rw [if_pos (hs d ρ S i), e1]
    exact e2
/-! ### lists and dicts -/
section
variable {α : Type} {S : Store}
theorem atI_nat {xs : List α} {i : Nat} (h : i < xs.length) : atI xs (i : Int) = some xs[i] := by
  unfold atI ixN
  rw [if_pos (by omega), if_pos (by omega)]
  simp [h]
theorem atI_int {xs : List α} {i : Int} (h0 : 0 ≤ i) (h : i < xs.length) : ∃ x, x ∈ xs ∧ atI xs i = some x := by
  obtain ⟨n, rfl⟩ := Int.eq_ofNat_of_zero_le h0
  have hn : n < xs.length := by omega
  exact ⟨xs[n], List.getElem_mem hn, atI_nat hn⟩
theorem getS_map {f : α → Str} {g : α → T} : ∀ {l : List α} {x : α}, (l.map f).Nodup → x ∈ l → getS (l.map fun y => (f y, g y)) (f x) = some (g x)
  | [], x, _, h => by cases h
  | y :: l, x, nd, h => by
    rw [List.map_cons, List.nodup_cons] at nd
    unfold getS
    rw [List.map_cons, List.find?_cons]
    by_cases e : f y = f x
    · simp only [e, decide_true, Option.map_some, Option.some.injEq]
      rcases List.mem_cons.mp h with q | q
      · rw [q]
      · exact absurd (by rw [e]; exact List.mem_map_of_mem q) nd.1
    · simp only [e, decide_false]
      rcases List.mem_cons.mp h with q | q
      · exact absurd (by rw [q]) e
      · exact getS_map nd.2 q
theorem getS_none {f : α → Str} {g : α → T} {k : Str} {l : List α} : (getS (l.map fun y => (f y, g y)) k).isSome = decide (k ∈ l.map f) := by
  induction l with
  | nil => rfl
  | cons y l ih =>
    unfold getS at ih ⊢
    rw [List.map_cons, List.find?_cons]
    by_cases e : f y = k
    · simp [e]
    · have e' : ¬ k = f y := fun z => e z.symm
      simp only [e, decide_false, List.map_cons, List.mem_cons, e', false_or]
      exact ih
end
end NH
end
section
namespace NH
open PySem
/-- a continuation that simp does not look into -/
class Kr (α β : Type) where
  f : α → Store → R β
class Ko (α : Type) where
  f : α → Store → O
def bI {α β : Type} (r : R α) [k : Kr α β] : R β := r.bind k.f
def tI {α : Type} (r : R α) (ρ : Fr) [k : Ko α] : O := r.thn ρ k.f
def oI (o : O) [k : Ko Fr] : O := o.thn k.f
@[simp] theorem bI_ok {α β : Type} {a : α} {S : Store} {k : α → Store → R β} : @bI α β (.ok a S) ⟨k⟩ = k a S := Eq.trans rfl rfl
@[simp] theorem bI_exc {α β : Type} {x : T} {S : Store} {k : α → Store → R β} : @bI α β (.exc x S) ⟨k⟩ = .exc x S := Eq.trans rfl rfl
@[simp] theorem bI_no {α β : Type} {k : α → Store → R β} : @bI α β .no ⟨k⟩ = .no := Eq.trans rfl rfl
@[simp] theorem tI_ok {α : Type} {a : α} {S : Store} {ρ : Fr} {k : α → Store → O} : @tI α (.ok a S) ρ ⟨k⟩ = k a S := Eq.trans rfl rfl
@[simp] theorem tI_exc {α : Type} {x : T} {S : Store} {ρ : Fr} {k : α → Store → O} : @tI α (.exc x S) ρ ⟨k⟩ = .xc x ρ S := Eq.trans rfl rfl
@[simp] theorem tI_no {α : Type} {ρ : Fr} {k : α → Store → O} : @tI α .no ρ ⟨k⟩ = .no := Eq.trans rfl rfl
@[simp] theorem oI_nx {ρ : Fr} {S : Store} {k : Fr → Store → O} : @oI (.nx ρ S) ⟨k⟩ = k ρ S := Eq.trans rfl rfl
@[simp] theorem oI_rt {v : T} {S : Store} {k : Fr → Store → O} : @oI (.rt v S) ⟨k⟩ = .rt v S := Eq.trans rfl rfl
@[simp] theorem oI_xc {x : T} {ρ : Fr} {S : Store} {k : Fr → Store → O} : @oI (.xc x ρ S) ⟨k⟩ = .xc x ρ S := Eq.trans rfl rfl
@[simp] theorem oI_no {k : Fr → Store → O} : @oI .no ⟨k⟩ = .no := Eq.trans rfl rfl
section
variable (G : Gam) (D : Run)
@[simp] theorem q_ev_var {i ρ S} : ev G D (.var i : E) ρ S = ((match ρ[i]? with
    | some (some v) => .ok v S
    | _ => .no)) := by
  first
    | (simp only [ev]; done)
    | (simp only [ev]; rfl)
@[simp] theorem q_ev_non {ρ S} : ev G D (.non : E) ρ S = (.ok .non S) := by
  first
    | (simp only [ev]; done)
    | (simp only [ev]; rfl)
@[simp] theorem q_ev_bl {b ρ S} : ev G D (.bl b : E) ρ S = (.ok (.bl b) S) := by
  first
    | (simp only [ev]; done)
    | (simp only [ev]; rfl)
@[simp] theorem q_ev_int {i ρ S} : ev G D (.int i : E) ρ S = (.ok (.int i) S) := by
  first
    | (simp only [ev]; done)
    | (simp only [ev]; rfl)
@[simp] theorem q_ev_str {x ρ S} : ev G D (.str x : E) ρ S = (.ok (.str x) S) := by
  first
    | (simp only [ev]; done)
    | (simp only [ev]; rfl)
@[simp] theorem q_ev_glo {x ρ S} : ev G D (.glo x : E) ρ S = (R.of (G.glo x) S) := by
  first
    | (simp only [ev]; done)
    | (simp only [ev]; rfl)
@[simp] theorem q_ev_tup {es ρ S} : ev G D (.tup es : E) ρ S = (@bI _ _ ((evs G D es ρ S)) ⟨fun vs S1 => .ok (.tup vs) S1⟩) := by
  first
    | (simp only [ev]; done)
    | (simp only [ev]; rfl)
@[simp] theorem q_ev_tupS {es ρ S} : ev G D (.tupS es : E) ρ S = (@bI _ _ ((evSt G D es ρ S)) ⟨fun vs S1 => if vs.length ≤ sizeLine then .ok (.tup vs) S1 else .no⟩) := by
  first
    | (simp only [ev]; done)
    | (simp only [ev]; rfl)
@[simp] theorem q_ev_al {m a ρ S} : ev G D (.al m a : E) ρ S = (@bI _ _ ((evA G D a ρ S)) ⟨fun nd S1 => match m with
    | false => .ok nd.tree S1
    | true => .ok (.ref S1.length) (S1 ++ [some nd])⟩) := by
  first
    | (simp only [ev]; done)
    | (simp only [ev]; rfl)
@[simp] theorem q_ev_and {a b ρ S} : ev G D (.and a b : E) ρ S = (@bI _ _ ((ev G D a ρ S)) ⟨fun v S1 => @bI _ _ ((truthT v S1)) ⟨fun k S2 => match k with
    | true => ev G D b ρ S2
    | false => .ok v S2⟩⟩) := by
  first
    | (simp only [ev]; done)
    | (simp only [ev]; rfl)
@[simp] theorem q_ev_or {a b ρ S} : ev G D (.or a b : E) ρ S = (@bI _ _ ((ev G D a ρ S)) ⟨fun v S1 => @bI _ _ ((truthT v S1)) ⟨fun k S2 => match k with
    | true => .ok v S2
    | false => ev G D b ρ S2⟩⟩) := by
  first
    | (simp only [ev]; done)
    | (simp only [ev]; rfl)
@[simp] theorem q_ev_not {a ρ S} : ev G D (.not a : E) ρ S = (@bI _ _ ((ev G D a ρ S)) ⟨fun v S1 => @bI _ _ ((truthT v S1)) ⟨fun k S2 => .ok (.bl (!k)) S2⟩⟩) := by
  first
    | (simp only [ev]; done)
    | (simp only [ev]; rfl)
@[simp] theorem q_ev_neg {a ρ S} : ev G D (.neg a : E) ρ S = (@bI _ _ ((ev G D a ρ S)) ⟨fun v S1 => match v with
    | .int i => .ok (.int (-i)) S1
    | _ => .no⟩) := by
  first
    | (simp only [ev]; done)
    | (simp only [ev]; rfl)
@[simp] theorem q_ev_ite {c a b ρ S} : ev G D (.ite c a b : E) ρ S = (@bI _ _ ((tst G D c ρ S)) ⟨fun k S2 => match k with
    | true => ev G D a ρ S2
    | false => ev G D b ρ S2⟩) := by
  first
    | (simp only [ev]; done)
    | (simp only [ev]; rfl)
@[simp] theorem q_ev_cmp {op a b ρ S} : ev G D (.cmp op a b : E) ρ S = (@bI _ _ ((ev G D a ρ S)) ⟨fun v S1 => @bI _ _ ((ev G D b ρ S1)) ⟨fun w S2 => (cmpT G D op v w S2).noX⟩⟩) := by
  first
    | (simp only [ev]; done)
    | (simp only [ev]; rfl)
@[simp] theorem q_ev_cmp2 {op a b c ρ S} : ev G D (.cmp2 op op' a b c : E) ρ S = (@bI _ _ ((ev G D a ρ S)) ⟨fun v S1 => @bI _ _ ((ev G D b ρ S1)) ⟨fun w S2 => @bI _ _ ((cmpT G D op v w S2).noX) ⟨fun k S3 => match k with
    | .bl true => @bI _ _ ((ev G D c ρ S3)) ⟨fun u S4 => (cmpT G D op' w u S4).noX⟩
    | .bl false => .ok (.bl false) S3
    | _ => .no⟩⟩⟩) := by
  first
    | (simp only [ev]; done)
    | (simp only [ev]; rfl)
@[simp] theorem q_ev_bin {op a b ρ S} : ev G D (.bin op a b : E) ρ S = (@bI _ _ ((ev G D a ρ S)) ⟨fun v S1 => @bI _ _ ((ev G D b ρ S1)) ⟨fun w S2 => (binT op v w S2).noX⟩⟩) := by
  first
    | (simp only [ev]; done)
    | (simp only [ev]; rfl)
@[simp] theorem q_ev_sub {a b ρ S} : ev G D (.sub a b : E) ρ S = (@bI _ _ ((ev G D a ρ S)) ⟨fun v S1 => @bI _ _ ((ev G D b ρ S1)) ⟨fun w S2 => (subT v w S2).noX⟩⟩) := by
  first
    | (simp only [ev]; done)
    | (simp only [ev]; rfl)
@[simp] theorem q_ev_cut {a lo hi ρ S} : ev G D (.cut a lo hi : E) ρ S = (@bI _ _ ((ev G D a ρ S)) ⟨fun v S1 => @bI _ _ ((evO G D lo ρ S1)) ⟨fun l S2 => @bI _ _ ((evO G D hi ρ S2)) ⟨fun h S3 => (cutT v l h S3).noX⟩⟩⟩) := by
  first
    | (simp only [ev]; done)
    | (simp only [ev]; rfl)
@[simp] theorem q_ev_attr {e f ρ S} : ev G D (.attr e f : E) ρ S = (@bI _ _ ((ev G D e ρ S)) ⟨fun v S1 => (attrT G v f S1).noX⟩) := by
  first
    | (simp only [ev]; done)
    | (simp only [ev]; rfl)
@[simp] theorem q_ev_call {f es kws ρ S} : ev G D (.call f es kws : E) ρ S = (@bI _ _ ((evs G D es ρ S)) ⟨fun vs S1 => @bI _ _ ((evK G D kws ρ S1)) ⟨fun ws S2 => callF G D f vs ws S2⟩⟩) := by
  first
    | (simp only [ev]; done)
    | (simp only [ev]; rfl)
@[simp] theorem q_ev_make {c es kws ρ S} : ev G D (.make c es kws : E) ρ S = (@bI _ _ ((evs G D es ρ S)) ⟨fun vs S1 => @bI _ _ ((evK G D kws ρ S1)) ⟨fun ws S2 => makeC G D c vs ws S2⟩⟩) := by
  first
    | (simp only [ev]; done)
    | (simp only [ev]; rfl)
@[simp] theorem q_ev_meth {e m es kws ρ S} : ev G D (.meth e m es kws : E) ρ S = (@bI _ _ ((ev G D e ρ S)) ⟨fun o S1 => @bI _ _ ((methPre G o m S1)) ⟨fun f S1 => @bI _ _ ((evs G D es ρ S1)) ⟨fun vs S2 => @bI _ _ ((evK G D kws ρ S2)) ⟨fun ws S3 => callF G D f (o :: vs) ws S3⟩⟩⟩⟩) := by
  first
    | (simp only [ev]; done)
    | (simp only [ev]; rfl)
@[simp] theorem q_ev_bi {b es ρ S} : ev G D (.bi b es : E) ρ S = (@bI _ _ ((evs G D es ρ S)) ⟨fun vs S1 => (biT G D b vs S1).noX⟩) := by
  first
    | (simp only [ev]; done)
    | (simp only [ev]; rfl)
@[simp] theorem q_ev_bm {e b es ρ S} : ev G D (.bm e b es : E) ρ S = (@bI _ _ ((ev G D e ρ S)) ⟨fun o S1 => if bmOk o b S1 = true then @bI _ _ ((evs G D es ρ S1)) ⟨fun vs S2 => (bmT o b vs S2).noX⟩ else .no⟩) := by
  first
    | (simp only [ev]; done)
    | (simp only [ev]; rfl)
@[simp] theorem q_ev_no {ρ S} : ev G D (.no : E) ρ S = (.no) := by
  first
    | (simp only [ev]; done)
    | (simp only [ev]; rfl)
@[simp] theorem q_ev_frz {e ρ S} : ev G D (.frz e : E) ρ S = (@bI _ _ ((ev G D e ρ S)) ⟨fun v S1 => R.ofP (frz 0 8 v S1)⟩) := by
  first
    | (simp only [ev]; done)
    | (simp only [ev]; rfl)
@[simp] theorem q_ev_fstr {es ρ S} : ev G D (.fstr es : E) ρ S = (@bI _ _ ((evF G D es Str.empty ρ S).noX) ⟨fun x S1 => .ok (.str x) S1⟩) := by
  first
    | (simp only [ev]; done)
    | (simp only [ev]; rfl)
@[simp] theorem q_ev_sup {c f es ρ S} : ev G D (.sup c f es : E) ρ S = ((match ρ[0]? with
    | some (some o) => (match view S o with
      | .ins d _ => if d = c then @bI _ _ ((evs G D es ρ S)) ⟨fun vs S1 => callF G D f (o :: vs) [] S1⟩ else .no
      | _ => .no)
    | _ => .no)) := by
  first
    | (simp only [ev]; done)
    | (simp only [ev]; rfl)
open Classical in
@[simp] theorem q_ev_minK {e b caps ρ S} : ev G D (.minK e b caps : E) ρ S = (@bI _ _ ((ev G D e ρ S)) ⟨fun v S1 => (match view S1 v, capsOf ρ caps with
    | .lst (x :: xs), some cv => (match keysBy (fun y => ev G D b (some y :: cv.map some) S1) S1 (x :: xs) with
      | some (k :: ks) => if keysOk (k :: ks) then .ok (leastBy (x, k) (xs.zip ks)).1 S1 else .no
      | _ => .no)
    | _, _ => .no)⟩) := by
  first
    | (simp only [ev]; done)
    | (simp only [ev]; rfl)
@[simp] theorem q_tst_and {a b ρ S} : tst G D (.and a b : E) ρ S = (@bI _ _ ((tst G D a ρ S)) ⟨fun k S1 => match k with
    | true => tst G D b ρ S1
    | false => .ok false S1⟩) := by
  first
    | (simp only [tst]; done)
    | (simp only [tst]; rfl)
@[simp] theorem q_tst_or {a b ρ S} : tst G D (.or a b : E) ρ S = (@bI _ _ ((tst G D a ρ S)) ⟨fun k S1 => match k with
    | true => .ok true S1
    | false => tst G D b ρ S1⟩) := by
  first
    | (simp only [tst]; done)
    | (simp only [tst]; rfl)
@[simp] theorem q_tst_not {a ρ S} : tst G D (.not a : E) ρ S = (@bI _ _ ((tst G D a ρ S)) ⟨fun k S1 => .ok (!k) S1⟩) := by
  first
    | (simp only [tst]; done)
    | (simp only [tst]; rfl)
@[simp] theorem q_tst_var {i ρ S} : tst G D (.var i : E) ρ S = ((match ρ[i]? with
    | some (some v) => truthT v S
    | _ => .no)) := by
  first
    | (simp only [tst]; done)
    | (simp only [tst]; rfl)
@[simp] theorem q_tst_cmp {op a b ρ S} : tst G D (.cmp op a b : E) ρ S = (@bI _ _ ((@bI _ _ ((ev G D a ρ S)) ⟨fun v S1 => @bI _ _ ((ev G D b ρ S1)) ⟨fun w S2 => (cmpT G D op v w S2).noX⟩⟩)) ⟨fun r S3 => match r with
    | .bl k => .ok k S3
    | _ => .no⟩) := by
  first
    | (simp only [tst]; done)
    | (simp only [tst]; rfl)
@[simp] theorem q_tst_cmp2 {op a b c ρ S} : tst G D (.cmp2 op op' a b c : E) ρ S = (@bI _ _ ((@bI _ _ ((ev G D a ρ S)) ⟨fun v S1 => @bI _ _ ((ev G D b ρ S1)) ⟨fun w S2 => @bI _ _ ((cmpT G D op v w S2).noX) ⟨fun k S3 => match k with
    | .bl true => @bI _ _ ((ev G D c ρ S3)) ⟨fun u S4 => (cmpT G D op' w u S4).noX⟩
    | .bl false => .ok (.bl false) S3
    | _ => .no⟩⟩⟩)) ⟨fun r S3 => match r with
    | .bl k => .ok k S3
    | _ => .no⟩) := by
  first
    | (simp only [tst]; done)
    | (simp only [tst]; rfl)
@[simp] theorem q_tst_call {f es kws ρ S} : tst G D (.call f es kws : E) ρ S = (@bI _ _ ((@bI _ _ ((evs G D es ρ S)) ⟨fun vs S1 => @bI _ _ ((evK G D kws ρ S1)) ⟨fun ws S2 => callF G D f vs ws S2⟩⟩)) ⟨fun v S3 => truthT v S3⟩) := by
  first
    | (simp only [tst]; done)
    | (simp only [tst]; rfl)
@[simp] theorem q_tst_meth {e m es kws ρ S} : tst G D (.meth e m es kws : E) ρ S = (@bI _ _ ((@bI _ _ ((ev G D e ρ S)) ⟨fun o S1 => @bI _ _ ((methPre G o m S1)) ⟨fun f S1 => @bI _ _ ((evs G D es ρ S1)) ⟨fun vs S2 => @bI _ _ ((evK G D kws ρ S2)) ⟨fun ws S3 => callF G D f (o :: vs) ws S3⟩⟩⟩⟩)) ⟨fun v S4 => truthT v S4⟩) := by
  first
    | (simp only [tst]; done)
    | (simp only [tst]; rfl)
@[simp] theorem q_tst_bi {b es ρ S} : tst G D (.bi b es : E) ρ S = (@bI _ _ ((@bI _ _ ((evs G D es ρ S)) ⟨fun vs S1 => (biT G D b vs S1).noX⟩)) ⟨fun v S2 => truthT v S2⟩) := by
  first
    | (simp only [tst]; done)
    | (simp only [tst]; rfl)
@[simp] theorem q_tst_bm {e b es ρ S} : tst G D (.bm e b es : E) ρ S = (@bI _ _ ((@bI _ _ ((ev G D e ρ S)) ⟨fun o S1 => if bmOk o b S1 = true then @bI _ _ ((evs G D es ρ S1)) ⟨fun vs S2 => (bmT o b vs S2).noX⟩ else .no⟩)) ⟨fun v S2 => truthT v S2⟩) := by
  first
    | (simp only [tst]; done)
    | (simp only [tst]; rfl)
@[simp] theorem q_tst_sub {a b ρ S} : tst G D (.sub a b : E) ρ S = (@bI _ _ ((@bI _ _ ((ev G D a ρ S)) ⟨fun v S1 => @bI _ _ ((ev G D b ρ S1)) ⟨fun w S2 => (subT v w S2).noX⟩⟩)) ⟨fun v S2 => truthT v S2⟩) := by
  first
    | (simp only [tst]; done)
    | (simp only [tst]; rfl)
@[simp] theorem q_tst_attr {e f ρ S} : tst G D (.attr e f : E) ρ S = (@bI _ _ ((@bI _ _ ((ev G D e ρ S)) ⟨fun v S1 => (attrT G v f S1).noX⟩)) ⟨fun v S2 => truthT v S2⟩) := by
  first
    | (simp only [tst]; done)
    | (simp only [tst]; rfl)
@[simp] theorem q_evs_nil {ρ S} : evs G D ([] : List E) ρ S = (.ok [] S) := by
  first
    | (simp only [evs]; done)
    | (simp only [evs]; rfl)
@[simp] theorem q_evs_cons {e es ρ S} : evs G D (e :: es : List E) ρ S = (@bI _ _ ((ev G D e ρ S)) ⟨fun v S1 => @bI _ _ ((evs G D es ρ S1)) ⟨fun vs S2 => .ok (v :: vs) S2⟩⟩) := by
  first
    | (simp only [evs]; done)
    | (simp only [evs]; rfl)
@[simp] theorem q_evSt_nil {ρ S} : evSt G D ([] : List (Bool × E)) ρ S = (.ok [] S) := by
  first
    | (simp only [evSt]; done)
    | (simp only [evSt]; rfl)
@[simp] theorem q_evSt_cons {b e es ρ S} : evSt G D ((b, e) :: es : List (Bool × E)) ρ S = (@bI _ _ ((ev G D e ρ S)) ⟨fun v S1 => match (if b then (match view S1 v with
      | .lst xs => some xs
      | .tup xs => some xs
      | _ => none) else some [v]) with
    | some xs => @bI _ _ ((evSt G D es ρ S1)) ⟨fun vs S2 => .ok (xs ++ vs) S2⟩
    | none => .no⟩) := by
  first
    | (simp only [evSt]; done)
    | (simp only [evSt]; rfl)
@[simp] theorem q_evF_nil {acc ρ S} : evF G D ([] : List E) acc ρ S = (.ok acc S) := by
  first
    | (simp only [evF]; done)
    | (simp only [evF]; rfl)
@[simp] theorem q_evF_cons {e es acc ρ S} : evF G D (e :: es : List E) acc ρ S = (@bI _ _ ((ev G D e ρ S)) ⟨fun v S1 => match partS v with
    | some y => if (acc ++ y).length ≤ sizeLine then evF G D es (acc ++ y) ρ S1 else .no
    | none => .no⟩) := by
  first
    | (simp only [evF]; done)
    | (simp only [evF]; rfl)
@[simp] theorem q_evK_nil {ρ S} : evK G D ([] : List (Nat × E)) ρ S = (.ok [] S) := by
  first
    | (simp only [evK]; done)
    | (simp only [evK]; rfl)
@[simp] theorem q_evK_cons {k e es ρ S} : evK G D ((k, e) :: es : List (Nat × E)) ρ S = (@bI _ _ ((ev G D e ρ S)) ⟨fun v S1 => @bI _ _ ((evK G D es ρ S1)) ⟨fun vs S2 => .ok ((k, v) :: vs) S2⟩⟩) := by
  first
    | (simp only [evK]; done)
    | (simp only [evK]; rfl)
@[simp] theorem q_evO_none {ρ S} : evO G D (none : Option E) ρ S = (.ok none S) := by
  first
    | (simp only [evO]; done)
    | (simp only [evO]; rfl)
@[simp] theorem q_evO_some {e ρ S} : evO G D (some e : Option E) ρ S = (@bI _ _ ((ev G D e ρ S)) ⟨fun v S1 => match v with
    | .int i => .ok (some i) S1
    | _ => .no⟩) := by
  first
    | (simp only [evO]; done)
    | (simp only [evO]; rfl)
@[simp] theorem q_evA_lst {es ρ S} : evA G D (.lst es : A) ρ S = (@bI _ _ ((evs G D es ρ S)) ⟨fun vs S1 => .ok (.lst vs) S1⟩) := by
  first
    | (simp only [evA]; done)
    | (simp only [evA]; rfl)
@[simp] theorem q_evA_lstS {es ρ S} : evA G D (.lstS es : A) ρ S = (@bI _ _ ((evSt G D es ρ S)) ⟨fun vs S1 => if vs.length ≤ sizeLine then .ok (.lst vs) S1 else .no⟩) := by
  first
    | (simp only [evA]; done)
    | (simp only [evA]; rfl)
@[simp] theorem q_evA_dct0 {ρ S} : evA G D (.dct0 : A) ρ S = (.ok (.dct []) S) := by
  first
    | (simp only [evA]; done)
    | (simp only [evA]; rfl)
open Classical in
@[simp] theorem q_evA_srt {e ρ S} : evA G D (.srt e : A) ρ S = (@bI _ _ ((ev G D e ρ S)) ⟨fun v S1 => (match view S1 v with
    | .lst xs => if keysOk xs then .ok (.lst (sortBy xs xs)) S1 else .no
    | _ => .no)⟩) := by
  first
    | (simp only [evA]; done)
    | (simp only [evA]; rfl)
open Classical in
@[simp] theorem q_evA_srtK {e b caps ρ S} : evA G D (.srtK e b caps : A) ρ S = (@bI _ _ ((ev G D e ρ S)) ⟨fun v S1 => (match view S1 v, capsOf ρ caps with
    | .lst xs, some cv => (match keysBy (fun y => ev G D b (some y :: cv.map some) S1) S1 xs with
      | some ks => if keysOk ks then .ok (.lst (sortBy xs ks)) S1 else .no
      | none => .no)
    | _, _ => .no)⟩) := by
  first
    | (simp only [evA]; done)
    | (simp only [evA]; rfl)
@[simp] theorem q_evA_list {e ρ S} : evA G D (.list e : A) ρ S = (@bI _ _ ((ev G D e ρ S)) ⟨fun v S1 => match view S1 v with
    | .lst xs => .ok (.lst xs) S1
    | .tup xs => .ok (.lst xs) S1
    | .dct kvs => .ok (.lst (kvs.map fun kv => .str kv.1)) S1
    | _ => .no⟩) := by
  first
    | (simp only [evA]; done)
    | (simp only [evA]; rfl)
@[simp] theorem q_evI_keys {i f ρ S} : evI G D (.keys i f : It) ρ S = (R.of (keysSrc G ρ S i f) S) := by
  first
    | (simp only [evI]; done)
    | (simp only [evI]; rfl)
@[simp] theorem q_evI_seq {e ρ S} : evI G D (.seq e : It) ρ S = (@bI _ _ ((ev G D e ρ S)) ⟨fun v S1 => R.of (srcOf S1 v) S1⟩) := by
  first
    | (simp only [evI]; done)
    | (simp only [evI]; rfl)
@[simp] theorem q_evI_enum {e ρ S} : evI G D (.enum e : It) ρ S = (@bI _ _ ((ev G D e ρ S)) ⟨fun v S1 => R.of (enumSrc S1 v) S1⟩) := by
  first
    | (simp only [evI]; done)
    | (simp only [evI]; rfl)
@[simp] theorem q_evI_zip {a b ρ S} : evI G D (.zip a b : It) ρ S = (@bI _ _ ((ev G D a ρ S)) ⟨fun v S1 => @bI _ _ ((ev G D b ρ S1)) ⟨fun w S2 => R.of (zipSrc S2 v w) S2⟩⟩) := by
  first
    | (simp only [evI]; done)
    | (simp only [evI]; rfl)
@[simp] theorem q_evI_rng1 {a ρ S} : evI G D (.rng1 a : It) ρ S = (@bI _ _ ((ev G D a ρ S)) ⟨fun v S1 => match v with
    | .int j => if -(2 ^ 62) ≤ j ∧ j < 2 ^ 62 then .ok (rngTo 0 j, []) S1 else .no
    | _ => .no⟩) := by
  first
    | (simp only [evI]; done)
    | (simp only [evI]; rfl)
@[simp] theorem q_evI_rng2 {a b ρ S} : evI G D (.rng2 a b : It) ρ S = (@bI _ _ ((ev G D a ρ S)) ⟨fun v S1 => @bI _ _ ((ev G D b ρ S1)) ⟨fun w S2 => match v, w with
    | .int i, .int j => if -(2 ^ 62) ≤ i ∧ i < 2 ^ 62 ∧ -(2 ^ 62) ≤ j ∧ j < 2 ^ 62 then .ok (rngTo i j, []) S2 else .no
    | _, _ => .no⟩⟩) := by
  first
    | (simp only [evI]; done)
    | (simp only [evI]; rfl)
@[simp] theorem q_exec_pass {ρ S} : exec G D (.pass : NH.St) ρ S = (.nx ρ S) := by
  first
    | (simp only [exec]; done)
    | (simp only [exec]; rfl)
@[simp] theorem q_exec_ex {e ρ S} : exec G D (.ex e : NH.St) ρ S = (@tI _ ((ev G D e ρ S)) ρ ⟨fun _ S1 => .nx ρ S1⟩) := by
  first
    | (simp only [exec]; done)
    | (simp only [exec]; rfl)
@[simp] theorem q_exec_asg {t e ρ S} : exec G D (.asg t e : NH.St) ρ S = (@tI _ ((ev G D e ρ S)) ρ ⟨fun v S1 => stLv G D t v ρ S1⟩) := by
  first
    | (simp only [exec]; done)
    | (simp only [exec]; rfl)
@[simp] theorem q_exec_par {is es ρ S} : exec G D (.par is es : NH.St) ρ S = (@tI _ ((evs G D es ρ S)) ρ ⟨fun vs S1 => if vs.length = is.length then .nx (setAll ρ is vs) S1 else .no⟩) := by
  first
    | (simp only [exec]; done)
    | (simp only [exec]; rfl)
@[simp] theorem q_exec_ret {e ρ S} : exec G D (.ret e : NH.St) ρ S = (@tI _ ((ev G D e ρ S)) ρ ⟨fun v S1 => .rt v S1⟩) := by
  first
    | (simp only [exec]; done)
    | (simp only [exec]; rfl)
@[simp] theorem q_exec_retN {ρ S} : exec G D (.retN : NH.St) ρ S = (.rt .non S) := by
  first
    | (simp only [exec]; done)
    | (simp only [exec]; rfl)
@[simp] theorem q_exec_ifS {c a b ρ S} : exec G D (.ifS c a b : NH.St) ρ S = (@tI _ ((tst G D c ρ S)) ρ ⟨fun k S1 => match k with
    | true => execs G D a ρ S1
    | false => execs G D b ρ S1⟩) := by
  first
    | (simp only [exec]; done)
    | (simp only [exec]; rfl)
@[simp] theorem q_exec_no {ρ S} : exec G D (.no : NH.St) ρ S = (.no) := by
  first
    | (simp only [exec]; done)
    | (simp only [exec]; rfl)
@[simp] theorem q_exec_settle {i f ρ S} : exec G D (.settle i f : NH.St) ρ S = ((match settleS ρ S i f with
    | some S1 => .nx ρ S1
    | none => .no)) := by
  first
    | (simp only [exec]; done)
    | (simp only [exec]; rfl)
@[simp] theorem q_exec_hard {i ρ S} : exec G D (.hard i : NH.St) ρ S = ((match hardS ρ S i with
    | some (ρ1, S1) => .nx ρ1 S1
    | none => .no)) := by
  first
    | (simp only [exec]; done)
    | (simp only [exec]; rfl)
@[simp] theorem q_execs_nil {ρ S} : execs G D ([] : List NH.St) ρ S = (.nx ρ S) := by
  first
    | (simp only [execs]; done)
    | (simp only [execs]; rfl)
@[simp] theorem q_execs_cons {s r ρ S} : execs G D (s :: r : List NH.St) ρ S = (@oI ((exec G D s ρ S)) ⟨fun ρ1 S1 => execs G D r ρ1 S1⟩) := by
  first
    | (simp only [execs]; done)
    | (simp only [execs]; rfl)
noncomputable def turn0 (elt : E) (tg : Tg) (own : List Nat) (ρ : Fr) (x : T) (S : Store) : R (List T) := match setTg S tg x (wipeF ρ own) with
  | some ρ1 => @bI _ _ (ev G D elt ρ1 S) ⟨fun y S3 => .ok [y] S3⟩
  | none => .no
noncomputable def turn1 (elt : E) (tg : Tg) (c : E) (own : List Nat) (ρ : Fr) (x : T) (S : Store) : R (List T) := match setTg S tg x (wipeF ρ own) with
  | some ρ1 => @bI _ _ (tst G D c ρ1 S) ⟨fun k S3 => match k with
    | true => @bI _ _ (ev G D elt ρ1 S3) ⟨fun y S4 => .ok [y] S4⟩
    | false => .ok [] S3⟩
  | none => .no
noncomputable def turnF (tg : Tg) (body : List NH.St) (x : T) (ρ1 : Fr) (S : Store) : O := match setTg S tg x ρ1 with
  | some ρ2 => execs G D body ρ2 S
  | none => .no
@[simp] theorem q_for {tg : Tg} {it : It} {body : List NH.St} {ρ : Fr} {S : Store} : exec G D (.forS tg it body) ρ S = @tI _ (evI G D it ρ S) ρ ⟨fun p S1 => forLoop p.2 (turnF G D tg body) p.1 ρ S1⟩ := by
  rw [exec]
  rfl
@[simp] theorem setTg_nm {S : Store} {i : Nat} {v : T} {ρ : Fr} : setTg S (.nm i) v ρ = some (ρ.set i (some v)) := Eq.trans rfl rfl
@[simp] theorem q_lc0 {elt : E} {tg : Tg} {it : It} {own : List Nat} {ρ : Fr} {S : Store} : evA G D (.lc elt tg it none own) ρ S = @bI _ _ ((evI G D it ρ S)) ⟨fun p S1 => @bI _ _ ((lcLoop p.2 (turn0 G D elt tg own ρ) p.1 [] S1)) ⟨fun ys S2 => .ok (.lst ys) S2⟩⟩ := by
  rw [evA]
  rfl
@[simp] theorem q_lc1 {elt c : E} {tg : Tg} {it : It} {own : List Nat} {ρ : Fr} {S : Store} : evA G D (.lc elt tg it (some c) own) ρ S = @bI _ _ ((evI G D it ρ S)) ⟨fun p S1 => @bI _ _ ((lcLoop p.2 (turn1 G D elt tg c own ρ) p.1 [] S1)) ⟨fun ys S2 => .ok (.lst ys) S2⟩⟩ := by
  rw [evA]
  rfl
end
section
variable {α β : Type} {S : Store} {G : Gam} {D : Run}
@[simp] theorem bn_add {i j : Int} : binT .add (.int i) (.int j) S = .ok (.int (i + j)) S := Eq.trans rfl rfl
@[simp] theorem bn_sub {i j : Int} : binT .sub (.int i) (.int j) S = .ok (.int (i - j)) S := Eq.trans rfl rfl
@[simp] theorem bn_mul {i j : Int} : binT .mul (.int i) (.int j) S = if i.natAbs < 2 ^ 64 ∨ j.natAbs < 2 ^ 64 then .ok (.int (i * j)) S else .no := Eq.trans rfl rfl
@[simp] theorem bn_fdiv {i j : Int} : binT .fdiv (.int i) (.int j) S = if 0 < j ∧ j < 1073741824 then .ok (.int (i / j)) S else .no := Eq.trans rfl rfl
@[simp] theorem bn_mod {i j : Int} : binT .mod (.int i) (.int j) S = if 0 < j then .ok (.int (i % j)) S else .no := Eq.trans rfl rfl
@[simp] theorem bn_pow {i j : Int} : binT .pow (.int i) (.int j) S = if 0 ≤ j ∧ j ≤ 1000000 ∧ i.natAbs < 2 ^ 64 then .ok (.int (i ^ j.toNat)) S else .no := Eq.trans rfl rfl
@[simp] theorem bn_addS {x y : Str} : binT .add (.str x) (.str y) S = if x.length + y.length ≤ sizeLine then .ok (.str (x ++ y)) S else .no := Eq.trans rfl rfl
@[simp] theorem bn_addL {x y : List T} : binT .add (.lst x) (.lst y) S = if x.length + y.length ≤ sizeLine then .ok (.lst (x ++ y)) S else .no := Eq.trans rfl rfl
@[simp] theorem bi_lenL {x : List T} : biT G D .len [.lst x] S = .ok (.int x.length) S := Eq.trans rfl rfl
@[simp] theorem bi_lenT {x : List T} : biT G D .len [.tup x] S = .ok (.int x.length) S := Eq.trans rfl rfl
@[simp] theorem bi_lenD {x : List (Str × T)} : biT G D .len [.dct x] S = .ok (.int x.length) S := Eq.trans rfl rfl
@[simp] theorem bi_lenS {x : Str} : biT G D .len [.str x] S = if x.length ≤ sizeLine then .ok (.int x.length) S else .no := Eq.trans rfl rfl
@[simp] theorem bi_int {x : Int} : biT G D .int [.int x] S = .ok (.int x) S := Eq.trans rfl rfl
@[simp] theorem bi_intB {x : Bool} : biT G D .int [.bl x] S = .ok (.int (if x then 1 else 0)) S := Eq.trans rfl rfl
@[simp] theorem bi_isi {v t : T} : biT G D .isinstance [v, t] S = isiT G v t S := Eq.trans rfl rfl
@[simp] theorem bi_all {v : T} : biT G D .all [v] S = allT v S := Eq.trans rfl rfl
@[simp] theorem bi_any {v : T} : biT G D .any [v] S = anyT v S := Eq.trans rfl rfl
@[simp] theorem sub_lst {x : List T} {i : Int} : subT (.lst x) (.int i) S = R.of (L2.atI x i) S := Eq.trans rfl rfl
@[simp] theorem sub_tup {x : List T} {i : Int} : subT (.tup x) (.int i) S = R.of (L2.atI x i) S := Eq.trans rfl rfl
@[simp] theorem sub_dct {x : List (Str × T)} {k : Str} : subT (.dct x) (.str k) S = R.of (getS x k) S := Eq.trans rfl rfl
theorem sub_ref {k : Nat} {x : List T} {i : Int} (h : S.nd k = some (.lst x)) : subT (.ref k) (.int i) S = R.of (L2.atI x i) S := by
  unfold subT
  rw [vw_ref h]
  rfl
@[simp] theorem at0 {a : T} {l : List T} : L2.atI (a :: l) 0 = some a := atI_nat (xs := a :: l) (i := 0) (by simp)
@[simp] theorem at1 {a b : T} {l : List T} : L2.atI (a :: b :: l) 1 = some b := atI_nat (xs := a :: b :: l) (i := 1) (by simp)
@[simp] theorem at2 {a b c : T} {l : List T} : L2.atI (a :: b :: c :: l) 2 = some c := atI_nat (xs := a :: b :: c :: l) (i := 2) (by simp)
@[simp] theorem at3 {a b c d : T} {l : List T} : L2.atI (a :: b :: c :: d :: l) 3 = some d := atI_nat (xs := a :: b :: c :: d :: l) (i := 3) (by simp)
@[simp] theorem at4 {a b c d e : T} {l : List T} : L2.atI (a :: b :: c :: d :: e :: l) 4 = some e := atI_nat (xs := a :: b :: c :: d :: e :: l) (i := 4) (by simp)
end
end NH
end
section
namespace NH
open PySem hiding exec execs
section
variable {α β : Type} {S : Store} {G : Gam} {D : Run}
@[simp] theorem ii_ty {v : T} {b : String} : isiT G v (.ty b) S = R.of ((isKind G S v (.ty b)).map T.bl) S := Eq.trans rfl rfl
@[simp] theorem ii_cls {v : T} {c : Nat} : isiT G v (.cls c) S = R.of ((isKind G S v (.cls c)).map T.bl) S := Eq.trans rfl rfl
@[simp] theorem ii_tup {v t : T} {ts : List T} : isiT G v (.tup (t :: ts)) S = R.of ((isAny G S v (t :: ts)).map T.bl) S := Eq.trans rfl rfl
@[simp] theorem ia_nil {v : T} : isAny G S v [] = some false := Eq.trans rfl rfl
@[simp] theorem ia_cons {v t : T} {ts : List T} : isAny G S v (t :: ts) = match isKind G S v t, isAny G S v ts with
    | some a, some b => some (a || b)
    | _, _ => none := rfl
def kindOf (a b : String) : Option Bool := if b ∈ tyNames then some (decide (a = b) || (decide (a = "bool") && decide (b = "int"))) else none
@[simp] theorem ik_str {x : Str} {b : String} : isKind G S (.str x) (.ty b) = kindOf "str" b := Eq.trans rfl rfl
@[simp] theorem ik_int {x : Int} {b : String} : isKind G S (.int x) (.ty b) = kindOf "int" b := Eq.trans rfl rfl
@[simp] theorem ik_bl {x : Bool} {b : String} : isKind G S (.bl x) (.ty b) = kindOf "bool" b := Eq.trans rfl rfl
@[simp] theorem ik_non {b : String} : isKind G S .non (.ty b) = kindOf "NoneType" b := Eq.trans rfl rfl
@[simp] theorem ik_lst {x : List T} {b : String} : isKind G S (.lst x) (.ty b) = kindOf "list" b := Eq.trans rfl rfl
@[simp] theorem ik_tup {x : List T} {b : String} : isKind G S (.tup x) (.ty b) = kindOf "tuple" b := Eq.trans rfl rfl
@[simp] theorem ik_dct {x : List (Str × T)} {b : String} : isKind G S (.dct x) (.ty b) = kindOf "dict" b := Eq.trans rfl rfl
theorem ik_ref {k : Nat} {x : List T} {b : String} (h : S.nd k = some (.lst x)) : isKind G S (.ref k) (.ty b) = kindOf "list" b := by
  unfold isKind tyOf
  rw [vw_ref h]
  rfl
@[simp] theorem k1 : kindOf "str" "str" = some true := by decide
@[simp] theorem k2 : kindOf "str" "int" = some false := by decide
@[simp] theorem k3 : kindOf "str" "bool" = some false := by decide
@[simp] theorem k4 : kindOf "str" "list" = some false := by decide
@[simp] theorem k5 : kindOf "str" "tuple" = some false := by decide
@[simp] theorem k6 : kindOf "str" "dict" = some false := by decide
@[simp] theorem k7 : kindOf "int" "str" = some false := by decide
@[simp] theorem k8 : kindOf "int" "int" = some true := by decide
@[simp] theorem k9 : kindOf "int" "bool" = some false := by decide
@[simp] theorem k10 : kindOf "int" "list" = some false := by decide
@[simp] theorem k11 : kindOf "int" "tuple" = some false := by decide
@[simp] theorem k12 : kindOf "int" "dict" = some false := by decide
@[simp] theorem k13 : kindOf "bool" "str" = some false := by decide
@[simp] theorem k14 : kindOf "bool" "int" = some true := by decide
@[simp] theorem k15 : kindOf "bool" "bool" = some true := by decide
@[simp] theorem k16 : kindOf "bool" "list" = some false := by decide
@[simp] theorem k17 : kindOf "bool" "tuple" = some false := by decide
@[simp] theorem k18 : kindOf "bool" "dict" = some false := by decide
@[simp] theorem k19 : kindOf "NoneType" "str" = some false := by decide
@[simp] theorem k20 : kindOf "NoneType" "int" = some false := by decide
@[simp] theorem k21 : kindOf "NoneType" "bool" = some false := by decide
@[simp] theorem k22 : kindOf "NoneType" "list" = some false := by decide
@[simp] theorem k23 : kindOf "NoneType" "tuple" = some false := by decide
@[simp] theorem k24 : kindOf "NoneType" "dict" = some false := by decide
@[simp] theorem k25 : kindOf "list" "str" = some false := by decide
@[simp] theorem k26 : kindOf "list" "int" = some false := by decide
@[simp] theorem k27 : kindOf "list" "bool" = some false := by decide
@[simp] theorem k28 : kindOf "list" "list" = some true := by decide
@[simp] theorem k29 : kindOf "list" "tuple" = some false := by decide
@[simp] theorem k30 : kindOf "list" "dict" = some false := by decide
@[simp] theorem k31 : kindOf "tuple" "str" = some false := by decide
@[simp] theorem k32 : kindOf "tuple" "int" = some false := by decide
@[simp] theorem k33 : kindOf "tuple" "bool" = some false := by decide
@[simp] theorem k34 : kindOf "tuple" "list" = some false := by decide
@[simp] theorem k35 : kindOf "tuple" "tuple" = some true := by decide
@[simp] theorem k36 : kindOf "tuple" "dict" = some false := by decide
@[simp] theorem k37 : kindOf "dict" "str" = some false := by decide
@[simp] theorem k38 : kindOf "dict" "int" = some false := by decide
@[simp] theorem k39 : kindOf "dict" "bool" = some false := by decide
@[simp] theorem k40 : kindOf "dict" "list" = some false := by decide
@[simp] theorem k41 : kindOf "dict" "tuple" = some false := by decide
@[simp] theorem k42 : kindOf "dict" "dict" = some true := by decide
/-! ### sources -/
@[simp] theorem src_lst {xs : List T} : srcOf S (.lst xs) = some (xs, []) := Eq.trans rfl rfl
@[simp] theorem src_tup {xs : List T} : srcOf S (.tup xs) = some (xs, []) := Eq.trans rfl rfl
@[simp] theorem src_str {x : Str} : srcOf S (.str x) = some (x.cps.toList.map fun c => T.str ⟨#[c]⟩, []) := Eq.trans rfl rfl
theorem src_ref {k : Nat} {xs : List T} (h : S.nd k = some (.lst xs)) : srcOf S (.ref k) = some (xs, [(k, xs)]) := by
  unfold srcOf
  rw [vw_ref h]
  rfl
@[simp] theorem enum_lst {xs : List T} : enumSrc S (.lst xs) = some (enumTo xs, []) := Eq.trans rfl rfl
theorem enum_ref {k : Nat} {xs : List T} (h : S.nd k = some (.lst xs)) : enumSrc S (.ref k) = some (enumTo xs, [(k, xs)]) := by
  unfold enumSrc
  rw [vw_ref h]
  rfl
theorem enum_map {enc : α → T} {l : List α} : enumTo (l.map enc) = l.zipIdx.map fun p => numT (enc p.1, p.2) := by
  unfold enumTo
  rw [List.zipIdx_map, List.map_map]
  rfl
@[simp] theorem still_nil : still S [] = True := Eq.trans rfl rfl
theorem sn : still S [] := trivial
theorem rng0 {j : Int} : rngTo 0 j = (List.range j.toNat).map fun i => T.int (i : Nat) := by
  unfold rngTo
  simp
/-! ### cuts -/
theorem cutL_hi {l : List α} {n : Int} (h : 0 ≤ n) : cutL l none (some n) = l.take n.toNat := by
  obtain ⟨m, rfl⟩ := Int.eq_ofNat_of_zero_le h
  unfold cutL
  rw [HT.sIx_none, HT.sIx_nat]
  simp only [List.drop_zero, Nat.sub_zero, Int.ofNat_eq_natCast, Int.toNat_natCast]
  rw [List.take_eq_take_iff]
  omega
theorem cutL_lo {l : List α} {n : Int} (h : 0 ≤ n) : cutL l (some n) none = l.drop n.toNat := by
  obtain ⟨m, rfl⟩ := Int.eq_ofNat_of_zero_le h
  unfold cutL
  rw [HT.sIx_none, HT.sIx_nat]
  simp only [Int.ofNat_eq_natCast, Int.toNat_natCast]
  rcases Nat.le_total m l.length with q | q
  · rw [Nat.min_eq_left q, ← List.length_drop, List.take_length]
  · rw [Nat.min_eq_right q, List.drop_eq_nil_of_le q]; simp
@[simp] theorem cut_lst {l : List T} {a b : Option Int} : cutT (.lst l) a b S = .ok (.lst (cutL l a b)) S := Eq.trans rfl rfl
@[simp] theorem cut_scr {l : List Int} {a b : Option Int} : cutT (.scr l) a b S = .ok (.lst (cutL (l.map T.int) a b)) S := Eq.trans rfl rfl
theorem cut_str {x : Str} {a b : Option Int} (h : x.length ≤ sizeLine) : cutT (.str x) a b S = .ok (.str ⟨(cutL x.cps.toList a b).toArray⟩) S := by
  show (if x.length ≤ sizeLine then R.ok (T.str ⟨(cutL x.cps.toList a b).toArray⟩) S else .no) = _
  rw [if_pos h]
/-! ### truths of lists -/
theorem bools_map {f : α → Bool} {l : List α} : bools (l.map fun x => T.bl (f x)) = some (l.map f) := by
  induction l with
  | nil => rfl
  | cons a l ih => simp only [List.map_cons, bools, ih]
theorem all_map {f : α → Bool} {l : List α} : allT (.lst (l.map fun x => T.bl (f x))) S = .ok (.bl (l.all f)) S := by
  unfold allT
  simp only [vw_lst, bools_map, Option.map_some, R.of_some, List.all_map]
  rfl
theorem any_map {f : α → Bool} {l : List α} : anyT (.lst (l.map fun x => T.bl (f x))) S = .ok (.bl (l.any f)) S := by
  unfold anyT
  simp only [vw_lst, bools_map, Option.map_some, R.of_some, List.any_map]
  rfl
theorem bi_len_ref {k : Nat} {xs : List T} (h : S.nd k = some (.lst xs)) : biT G D .len [.ref k] S = .ok (.int xs.length) S := by
  show lenT G D (.ref k) S = _
  unfold lenT
  rw [vw_ref h]
  rfl
/-! ### append -/
theorem app_ref {k : Nat} {xs : List T} {v : T} (h : S.nd k = some (.lst xs)) (hl : xs.length < sizeLine) : bmT (.ref k) .append [v] S = .ok .non (S.set k (some (.lst (xs ++ [v])))) := by
  show appendT (.ref k) v S = _
  unfold appendT
  rw [vw_ref h]
  simp only [tree_lst, if_pos hl]
theorem bmOk_ref {k : Nat} {xs : List T} (h : S.nd k = some (.lst xs)) : bmOk (.ref k) .append S = true := by
  unfold bmOk
  rw [vw_ref h]
  rfl
theorem bmOk_ins {k : Nat} {xs : List T} (h : S.nd k = some (.lst xs)) : bmOk (.ref k) .insert S = true := by
  unfold bmOk
  rw [vw_ref h]
  rfl
theorem ins_ref {k : Nat} {xs : List T} {v : T} {i : Int} (h : S.nd k = some (.lst xs)) (hl : xs.length < sizeLine) (h0 : 0 ≤ i) (h1 : i < 2 ^ 63) : bmT (.ref k) .insert [.int i, v] S = .ok .non (S.set k (some (.lst (xs.take i.toNat ++ [v] ++ xs.drop i.toNat)))) := by
  show insertT (.ref k) (.int i) v S = _
  unfold insertT
  rw [vw_ref h]
  simp only [tree_lst, if_pos (show xs.length < sizeLine ∧ 0 ≤ i ∧ i < 2 ^ 63 from ⟨hl, h0, h1⟩)]
theorem strsOf_map {l : List Str} : strsOf (l.map T.str) = some l := by
  induction l with
  | nil => rfl
  | cons a l ih => simp only [List.map_cons, strsOf, ih]
@[simp] theorem bmOk_join {x : Str} : bmOk (.str x) .join S = true := Eq.trans rfl rfl
@[simp] theorem bmOk_index {x : List T} : bmOk (.lst x) .index S = true := Eq.trans rfl rfl
end
end NH
end
section
namespace LW
open PySem NH
def top (i : Nat) : Stmt := PySem.Challenge.pw_namehold_k50_rules_of_revisers.main.body.getD i (.Pass ⟨0, 0, 0, 0⟩)
def nm0 : List PySem.Str := ["__bool__", "__len__", "__eq__", "__contains__", "__repr__", "pairs", "chosen", "choice", "told", "NAME", "_law_script", "_law_feed_here", "_law_things", "_law_labels_here", "_law_wide", "aside", "kept", "_law_spec_here", "_law_many", "own_pairs", "self", "_law_dating_here", "_law_scope", "_law_items", "_law_key"]
def nm1 : List PySem.Str := ["_law_found", "_law_due", "own_things", "own_labels", "is_next", "key", "own_aside", "own_kept", "things", "labels", "value", "word", "bearer", "first", "last", "_law_one", "_law_other", "least", "most", "label", "need_key", "pick", "book", "dating", "keys"]
def nm2 : List PySem.Str := ["scope", "active", "is_kept", "known", "may_be", "place", "rivals", "date", "line"]
def nm : List PySem.Str := nm0 ++ nm1 ++ nm2
/-- law -/
def b0 : List NH.St :=
  [.asg (.nm 1) (.call 1 [.var 0] []), .forS (.nm 2) (.rng1 (.int 3)) [.asg (.nm 3) (.call 2 [.var 1, .int 4, .int 6, .int 3] []), .asg (.tp [4, 5, 6]) (.tup [(.call 3 [.var 3] []), (.call 4 [.var 1, .var 3] []), (.al true (.lst []))]), .asg (.nm 7) (.bin .add (.call 5 [.var 3] []) (.al false (.lst [.str "zzzzzz", .str "zzzzzy"]))), .forS (.nm 8) (.rng1 (.call 6 [.var 1, .int 9] [])) [.asg (.nm 9) (.call 6 [.var 1, .bi .len [.var 7]] []), .ex (.bm (.var 6) .append [.tup [.sub (.var 7) (.var 9), .sub (.var 7) (.bin .mod (.bi .int [.bin .add (.bin .add (.var 9) (.int 1)) (.call 6 [.var 1, .bin .sub (.bi .len [.var 7]) (.int 1)] [])]) (.bi .len [.var 7]))]])], .asg (.nm 10) (.al true (.list (.var 6))), .par [11, 12] [(.make 0 [] [(5, .var 10)]), (.call 8 [.var 3, .var 5, .sub (.var 3) (.int 0)] [])], .ex (.bm (.var 10) .append [.non]), .forS (.nm 13) (.rng1 (.int 3)) [.asg (.nm 14) (.cut (.call 9 [.var 1, .call 5 [.var 3] []] []) none (some (.call 6 [.var 1, .int 7] []))), .asg (.nm 15) (.cut (.call 9 [.var 1, .sub (.var 3) (.int 0)] []) none (some (.call 6 [.var 1, .bin .add (.bi .len [.sub (.var 3) (.int 0)]) (.int 1)] []))), .asg (.nm 16) (.al true (.lst [])), .forS (.nm 17) (.seq (.al false (.lst [.al false (.lc (.var 18) (.nm 18) (.seq (.var 12)) (some (.cmp .isin (.var 18) (.var 14))) [18]), .al false (.lc (.var 18) (.nm 18) (.seq (.var 12)) (some (.cmp .isin (.call 10 [.var 3, .var 18] []) (.var 15))) [18])]))) [.asg (.nm 19) (.al false (.lc (.var 18) (.nm 18) (.seq (.var 17)) (some (.cmp .eq (.al false (.lc (.var 20) (.nm 20) (.seq (.var 17)) (some (.cmp .isin (.tup [.var 20, .var 18]) (.var 6))) [20])) (.al false (.lst [])))) [18])), .asg (.nm 19) (.ite (.cmp .ne (.var 19) (.al false (.lst []))) (.var 19) (.var 17)), .ex (.bm (.var 16) .append [.ite (.cmp .ne (.var 19) (.al false (.lst []))) (.sub (.var 19) (.int 0)) (.non)])], .ifS (.not (.call 11 [.al false (.lst [.meth (.var 11) 6 [.var 4, .var 5, .var 14] [], .meth (.var 11) 7 [.var 4, .var 5, .var 15] []]), .var 16] [])) [.ret (.bl false)] [], .asg (.nm 21) (.al false (.lst [.meth (.var 11) 5 [] [], .meth (.var 11) 8 [] [], .bi .repr [.var 11], .attr (.var 11) 9, .bi .isinstance [.var 11, .glo 0], .bi .isinstance [.var 11, .glo 1]])), .asg (.nm 22) (.bin .add (.str "reviser ") (.bi .str [.bi .len [.var 6]])), .ifS (.not (.call 11 [.var 21, .al false (.lst [.var 6, .var 22, .bin .add (.bin .add (.str "Rule(") (.var 22)) (.str ")"), .str "reviser", .bl true, .bl false])] [])) [.ret (.bl false)] [], .ex (.bm (.sub (.var 21) (.int 0)) .append [.str "late"])]], .ret (.bl true)]
def f0 : NH.PF := { at_ := ("law", none), st := top 63, qual := "law", N := ["_law_script", "_law_feed_here", "_law_turn", "_law_spec_here", "_law_made_here", "_law_dating_here", "_law_pairs_z", "_law_words_here", "_law_k", "_law_at", "_law_handed", "_law_rule", "_law_line", "_law_again", "_law_keys_here", "_law_things", "_law_due", "_law_row_here", "_law_key", "_law_best", "_law_late", "_law_found", "_law_text"], fn := { pos := [10], dfl := [], kwo := [], slots := 23, pure := false, body := b0 }, dfl := [], kwd := [], lam := false, sup := false, sups := [] }
/-- _law_feed -/
def b1 : List NH.St :=
  [.asg (.nm 1) (.al false (.lc (.bi .int [.var 2]) (.nm 2) (.seq (.cut (.var 0) none (some (.int 63)))) none [2])), .asg (.nm 3) (.bin .add (.int 10029) (.bin .mul (.int 71) (.bi .len [.var 1]))), .forS (.nm 2) (.seq (.var 1)) [.asg (.nm 3) (.bin .mod (.bi .int [.bin .add (.bin .mul (.var 3) (.int 8101)) (.var 2)]) (.int 2147483269))], .ret (.al true (.lst [.var 1, .int 0, .int 0, .var 3]))]
def f1 : NH.PF := { at_ := ("_law_feed", none), st := top 43, qual := "_law_feed", N := ["_law_script", "_law_cells", "_law_cell", "_law_mark"], fn := { pos := [10], dfl := [], kwo := [], slots := 4, pure := false, body := b1 }, dfl := [], kwd := [], lam := false, sup := false, sups := [] }
/-- _law_spec -/
def b2 : List NH.St :=
  [.asg (.nm 4) (.bin .add (.int 1) (.call 6 [.var 0, .var 1] [])), .asg (.nm 5) (.call 12 [.var 0, .bin .add (.var 4) (.var 2)] []), .asg (.tp [6, 7, 8]) (.tup [(.cut (.var 5) none (some (.var 4))), (.al true (.lst [])), (.call 13 [.var 0, .al false (.lst [.int 0, .int 7, .int 1753, .int 9990])] [])]), .asg (.nm 9) (.call 14 [.var 0, .var 2] []), .forS (.nm 10) (.rng1 (.call 6 [.var 0, .bin .add (.var 2) (.int 1)] [])) [.asg (.nm 11) (.bin .add (.var 8) (.call 6 [.var 0, .int 4] [])), .ex (.bm (.var 7) .append [.tup [.sub (.var 5) (.bin .add (.var 4) (.var 10)), .sub (.var 9) (.var 10), .call 13 [.var 0, .var 6] [], .var 11, .bin .add (.var 11) (.call 6 [.var 0, .var 3] [])]])], .asg (.nm 12) (.al false (.lc (.call 6 [.var 0, .int 7] []) (.nm 13) (.seq (.var 7)) none [13])), .asg (.nm 14) (.al false (.lc (.sub (.sub (.var 7) (.var 10)) (.int 0)) (.nm 10) (.rng1 (.bi .len [.var 7])) (some (.cmp .eq (.sub (.var 12) (.var 10)) (.int 0))) [10])), .hard 7, .ret (.tup [.var 6, .var 7, .var 14, .al false (.lc (.sub (.sub (.var 7) (.var 10)) (.int 0)) (.nm 10) (.rng1 (.bi .len [.var 7])) (some (.cmp .eq (.sub (.var 12) (.var 10)) (.int 1))) [10])])]
def f2 : NH.PF := { at_ := ("_law_spec", none), st := top 50, qual := "_law_spec", N := ["_law_feed_here", "_law_things", "_law_labels_here", "_law_wide", "_law_many", "_law_names", "_law_row_here", "_law_found", "_law_base", "_law_words_here", "_law_k", "_law_first", "_law_ways", "_law_label_here", "_law_aside_z"], fn := { pos := [11, 12, 13, 14], dfl := [], kwo := [], slots := 15, pure := true, body := b2 }, dfl := [], kwd := [], lam := false, sup := false, sups := [] }
/-- _law_made -/
def b3 : List NH.St :=
  [.ret (.make 1 [.al false (.list (.sub (.var 0) (.int 0))), .call 16 [.var 0] []] [(15, .al false (.list (.sub (.var 0) (.int 2)))), (16, .al false (.list (.sub (.var 0) (.int 3))))])]
def f3 : NH.PF := { at_ := ("_law_made", none), st := top 52, qual := "_law_made", N := ["_law_spec_here"], fn := { pos := [17], dfl := [], kwo := [], slots := 1, pure := false, body := b3 }, dfl := [], kwd := [], lam := false, sup := false, sups := [] }
/-- _law_dating -/
def b4 : List NH.St :=
  [.asg (.nm 2) (.al true (.dct0)), .forS (.nm 3) (.seq (.sub (.var 1) (.int 1))) [.asg (.sbD (.var 2) (.sub (.var 3) (.int 0))) (.bin .add (.sub (.var 3) (.int 3)) (.call 6 [.var 0, .bin .sub (.bin .add (.sub (.var 3) (.int 4)) (.int 1)) (.sub (.var 3) (.int 3))] []))], .ret (.var 2)]
def f4 : NH.PF := { at_ := ("_law_dating", none), st := top 62, qual := "_law_dating", N := ["_law_feed_here", "_law_spec_here", "_law_found", "_law_row_here"], fn := { pos := [11, 17], dfl := [], kwo := [], slots := 4, pure := true, body := b4 }, dfl := [], kwd := [], lam := false, sup := false, sups := [] }
/-- _law_keys -/
def b5 : List NH.St :=
  [.ret (.al false (.lc (.sub (.var 1) (.int 0)) (.nm 1) (.seq (.sub (.var 0) (.int 1))) none [1]))]
def f5 : NH.PF := { at_ := ("_law_keys", none), st := top 53, qual := "_law_keys", N := ["_law_spec_here", "_law_row_here"], fn := { pos := [17], dfl := [], kwo := [], slots := 2, pure := false, body := b5 }, dfl := [], kwd := [], lam := false, sup := false, sups := [] }
/-- _law_take -/
def b6 : List NH.St :=
  [.ifS (.cmp .lt (.sub (.var 0) (.int 2)) (.int 2)) [.asg (.sbL (.var 0) (.int 1)) (.bin .add (.sub (.var 0) (.int 1)) (.int 1)), .asg (.nm 2) (.bin .add (.sub (.var 0) (.int 3)) (.bin .mul (.sub (.var 0) (.int 1)) (.int 9311))), .ifS (.cmp .le (.sub (.var 0) (.int 1)) (.bi .len [.sub (.var 0) (.int 0)])) [.asg (.nm 2) (.sub (.sub (.var 0) (.int 0)) (.bin .sub (.sub (.var 0) (.int 1)) (.int 1)))] [], .ifS (.or (.cmp .gt (.sub (.var 0) (.int 1)) (.bi .len [.sub (.var 0) (.int 0)])) (.cmp .lt (.var 2) (.bin .pow (.int 10) (.int 18)))) [.asg (.nm 3) (.bin .mod (.bi .int [.bin .add (.bin .add (.bin .mul (.var 2) (.int 46687)) (.bin .mul (.sub (.var 0) (.int 1)) (.int 36007))) (.sub (.var 0) (.int 3))]) (.int 2147483647)), .asg (.nm 4) (.bin .mod (.bi .int [.bin .add (.bin .mul (.var 3) (.var 3)) (.bin .mul (.sub (.var 0) (.int 1)) (.int 51539))]) (.int 998244353)), .ret (.bin .mod (.bin .fdiv (.bin .mod (.bi .int [.bin .add (.bin .mul (.var 4) (.int 48109)) (.var 3)]) (.int 2147483579)) (.int 29)) (.var 1))] [], .asg (.sbL (.var 0) (.int 2)) (.var 2)] [], .asg (.nm 5) (.bin .mod (.bi .int [.sub (.var 0) (.int 2)]) (.var 1)), .asg (.sbL (.var 0) (.int 2)) (.bin .fdiv (.bi .int [.sub (.var 0) (.int 2)]) (.var 1)), .ret (.var 5)]
def f6 : NH.PF := { at_ := ("_law_take", none), st := top 44, qual := "_law_take", N := ["_law_feed_here", "_law_many", "_law_cell", "_law_early", "_law_late", "_law_drawn"], fn := { pos := [11, 18], dfl := [], kwo := [], slots := 6, pure := false, body := b6 }, dfl := [], kwd := [], lam := false, sup := false, sups := [] }
/-- Reviser.__init__ -/
def b7 : List NH.St :=
  [.ifS (.not (.call 17 [.var 1] [])) [.no] [], .forS (.tp [2, 3]) (.enum (.var 1)) [.ifS (.or (.not (.bi .isinstance [.var 3, .glo 2])) (.or (.cmp .ne (.bi .len [.var 3]) (.int 2)) (.not (.bi .all [.al false (.lc (.call 18 [.var 4] []) (.nm 4) (.seq (.var 3)) none [4])])))) [.no] [], .ifS (.cmp .eq (.sub (.var 3) (.int 0)) (.sub (.var 3) (.int 1))) [.no] []], .asg (.at (.var 0) 19) (.al false (.list (.var 1)))]
def f7 : NH.PF := { at_ := ("Reviser", some "__init__"), st := L2.inClass (top 41) 1, qual := "Reviser.__init__", N := ["self", "pairs", "at", "pair", "key"], fn := { pos := [20, 5], dfl := [], kwo := [], slots := 5, pure := false, body := b7 }, dfl := [], kwd := [], lam := false, sup := false, sups := [] }
/-- _law_row -/
def b8 : List NH.St :=
  [.asg (.nm 3) (.al true (.lst [])), .forS (.nm 4) (.seq (.call 19 [.var 0] [])) [.ifS (.cmp .eq (.call 20 [.var 0, .var 1, .var 4, .var 2] []) (.al false (.lst []))) [.ex (.bm (.var 3) .append [.tup [.bi .int [.cmp .notin (.var 4) (.sub (.var 0) (.int 3))], .call 21 [.var 0, .var 1, .var 4] []]])] []], .ret (.al false (.lc (.sub (.call 5 [.var 0] []) (.sub (.sub (.var 5) (.int 1)) (.int 1))) (.nm 5) (.seq (.al false (.srt (.var 3)))) none [5]))]
def f8 : NH.PF := { at_ := ("_law_row", none), st := top 61, qual := "_law_row", N := ["_law_spec_here", "_law_dating_here", "_law_scope", "_law_found", "_law_key", "_law_part"], fn := { pos := [17, 21, 22], dfl := [], kwo := [], slots := 6, pure := true, body := b8 }, dfl := [], kwd := [], lam := false, sup := false, sups := [] }
/-- _law_mixed -/
def b9 : List NH.St :=
  [.asg (.nm 2) (.al true (.lst [])), .forS (.nm 3) (.seq (.var 1)) [.ex (.bm (.var 2) .insert [.call 6 [.var 0, .bin .add (.bi .len [.var 2]) (.int 1)] [], .var 3])], .ret (.var 2)]
def f9 : NH.PF := { at_ := ("_law_mixed", none), st := top 47, qual := "_law_mixed", N := ["_law_feed_here", "_law_items", "_law_found", "_law_item"], fn := { pos := [11, 23], dfl := [], kwo := [], slots := 4, pure := true, body := b9 }, dfl := [], kwd := [], lam := false, sup := false, sups := [] }
/-- _law_bearer -/
def b10 : List NH.St :=
  [.ret (.sub (.call 22 [.var 0, .var 1] []) (.int 2))]
def f10 : NH.PF := { at_ := ("_law_bearer", none), st := top 56, qual := "_law_bearer", N := ["_law_spec_here", "_law_key"], fn := { pos := [17, 24], dfl := [], kwo := [], slots := 2, pure := false, body := b10 }, dfl := [], kwd := [], lam := false, sup := false, sups := [] }
/-- _law_same -/
def b11 : List NH.St :=
  [.ifS (.cmp .is (.var 1) (.non)) [.ret (.cmp .is (.var 0) (.non))] [], .ifS (.or (.bi .isinstance [.var 1, .glo 3]) (.bi .isinstance [.var 0, .glo 3])) [.ret (.and (.bi .isinstance [.var 1, .glo 3]) (.and (.bi .isinstance [.var 0, .glo 3]) (.cmp .eq (.var 0) (.var 1))))] [], .ifS (.bi .isinstance [.var 1, .tup [.glo 4, .glo 5]]) [.ret (.and (.bi .isinstance [.var 0, .tup [.glo 4, .glo 5]]) (.and (.cmp .eq (.bi .isinstance [.var 0, .glo 4]) (.bi .isinstance [.var 1, .glo 4])) (.cmp .eq (.var 0) (.var 1))))] [], .ifS (.bi .isinstance [.var 1, .glo 6]) [.ret (.and (.bi .isinstance [.var 0, .glo 6]) (.and (.cmp .eq (.bi .len [.var 0]) (.bi .len [.var 1])) (.bi .all [.al false (.lc (.and (.cmp .isin (.var 2) (.var 0)) (.call 11 [.sub (.var 0) (.var 2), .sub (.var 1) (.var 2)] [])) (.nm 2) (.keys 1 none) none [2])])))] [], .ifS (.or (.cmp .ne (.bi .isinstance [.var 1, .glo 7]) (.bi .isinstance [.var 0, .glo 7])) (.cmp .ne (.bi .isinstance [.var 1, .glo 2]) (.bi .isinstance [.var 0, .glo 2]))) [.ret (.bl false)] [], .ret (.and (.cmp .eq (.bi .len [.var 0]) (.bi .len [.var 1])) (.bi .all [.al false (.lc (.call 11 [.var 3, .var 4] []) (.tp [3, 4]) (.zip (.var 0) (.var 1)) none [3, 4])]))]
def f11 : NH.PF := { at_ := ("_law_same", none), st := top 46, qual := "_law_same", N := ["_law_found", "_law_due", "_law_key", "_law_one", "_law_two"], fn := { pos := [25, 26], dfl := [], kwo := [], slots := 5, pure := false, body := b11 }, dfl := [], kwd := [], lam := false, sup := false, sups := [] }
/-- _law_new_names -/
def b12 : List NH.St :=
  [.asg (.nm 2) (.str "abcdefghijklmnopqrstuvwxyz"), .asg (.nm 3) (.bm (.str "") .join [.al false (.lc (.call 13 [.var 0, .var 2] []) (.nm 4) (.rng1 (.call 6 [.var 0, .int 5] [])) none [4])]), .asg (.tp [5, 6]) (.tup [(.call 6 [.var 0, .bin .add (.bi .len [.var 3]) (.int 1)] []), (.call 6 [.var 0, .int 26] [])]), .ret (.al false (.lc (.bin .add (.bin .add (.cut (.var 3) none (some (.var 5))) (.sub (.var 2) (.bin .mod (.bi .int [.bin .add (.var 6) (.bin .mul (.int 7) (.var 4))]) (.int 26)))) (.cut (.var 3) (some (.var 5)) none)) (.nm 4) (.rng1 (.var 1)) none [4]))]
def f12 : NH.PF := { at_ := ("_law_new_names", none), st := top 48, qual := "_law_new_names", N := ["_law_feed_here", "_law_many", "_law_letters", "_law_stem", "_law_k", "_law_at", "_law_first"], fn := { pos := [11, 18], dfl := [], kwo := [], slots := 7, pure := false, body := b12 }, dfl := [], kwd := [], lam := false, sup := false, sups := [] }
/-- _law_of -/
def b13 : List NH.St :=
  [.ret (.sub (.var 1) (.call 6 [.var 0, .bi .len [.var 1]] []))]
def f13 : NH.PF := { at_ := ("_law_of", none), st := top 45, qual := "_law_of", N := ["_law_feed_here", "_law_items"], fn := { pos := [11, 23], dfl := [], kwo := [], slots := 2, pure := false, body := b13 }, dfl := [], kwd := [], lam := false, sup := false, sups := [] }
/-- _law_words -/
def b14 : List NH.St :=
  [.asg (.nm 2) (.call 12 [.var 0, .int 3] []), .ret (.al false (.lc (.sub (.var 2) (.call 6 [.var 0, .int 3] [])) (.nm 3) (.rng1 (.var 1)) none [3]))]
def f14 : NH.PF := { at_ := ("_law_words", none), st := top 49, qual := "_law_words", N := ["_law_feed_here", "_law_many", "_law_names", "_law_k"], fn := { pos := [11, 18], dfl := [], kwo := [], slots := 4, pure := false, body := b14 }, dfl := [], kwd := [], lam := false, sup := false, sups := [] }
/-- Book.__init__ -/
def b15 : List NH.St :=
  [.ex (.call 23 [.var 1] []), .asg (.at (.var 0) 27) (.al false (.list (.var 1))), .ifS (.not (.call 17 [.var 2] [])) [.no] [], .asg (.at (.var 0) 28) (.al true (.dct0)), .forS (.tp [5, 6]) (.enum (.var 2)) [.ifS (.not (.meth (.var 0) 29 [.var 6] [])) [.no] [], .asg (.sbD (.attr (.var 0) 28) (.attr (.var 6) 30)) (.var 6)], .settle 0 28, .ifS (.or (.not (.call 17 [.var 3] [])) (.not (.call 17 [.var 4] []))) [.no] [], .forS (.tp [5, 7]) (.enum (.al false (.lstS [(true, .var 3), (true, .var 4)]))) [.ifS (.or (.cmp .notin (.var 7) (.var 0)) (.cmp .isin (.var 7) (.cut (.al false (.lstS [(true, .var 3), (true, .var 4)])) none (some (.var 5))))) [.no] []], .asg (.at (.var 0) 31) (.al false (.lc (.var 7) (.nm 7) (.keys 0 (some 28)) (some (.cmp .isin (.var 7) (.var 3))) [7])), .asg (.at (.var 0) 32) (.al false (.lc (.var 7) (.nm 7) (.keys 0 (some 28)) (some (.cmp .isin (.var 7) (.var 4))) [7]))]
def f15 : NH.PF := { at_ := ("Book", some "__init__"), st := L2.inClass (top 28) 2, qual := "Book.__init__", N := ["self", "things", "labels", "aside", "kept", "at", "label", "key"], fn := { pos := [20, 33, 34], dfl := [(.tup [])], kwo := [(15, none), (16, none)], slots := 8, pure := false, body := b15 }, dfl := [.adr (He.dflAt ("Book", some "__init__") 0)], kwd := [], lam := false, sup := false, sups := [] }
/-- _law_labels -/
def b16 : List NH.St :=
  [.ret (.al false (.lc (.make 2 [.sub (.var 1) (.int 0), .sub (.var 1) (.int 1), .sub (.var 1) (.int 2), .sub (.var 1) (.int 3), .sub (.var 1) (.int 4)] []) (.nm 1) (.seq (.sub (.var 0) (.int 1))) none [1]))]
def f16 : NH.PF := { at_ := ("_law_labels", none), st := top 51, qual := "_law_labels", N := ["_law_spec_here", "_law_row_here"], fn := { pos := [17], dfl := [], kwo := [], slots := 2, pure := false, body := b16 }, dfl := [], kwd := [], lam := false, sup := false, sups := [] }
/-- is_listed -/
def b17 : List NH.St :=
  [.ret (.bi .isinstance [.var 0, .tup [.glo 7, .glo 2]])]
def f17 : NH.PF := { at_ := ("is_listed", none), st := top 21, qual := "is_listed", N := ["value"], fn := { pos := [35], dfl := [], kwo := [], slots := 1, pure := false, body := b17 }, dfl := [], kwd := [], lam := false, sup := false, sups := [] }
/-- is_word -/
def b18 : List NH.St :=
  [.ifS (.or (.not (.bi .isinstance [.var 0, .glo 5])) (.not (.cmp2 .le .le (.int 1) (.bi .len [.var 0]) (.glo 8)))) [.ret (.bl false)] [], .ret (.bi .all [.al false (.lc (.cmp .isin (.var 1) (.glo 9)) (.nm 1) (.seq (.var 0)) none [1])])]
def f18 : NH.PF := { at_ := ("is_word", none), st := top 18, qual := "is_word", N := ["value", "letter"], fn := { pos := [35], dfl := [], kwo := [], slots := 2, pure := false, body := b18 }, dfl := [], kwd := [], lam := false, sup := false, sups := [] }
/-- _law_active -/
def b19 : List NH.St :=
  [.ret (.al false (.lc (.sub (.var 1) (.int 0)) (.nm 1) (.seq (.sub (.var 0) (.int 1))) (some (.cmp .notin (.sub (.var 1) (.int 0)) (.sub (.var 0) (.int 2)))) [1]))]
def f19 : NH.PF := { at_ := ("_law_active", none), st := top 54, qual := "_law_active", N := ["_law_spec_here", "_law_row_here"], fn := { pos := [17], dfl := [], kwo := [], slots := 2, pure := false, body := b19 }, dfl := [], kwd := [], lam := false, sup := false, sups := [] }
/-- _law_barring -/
def b20 : List NH.St :=
  [.ifS (.cmp .isin (.var 2) (.sub (.var 0) (.int 3))) [.ret (.al false (.lst []))] [], .asg (.nm 4) (.al false (.lc (.var 5) (.nm 5) (.seq (.call 25 [.var 0, .var 2] [])) (some (.and (.cmp .isin (.call 10 [.var 0, .var 5] []) (.var 3)) (.call 26 [.var 0, .var 1, .var 5, .var 2] []))) [5])), .asg (.nm 6) (.al false (.srt (.al false (.lc (.call 21 [.var 0, .var 1, .var 5] []) (.nm 5) (.seq (.var 4)) none [5])))), .ret (.al false (.lc (.sub (.call 5 [.var 0] []) (.sub (.var 7) (.int 1))) (.nm 7) (.seq (.var 6)) none [7]))]
def f20 : NH.PF := { at_ := ("_law_barring", none), st := top 60, qual := "_law_barring", N := ["_law_spec_here", "_law_dating_here", "_law_key", "_law_scope", "_law_found", "_law_late", "_law_ages", "_law_part"], fn := { pos := [17, 21, 24, 22], dfl := [], kwo := [], slots := 8, pure := false, body := b20 }, dfl := [], kwd := [], lam := false, sup := false, sups := [] }
/-- _law_age -/
def b21 : List NH.St :=
  [.ret (.tup [.sub (.var 1) (.var 2), .bm (.call 5 [.var 0] []) .index [.var 2]])]
def f21 : NH.PF := { at_ := ("_law_age", none), st := top 58, qual := "_law_age", N := ["_law_spec_here", "_law_dating_here", "_law_key"], fn := { pos := [17, 21, 24], dfl := [], kwo := [], slots := 3, pure := false, body := b21 }, dfl := [], kwd := [], lam := false, sup := false, sups := [] }
/-- _law_label -/
def b22 : List NH.St :=
  [.ret (.sub (.al false (.lc (.var 2) (.nm 2) (.seq (.sub (.var 0) (.int 1))) (some (.cmp .eq (.sub (.var 2) (.int 0)) (.var 1))) [2])) (.int 0))]
def f22 : NH.PF := { at_ := ("_law_label", none), st := top 55, qual := "_law_label", N := ["_law_spec_here", "_law_key", "_law_row_here"], fn := { pos := [17, 24], dfl := [], kwo := [], slots := 3, pure := false, body := b22 }, dfl := [], kwd := [], lam := false, sup := false, sups := [] }
/-- check_things -/
def b23 : List NH.St :=
  [.ifS (.or (.not (.call 17 [.var 0] [])) (.cmp .eq (.bi .len [.var 0]) (.int 0))) [.no] [], .forS (.tp [1, 2]) (.enum (.var 0)) [.ifS (.or (.not (.call 18 [.var 2] [])) (.or (.cmp .isin (.var 2) (.cut (.var 0) none (some (.var 1)))) (.cmp .eq (.var 1) (.glo 10)))) [.no] []]]
def f23 : NH.PF := { at_ := ("check_things", none), st := top 26, qual := "check_things", N := ["things", "at", "thing"], fn := { pos := [33], dfl := [], kwo := [], slots := 3, pure := false, body := b23 }, dfl := [], kwd := [], lam := false, sup := false, sups := [] }
/-- Label.__init__ -/
def b24 : List NH.St :=
  [.forS (.nm 6) (.seq (.tup [.var 1, .var 2, .var 3])) [.ifS (.not (.call 18 [.var 6] [])) [.no] []], .ifS (.not (.call 27 [.var 4] [])) [.no] [], .ifS (.and (.cmp .isnot (.var 5) (.non)) (.or (.not (.call 27 [.var 5] [])) (.cmp .lt (.var 5) (.var 4)))) [.no] [], .asg (.at (.var 0) 30) (.var 1), .asg (.at (.var 0) 36) (.var 2), .asg (.at (.var 0) 37) (.var 3), .asg (.at (.var 0) 38) (.var 4), .asg (.at (.var 0) 39) (.ite (.cmp .is (.var 5) (.non)) (.var 4) (.var 5))]
def f24 : NH.PF := { at_ := ("Label", some "__init__"), st := L2.inClass (top 22) 0, qual := "Label.__init__", N := ["self", "key", "word", "bearer", "first", "last", "value"], fn := { pos := [20, 30, 36, 37, 38, 39], dfl := [.non], kwo := [], slots := 7, pure := false, body := b24 }, dfl := [.non], kwd := [], lam := false, sup := false, sups := [] }
/-- _law_rivals -/
def b25 : List NH.St :=
  [.asg (.nm 2) (.call 22 [.var 0, .var 1] []), .ret (.al false (.lc (.sub (.var 3) (.int 0)) (.nm 3) (.seq (.sub (.var 0) (.int 1))) (some (.and (.cmp .notin (.sub (.var 3) (.int 0)) (.sub (.var 0) (.int 2))) (.and (.cmp .eq (.sub (.var 3) (.int 1)) (.sub (.var 2) (.int 1))) (.cmp .ne (.sub (.var 3) (.int 2)) (.sub (.var 2) (.int 2)))))) [3]))]
def f25 : NH.PF := { at_ := ("_law_rivals", none), st := top 57, qual := "_law_rivals", N := ["_law_spec_here", "_law_key", "_law_here", "_law_row_here"], fn := { pos := [17, 24], dfl := [], kwo := [], slots := 4, pure := false, body := b25 }, dfl := [], kwd := [], lam := false, sup := false, sups := [] }
/-- _law_is_older -/
def b26 : List NH.St :=
  [.ret (.cmp .lt (.call 21 [.var 0, .var 1, .var 2] []) (.call 21 [.var 0, .var 1, .var 3] []))]
def f26 : NH.PF := { at_ := ("_law_is_older", none), st := top 59, qual := "_law_is_older", N := ["_law_spec_here", "_law_dating_here", "_law_one", "_law_other"], fn := { pos := [17, 21, 40, 41], dfl := [], kwo := [], slots := 4, pure := false, body := b26 }, dfl := [], kwd := [], lam := false, sup := false, sups := [] }
/-- is_date -/
def b27 : List NH.St :=
  [.ret (.call 28 [.var 0, .int 0, .glo 11] [])]
def f27 : NH.PF := { at_ := ("is_date", none), st := top 20, qual := "is_date", N := ["value"], fn := { pos := [35], dfl := [], kwo := [], slots := 1, pure := false, body := b27 }, dfl := [], kwd := [], lam := false, sup := false, sups := [] }
/-- is_number -/
def b28 : List NH.St :=
  [.ret (.and (.bi .isinstance [.var 0, .glo 4]) (.and (.not (.bi .isinstance [.var 0, .glo 3])) (.cmp2 .le .le (.var 1) (.var 0) (.var 2))))]
def f28 : NH.PF := { at_ := ("is_number", none), st := top 19, qual := "is_number", N := ["value", "least", "most"], fn := { pos := [35, 42, 43], dfl := [], kwo := [], slots := 3, pure := false, body := b28 }, dfl := [], kwd := [], lam := false, sup := false, sups := [] }
/-- Book.is_next -/
def b29 : List NH.St :=
  [.ifS (.or (.not (.bi .isinstance [.var 1, .glo 13])) (.cmp .eq (.bi .len [.attr (.var 0) 28]) (.glo 12))) [.ret (.bl false)] [], .ret (.and (.cmp .notin (.attr (.var 1) 30) (.attr (.var 0) 28)) (.cmp .isin (.attr (.var 1) 37) (.attr (.var 0) 27)))]
def f29 : NH.PF := { at_ := ("Book", some "is_next"), st := L2.inClass (top 28) 3, qual := "Book.is_next", N := ["self", "label"], fn := { pos := [20, 44], dfl := [], kwo := [], slots := 2, pure := false, body := b29 }, dfl := [], kwd := [], lam := false, sup := false, sups := [] }
/-- Book.__contains__ -/
def b30 : List NH.St :=
  [.ret (.and (.bi .isinstance [.var 1, .glo 5]) (.cmp .isin (.var 1) (.attr (.var 0) 28)))]
def f30 : NH.PF := { at_ := ("Book", some "__contains__"), st := L2.inClass (top 28) 24, qual := "Book.__contains__", N := ["self", "key"], fn := { pos := [20, 30], dfl := [], kwo := [], slots := 2, pure := false, body := b30 }, dfl := [], kwd := [], lam := false, sup := false, sups := [] }
/-- Book.__len__ -/
def b31 : List NH.St :=
  [.ret (.bi .len [.attr (.var 0) 28])]
def f31 : NH.PF := { at_ := ("Book", some "__len__"), st := L2.inClass (top 28) 26, qual := "Book.__len__", N := ["self"], fn := { pos := [20], dfl := [], kwo := [], slots := 1, pure := false, body := b31 }, dfl := [], kwd := [], lam := false, sup := false, sups := [] }
/-- Book.__repr__ -/
def b32 : List NH.St :=
  [.ret (.fstr [.str "Book(", .bi .len [.attr (.var 0) 27], .str " things, ", .bi .len [.attr (.var 0) 28], .str " labels)"])]
def f32 : NH.PF := { at_ := ("Book", some "__repr__"), st := L2.inClass (top 28) 28, qual := "Book.__repr__", N := ["self"], fn := { pos := [20], dfl := [], kwo := [], slots := 1, pure := false, body := b32 }, dfl := [], kwd := [], lam := false, sup := false, sups := [] }
/-- Label.__repr__ -/
def b33 : List NH.St :=
  [.ret (.fstr [.str "Label(", .attr (.var 0) 30, .str " ", .attr (.var 0) 36, .str ")"])]
def f33 : NH.PF := { at_ := ("Label", some "__repr__"), st := L2.inClass (top 22) 6, qual := "Label.__repr__", N := ["self"], fn := { pos := [20], dfl := [], kwo := [], slots := 1, pure := false, body := b33 }, dfl := [], kwd := [], lam := false, sup := false, sups := [] }
/-- Rule.chosen -/
def b34 : List NH.St :=
  [.ex (.call 39 [.var 1, .var 2] []), .forS (.nm 4) (.seq (.var 3)) [.ex (.meth (.var 1) 45 [.var 4] [])], .ret (.meth (.var 0) 46 [.al false (.lc (.var 4) (.nm 4) (.seq (.call 40 [.var 1, .var 2] [])) (some (.cmp .isin (.var 4) (.var 3))) [4])] [])]
def f34 : NH.PF := { at_ := ("Rule", some "chosen"), st := L2.inClass (top 39) 1, qual := "Rule.chosen", N := ["self", "book", "dating", "keys", "key"], fn := { pos := [20, 47, 48, 49], dfl := [], kwo := [], slots := 5, pure := false, body := b34 }, dfl := [], kwd := [], lam := false, sup := false, sups := [] }
/-- Rule.choice -/
def b35 : List NH.St :=
  [.ex (.call 39 [.var 1, .var 2] []), .ex (.call 41 [.meth (.var 1) 33 [] [], .var 3] []), .ret (.meth (.var 0) 46 [.al false (.lc (.var 4) (.nm 4) (.seq (.call 40 [.var 1, .var 2] [])) (some (.cmp .isin (.attr (.meth (.var 1) 44 [.var 4] []) 37) (.var 3))) [4])] [])]
def f35 : NH.PF := { at_ := ("Rule", some "choice"), st := L2.inClass (top 39) 2, qual := "Rule.choice", N := ["self", "book", "dating", "things", "key"], fn := { pos := [20, 47, 48, 33], dfl := [], kwo := [], slots := 5, pure := false, body := b35 }, dfl := [], kwd := [], lam := false, sup := false, sups := [] }
/-- Reviser.told -/
def b36 : List NH.St :=
  [.ret (.fstr [.sup 0 42 [], .str " ", .bi .len [.attr (.var 0) 19]])]
def f36 : NH.PF := { at_ := ("Reviser", some "told"), st := L2.inClass (top 41) 4, qual := "Reviser.told", N := ["self"], fn := { pos := [20], dfl := [], kwo := [], slots := 1, pure := false, body := b36 }, dfl := [], kwd := [], lam := false, sup := true, sups := [(0, 42, "told")] }
/-- Rule.__repr__ -/
def b37 : List NH.St :=
  [.ret (.fstr [.str "Rule(", .meth (.var 0) 8 [] [], .str ")"])]
def f37 : NH.PF := { at_ := ("Rule", some "__repr__"), st := L2.inClass (top 39) 5, qual := "Rule.__repr__", N := ["self"], fn := { pos := [20], dfl := [], kwo := [], slots := 1, pure := false, body := b37 }, dfl := [], kwd := [], lam := false, sup := false, sups := [] }
/-- Reviser.pairs -/
def b38 : List NH.St :=
  [.ret (.al true (.list (.attr (.var 0) 19)))]
def f38 : NH.PF := { at_ := ("Reviser", some "pairs"), st := L2.inClass (top 41) 2, qual := "Reviser.pairs", N := ["self"], fn := { pos := [20], dfl := [], kwo := [], slots := 1, pure := false, body := b38 }, dfl := [], kwd := [], lam := false, sup := false, sups := [] }
/-- need_dating -/
def b39 : List NH.St :=
  [.ifS (.not (.call 43 [.var 0, .var 1] [])) [.no] []]
def f39 : NH.PF := { at_ := ("need_dating", none), st := top 31, qual := "need_dating", N := ["book", "dating"], fn := { pos := [47, 48], dfl := [], kwo := [], slots := 2, pure := false, body := b39 }, dfl := [], kwd := [], lam := false, sup := false, sups := [] }
/-- row_of -/
def b40 : List NH.St :=
  [.asg (.nm 3) (.al false (.lc (.var 4) (.tp [4, 5]) (.seq (.call 44 [.var 0, .var 1] [(50, .var 2)])) none [4, 5])), .asg (.nm 6) (.al false (.lc (.var 4) (.nm 4) (.seq (.meth (.var 0) 51 [] [])) (some (.cmp .notin (.var 4) (.var 3))) [4])), .ret (.al false (.srtK (.var 6) (.tup [.not (.meth (.var 1) 52 [.var 0] []), .call 45 [.var 1, .var 2, .var 0] []]) [0, 1]))]
def f40 : NH.PF := { at_ := ("row_of", none), st := top 36, qual := "row_of", N := ["book", "dating", "scope", "gone", "key", "other", "left"], fn := { pos := [47, 48], dfl := [], kwo := [(50, some .non)], slots := 7, pure := false, body := b40 }, dfl := [], kwd := [("scope", .non)], lam := true, sup := false, sups := [] }
/-- need_things -/
def b41 : List NH.St :=
  [.forS (.nm 2) (.seq (.var 1)) [.ifS (.or (.not (.bi .isinstance [.var 2, .glo 5])) (.cmp .notin (.var 2) (.var 0))) [.no] []]]
def f41 : NH.PF := { at_ := ("need_things", none), st := top 27, qual := "need_things", N := ["known", "things", "thing"], fn := { pos := [53, 33], dfl := [], kwo := [], slots := 3, pure := false, body := b41 }, dfl := [], kwd := [], lam := false, sup := false, sups := [] }
/-- Rule.told -/
def b42 : List NH.St :=
  [.ret (.attr (.var 0) 9)]
def f42 : NH.PF := { at_ := ("Rule", some "told"), st := L2.inClass (top 39) 4, qual := "Rule.told", N := ["self"], fn := { pos := [20], dfl := [], kwo := [], slots := 1, pure := false, body := b42 }, dfl := [], kwd := [], lam := false, sup := false, sups := [] }
/-- is_dating -/
def b43 : List NH.St :=
  [.ifS (.or (.not (.bi .isinstance [.var 1, .glo 6])) (.cmp .ne (.bi .len [.var 1]) (.bi .len [.var 0]))) [.ret (.bl false)] [], .ret (.bi .all [.al false (.lc (.and (.cmp .isin (.attr (.var 2) 30) (.var 1)) (.meth (.var 2) 54 [.sub (.var 1) (.attr (.var 2) 30)] [])) (.nm 2) (.seq (.meth (.var 0) 34 [] [])) none [2])])]
def f43 : NH.PF := { at_ := ("is_dating", none), st := top 30, qual := "is_dating", N := ["book", "value", "label"], fn := { pos := [47, 35], dfl := [], kwo := [], slots := 3, pure := false, body := b43 }, dfl := [], kwd := [], lam := false, sup := false, sups := [] }
/-- barred -/
def b44 : List NH.St :=
  [.ex (.call 39 [.var 0, .var 1] []), .asg (.nm 3) (.al true (.lst [])), .forS (.nm 4) (.seq (.meth (.var 0) 51 [] [])) [.asg (.nm 5) (.ite (.meth (.var 0) 52 [.var 4] []) (.non) (.call 46 [.var 0, .var 1, .var 4, .var 2] [])), .ifS (.cmp .isnot (.var 5) (.non)) [.ex (.bm (.var 3) .append [.tup [.var 4, .var 5]])] []], .ret (.var 3)]
def f44 : NH.PF := { at_ := ("barred", none), st := top 35, qual := "barred", N := ["book", "dating", "scope", "found", "key", "other"], fn := { pos := [47, 48], dfl := [], kwo := [(50, some .non)], slots := 6, pure := true, body := b44 }, dfl := [], kwd := [("scope", .non)], lam := false, sup := false, sups := [] }
/-- age -/
def b45 : List NH.St :=
  [.ret (.tup [.sub (.var 1) (.var 2), .meth (.var 0) 55 [.var 2] []])]
def f45 : NH.PF := { at_ := ("age", none), st := top 32, qual := "age", N := ["book", "dating", "key"], fn := { pos := [47, 48, 30], dfl := [], kwo := [], slots := 3, pure := false, body := b45 }, dfl := [], kwd := [], lam := false, sup := false, sups := [] }
/-- barring -/
def b46 : List NH.St :=
  [.asg (.nm 4) (.al false (.lc (.var 5) (.nm 5) (.seq (.meth (.var 0) 56 [.var 2] [])) (some (.or (.cmp .is (.var 3) (.non)) (.cmp .isin (.attr (.meth (.var 0) 44 [.var 5] []) 37) (.var 3)))) [5])), .asg (.nm 4) (.al false (.lc (.var 5) (.nm 5) (.seq (.var 4)) (some (.cmp .lt (.call 45 [.var 0, .var 1, .var 5] []) (.call 45 [.var 0, .var 1, .var 2] []))) [5])), .ret (.ite (.cmp .ne (.var 4) (.al false (.lst []))) (.minK (.var 4) (.call 45 [.var 1, .var 2, .var 0] []) [0, 1]) (.non))]
def f46 : NH.PF := { at_ := ("barring", none), st := top 34, qual := "barring", N := ["book", "dating", "key", "scope", "rivals", "late"], fn := { pos := [47, 48, 30, 50], dfl := [], kwo := [], slots := 6, pure := false, body := b46 }, dfl := [], kwd := [], lam := true, sup := false, sups := [] }
/-- Book.things -/
def b47 : List NH.St :=
  [.ret (.al false (.list (.attr (.var 0) 27)))]
def f47 : NH.PF := { at_ := ("Book", some "things"), st := L2.inClass (top 28) 5, qual := "Book.things", N := ["self"], fn := { pos := [20], dfl := [], kwo := [], slots := 1, pure := false, body := b47 }, dfl := [], kwd := [], lam := false, sup := false, sups := [] }
/-- Book.labels -/
def b48 : List NH.St :=
  [.ret (.al false (.lc (.sub (.attr (.var 0) 28) (.var 1)) (.nm 1) (.keys 0 (some 28)) none [1]))]
def f48 : NH.PF := { at_ := ("Book", some "labels"), st := L2.inClass (top 28) 6, qual := "Book.labels", N := ["self", "key"], fn := { pos := [20], dfl := [], kwo := [], slots := 2, pure := false, body := b48 }, dfl := [], kwd := [], lam := false, sup := false, sups := [] }
/-- Book.active -/
def b49 : List NH.St :=
  [.ret (.al false (.lc (.var 1) (.nm 1) (.keys 0 (some 28)) (some (.cmp .notin (.var 1) (.attr (.var 0) 31))) [1]))]
def f49 : NH.PF := { at_ := ("Book", some "active"), st := L2.inClass (top 28) 10, qual := "Book.active", N := ["self", "key"], fn := { pos := [20], dfl := [], kwo := [], slots := 2, pure := false, body := b49 }, dfl := [], kwd := [], lam := false, sup := false, sups := [] }
/-- Book.need_key -/
def b50 : List NH.St :=
  [.ifS (.cmp .notin (.var 1) (.var 0)) [.no] []]
def f50 : NH.PF := { at_ := ("Book", some "need_key"), st := L2.inClass (top 28) 11, qual := "Book.need_key", N := ["self", "key"], fn := { pos := [20, 30], dfl := [], kwo := [], slots := 2, pure := false, body := b50 }, dfl := [], kwd := [], lam := false, sup := false, sups := [] }
/-- Book.label -/
def b51 : List NH.St :=
  [.ex (.meth (.var 0) 45 [.var 1] []), .ret (.sub (.attr (.var 0) 28) (.var 1))]
def f51 : NH.PF := { at_ := ("Book", some "label"), st := L2.inClass (top 28) 12, qual := "Book.label", N := ["self", "key"], fn := { pos := [20, 30], dfl := [], kwo := [], slots := 2, pure := false, body := b51 }, dfl := [], kwd := [], lam := false, sup := false, sups := [] }
/-- Book.is_kept -/
def b52 : List NH.St :=
  [.ex (.meth (.var 0) 45 [.var 1] []), .ret (.cmp .isin (.var 1) (.attr (.var 0) 32))]
def f52 : NH.PF := { at_ := ("Book", some "is_kept"), st := L2.inClass (top 28) 14, qual := "Book.is_kept", N := ["self", "key"], fn := { pos := [20, 30], dfl := [], kwo := [], slots := 2, pure := false, body := b52 }, dfl := [], kwd := [], lam := false, sup := false, sups := [] }
/-- Book.place -/
def b53 : List NH.St :=
  [.ret (.bm (.al false (.list (.attr (.var 0) 28))) .index [.var 1])]
def f53 : NH.PF := { at_ := ("Book", some "place"), st := L2.inClass (top 28) 15, qual := "Book.place", N := ["self", "key"], fn := { pos := [20, 30], dfl := [], kwo := [], slots := 2, pure := false, body := b53 }, dfl := [], kwd := [], lam := false, sup := false, sups := [] }
/-- Book.rivals -/
def b54 : List NH.St :=
  [.asg (.nm 2) (.meth (.var 0) 44 [.var 1] []), .asg (.nm 3) (.al true (.lst [])), .forS (.nm 4) (.seq (.meth (.var 0) 51 [] [])) [.asg (.nm 5) (.sub (.attr (.var 0) 28) (.var 4)), .ifS (.and (.cmp .eq (.attr (.var 5) 36) (.attr (.var 2) 36)) (.cmp .ne (.attr (.var 5) 37) (.attr (.var 2) 37))) [.ex (.bm (.var 3) .append [.var 4])] []], .ret (.var 3)]
def f54 : NH.PF := { at_ := ("Book", some "rivals"), st := L2.inClass (top 28) 17, qual := "Book.rivals", N := ["self", "key", "here", "found", "other", "late"], fn := { pos := [20, 30], dfl := [], kwo := [], slots := 6, pure := true, body := b54 }, dfl := [], kwd := [], lam := false, sup := false, sups := [] }
/-- Label.may_be -/
def b55 : List NH.St :=
  [.ret (.call 28 [.var 1, .attr (.var 0) 38, .attr (.var 0) 39] [])]
def f55 : NH.PF := { at_ := ("Label", some "may_be"), st := L2.inClass (top 22) 2, qual := "Label.may_be", N := ["self", "date"], fn := { pos := [20, 57], dfl := [], kwo := [], slots := 2, pure := false, body := b55 }, dfl := [], kwd := [], lam := false, sup := false, sups := [] }
/-- Reviser.pick -/
def b56 : List NH.St :=
  [.asg (.nm 2) (.al false (.lc (.var 3) (.nm 3) (.seq (.var 1)) (some (.not (.bi .any [.al false (.lc (.cmp .isin (.tup [.var 4, .var 3]) (.attr (.var 0) 19)) (.nm 4) (.seq (.var 1)) none [4])]))) [3])), .ret (.sup 0 57 [.ite (.cmp .ne (.var 2) (.al false (.lst []))) (.var 2) (.var 1)])]
def f56 : NH.PF := { at_ := ("Reviser", some "pick"), st := L2.inClass (top 41) 3, qual := "Reviser.pick", N := ["self", "line", "left", "key", "late"], fn := { pos := [20, 58], dfl := [], kwo := [], slots := 5, pure := false, body := b56 }, dfl := [], kwd := [], lam := false, sup := true, sups := [(0, 57, "pick")] }
/-- Rule.pick -/
def b57 : List NH.St :=
  [.ret (.ite (.cmp .ne (.var 1) (.al false (.lst []))) (.sub (.var 1) (.int 0)) (.non))]
def f57 : NH.PF := { at_ := ("Rule", some "pick"), st := L2.inClass (top 39) 3, qual := "Rule.pick", N := ["self", "line"], fn := { pos := [20, 58], dfl := [], kwo := [], slots := 2, pure := false, body := b57 }, dfl := [], kwd := [], lam := false, sup := false, sups := [] }
def fns : List NH.PF := [f0, f1, f2, f3, f4, f5, f6, f7, f8, f9, f10, f11, f12, f13, f14, f15, f16, f17, f18, f19, f20, f21, f22, f23, f24, f25, f26, f27, f28, f29, f30, f31, f32, f33, f34, f35, f36, f37, f38, f39, f40, f41, f42, f43, f44, f45, f46, f47, f48, f49, f50, f51, f52, f53, f54, f55, f56, f57]
def cls : List NH.PC := [⟨"Reviser", ⟨0, (some 7), [(6, 34), (7, 35), (46, 56), (8, 36), (4, 37), (5, 38)], [(9, .str "reviser")], [0, 3], [19]⟩, [.str "reviser"]⟩,
  ⟨"Book", ⟨0, (some 15), [(29, 29), (33, 47), (34, 48), (51, 49), (45, 50), (44, 51), (52, 52), (55, 53), (56, 54), (3, 30), (1, 31), (4, 32)], [], [1], [27, 28, 31, 32]⟩, []⟩,
  ⟨"Label", ⟨0, (some 24), [(54, 55), (4, 33)], [], [2], [30, 36, 37, 38, 39]⟩, []⟩,
  ⟨"Rule", ⟨0, none, [], [], [3], []⟩, []⟩,
  ⟨"MostUsed", ⟨0, none, [], [], [4, 3], []⟩, []⟩]
def glo : List (PySem.Str × NH.T) := [("Rule", .cls 3), ("MostUsed", .cls 4), ("tuple", .ty "tuple"), ("bool", .ty "bool"), ("int", .ty "int"), ("str", .ty "str"), ("dict", .ty "dict"), ("list", .ty "list"), ("MOST_LETTERS", .int 6), ("LETTERS", .str "abcdefghijklmnopqrstuvwxyz"), ("MOST_THINGS", .int 8), ("MOST_DATE", .int 9999), ("MOST_LABELS_books", .int 16), ("Label", .cls 2)]
def prg : NH.Prg := ⟨nm, fns, cls, glo, by decide +kernel⟩
def lawIx : Nat := 0
def lawAt : Nat := 63
def loose0 : List PySem.Str := ["_wall", "StandError", "Missing", "InvalidWord", "InvalidDate", "InvalidThings", "InvalidLabel", "InvalidRuling", "InvalidDating", "InvalidPair", "InvalidCount", "UnknownThing", "UnknownKey", "LETTERS", "MOST_LETTERS", "MOST_DATE", "is_word", "is_number", "is_date", "is_listed", "Label", "MOST_THINGS", "MOST_LABELS_books", "check_things", "need_things"]
def loose1 : List PySem.Str := ["Book", "is_dating", "need_dating", "age", "barring", "barred", "row_of", "MOST_COUNT", "Rule", "MostUsed", "Reviser", "_law_feed", "_law_take", "_law_of", "_law_same", "_law_mixed", "_law_new_names", "_law_words", "_law_spec", "_law_labels", "_law_made", "_law_keys", "_law_active", "_law_label", "_law_bearer"]
def loose2 : List PySem.Str := ["_law_rivals", "_law_age", "_law_is_older", "_law_barring", "_law_row", "_law_dating"]
def loose : List PySem.Str := loose0 ++ loose1 ++ loose2
end LW
end
section
namespace LW
open PySem PySem.Spec PyProof.Rows L2
abbrev Rr : PySem.W.OpenRow := PySem.W.OpenLaw.row PySem.Challenge.rw_namehold_k50_rules_of_revisers
def ad0 : List PySem.Addr := [2, 3, 6, 4, 21, 31, 44, 66, 87, 108, 129, 150, 171, 192, 213, 234, 255, 262, 269, 276, 283, 343, 354, 361, 560, 569, 576, 583, 588, 596, 602, 643, 684, 723, 730, 737, 744, 749, 756, 761]
def ad1 : List PySem.Addr := [766, 771, 776, 783, 788, 793, 798, 805, 810, 817, 824, 829, 834, 841, 846, 0, 20, 30, 43, 65, 86, 107, 128, 149, 170, 191, 212, 233, 254, 261, 268, 275, 282, 342, 353, 360, 559, 568, 575, 582]
def ad2 : List PySem.Addr := [587, 595, 589, 601, 597, 642, 683, 722, 729, 736, 743, 748, 755, 760, 765, 770, 775, 782, 787, 792, 797, 804, 809, 816, 823, 828, 833, 840, 845, 15, 16, 17, 18, 19, 29, 32, 42, 45, 63, 64]
def ad3 : List PySem.Addr := [84, 85, 105, 106, 126, 127, 147, 148, 168, 169, 189, 190, 210, 211, 231, 232, 252, 253, 258, 259, 260, 263, 264, 265, 266, 267, 270, 271, 272, 273, 274, 277, 278, 279, 280, 281, 298, 305, 312, 319]
def ad4 : List PySem.Addr := [326, 333, 340, 341, 344, 345, 348, 349, 350, 351, 352, 355, 356, 357, 358, 359, 378, 385, 394, 402, 407, 414, 421, 428, 433, 440, 447, 454, 461, 468, 475, 482, 489, 496, 503, 510, 517, 522, 529, 536]
def ad5 : List PySem.Addr := [543, 550, 557, 558, 561, 562, 565, 566, 567, 570, 571, 572, 573, 574, 577, 578, 579, 580, 581, 584, 585, 586, 590, 591, 592, 593, 594, 598, 599, 600, 614, 619, 626, 633, 640, 641, 644, 645, 660, 667]
def ad6 : List PySem.Addr := [673, 681, 682, 699, 706, 712, 720, 721, 726, 727, 728, 731, 732, 733, 734, 735, 738, 739, 740, 741, 742, 745, 746, 747, 750, 751, 752, 753, 754, 757, 758, 759, 762, 763, 764, 767, 768, 769, 772, 773]
def ad7 : List PySem.Addr := [774, 777, 778, 779, 780, 781, 784, 785, 786, 789, 790, 791, 794, 795, 796, 799, 800, 801, 802, 803, 806, 807, 808, 811, 812, 813, 814, 815, 818, 819, 820, 821, 822, 825, 826, 827, 830, 831, 832, 835]
def ad8 : List PySem.Addr := [836, 837, 838, 839, 842, 843, 844, 62, 51, 83, 72, 104, 93, 125, 114, 146, 135, 167, 156, 188, 177, 209, 198, 230, 219, 251, 240, 297, 291, 304, 311, 318, 325, 332, 339, 377, 372, 373, 384, 392]
def ad9 : List PySem.Addr := [393, 401, 406, 413, 420, 427, 432, 439, 446, 453, 460, 467, 474, 481, 488, 495, 502, 509, 516, 521, 528, 535, 542, 549, 556, 613, 618, 625, 632, 639, 659, 666, 672, 651, 680, 698, 705, 711, 690, 719]
def ad10 : List PySem.Addr := [57, 58, 59, 60, 61, 78, 79, 80, 81, 82, 99, 100, 101, 102, 103, 120, 121, 122, 123, 124, 141, 142, 143, 144, 145, 162, 163, 164, 165, 166, 183, 184, 185, 186, 187, 204, 205, 206, 207, 208]
def ad11 : List PySem.Addr := [225, 226, 227, 228, 229, 246, 247, 248, 249, 250, 292, 293, 294, 295, 296, 299, 300, 301, 302, 303, 306, 307, 308, 309, 310, 313, 314, 315, 316, 317, 320, 321, 322, 323, 324, 327, 328, 329, 330, 331]
def ad12 : List PySem.Addr := [334, 335, 336, 337, 338, 374, 375, 376, 369, 370, 371, 379, 380, 381, 382, 383, 391, 395, 396, 397, 398, 399, 400, 403, 404, 405, 408, 409, 410, 411, 412, 415, 416, 417, 418, 419, 422, 423, 424, 425]
def ad13 : List PySem.Addr := [426, 429, 430, 431, 434, 435, 436, 437, 438, 441, 442, 443, 444, 445, 448, 449, 450, 451, 452, 455, 456, 457, 458, 459, 462, 463, 464, 465, 466, 469, 470, 471, 472, 473, 476, 477, 478, 479, 480, 483]
def ad14 : List PySem.Addr := [484, 485, 486, 487, 490, 491, 492, 493, 494, 497, 498, 499, 500, 501, 504, 505, 506, 507, 508, 511, 512, 513, 514, 515, 518, 519, 520, 523, 524, 525, 526, 527, 530, 531, 532, 533, 534, 537, 538, 539]
def ad15 : List PySem.Addr := [540, 541, 544, 545, 546, 547, 548, 551, 552, 553, 554, 555, 610, 611, 612, 615, 616, 617, 620, 621, 622, 623, 624, 627, 628, 629, 630, 631, 634, 635, 636, 637, 638, 656, 657, 658, 661, 662, 663, 664]
def ad16 : List PySem.Addr := [665, 669, 670, 671, 675, 676, 677, 678, 679, 695, 696, 697, 700, 701, 702, 703, 704, 708, 709, 710, 714, 715, 716, 717, 718]
def adl : List PySem.Addr := ad0 ++ ad1 ++ ad2 ++ ad3 ++ ad4 ++ ad5 ++ ad6 ++ ad7 ++ ad8 ++ ad9 ++ ad10 ++ ad11 ++ ad12 ++ ad13 ++ ad14 ++ ad15 ++ ad16
def file : PySem.Str := Rr.prog.main.file
abbrev hk : PySem.W.Hook := NH.hookY adl prg file
def ob (s : PySem.W.SharedT) : NH.AlY := NH.obsY adl prg file (HandSHeadRun.getT s)
theorem ob_eq (s : PySem.W.SharedT) : ob s = hk.obs s.abs := NH.obsY_eq (HandSHeadRun.getT_eq s)
theorem run (w : World) : HandSHeadRun.RunEq Rr (PySem.W.view Rr.prog [63]) hk ob 20000 loose w := by
  intro os
  kernel_rfl
end LW
end
section
namespace LW
open PySem NH
abbrev G : Gam := prg.gam
section
variable {n : Nat} {S : Store} {D : NH.Run}
theorem rf0 {vs : List T} : runN G (n + 1) 0 vs S = (execs G (runN G n) b0 (startF 23 vs) S).toR := rfl
@[simp] theorem cf0_1 {x0 : T} : callF G D 0 [x0] [] S = D 0 [x0] S := Eq.trans rfl rfl
theorem rf1 {vs : List T} : runN G (n + 1) 1 vs S = (execs G (runN G n) b1 (startF 4 vs) S).toR := rfl
@[simp] theorem cf1_1 {x0 : T} : callF G D 1 [x0] [] S = D 1 [x0] S := Eq.trans rfl rfl
theorem rf2 {vs : List T} : runN G (n + 1) 2 vs S = sealR S (execs G (runN G n) b2 (startF 15 vs) S).toR := rfl
@[simp] theorem cf2_4 {x0 x1 x2 x3 : T} : callF G D 2 [x0, x1, x2, x3] [] S = D 2 [x0, x1, x2, x3] S := Eq.trans rfl rfl
theorem rf3 {vs : List T} : runN G (n + 1) 3 vs S = (execs G (runN G n) b3 (startF 1 vs) S).toR := rfl
@[simp] theorem cf3_1 {x0 : T} : callF G D 3 [x0] [] S = D 3 [x0] S := Eq.trans rfl rfl
theorem rf4 {vs : List T} : runN G (n + 1) 4 vs S = sealR S (execs G (runN G n) b4 (startF 4 vs) S).toR := rfl
@[simp] theorem cf4_2 {x0 x1 : T} : callF G D 4 [x0, x1] [] S = D 4 [x0, x1] S := Eq.trans rfl rfl
theorem rf5 {vs : List T} : runN G (n + 1) 5 vs S = (execs G (runN G n) b5 (startF 2 vs) S).toR := rfl
@[simp] theorem cf5_1 {x0 : T} : callF G D 5 [x0] [] S = D 5 [x0] S := Eq.trans rfl rfl
theorem rf6 {vs : List T} : runN G (n + 1) 6 vs S = (execs G (runN G n) b6 (startF 6 vs) S).toR := rfl
@[simp] theorem cf6_2 {x0 x1 : T} : callF G D 6 [x0, x1] [] S = D 6 [x0, x1] S := Eq.trans rfl rfl
theorem rf7 {vs : List T} : runN G (n + 1) 7 vs S = (execs G (runN G n) b7 (startF 5 vs) S).toR := rfl
@[simp] theorem cf7_2 {x0 x1 : T} : callF G D 7 [x0, x1] [] S = D 7 [x0, x1] S := Eq.trans rfl rfl
theorem rf8 {vs : List T} : runN G (n + 1) 8 vs S = sealR S (execs G (runN G n) b8 (startF 6 vs) S).toR := rfl
@[simp] theorem cf8_3 {x0 x1 x2 : T} : callF G D 8 [x0, x1, x2] [] S = D 8 [x0, x1, x2] S := Eq.trans rfl rfl
theorem rf9 {vs : List T} : runN G (n + 1) 9 vs S = sealR S (execs G (runN G n) b9 (startF 4 vs) S).toR := rfl
@[simp] theorem cf9_2 {x0 x1 : T} : callF G D 9 [x0, x1] [] S = D 9 [x0, x1] S := Eq.trans rfl rfl
theorem rf10 {vs : List T} : runN G (n + 1) 10 vs S = (execs G (runN G n) b10 (startF 2 vs) S).toR := rfl
@[simp] theorem cf10_2 {x0 x1 : T} : callF G D 10 [x0, x1] [] S = D 10 [x0, x1] S := Eq.trans rfl rfl
theorem rf11 {vs : List T} : runN G (n + 1) 11 vs S = (execs G (runN G n) b11 (startF 5 vs) S).toR := rfl
@[simp] theorem cf11_2 {x0 x1 : T} : callF G D 11 [x0, x1] [] S = D 11 [x0, x1] S := Eq.trans rfl rfl
theorem rf12 {vs : List T} : runN G (n + 1) 12 vs S = (execs G (runN G n) b12 (startF 7 vs) S).toR := rfl
@[simp] theorem cf12_2 {x0 x1 : T} : callF G D 12 [x0, x1] [] S = D 12 [x0, x1] S := Eq.trans rfl rfl
theorem rf13 {vs : List T} : runN G (n + 1) 13 vs S = (execs G (runN G n) b13 (startF 2 vs) S).toR := rfl
@[simp] theorem cf13_2 {x0 x1 : T} : callF G D 13 [x0, x1] [] S = D 13 [x0, x1] S := Eq.trans rfl rfl
theorem rf14 {vs : List T} : runN G (n + 1) 14 vs S = (execs G (runN G n) b14 (startF 4 vs) S).toR := rfl
@[simp] theorem cf14_2 {x0 x1 : T} : callF G D 14 [x0, x1] [] S = D 14 [x0, x1] S := Eq.trans rfl rfl
theorem rf15 {vs : List T} : runN G (n + 1) 15 vs S = (execs G (runN G n) b15 (startF 8 vs) S).toR := rfl
theorem rf16 {vs : List T} : runN G (n + 1) 16 vs S = (execs G (runN G n) b16 (startF 2 vs) S).toR := rfl
@[simp] theorem cf16_1 {x0 : T} : callF G D 16 [x0] [] S = D 16 [x0] S := Eq.trans rfl rfl
theorem rf17 {vs : List T} : runN G (n + 1) 17 vs S = (execs G (runN G n) b17 (startF 1 vs) S).toR := rfl
@[simp] theorem cf17_1 {x0 : T} : callF G D 17 [x0] [] S = D 17 [x0] S := Eq.trans rfl rfl
theorem rf18 {vs : List T} : runN G (n + 1) 18 vs S = (execs G (runN G n) b18 (startF 2 vs) S).toR := rfl
@[simp] theorem cf18_1 {x0 : T} : callF G D 18 [x0] [] S = D 18 [x0] S := Eq.trans rfl rfl
theorem rf19 {vs : List T} : runN G (n + 1) 19 vs S = (execs G (runN G n) b19 (startF 2 vs) S).toR := rfl
@[simp] theorem cf19_1 {x0 : T} : callF G D 19 [x0] [] S = D 19 [x0] S := Eq.trans rfl rfl
theorem rf20 {vs : List T} : runN G (n + 1) 20 vs S = (execs G (runN G n) b20 (startF 8 vs) S).toR := rfl
@[simp] theorem cf20_4 {x0 x1 x2 x3 : T} : callF G D 20 [x0, x1, x2, x3] [] S = D 20 [x0, x1, x2, x3] S := Eq.trans rfl rfl
theorem rf21 {vs : List T} : runN G (n + 1) 21 vs S = (execs G (runN G n) b21 (startF 3 vs) S).toR := rfl
@[simp] theorem cf21_3 {x0 x1 x2 : T} : callF G D 21 [x0, x1, x2] [] S = D 21 [x0, x1, x2] S := Eq.trans rfl rfl
theorem rf22 {vs : List T} : runN G (n + 1) 22 vs S = (execs G (runN G n) b22 (startF 3 vs) S).toR := rfl
@[simp] theorem cf22_2 {x0 x1 : T} : callF G D 22 [x0, x1] [] S = D 22 [x0, x1] S := Eq.trans rfl rfl
theorem rf23 {vs : List T} : runN G (n + 1) 23 vs S = (execs G (runN G n) b23 (startF 3 vs) S).toR := rfl
@[simp] theorem cf23_1 {x0 : T} : callF G D 23 [x0] [] S = D 23 [x0] S := Eq.trans rfl rfl
theorem rf24 {vs : List T} : runN G (n + 1) 24 vs S = (execs G (runN G n) b24 (startF 7 vs) S).toR := rfl
@[simp] theorem cf24_5 {x0 x1 x2 x3 x4 : T} : callF G D 24 [x0, x1, x2, x3, x4] [] S = D 24 [x0, x1, x2, x3, x4, .non] S := Eq.trans rfl rfl
@[simp] theorem cf24_6 {x0 x1 x2 x3 x4 x5 : T} : callF G D 24 [x0, x1, x2, x3, x4, x5] [] S = D 24 [x0, x1, x2, x3, x4, x5] S := Eq.trans rfl rfl
theorem rf25 {vs : List T} : runN G (n + 1) 25 vs S = (execs G (runN G n) b25 (startF 4 vs) S).toR := rfl
@[simp] theorem cf25_2 {x0 x1 : T} : callF G D 25 [x0, x1] [] S = D 25 [x0, x1] S := Eq.trans rfl rfl
theorem rf26 {vs : List T} : runN G (n + 1) 26 vs S = (execs G (runN G n) b26 (startF 4 vs) S).toR := rfl
@[simp] theorem cf26_4 {x0 x1 x2 x3 : T} : callF G D 26 [x0, x1, x2, x3] [] S = D 26 [x0, x1, x2, x3] S := Eq.trans rfl rfl
theorem rf27 {vs : List T} : runN G (n + 1) 27 vs S = (execs G (runN G n) b27 (startF 1 vs) S).toR := rfl
@[simp] theorem cf27_1 {x0 : T} : callF G D 27 [x0] [] S = D 27 [x0] S := Eq.trans rfl rfl
theorem rf28 {vs : List T} : runN G (n + 1) 28 vs S = (execs G (runN G n) b28 (startF 3 vs) S).toR := rfl
@[simp] theorem cf28_3 {x0 x1 x2 : T} : callF G D 28 [x0, x1, x2] [] S = D 28 [x0, x1, x2] S := Eq.trans rfl rfl
theorem rf29 {vs : List T} : runN G (n + 1) 29 vs S = (execs G (runN G n) b29 (startF 2 vs) S).toR := rfl
@[simp] theorem cf29_2 {x0 x1 : T} : callF G D 29 [x0, x1] [] S = D 29 [x0, x1] S := Eq.trans rfl rfl
theorem rf30 {vs : List T} : runN G (n + 1) 30 vs S = (execs G (runN G n) b30 (startF 2 vs) S).toR := rfl
@[simp] theorem cf30_2 {x0 x1 : T} : callF G D 30 [x0, x1] [] S = D 30 [x0, x1] S := Eq.trans rfl rfl
theorem rf31 {vs : List T} : runN G (n + 1) 31 vs S = (execs G (runN G n) b31 (startF 1 vs) S).toR := rfl
@[simp] theorem cf31_1 {x0 : T} : callF G D 31 [x0] [] S = D 31 [x0] S := Eq.trans rfl rfl
theorem rf32 {vs : List T} : runN G (n + 1) 32 vs S = (execs G (runN G n) b32 (startF 1 vs) S).toR := rfl
@[simp] theorem cf32_1 {x0 : T} : callF G D 32 [x0] [] S = D 32 [x0] S := Eq.trans rfl rfl
theorem rf33 {vs : List T} : runN G (n + 1) 33 vs S = (execs G (runN G n) b33 (startF 1 vs) S).toR := rfl
@[simp] theorem cf33_1 {x0 : T} : callF G D 33 [x0] [] S = D 33 [x0] S := Eq.trans rfl rfl
theorem rf34 {vs : List T} : runN G (n + 1) 34 vs S = (execs G (runN G n) b34 (startF 5 vs) S).toR := rfl
@[simp] theorem cf34_4 {x0 x1 x2 x3 : T} : callF G D 34 [x0, x1, x2, x3] [] S = D 34 [x0, x1, x2, x3] S := Eq.trans rfl rfl
theorem rf35 {vs : List T} : runN G (n + 1) 35 vs S = (execs G (runN G n) b35 (startF 5 vs) S).toR := rfl
@[simp] theorem cf35_4 {x0 x1 x2 x3 : T} : callF G D 35 [x0, x1, x2, x3] [] S = D 35 [x0, x1, x2, x3] S := Eq.trans rfl rfl
theorem rf36 {vs : List T} : runN G (n + 1) 36 vs S = (execs G (runN G n) b36 (startF 1 vs) S).toR := rfl
@[simp] theorem cf36_1 {x0 : T} : callF G D 36 [x0] [] S = D 36 [x0] S := Eq.trans rfl rfl
theorem rf37 {vs : List T} : runN G (n + 1) 37 vs S = (execs G (runN G n) b37 (startF 1 vs) S).toR := rfl
@[simp] theorem cf37_1 {x0 : T} : callF G D 37 [x0] [] S = D 37 [x0] S := Eq.trans rfl rfl
theorem rf38 {vs : List T} : runN G (n + 1) 38 vs S = (execs G (runN G n) b38 (startF 1 vs) S).toR := rfl
@[simp] theorem cf38_1 {x0 : T} : callF G D 38 [x0] [] S = D 38 [x0] S := Eq.trans rfl rfl
theorem rf39 {vs : List T} : runN G (n + 1) 39 vs S = (execs G (runN G n) b39 (startF 2 vs) S).toR := rfl
@[simp] theorem cf39_2 {x0 x1 : T} : callF G D 39 [x0, x1] [] S = D 39 [x0, x1] S := Eq.trans rfl rfl
theorem rf40 {vs : List T} : runN G (n + 1) 40 vs S = (execs G (runN G n) b40 (startF 7 vs) S).toR := rfl
theorem rf41 {vs : List T} : runN G (n + 1) 41 vs S = (execs G (runN G n) b41 (startF 3 vs) S).toR := rfl
@[simp] theorem cf41_2 {x0 x1 : T} : callF G D 41 [x0, x1] [] S = D 41 [x0, x1] S := Eq.trans rfl rfl
theorem rf42 {vs : List T} : runN G (n + 1) 42 vs S = (execs G (runN G n) b42 (startF 1 vs) S).toR := rfl
@[simp] theorem cf42_1 {x0 : T} : callF G D 42 [x0] [] S = D 42 [x0] S := Eq.trans rfl rfl
theorem rf43 {vs : List T} : runN G (n + 1) 43 vs S = (execs G (runN G n) b43 (startF 3 vs) S).toR := rfl
@[simp] theorem cf43_2 {x0 x1 : T} : callF G D 43 [x0, x1] [] S = D 43 [x0, x1] S := Eq.trans rfl rfl
theorem rf44 {vs : List T} : runN G (n + 1) 44 vs S = sealR S (execs G (runN G n) b44 (startF 6 vs) S).toR := rfl
theorem rf45 {vs : List T} : runN G (n + 1) 45 vs S = (execs G (runN G n) b45 (startF 3 vs) S).toR := rfl
@[simp] theorem cf45_3 {x0 x1 x2 : T} : callF G D 45 [x0, x1, x2] [] S = D 45 [x0, x1, x2] S := Eq.trans rfl rfl
theorem rf46 {vs : List T} : runN G (n + 1) 46 vs S = (execs G (runN G n) b46 (startF 6 vs) S).toR := rfl
@[simp] theorem cf46_4 {x0 x1 x2 x3 : T} : callF G D 46 [x0, x1, x2, x3] [] S = D 46 [x0, x1, x2, x3] S := Eq.trans rfl rfl
theorem rf47 {vs : List T} : runN G (n + 1) 47 vs S = (execs G (runN G n) b47 (startF 1 vs) S).toR := rfl
@[simp] theorem cf47_1 {x0 : T} : callF G D 47 [x0] [] S = D 47 [x0] S := Eq.trans rfl rfl
theorem rf48 {vs : List T} : runN G (n + 1) 48 vs S = (execs G (runN G n) b48 (startF 2 vs) S).toR := rfl
@[simp] theorem cf48_1 {x0 : T} : callF G D 48 [x0] [] S = D 48 [x0] S := Eq.trans rfl rfl
theorem rf49 {vs : List T} : runN G (n + 1) 49 vs S = (execs G (runN G n) b49 (startF 2 vs) S).toR := rfl
@[simp] theorem cf49_1 {x0 : T} : callF G D 49 [x0] [] S = D 49 [x0] S := Eq.trans rfl rfl
theorem rf50 {vs : List T} : runN G (n + 1) 50 vs S = (execs G (runN G n) b50 (startF 2 vs) S).toR := rfl
@[simp] theorem cf50_2 {x0 x1 : T} : callF G D 50 [x0, x1] [] S = D 50 [x0, x1] S := Eq.trans rfl rfl
theorem rf51 {vs : List T} : runN G (n + 1) 51 vs S = (execs G (runN G n) b51 (startF 2 vs) S).toR := rfl
@[simp] theorem cf51_2 {x0 x1 : T} : callF G D 51 [x0, x1] [] S = D 51 [x0, x1] S := Eq.trans rfl rfl
theorem rf52 {vs : List T} : runN G (n + 1) 52 vs S = (execs G (runN G n) b52 (startF 2 vs) S).toR := rfl
@[simp] theorem cf52_2 {x0 x1 : T} : callF G D 52 [x0, x1] [] S = D 52 [x0, x1] S := Eq.trans rfl rfl
theorem rf53 {vs : List T} : runN G (n + 1) 53 vs S = (execs G (runN G n) b53 (startF 2 vs) S).toR := rfl
@[simp] theorem cf53_2 {x0 x1 : T} : callF G D 53 [x0, x1] [] S = D 53 [x0, x1] S := Eq.trans rfl rfl
theorem rf54 {vs : List T} : runN G (n + 1) 54 vs S = sealR S (execs G (runN G n) b54 (startF 6 vs) S).toR := rfl
@[simp] theorem cf54_2 {x0 x1 : T} : callF G D 54 [x0, x1] [] S = D 54 [x0, x1] S := Eq.trans rfl rfl
theorem rf55 {vs : List T} : runN G (n + 1) 55 vs S = (execs G (runN G n) b55 (startF 2 vs) S).toR := rfl
@[simp] theorem cf55_2 {x0 x1 : T} : callF G D 55 [x0, x1] [] S = D 55 [x0, x1] S := Eq.trans rfl rfl
theorem rf56 {vs : List T} : runN G (n + 1) 56 vs S = (execs G (runN G n) b56 (startF 5 vs) S).toR := rfl
@[simp] theorem cf56_2 {x0 x1 : T} : callF G D 56 [x0, x1] [] S = D 56 [x0, x1] S := Eq.trans rfl rfl
theorem rf57 {vs : List T} : runN G (n + 1) 57 vs S = (execs G (runN G n) b57 (startF 2 vs) S).toR := rfl
@[simp] theorem cf57_2 {x0 x1 : T} : callF G D 57 [x0, x1] [] S = D 57 [x0, x1] S := Eq.trans rfl rfl
@[simp] theorem gg0 : G.glo 0 = some (.cls 3) := Eq.trans rfl rfl
@[simp] theorem gg1 : G.glo 1 = some (.cls 4) := Eq.trans rfl rfl
@[simp] theorem gg2 : G.glo 2 = some (.ty "tuple") := Eq.trans rfl rfl
@[simp] theorem gg3 : G.glo 3 = some (.ty "bool") := Eq.trans rfl rfl
@[simp] theorem gg4 : G.glo 4 = some (.ty "int") := Eq.trans rfl rfl
@[simp] theorem gg5 : G.glo 5 = some (.ty "str") := Eq.trans rfl rfl
@[simp] theorem gg6 : G.glo 6 = some (.ty "dict") := Eq.trans rfl rfl
@[simp] theorem gg7 : G.glo 7 = some (.ty "list") := Eq.trans rfl rfl
@[simp] theorem gg8 : G.glo 8 = some (.int 6) := Eq.trans rfl rfl
@[simp] theorem gg9 : G.glo 9 = some (.str "abcdefghijklmnopqrstuvwxyz") := Eq.trans rfl rfl
@[simp] theorem gg10 : G.glo 10 = some (.int 8) := Eq.trans rfl rfl
@[simp] theorem gg11 : G.glo 11 = some (.int 9999) := Eq.trans rfl rfl
@[simp] theorem gg12 : G.glo 12 = some (.int 16) := Eq.trans rfl rfl
@[simp] theorem gg13 : G.glo 13 = some (.cls 2) := Eq.trans rfl rfl
@[simp] theorem gc0 : G.cls 0 = some (⟨0, (some 7), [(6, 34), (7, 35), (46, 56), (8, 36), (4, 37), (5, 38)], [(9, .str "reviser")], [0, 3], [19]⟩ : Cl) := Eq.trans rfl rfl
@[simp] theorem gc1 : G.cls 1 = some (⟨0, (some 15), [(29, 29), (33, 47), (34, 48), (51, 49), (45, 50), (44, 51), (52, 52), (55, 53), (56, 54), (3, 30), (1, 31), (4, 32)], [], [1], [27, 28, 31, 32]⟩ : Cl) := Eq.trans rfl rfl
@[simp] theorem gc2 : G.cls 2 = some (⟨0, (some 24), [(54, 55), (4, 33)], [], [2], [30, 36, 37, 38, 39]⟩ : Cl) := Eq.trans rfl rfl
@[simp] theorem gc3 : G.cls 3 = some (⟨0, none, [], [], [3], []⟩ : Cl) := Eq.trans rfl rfl
@[simp] theorem gc4 : G.cls 4 = some (⟨0, none, [], [], [4, 3], []⟩ : Cl) := Eq.trans rfl rfl
@[simp] theorem ck15 {x0 x1 x2 y0 y1 : T} : callF G D 15 [x0, x1, x2] [(15, y0), (16, y1)] S = D 15 [x0, x1, x2, y0, y1] S := Eq.trans rfl rfl
@[simp] theorem ck40 {x0 x1 y0 : T} : callF G D 40 [x0, x1] [(50, y0)] S = D 40 [x0, x1, y0] S := Eq.trans rfl rfl
@[simp] theorem cn40 {x0 x1 : T} : callF G D 40 [x0, x1] [] S = D 40 [x0, x1, .non] S := Eq.trans rfl rfl
@[simp] theorem ck44 {x0 x1 y0 : T} : callF G D 44 [x0, x1] [(50, y0)] S = D 44 [x0, x1, y0] S := Eq.trans rfl rfl
@[simp] theorem cn44 {x0 x1 : T} : callF G D 44 [x0, x1] [] S = D 44 [x0, x1, .non] S := Eq.trans rfl rfl
end
end LW
end
section
namespace LW
open PySem hiding exec execs
open NH
open L2 (atI ixN)
/-! ### the feed -/
structure Fd where
  cs : List Int
  a : Int
  b : Int
  m : Int
def Fd.its (F : Fd) : List T := [.lst (F.cs.map T.int), .int F.a, .int F.b, .int F.m]
def Fd.nd (F : Fd) : Nd := .lst F.its
section
variable {S : Store} {k : Nat} {F : Fd}
theorem fd0 (h : S.nd k = some F.nd) : subT (.ref k) (.int 0) S = .ok (.lst (F.cs.map T.int)) S := sub_ref h
theorem fd1 (h : S.nd k = some F.nd) : subT (.ref k) (.int 1) S = .ok (.int F.a) S := sub_ref h
theorem fd2 (h : S.nd k = some F.nd) : subT (.ref k) (.int 2) S = .ok (.int F.b) S := sub_ref h
theorem fd3 (h : S.nd k = some F.nd) : subT (.ref k) (.int 3) S = .ok (.int F.m) S := sub_ref h
theorem st1 (h : S.nd k = some F.nd) {G : Gam} {D : NH.Run} {v : Int} {ρ : Fr} (hr : ρ[0]? = some (some (.ref k))) : stLv G D (.sbL (.var 0) (.int 1)) (.int v) ρ S = .nx ρ (S.set k (some (Fd.nd { F with a := v }))) := by
  simp only [stLv, q_ev_var, hr, R.thn_ok, q_ev_int, h]
  rfl
theorem st2 (h : S.nd k = some F.nd) {G : Gam} {D : NH.Run} {v : Int} {ρ : Fr} (hr : ρ[0]? = some (some (.ref k))) : stLv G D (.sbL (.var 0) (.int 2)) (.int v) ρ S = .nx ρ (S.set k (some (Fd.nd { F with b := v }))) := by
  simp only [stLv, q_ev_var, hr, R.thn_ok, q_ev_int, h]
  rfl
@[simp] theorem st_nm {i : Nat} {v : T} {ρ : Fr} {G : Gam} {D : NH.Run} : stLv G D (.nm i) v ρ S = .nx (ρ.set i (some v)) S := Eq.trans rfl rfl
end
theorem take_ok {S : Store} {k n : Nat} {F : Fd} {m : Int} (h : S.nd k = some F.nd) (ha : 0 ≤ F.a) (hm : 0 < m) (hm2 : m < 1073741824) :
    ∃ i F', runN G (n + 1) 6 [.ref k, .int m] S = .ok (.int i) (S.set k (some (Fd.nd F'))) ∧ 0 ≤ i ∧ i < m ∧ 0 ≤ Fd.a F' := by
  have hk := nd_lt h
  have hd : ∀ {F : Fd}, Store.nd (S.set k (some F.nd)) k = some F.nd := nd_set hk
  rw [rf6]
  have e31 : ∀ z : Int, (z % 2147483647).natAbs < 18446744073709551616 := fun z => by omega
  have e31' : ∀ z : Int, (z % 2147483647).natAbs < 2 ^ 64 := fun z => by omega
  have em : ∀ z : Int, 0 ≤ z % m ∧ z % m < m := fun z => ⟨Int.emod_nonneg _ (by omega), Int.emod_lt_of_pos _ hm⟩
  by_cases hb : F.b < 2
  · by_cases hl : F.a + 1 ≤ F.cs.length
    · have hl' : ¬ (F.cs.length : Int) < F.a + 1 := by omega
      obtain ⟨q, hq⟩ := Int.eq_ofNat_of_zero_le ha
      have hq2 : q < F.cs.length := by omega
      have ha' : atI (F.cs.map T.int) F.a = some (.int F.cs[q]) := by
        rw [hq, atI_nat (by simpa using hq2)]
        simp
      by_cases hc : F.cs[q] < 1000000000000000000
      · simp [b6, startF, fd2 h, hb, fd1 h, st1 h, fd3 hd, fd1 hd, fd0 hd, hl, hl', ha', hc, hm, e31]
        exact ⟨_, { F with a := F.a + 1 }, ⟨rfl, rfl⟩, (em _).1, (em _).2, by simp; omega⟩
      · simp [b6, startF, fd2 h, hb, fd1 h, st1 h, st2 hd, fd2 hd, fd3 hd, fd1 hd, fd0 hd, hl, hl', ha', hc, hm, hm2]
        exact ⟨_, { F with a := F.a + 1, b := F.cs[q] / m }, ⟨rfl, rfl⟩, (em _).1, (em _).2, by simp; omega⟩
    · have hl' : (F.cs.length : Int) < F.a + 1 := by omega
      simp [b6, startF, fd2 h, hb, fd1 h, st1 h, fd3 hd, fd1 hd, fd0 hd, hl, hl', hm, e31]
      exact ⟨_, { F with a := F.a + 1 }, ⟨rfl, rfl⟩, (em _).1, (em _).2, by simp; omega⟩
  · simp [b6, startF, fd2 h, hb, fd1 h, st2 h, hm, hm2]
    exact ⟨_, { F with b := F.b / m }, ⟨rfl, rfl⟩, (em _).1, (em _).2, ha⟩
end LW
end
section
namespace LW
open PySem hiding exec execs
open NH
open L2 (atI ixN)
/-! ### drawing: the feed moves on, all else stands -/
def Fed (S : Store) (k : Nat) : Prop := ∃ F : Fd, S.nd k = some F.nd ∧ 0 ≤ F.a
def Dr (S : Store) (k : Nat) (S' : Store) : Prop := ∃ F : Fd, S' = S.set k (some F.nd) ∧ 0 ≤ F.a
section
variable {S S' S'' E : Store} {k j n : Nat}
theorem Fed.lt (h : Fed S k) : k < S.length := by
  obtain ⟨F, h, _⟩ := h
  exact nd_lt h
theorem Fed.refl (h : Fed S k) : Dr S k S := by
  obtain ⟨F, h, a⟩ := h
  refine ⟨F, ?_, a⟩
  have hk := nd_lt h
  unfold Store.nd at h
  rw [List.getElem?_eq_getElem hk] at h
  simp only at h
  apply List.ext_getElem?
  intro i
  by_cases q : k = i
  · subst q
    rw [List.getElem?_set_self hk, List.getElem?_eq_getElem hk, h]
  · rw [List.getElem?_set_ne q]
theorem Dr.fed (h : Dr S k S') (hk : k < S.length) : Fed S' k := by
  obtain ⟨F, rfl, a⟩ := h
  exact ⟨F, nd_set hk, a⟩
theorem Dr.trans (h : Dr S k S') (h2 : Dr S' k S'') : Dr S k S'' := by
  obtain ⟨F, rfl, a⟩ := h
  obtain ⟨F2, rfl, a2⟩ := h2
  exact ⟨F2, by rw [List.set_set], a2⟩
theorem Dr.len (h : Dr S k S') : S'.length = S.length := by
  obtain ⟨F, rfl, a⟩ := h
  simp
theorem Dr.nd (h : Dr S k S') (hj : k ≠ j) : S'.nd j = S.nd j := by
  obtain ⟨F, rfl, a⟩ := h
  exact nd_set_ne hj
theorem Dr.app (h : Dr (S ++ E) k S') (hk : k < S.length) : ∃ S2, S' = S2 ++ E ∧ Dr S k S2 := by
  obtain ⟨F, rfl, a⟩ := h
  exact ⟨_, set_app hk, F, rfl, a⟩
theorem Fed.app (h : Fed S k) : Fed (S ++ E) k := by
  have hk := h.lt
  obtain ⟨F, h, a⟩ := h
  exact ⟨F, by rw [nd_app hk]; exact h, a⟩
theorem flat_fd {F : Fd} : Flat [some F.nd] := by
  unfold Flat oldAll
  simp only [List.all_cons, List.all_nil, Bool.and_true, Fd.nd, Nd.old, Fd.its, T.oldL, T.old, Bool.and_eq_true]
  exact oldL_map fun _ _ => rfl
theorem Dr.flat (h : Dr S k S') (f : Flat S) : Flat S' := by
  obtain ⟨F, rfl, a⟩ := h
  exact f.set flat_fd
theorem take_dr {m : Int} (h : Fed S k) (hm : 0 < m) (hm2 : m < 1073741824) : ∃ i S', runN G (n + 1) 6 [.ref k, .int m] S = .ok (.int i) S' ∧ Dr S k S' ∧ 0 ≤ i ∧ i < m := by
  obtain ⟨F, h, a⟩ := h
  obtain ⟨i, F', e, h0, h1, a'⟩ := take_ok (n := n) h a hm hm2
  exact ⟨i, _, e, ⟨F', rfl, a'⟩, h0, h1⟩
end
/-! ### texts -/
def abc : List Nat := (List.range 26).map (97 + ·)
theorem abc_eq : ("abcdefghijklmnopqrstuvwxyz" : Str).cps.toList = abc := by decide +kernel
theorem abc_len : ("abcdefghijklmnopqrstuvwxyz" : Str).length = 26 := by decide +kernel
/-- a word -/
structure Wd (x : Str) : Prop where
  pos : 1 ≤ x.cps.toList.length
  most : x.cps.toList.length ≤ 5
  abc : ∀ c ∈ x.cps.toList, c ∈ abc
theorem len_eq {x : Str} : x.length = x.cps.toList.length := by
  unfold Str.length
  simp
theorem in_abc : ∀ c ∈ abc, (Builtin.Str.occurrences ("abcdefghijklmnopqrstuvwxyz" : Str) ⟨#[c]⟩ 0 ("abcdefghijklmnopqrstuvwxyz" : Str).length 1).isEmpty = false := by decide +kernel
theorem szl : sizeLine = 16777216 := by decide
/-- is_word -/
theorem is_word_ok {S : Store} {n : Nat} {x : Str} (h1 : 1 ≤ x.cps.toList.length) (h2 : x.cps.toList.length ≤ 6) (h3 : ∀ c ∈ x.cps.toList, c ∈ abc) : runN G (n + 1) 18 [.str x] S = .ok (.bl true) S := by
  rw [rf18]
  have hl : x.length ≤ sizeLine := by rw [len_eq, szl]; omega
  have hi : (1 : Int) ≤ x.length := by rw [len_eq]; omega
  have hj : (x.length : Int) ≤ 6 := by rw [len_eq]; omega
  have hb : ¬ ((1 : Int) ≤ x.length → ¬ (x.length : Int) ≤ 6) := fun z => z hi hj
  simp [b18, startF, hl, hi, hj]
  rw [lc_map (enc := fun c : Nat => T.str ⟨#[c]⟩) (fun c => T.bl true) sn (by rw [szl]; omega) (fun c hc => ?_)]
  · simp only [R.bind_ok, bI_ok, tI_ok, oI_nx, oI_rt, R.noX_ok, q_evs_nil, bi_all, tree_lst]
    rw [show (x.cps.toList.map fun c => T.bl true) = (x.cps.toList.map fun c => T.bl ((fun _ => true) c)) from rfl, all_map]
    simp
  · have := in_abc c (h3 c hc)
    simp only [turn0, setTg_nm, wipeF]
    simp [inD, this]
/-- of -/
theorem of_dr {S : Store} {k n : Nat} {l : List T} (h : Fed S k) (h0 : l ≠ []) (hl : l.length < 1073741824) : ∃ t S', runN G (n + 2) 13 [.ref k, .lst l] S = .ok t S' ∧ Dr S k S' ∧ t ∈ l := by
  have hp : (0 : Int) < l.length := by
    have := List.length_pos_iff.mpr h0
    omega
  obtain ⟨i, S1, e, d, i0, i1⟩ := take_dr (n := n) h hp (by omega)
  obtain ⟨t, ht, et⟩ := atI_int i0 i1
  refine ⟨t, S1, ?_, d, ht⟩
  rw [rf13]
  simp [b13, startF, e, et]
theorem of_str {S : Store} {k n : Nat} {x : Str} (h : Fed S k) (h0 : 0 < x.length) (hl : x.length < 16777216) : ∃ c S', runN G (n + 2) 13 [.ref k, .str x] S = .ok (.str ⟨#[c]⟩) S' ∧ Dr S k S' ∧ c ∈ x.cps.toList := by
  have hs : x.length ≤ sizeLine := by rw [szl]; omega
  obtain ⟨i, S1, e, d, i0, i1⟩ := take_dr (n := n) (m := x.length) h (by omega) (by omega)
  obtain ⟨c, hc, et⟩ := atI_int (xs := x.cps.toList) i0 (by rw [len_eq] at i1; exact i1)
  refine ⟨c, S1, ?_, d, hc⟩
  rw [rf13]
  have e2 : subT (.str x) (.int i) S1 = .ok (.str ⟨#[c]⟩) S1 := by
    show (if x.length ≤ sizeLine then R.of ((atI x.cps.toList i).map fun c => T.str ⟨#[c]⟩) S1 else .no) = _
    rw [if_pos hs, et]
    rfl
  simp [b13, startF, hs, e, e2]
end LW
end
section
namespace LW
open PySem hiding exec execs
open NH
open L2 (atI ixN)
def tx (l : List Nat) : Str := ⟨l.toArray⟩
theorem tx_app {a b : List Nat} : tx a ++ tx b = tx (a ++ b) := by
  show (Str.mk (a.toArray ++ b.toArray)) = _
  simp [tx]
@[simp] theorem tx_cps {a : List Nat} : (tx a).cps.toList = a := by simp [tx]
@[simp] theorem tx_len {a : List Nat} : (tx a).length = a.length := by rw [len_eq, tx_cps]
theorem tx_one {c : Nat} : (⟨#[c]⟩ : Str) = tx [c] := rfl
theorem tx_of {a : List Nat} : (⟨a.toArray⟩ : Str) = tx a := rfl
theorem cut_tx {S : Store} {l : List Nat} {a b : Option Int} (h : l.length ≤ 16777216) : cutT (.str (tx l)) a b S = .ok (.str (tx (cutL l a b))) S := by
  rw [cut_str (by rw [tx_len, szl]; exact h), tx_cps]
  rfl
theorem join_one {e : Str} (he : e = tx []) : ∀ cs : List Nat, Str.join e (cs.map fun c => tx [c]) = tx cs
  | [] => rfl
  | [c] => rfl
  | c :: d :: r => by
    have ih := join_one he (d :: r)
    simp only [List.map_cons] at ih ⊢
    unfold Str.join
    rw [ih, he, tx_app, tx_app]
    rfl
def abcAt (z : Int) : Nat := 97 + z.toNat
theorem abc_get {z : Int} (h0 : 0 ≤ z) (h1 : z < 26) : atI abc z = some (abcAt z) := by
  obtain ⟨m, rfl⟩ := Int.eq_ofNat_of_zero_le h0
  have hm : m < abc.length := by simp [abc]; omega
  show atI abc (m : Int) = _
  rw [atI_nat hm]
  simp [abc, abcAt]
theorem abcAt_mem {z : Int} (h0 : 0 ≤ z) (h1 : z < 26) : abcAt z ∈ abc := by
  unfold abcAt abc
  exact List.mem_map.mpr ⟨z.toNat, List.mem_range.mpr (by omega), rfl⟩
theorem sub_abc {S : Store} {z : Int} (h0 : 0 ≤ z) (h1 : z < 26) : subT (.str "abcdefghijklmnopqrstuvwxyz") (.int z) S = .ok (.str (tx [abcAt z])) S := by
  show (if ("abcdefghijklmnopqrstuvwxyz" : Str).length ≤ sizeLine then R.of ((atI ("abcdefghijklmnopqrstuvwxyz" : Str).cps.toList z).map fun c => T.str ⟨#[c]⟩) S else .no) = _
  rw [if_pos (by rw [abc_len, szl]; omega), abc_eq, abc_get h0 h1]
  rfl
def wdAt (cs : List Nat) (a f : Int) (k : Nat) : List Nat := cs.take a.toNat ++ [abcAt ((f + 7 * (k : Int)) % 26)] ++ cs.drop a.toNat
theorem wdAt_len {cs : List Nat} {a f : Int} {k : Nat} : (wdAt cs a f k).length = cs.length + 1 := by
  unfold wdAt
  simp
  omega
theorem wdAt_inj {cs : List Nat} {a f : Int} {i j : Nat} (ha : a ≤ cs.length) (hi : i < 20) (hj : j < 20) (e : wdAt cs a f i = wdAt cs a f j) : i = j := by
  unfold wdAt at e
  rw [List.append_assoc, List.append_assoc] at e
  have e2 := List.append_cancel_left e
  simp only [List.cons_append, List.nil_append, List.cons.injEq, and_true] at e2
  unfold abcAt at e2
  omega
theorem pick_cs : ∀ {ys : List T}, (∀ y ∈ ys, ∃ c, c ∈ abc ∧ y = .str (tx [c])) → ∃ cs : List Nat, ys = cs.map (fun c => T.str (tx [c])) ∧ ∀ c ∈ cs, c ∈ abc
  | [], _ => ⟨[], rfl, by simp⟩
  | y :: ys, h => by
    obtain ⟨c, hc, e⟩ := h y (List.mem_cons_self ..)
    obtain ⟨cs, e2, h2⟩ := pick_cs (ys := ys) fun z hz => h z (List.mem_cons_of_mem _ hz)
    exact ⟨c :: cs, by rw [e, e2]; rfl, fun d hd => by
      rcases List.mem_cons.mp hd with q | q
      · rw [q]; exact hc
      · exact h2 d q⟩
theorem sum_ones {cs : List Nat} : ((cs.map fun c => tx [c]).map Str.length).sum = cs.length := by
  induction cs with
  | nil => rfl
  | cons a l ih =>
    rw [List.map_cons, List.map_cons, List.sum_cons, ih, tx_len]
    simp
    omega
theorem join_ok {S : Store} {cs : List Nat} (h : cs.length ≤ 100) : bmT (.str "") .join [.lst (cs.map fun c => T.str (tx [c]))] S = .ok (.str (tx cs)) S := by
  show joinT (.str "") (.lst (cs.map fun c => T.str (tx [c]))) S = _
  unfold joinT
  have e : (cs.map fun c => T.str (tx [c])) = (cs.map fun c => tx [c]).map T.str := by simp
  simp only [vw_lst, e, strsOf_map]
  have e0 : ("" : Str) = tx [] := by decide +kernel
  rw [if_pos, join_one e0]
  rw [sum_ones, e0, tx_len]
  simp
  omega
theorem zip_mem {α β : Type} {xs : List α} {ys : List β} (h : ys.length = xs.length) {P : α → β → Prop} (hp : ∀ z ∈ xs.zip ys, P z.1 z.2) : ∀ y ∈ ys, ∃ x ∈ xs, P x y := fun y hy => by
  obtain ⟨i, hi⟩ := List.mem_iff_getElem?.mp hy
  have hl := (List.getElem?_eq_some_iff.mp hi).1
  have hx : i < xs.length := by omega
  exact ⟨xs[i], List.getElem_mem hx, hp (xs[i], y) (List.mem_of_getElem? (i := i) (by rw [List.getElem?_zip_eq_some]; exact ⟨List.getElem?_eq_getElem hx, hi⟩))⟩
theorem names_dr {S : Store} {k n : Nat} {m : Int} (h : Fed S k) (h0 : 0 ≤ m) (hm : m ≤ 20) : ∃ (ws : List Str) (S' : Store), runN G (n + 3) 12 [.ref k, .int m] S = .ok (.lst (ws.map T.str)) S' ∧ Dr S k S' ∧ (ws.length : Int) = m ∧ ws.Nodup ∧ ∀ w ∈ ws, Wd w := by
  have hk := h.lt
  obtain ⟨i, S1, e1, d1, i0, i1⟩ := take_dr (n := n + 1) (m := 5) h (by omega) (by omega)
  have al : (0 : Nat) < ("abcdefghijklmnopqrstuvwxyz" : Str).length := by rw [abc_len]; omega
  have al2 : ("abcdefghijklmnopqrstuvwxyz" : Str).length < 16777216 := by rw [abc_len]; omega
  have hi62 : -4611686018427387904 ≤ i ∧ i < 4611686018427387904 := by omega
  obtain ⟨ys, S2, e2, d2, l2, p2⟩ := lc_ex (enc := fun j : Nat => T.int (j : Nat)) (ks := []) (turn := turn0 G (NH.runN G (n + 2)) (.call 13 [.var 0, .var 2] []) (.nm 4) [4] [some (.ref k), some (.int m), some (.str "abcdefghijklmnopqrstuvwxyz"), none, none, none, none])
    (fun S' => Dr S k S') (fun _ y => ∃ c, c ∈ abc ∧ y = .str (tx [c])) (fun _ _ => sn) (xs := List.range i.toNat) (acc := []) (S := S1) (by rw [szl]; simp; omega) (fun x _ S' hd => by
      obtain ⟨c, S'', e, d, hc⟩ := of_str (n := n) (hd.fed hk) al al2
      refine ⟨_, S'', ?_, hd.trans d, c, by rw [← abc_eq]; exact hc, rfl⟩
      simp [turn0, wipeF, e, tx_one]) d1
  obtain ⟨cs, rfl, hcs⟩ := pick_cs fun y hy => by
    obtain ⟨x, _, q⟩ := zip_mem (P := fun _ y => ∃ c, c ∈ abc ∧ y = T.str (tx [c])) l2 p2 y hy
    exact q
  have hcl : cs.length ≤ 4 := by
    simp only [List.length_map, List.length_range] at l2
    omega
  obtain ⟨a, S3, e3, d3, a0, a1⟩ := take_dr (n := n + 1) (m := (cs.length : Int) + 1) (d2.fed hk) (by omega) (by omega)
  obtain ⟨f, S4, e4, d4, f0, f1⟩ := take_dr (n := n + 1) (m := 26) ((d2.trans d3).fed hk) (by omega) (by omega)
  refine ⟨(List.range m.toNat).map fun j => tx (wdAt cs a f j), S4, ?_, (d2.trans d3).trans d4, by simp; omega, ?_, ?_⟩
  · rw [rf12]
    have hcs' : (tx cs).length ≤ sizeLine := by rw [tx_len, szl]; omega
    have hm62 : -4611686018427387904 ≤ m ∧ m < 4611686018427387904 := by omega
    have hbm : bmOk (.str "") .join S2 = true := rfl
    simp only [List.nil_append] at e2
    simp [b12, startF, e1, hi62, rng0, e2, join_ok (show cs.length ≤ 100 by omega), szl, show cs.length ≤ 16777216 by omega, e3, e4, setAll, hm62, stLv]
    rw [lc_map (enc := fun j : Nat => T.int (j : Nat)) (fun j => T.str (tx (wdAt cs a f j))) sn (by rw [szl]; simp; omega) (fun j hj => ?_)]
    · simp
    · have hz0 : 0 ≤ (f + 7 * (j : Int)) % 26 := by omega
      have hz1 : (f + 7 * (j : Int)) % 26 < 26 := by omega
      have e6 : min a.toNat cs.length + 1 ≤ 16777216 := by omega
      have e7 : min a.toNat cs.length + 1 + (cs.length - a.toNat) ≤ 16777216 := by omega
      simp [turn0, wipeF, cut_tx (show cs.length ≤ 16777216 by omega), cutL_hi a0, cutL_lo a0, sub_abc hz0 hz1, szl, e6, e7, tx_app, wdAt]
  · refine nodup_map (fun i hi j hj e => ?_) List.nodup_range
    have e' : wdAt cs a f i = wdAt cs a f j := by
      have := congrArg (fun x : Str => x.cps.toList) e
      simpa using this
    rw [List.mem_range] at hi hj
    exact wdAt_inj (by omega) (by omega) (by omega) e'
  · intro w hw
    obtain ⟨j, _, rfl⟩ := List.mem_map.mp hw
    refine ⟨by rw [tx_cps, wdAt_len]; omega, by rw [tx_cps, wdAt_len]; omega, fun c hc => ?_⟩
    rw [tx_cps] at hc
    unfold wdAt at hc
    simp only [List.mem_append, List.mem_singleton] at hc
    rcases hc with (q | q) | q
    · exact hcs c (List.mem_of_mem_take q)
    · rw [q]; exact abcAt_mem (by omega) (by omega)
    · exact hcs c (List.mem_of_mem_drop q)
end LW
end
section
namespace LW
open PySem hiding exec execs
open NH
open L2 (atI ixN)
theorem pick_map {β : Type} {enc : β → T} {P : β → Prop} : ∀ {ys : List T}, (∀ y ∈ ys, ∃ b, P b ∧ y = enc b) → ∃ bs : List β, ys = bs.map enc ∧ ∀ b ∈ bs, P b
  | [], _ => ⟨[], rfl, by simp⟩
  | y :: ys, h => by
    obtain ⟨c, hc, e⟩ := h y (List.mem_cons_self ..)
    obtain ⟨cs, e2, h2⟩ := pick_map (ys := ys) fun z hz => h z (List.mem_cons_of_mem _ hz)
    exact ⟨c :: cs, by rw [e, e2]; rfl, fun d hd => by
      rcases List.mem_cons.mp hd with q | q
      · rw [q]; exact hc
      · exact h2 d q⟩
theorem at_map {α : Type} {f : α → T} {l : List α} {j : Nat} {a : α} (h : l[j]? = some a) : atI (l.map f) (j : Int) = some (f a) := by
  have hl := (List.getElem?_eq_some_iff.mp h).1
  rw [atI_nat (by simpa using hl)]
  simp only [List.getElem_map, Option.some.injEq]
  rw [List.getElem?_eq_getElem hl] at h
  rw [Option.some.inj h]
theorem at_mapI {α : Type} {f : α → T} {l : List α} {i : Int} (h0 : 0 ≤ i) (h1 : i < l.length) : ∃ a, a ∈ l ∧ atI (l.map f) i = some (f a) := by
  obtain ⟨j, rfl⟩ := Int.eq_ofNat_of_zero_le h0
  have hj : j < l.length := by omega
  exact ⟨l[j], List.getElem_mem hj, at_map (List.getElem?_eq_getElem hj)⟩
theorem words_dr {S : Store} {k n : Nat} {m : Int} (h : Fed S k) (h0 : 0 ≤ m) (hm : m ≤ 20) : ∃ (ws : List Str) (S' : Store), runN G (n + 4) 14 [.ref k, .int m] S = .ok (.lst (ws.map T.str)) S' ∧ Dr S k S' ∧ (ws.length : Int) = m ∧ ∀ w ∈ ws, Wd w := by
  have hk := h.lt
  obtain ⟨ns, S1, e1, d1, l1, _, w1⟩ := names_dr (n := n) (m := 3) h (by omega) (by omega)
  obtain ⟨ys, S2, e2, d2, l2, p2⟩ := lc_ex (enc := fun j : Nat => T.int (j : Nat)) (ks := []) (turn := turn0 G (NH.runN G (n + 3)) (.sub (.var 2) (.call 6 [.var 0, .int 3] [])) (.nm 3) [3] [some (.ref k), some (.int m), some (.lst (ns.map T.str)), none])
    (fun S' => Dr S k S') (fun _ y => ∃ w, Wd w ∧ y = T.str w) (fun _ _ => sn) (xs := List.range m.toNat) (acc := []) (S := S1) (by rw [szl]; simp; omega) (fun x _ S' hd => by
      obtain ⟨i, S'', e, d, i0, i1⟩ := take_dr (n := n + 2) (m := 3) (hd.fed hk) (by omega) (by omega)
      obtain ⟨w, hw, ew⟩ := at_mapI (f := T.str) (l := ns) i0 (by omega)
      refine ⟨_, S'', ?_, hd.trans d, w, w1 w hw, rfl⟩
      simp [turn0, wipeF, e, ew]) d1
  obtain ⟨ws, rfl, hws⟩ := pick_map (enc := T.str) (P := Wd) fun y hy => by
    obtain ⟨x, _, q⟩ := zip_mem (P := fun _ y => ∃ w, Wd w ∧ y = T.str w) l2 p2 y hy
    exact q
  refine ⟨ws, S2, ?_, d2, ?_, hws⟩
  · rw [rf14]
    have hm62 : -4611686018427387904 ≤ m ∧ m < 4611686018427387904 := by omega
    simp only [List.nil_append] at e2
    simp [b14, startF, e1, hm62, rng0, e2]
  · simp only [List.length_map, List.length_range] at l2
    omega
/-! ### a book's data -/
structure Row where
  key : Str
  word : Str
  bearer : Str
  first : Int
  last : Int
def Row.t (r : Row) : T := .tup [.str r.key, .str r.word, .str r.bearer, .int r.first, .int r.last]
structure Sp where
  row : List Str
  found : List Row
  aside : List Str
  kept : List Str
def Sp.t (s : Sp) : T := .tup [.lst (s.row.map T.str), .lst (s.found.map Row.t), .lst (s.aside.map T.str), .lst (s.kept.map T.str)]
def Sp.keys (s : Sp) : List Str := s.found.map Row.key
structure RowOk (row : List Str) (r : Row) : Prop where
  key : Wd r.key
  word : Wd r.word
  bearer : r.bearer ∈ row
  first : 0 ≤ r.first
  last : r.first ≤ r.last
  most : r.last ≤ 9999
structure Sp.Ok (s : Sp) : Prop where
  row0 : s.row ≠ []
  rowL : s.row.length ≤ 4
  rowN : s.row.Nodup
  rowW : ∀ w ∈ s.row, Wd w
  fL : s.found.length ≤ 6
  keyN : s.keys.Nodup
  ok : ∀ r ∈ s.found, RowOk s.row r
  akN : (s.aside ++ s.kept).Nodup
  akL : (s.aside ++ s.kept).length ≤ 12
  aK : ∀ x ∈ s.aside, x ∈ s.keys
  kK : ∀ x ∈ s.kept, x ∈ s.keys
theorem nd_at {S : Store} {L : Nat} {o : Option Nd} (h : S.length = L) : Store.nd (S ++ [o]) L = o := by
  subst h; exact nd_new
theorem set_at {S : Store} {L : Nat} {o o' : Option Nd} (h : S.length = L) : (S ++ [o]).set L o' = S ++ [o'] := by
  subst h; exact set_new
section
variable {S E : Store} {k n : Nat} {m : Int}
theorem take_app (h : Fed S k) (hm : 0 < m) (hm2 : m < 1073741824) : ∃ i S', runN G (n + 1) 6 [.ref k, .int m] (S ++ E) = .ok (.int i) (S' ++ E) ∧ Dr S k S' ∧ 0 ≤ i ∧ i < m := by
  obtain ⟨i, S1, e, d, a, b⟩ := take_dr (n := n) (h.app (E := E)) hm hm2
  obtain ⟨S2, rfl, d2⟩ := d.app h.lt
  exact ⟨i, S2, e, d2, a, b⟩
theorem of_app {l : List T} (h : Fed S k) (h0 : l ≠ []) (hl : l.length < 1073741824) : ∃ t S', runN G (n + 2) 13 [.ref k, .lst l] (S ++ E) = .ok t (S' ++ E) ∧ Dr S k S' ∧ t ∈ l := by
  obtain ⟨i, S1, e, d, a⟩ := of_dr (n := n) (h.app (E := E)) h0 hl
  obtain ⟨S2, rfl, d2⟩ := d.app h.lt
  exact ⟨i, S2, e, d2, a⟩
theorem words_app (h : Fed S k) (h0 : 0 ≤ m) (hm : m ≤ 20) : ∃ (ws : List Str) (S' : Store), runN G (n + 4) 14 [.ref k, .int m] (S ++ E) = .ok (.lst (ws.map T.str)) (S' ++ E) ∧ Dr S k S' ∧ (ws.length : Int) = m ∧ ∀ w ∈ ws, Wd w := by
  obtain ⟨i, S1, e, d, a⟩ := words_dr (n := n) (h.app (E := E)) h0 hm
  obtain ⟨S2, rfl, d2⟩ := d.app h.lt
  exact ⟨i, S2, e, d2, a⟩
end
theorem range_split {c : Nat} {d r : List Nat} {x : Nat} (h : List.range c = d ++ x :: r) : x = d.length ∧ x < c := by
  have hl : d.length < c := by
    have := congrArg List.length h
    simp at this
    omega
  have : (List.range c)[d.length]? = some x := by rw [h]; simp
  rw [List.getElem?_range hl] at this
  simp at this
  omega
end LW
end
section
namespace LW
open PySem hiding exec execs
open NH
open L2 (atI ixN)
abbrev spBody : List NH.St := [.asg (.nm 11) (.bin .add (.var 8) (.call 6 [.var 0, .int 4] [])), .ex (.bm (.var 7) .append [.tup [.sub (.var 5) (.bin .add (.var 4) (.var 10)), .sub (.var 9) (.var 10), .call 13 [.var 0, .var 6] [], .var 11, .bin .add (.var 11) (.call 6 [.var 0, .var 3] [])]])]
def spFr (k : Nat) (many : Int) (names row : List Str) (L : Nat) (base : Int) (words : List Str) (r10 r11 : Option T) : Fr :=
  [some (.ref k), some (.int 4), some (.int 6), some (.int 3), some (.int many), some (.lst (names.map T.str)), some (.lst (row.map T.str)), some (.ref L), some (.int base), some (.lst (words.map T.str)), r10, r11, none, none, none]
theorem sp_turn {S : Store} {k n L x : Nat} {many base : Int} {names row words : List Str} {rows : List Row} {r10 r11 : Option T} (h : Fed S k) (hL : S.length = L) (hm : 0 ≤ many) (hr : row ≠ []) (hrl : row.length < 100) (hb0 : 0 ≤ base) (hb1 : base ≤ 9990) (hl : rows.length < 100)
    {nm wd : Str} (hn : names[many.toNat + x]? = some nm) (hw : words[x]? = some wd) (n1 : Wd nm) (n2 : Wd wd) :
    ∃ r S' q11, turnF G (NH.runN G (n + 4)) (.nm 10) spBody (.int x) (spFr k many names row L base words r10 r11) (S ++ [some (.lst (rows.map Row.t))]) = .nx (spFr k many names row L base words (some (.int x)) q11) (S' ++ [some (.lst ((rows ++ [r]).map Row.t))]) ∧ Dr S k S' ∧ RowOk row r ∧ r.key = nm := by
  have hk := h.lt
  obtain ⟨i, S1, e1, d1, i0, i1⟩ := take_app (n := n + 3) (E := [some (.lst (rows.map Row.t))]) (m := 4) h (by omega) (by omega)
  obtain ⟨t, S2, e2, d2, ht⟩ := of_app (n := n + 2) (E := [some (.lst (rows.map Row.t))]) (l := row.map T.str) (d1.fed hk) (by simpa using hr) (by simp; omega)
  obtain ⟨j, S3, e3, d3, j0, j1⟩ := take_app (n := n + 3) (E := [some (.lst (rows.map Row.t))]) (m := 3) ((d1.trans d2).fed hk) (by omega) (by omega)
  obtain ⟨b, hb, rfl⟩ := List.mem_map.mp ht
  refine ⟨⟨nm, wd, b, base + i, base + i + j⟩, S3, some (.int (base + i)), ?_, (d1.trans d2).trans d3, ⟨n1, n2, hb, by simp; omega, by simp; omega, by simp; omega⟩, rfl⟩
  have a1 : atI (names.map T.str) (many + (x : Int)) = some (.str nm) := by
    rw [show many + (x : Int) = ((many.toNat + x : Nat) : Int) by omega]
    exact at_map hn
  have a2 : atI (words.map T.str) (x : Int) = some (.str wd) := at_map hw
  have l1 : S1.length = L := d1.len.trans hL
  have l3 : S3.length = L := d3.len.trans (d2.len.trans l1)
  have hn1 : Store.nd (S1 ++ [some (.lst (rows.map Row.t))]) L = some (.lst (rows.map Row.t)) := nd_at l1
  have hn3 : Store.nd (S3 ++ [some (.lst (rows.map Row.t))]) L = some (.lst (rows.map Row.t)) := nd_at l3
  have hs : ∀ o, (S3 ++ [some (Nd.lst (rows.map Row.t))]).set L o = S3 ++ [o] := fun o => set_at l3
  simp [turnF, spFr, e1, bmOk_ref hn1, a1, a2, e2, e3, app_ref hn3, szl, show rows.length < 16777216 by omega, hs, Row.t]
end LW
end
section
namespace LW
open PySem hiding exec execs
open NH
open L2 (atI ixN)
theorem old_strs {l : List Str} : T.oldL 0 (l.map T.str) = true := oldL_map fun _ _ => rfl
theorem old_rows {l : List Row} : T.oldL 0 (l.map Row.t) = true := oldL_map fun _ _ => rfl
theorem sp_old {s : Sp} : s.t.old 0 = true := by
  simp [Sp.t, T.old, T.oldL, old_strs, old_rows]
def pickKeys (keys : List Str) (ways : List Int) (z : Int) : List Str := ((List.range keys.length).filter fun j => ways.getD j 7 == z).map fun j => keys.getD j (tx [])
theorem pick_mem {keys : List Str} {ways : List Int} {z : Int} {x : Str} (h : x ∈ pickKeys keys ways z) : x ∈ keys := by
  unfold pickKeys at h
  obtain ⟨j, hj, rfl⟩ := List.mem_map.mp h
  have := List.mem_range.mp (List.mem_filter.mp hj).1
  rw [List.getD_eq_getElem?_getD, List.getElem?_eq_getElem this]
  exact List.getElem_mem this
theorem getD_inj {keys : List Str} (nd : keys.Nodup) {i j : Nat} (hi : i < keys.length) (hj : j < keys.length) (e : keys.getD i (tx []) = keys.getD j (tx [])) : i = j := by
  rw [List.getD_eq_getElem?_getD, List.getD_eq_getElem?_getD, List.getElem?_eq_getElem hi, List.getElem?_eq_getElem hj] at e
  exact (List.getElem_inj nd).mp e
theorem pick_nodup {keys : List Str} {ways : List Int} (nd : keys.Nodup) : (pickKeys keys ways 0 ++ pickKeys keys ways 1).Nodup := by
  have one : ∀ z, (pickKeys keys ways z).Nodup := fun z => nodup_map (fun i hi j hj e => getD_inj nd (List.mem_range.mp (List.mem_filter.mp hi).1) (List.mem_range.mp (List.mem_filter.mp hj).1) e) (List.nodup_range.filter _)
  rw [List.nodup_append]
  refine ⟨one 0, one 1, fun a ha b hb e => ?_⟩
  subst e
  obtain ⟨i, hi, e1⟩ := List.mem_map.mp ha
  obtain ⟨j, hj, e2⟩ := List.mem_map.mp hb
  have hi' := List.mem_filter.mp hi
  have hj' := List.mem_filter.mp hj
  have := getD_inj nd (List.mem_range.mp hi'.1) (List.mem_range.mp hj'.1) (e1.trans e2.symm)
  subst this
  have p := hi'.2
  have q := hj'.2
  simp only [beq_iff_eq] at p q
  omega
theorem pick_len {keys : List Str} {ways : List Int} {z : Int} : (pickKeys keys ways z).length ≤ keys.length := by
  unfold pickKeys
  rw [List.length_map]
  exact Nat.le_trans (List.length_filter_le _ _) (by simp)
theorem spec_dr {S : Store} {k n : Nat} (h : Fed S k) (hf : Flat S) : ∃ (s : Sp) (S' : Store), runN G (n + 6) 2 [.ref k, .int 4, .int 6, .int 3] S = .ok s.t S' ∧ Dr S k S' ∧ s.Ok := by
  have hk := h.lt
  obtain ⟨i, S1, e1, d1, i0, i1⟩ := take_dr (n := n + 4) (m := 4) h (by omega) (by omega)
  obtain ⟨names, S2, e2, d2, nl, nn, nw⟩ := names_dr (n := n + 2) (m := 1 + i + 6) (d1.fed hk) (by omega) (by omega)
  have f2 := (d1.trans d2).fed hk
  have L2 : S2.length = S.length := d2.len.trans d1.len
  obtain ⟨t, S3, e3, d3, ht⟩ := of_app (n := n + 3) (E := [some (.lst [])]) (l := [.int 0, .int 7, .int 1753, .int 9990]) f2 (by simp) (by simp)
  obtain ⟨base, rfl, hb0, hb1⟩ : ∃ base, t = .int base ∧ 0 ≤ base ∧ base ≤ 9990 := by
    simp only [List.mem_cons, List.not_mem_nil, or_false] at ht
    rcases ht with rfl | rfl | rfl | rfl
    · exact ⟨0, rfl, by omega, by omega⟩
    · exact ⟨7, rfl, by omega, by omega⟩
    · exact ⟨1753, rfl, by omega, by omega⟩
    · exact ⟨9990, rfl, by omega, by omega⟩
  have D3 := (d1.trans d2).trans d3
  obtain ⟨words, S4, e4, d4, wl, ww⟩ := words_app (n := n + 1) (E := [some (.lst [])]) (m := 6) (D3.fed hk) (by omega) (by omega)
  have D4 := D3.trans d4
  obtain ⟨c, S5, e5, d5, c0, c1⟩ := take_app (n := n + 4) (E := [some (.lst [])]) (m := 7) (D4.fed hk) (by omega) (by omega)
  have D5 := D4.trans d5
  have hrow : (names.take (1 + i).toNat) ≠ [] := by
    intro z
    have q : (names.take (1 + i).toNat).length = 0 := by rw [z]; rfl
    rw [List.length_take] at q
    omega
  have hrl : (names.take (1 + i).toNat).length ≤ 4 := by rw [List.length_take]; omega
  -- the rows
  obtain ⟨ρ, S6', e6, rows, S6, q10, q11, hS6, hρ, D6, hlen, hkeys, hok⟩ := for_ex (enc := fun j : Nat => T.int (j : Nat)) (ks := []) (turn := turnF G (NH.runN G (n + 5)) (.nm 10) spBody)
    (fun d ρ S' => ∃ (rows : List Row) (S1 : Store) (q10 q11 : Option T), S' = S1 ++ [some (.lst (rows.map Row.t))] ∧ ρ = spFr k (1 + i) names (names.take (1 + i).toNat) S.length base words q10 q11 ∧ Dr S k S1 ∧ rows.length = d.length ∧ (∀ j r, rows[j]? = some r → names[(1 + i).toNat + j]? = some r.key) ∧ ∀ r ∈ rows, RowOk (names.take (1 + i).toNat) r)
    (fun _ _ _ _ => sn) (xs := List.range c.toNat) (d := []) (ρ := spFr k (1 + i) names (names.take (1 + i).toNat) S.length base words none none) (S := S5 ++ [some (.lst [])])
    (fun d' x r ρ S' hx ⟨rows, T1, q10, q11, hS, hρ, hD, hl, hk2, ho⟩ => by
      simp only [List.nil_append] at hx
      obtain ⟨rfl, hxc⟩ := range_split hx
      have hn : (1 + i).toNat + d'.length < names.length := by omega
      have hwn : d'.length < words.length := by omega
      obtain ⟨r, T2, q, et, dt, ro, rk⟩ := sp_turn (n := n + 1) (words := words) (names := names) (rows := rows) (r10 := q10) (r11 := q11) (base := base) (hD.fed hk) (hD.len.trans rfl) (show 0 ≤ 1 + i by omega) hrow (by omega) hb0 hb1 (by omega) (List.getElem?_eq_getElem hn) (List.getElem?_eq_getElem hwn) (nw _ (List.getElem_mem hn)) (ww _ (List.getElem_mem hwn))
      refine ⟨_, _, by rw [hρ, hS]; exact et, rows ++ [r], T2, _, _, rfl, rfl, hD.trans dt, by simp [hl], fun j r' hj => ?_, fun r' hr' => ?_⟩
      · by_cases hj2 : j < rows.length
        · rw [List.getElem?_append_left hj2] at hj
          exact hk2 j r' hj
        · rw [List.getElem?_append_right (by omega)] at hj
          have : j - rows.length = 0 := by
            rcases Nat.eq_zero_or_pos (j - rows.length) with z | z
            · exact z
            · rw [List.getElem?_eq_none (by simp; omega)] at hj; cases hj
          rw [this] at hj
          simp only [List.getElem?_cons_zero, Option.some.injEq] at hj
          subst hj
          rw [rk, show j = d'.length by omega]
          exact List.getElem?_eq_getElem hn
      · rcases List.mem_append.mp hr' with q | q
        · exact ho r' q
        · rw [List.mem_singleton.mp q]; exact ro) ⟨[], S5, none, none, rfl, rfl, D5, rfl, by simp, by simp⟩
  subst hS6 hρ
  simp only [List.nil_append, List.length_range] at hlen
  have l6 : S6.length = S.length := D6.len
  -- the ways
  obtain ⟨ys, S7', e7, ⟨S7, rfl, D7⟩, l7, p7⟩ := lc_ex (enc := Row.t) (ks := [(S.length, rows.map Row.t)]) (turn := turn0 G (NH.runN G (n + 5)) (.call 6 [.var 0, .int 7] []) (.nm 13) [13] (spFr k (1 + i) names (names.take (1 + i).toNat) S.length base words q10 q11))
    (fun S' => ∃ S7, S' = S7 ++ [some (.lst (rows.map Row.t))] ∧ Dr S k S7) (fun _ y => ∃ z : Int, True ∧ y = T.int z) (fun S' ⟨S7, e, D⟩ => ⟨by rw [e]; exact nd_at D.len, trivial⟩) (xs := rows) (acc := []) (S := S6 ++ [some (.lst (rows.map Row.t))]) (by rw [szl]; simp; omega)
    (fun x _ S' ⟨S7, e, D⟩ => by
      obtain ⟨z, S8, ez, dz, _, _⟩ := take_app (n := n + 4) (E := [some (.lst (rows.map Row.t))]) (m := 7) (D.fed hk) (by omega) (by omega)
      refine ⟨_, _, ?_, ⟨S8, rfl, D.trans dz⟩, z, trivial, rfl⟩
      rw [e]
      simp [turn0, wipeF, spFr, ez]) ⟨S6, rfl, D6⟩
  obtain ⟨ways, rfl, -⟩ := pick_map (enc := T.int) (P := fun _ => True) fun y hy => by
    obtain ⟨x, _, q⟩ := zip_mem (P := fun _ y => ∃ z : Int, True ∧ y = T.int z) l7 p7 y hy
    exact q
  have l7' : S7.length = S.length := D7.len
  have wlen : ways.length = rows.length := by simpa using l7
  have hn7 : Store.nd (S7 ++ [some (.lst (rows.map Row.t))]) S.length = some (.lst (rows.map Row.t)) := nd_at l7'
  have hkl : (rows.map Row.key).length = rows.length := by simp
  have hnod : (rows.map Row.key).Nodup := by
    have e : rows.map Row.key = (names.drop (1 + i).toNat).take rows.length := by
      apply List.ext_getElem?
      intro j
      by_cases hj : j < rows.length
      · rw [List.getElem?_map, List.getElem?_eq_getElem hj, List.getElem?_take_of_lt hj, List.getElem?_drop, hkeys j _ (List.getElem?_eq_getElem hj)]
        rfl
      · rw [List.getElem?_eq_none (by simp; omega), List.getElem?_eq_none (by rw [List.length_take]; omega)]
    rw [e]
    exact nn.sublist ((List.take_sublist _ _).trans (List.drop_sublist _ _))
  refine ⟨⟨names.take (1 + i).toNat, rows, pickKeys (rows.map Row.key) ways 0, pickKeys (rows.map Row.key) ways 1⟩, S7, ?_, D7, ⟨hrow, hrl, nn.sublist (List.take_sublist _ _), fun w hw => nw w (List.mem_of_mem_take hw), (show rows.length ≤ 6 by omega), hnod, hok, pick_nodup hnod, (by
    have p0 := pick_len (keys := rows.map Row.key) (ways := ways) (z := 0)
    have p1 := pick_len (keys := rows.map Row.key) (ways := ways) (z := 1)
    rw [hkl] at p0 p1
    simp only [List.length_append]
    omega), fun x hx => pick_mem hx, fun x hx => pick_mem hx⟩⟩
  rw [rf2]
  simp only [List.nil_append] at e7
  have c62 : -4611686018427387904 ≤ c ∧ c < 4611686018427387904 := by omega
  have r62 : -4611686018427387904 ≤ (rows.length : Int) ∧ (rows.length : Int) < 4611686018427387904 := by omega
  have hi0 : 0 ≤ 1 + i := by omega
  simp only [spFr] at e6 e7
  have hn6 : Store.nd (S6 ++ [some (.lst (rows.map Row.t))]) S.length = some (.lst (rows.map Row.t)) := nd_at l6
  have lk : ∀ j, j ∈ List.range rows.length → atI (rows.map Row.t) (j : Int) = some (Row.t (rows.getD j ⟨tx [], tx [], tx [], 0, 0⟩)) ∧ atI (ways.map T.int) (j : Int) = some (.int (ways.getD j 7)) ∧ (rows.getD j ⟨tx [], tx [], tx [], 0, 0⟩).key = (rows.map Row.key).getD j (tx []) := fun j hj => by
    have hj := List.mem_range.mp hj
    have e1 : rows[j]? = some rows[j] := List.getElem?_eq_getElem hj
    have e2 : ways[j]? = some (ways[j]'(by omega)) := List.getElem?_eq_getElem (by omega)
    refine ⟨?_, ?_, ?_⟩
    · rw [at_map e1, List.getD_eq_getElem?_getD, e1]; rfl
    · rw [at_map e2, List.getD_eq_getElem?_getD, e2]; rfl
    · rw [List.getD_eq_getElem?_getD, List.getD_eq_getElem?_getD, List.getElem?_map, e1]; rfl
  have go : ∀ (z : Int) (ρ : Fr) (v : T) (S8 : Store), (∀ j, j ∈ List.range rows.length → subT v (.int (j : Int)) S8 = R.of (atI (rows.map Row.t) (j : Int)) S8) → ρ[7]? = some (some v) → ρ[12]? = some (some (.lst (ways.map T.int))) → 10 < ρ.length →
      lcLoop [] (turn1 G (NH.runN G (n + 5)) (.sub (.sub (.var 7) (.var 10)) (.int 0)) (.nm 10) (.cmp .eq (.sub (.var 12) (.var 10)) (.int z)) [10] ρ) ((List.range rows.length).map fun j => T.int (j : Nat)) [] S8 = .ok ((pickKeys (rows.map Row.key) ways z).map T.str) S8 := fun z ρ v S8 hsub r7 r12 rl => by
    rw [lc_filt (enc := fun j : Nat => T.int (j : Nat)) (fun j => ways.getD j 7 == z) (fun j => T.str ((rows.map Row.key).getD j (tx []))) sn (by rw [szl]; simp; omega) (fun j hj => ?_)]
    · unfold pickKeys
      rw [List.map_map, hkl]
      rfl
    · obtain ⟨k1, k2, k3⟩ := lk j hj
      have g7 : ((ρ.set 10 none).set 10 (some (.int (j : Int))))[7]? = some (some v) := by
        rw [List.getElem?_set_ne (by omega), List.getElem?_set_ne (by omega)]; exact r7
      have g12 : ((ρ.set 10 none).set 10 (some (.int (j : Int))))[12]? = some (some (.lst (ways.map T.int))) := by
        rw [List.getElem?_set_ne (by omega), List.getElem?_set_ne (by omega)]; exact r12
      have g10 : ((ρ.set 10 none).set 10 (some (.int (j : Int))))[10]? = some (some (.int (j : Int))) := List.getElem?_set_self (by rw [List.length_set]; exact rl)
      have hs := hsub j hj
      rw [k1] at hs
      generalize rows.getD j ⟨tx [], tx [], tx [], 0, 0⟩ = r at hs k3
      generalize ways.getD j 7 = wv at k2 ⊢
      generalize (rows.map Row.key).getD j (tx []) = q at k3 ⊢
      subst k3
      simp only [turn1, setTg_nm, wipeF, q_tst_cmp, q_ev_sub, q_ev_var, g7, g12, g10, R.bind_ok, bI_ok, tI_ok, oI_nx, oI_rt, sub_lst, k2, R.of_some, R.noX_ok, q_ev_int, cmp_eqT, eq_ints, hs]
      by_cases hz : wv = z
      · subst hz
        simp [Row.t]
      · have : (wv == z) = false := by simpa using hz
        simp [this, hz]
  have fz : frz 0 8 (.ref S.length) (S7 ++ [some (.lst (rows.map Row.t))]) = some (.lst (rows.map Row.t), S7 ++ [none]) := by
    rw [frz_new (Nat.zero_le _) hn7 (by simp [T.old, old_rows]), set_at l7']
    rfl
  simp [b2, startF, e1, e2, ← List.map_take, cutL_hi hi0, L2, e3, e4, e5, c62, rng0, stLv, setAll, e6, src_ref hn6, e7, bi_len_ref hn7, r62, szl]
  rw [go 0 _ (.ref S.length) _ (fun j hj => sub_ref hn7) rfl rfl (by simp)]
  simp [hardS, fz]
  have r63 : (rows.length : Int) < 4611686018427387904 := r62.2
  simp [r63, rng0, r62, szl, bi_len_ref hn7, -turn1]
  rw [go 1 _ (.lst (rows.map Row.t)) _ (fun j hj => sub_lst) rfl rfl (by simp)]
  simp [← List.map_take]
  exact seal_old (v := Sp.t ⟨names.take (1 + i).toNat, rows, pickKeys (rows.map Row.key) ways 0, pickKeys (rows.map Row.key) ways 1⟩) l7' sp_old (D7.flat hf)
end LW
end
section
namespace LW
open PySem hiding exec execs
open NH
open L2 (atI ixN)
theorem feed_ok {S : Store} {n : Nat} {ns : List Int} (h : ns.length ≤ 63) : ∃ F : Fd, runN G (n + 1) 1 [.scr ns] S = .ok (.ref S.length) (S ++ [some F.nd]) ∧ 0 ≤ F.a := by
  have hc : cutL (ns.map T.int) none (some 63) = ns.map T.int := by
    rw [cutL_hi (by omega), List.take_of_length_le (by simp; omega)]
  obtain ⟨ρ, S1, e, m, q, rfl, rfl⟩ := for_ex (enc := T.int) (ks := []) (turn := turnF G (NH.runN G n) (.nm 2) [.asg (.nm 3) (.bin .mod (.bi .int [.bin .add (.bin .mul (.var 3) (.int 8101)) (.var 2)]) (.int 2147483269))])
    (fun d ρ S' => ∃ (m : Int) (q : Option T), ρ = [some (.scr ns), some (.lst (ns.map T.int)), q, some (.int m)] ∧ S' = S) (fun _ _ _ _ => sn) (xs := ns) (d := []) (ρ := [some (.scr ns), some (.lst (ns.map T.int)), none, some (.int (10029 + 71 * (ns.length : Int)))]) (S := S)
    (fun d' x r ρ S' _ ⟨m, q, hρ, hS⟩ => by
      subst hρ hS
      refine ⟨[some (.scr ns), some (.lst (ns.map T.int)), some (.int x), some (.int ((m * 8101 + x) % 2147483269))], S', ?_, _, _, rfl, rfl⟩
      simp [turnF]) ⟨_, _, rfl, rfl⟩
  refine ⟨⟨ns, 0, 0, m⟩, ?_, by simp⟩
  rw [rf1]
  simp [b1, startF, hc]
  rw [lc_map (enc := T.int) T.int sn (by rw [szl]; omega) (fun x _ => by simp [turn0, wipeF])]
  simp
  rw [e]
  simp [Fd.nd, Fd.its]
/-! ### dates -/
def dtT (dt : Str → Int) (l : List Row) : List (Str × T) := l.map fun r => (r.key, T.int (dt r.key))
theorem putS_new {x : Str} {v : T} {l : List (Str × T)} (h : ∀ kv ∈ l, kv.1 ≠ x) : putS x v l = l ++ [(x, v)] := by
  unfold putS
  rw [if_neg]
  simp only [List.any_eq_true, decide_eq_true_eq, not_exists, not_and]
  exact h
theorem oldD_dt {dt : Str → Int} {l : List Row} : T.oldD 0 (dtT dt l) = true := by
  unfold dtT
  induction l with
  | nil => rfl
  | cons a l ih => simp only [List.map_cons, T.oldD, ih, Bool.and_true]; rfl
theorem st_D {S : Store} {k : Nat} {kvs : List (Str × T)} {G : Gam} {D : NH.Run} {i : Nat} {e : E} {x : Str} {v : T} {ρ : Fr} (hr : ρ[i]? = some (some (.ref k))) (he : ev G D e ρ S = .ok (.str x) S) (h : S.nd k = some (.dct kvs)) (hl : kvs.length < 16777216) : stLv G D (.sbD (.var i) e) v ρ S = .nx ρ (S.set k (some (.dct (putS x v kvs)))) := by
  simp only [stLv, q_ev_var, hr, R.thn_ok, he, h, szl, if_pos hl]
theorem dating_dr {S : Store} {k n : Nat} {s : Sp} (h : Fed S k) (hf : Flat S) (ok : s.Ok) : ∃ (dt : Str → Int) (S' : Store), runN G (n + 3) 4 [.ref k, s.t] S = .ok (.dct (dtT dt s.found)) S' ∧ Dr S k S' ∧ ∀ r ∈ s.found, r.first ≤ dt r.key ∧ dt r.key ≤ r.last := by
  have hk := h.lt
  obtain ⟨ρ, S1, e, dt, S2, q, rfl, rfl, hD, hb⟩ := for_ex (enc := Row.t) (ks := []) (turn := turnF G (NH.runN G (n + 2)) (.nm 3) [.asg (.sbD (.var 2) (.sub (.var 3) (.int 0))) (.bin .add (.sub (.var 3) (.int 3)) (.call 6 [.var 0, .bin .sub (.bin .add (.sub (.var 3) (.int 4)) (.int 1)) (.sub (.var 3) (.int 3))] []))])
    (fun d ρ S' => ∃ (dt : Str → Int) (S2 : Store) (q : Option T), ρ = [some (.ref k), some s.t, some (.ref S.length), q] ∧ S' = S2 ++ [some (.dct (dtT dt d))] ∧ Dr S k S2 ∧ ∀ r ∈ d, r.first ≤ dt r.key ∧ dt r.key ≤ r.last) (fun _ _ _ _ => sn) (xs := s.found) (d := []) (ρ := [some (.ref k), some s.t, some (.ref S.length), none]) (S := S ++ [some (.dct [])])
    (fun d x r ρ S' hx ⟨dt, S2, q, hρ, hS, hD, hb⟩ => by
      subst hρ hS
      simp only [List.nil_append] at hx
      have hxm : x ∈ s.found := by rw [hx]; simp
      have ro := ok.ok x hxm
      have hnew : ∀ z ∈ d, z.key ≠ x.key := by
        have := ok.keyN
        unfold Sp.keys at this
        rw [hx, List.map_append, List.nodup_append] at this
        intro z hz
        exact this.2.2 z.key (List.mem_map_of_mem hz) x.key (by simp)
      obtain ⟨i, S3, ei, di, i0, i1⟩ := take_app (n := n + 1) (E := [some (.dct (dtT dt d))]) (m := x.last + 1 - x.first) (hD.fed hk) (by have := ro.last; omega) (by have := ro.most; have := ro.first; omega)
      have hdl : d.length ≤ 6 := by
        have h1 := congrArg List.length hx
        have h2 := ok.fL
        simp at h1
        omega
      have l3 : S3.length = S.length := di.len.trans hD.len
      refine ⟨[some (.ref k), some s.t, some (.ref S.length), some x.t], S3 ++ [some (.dct (dtT (fun z => if z = x.key then x.first + i else dt z) (d ++ [x])))], ?_, _, S3, _, rfl, rfl, hD.trans di, fun z hz => ?_⟩
      · have hdt : dtT (fun z => if z = x.key then x.first + i else dt z) (d ++ [x]) = putS x.key (.int (x.first + i)) (dtT dt d) := by
          rw [putS_new (fun kv hkv => by
            obtain ⟨z, hz, rfl⟩ := List.mem_map.mp hkv
            exact hnew z hz)]
          unfold dtT
          rw [List.map_append]
          congr 1
          · refine List.map_congr_left fun z hz => ?_
            simp [hnew z hz]
          · simp
        rw [hdt]
        simp only [turnF, setTg_nm, Row.t]
        simp [ei]
        rw [st_D (k := S.length) (kvs := dtT dt d) (x := x.key) rfl (by simp) (nd_at l3) (by simp [dtT]; omega), set_at l3]
        rfl
      · rcases List.mem_append.mp hz with w | w
        · have := hb z w
          simpa [hnew z w] using this
        · rw [List.mem_singleton.mp w]
          simp
          omega) ⟨fun _ => 0, S, none, rfl, rfl, h.refl, by simp⟩
  refine ⟨dt, S2, ?_, hD, hb⟩
  rw [rf4]
  simp only [List.nil_append] at e
  have e1 : subT s.t (.int 1) (S ++ [some (.dct [])]) = .ok (.lst (s.found.map Row.t)) (S ++ [some (.dct [])]) := by simp [Sp.t]
  simp [b4, startF, e1, e]
  exact seal_new (nd := .dct (dtT dt s.found)) hD.len (Nat.le_refl _) (nd_at hD.len) oldD_dt (hD.flat hf)
/-! ### mixing -/
theorem mixed_dr {S : Store} {k n : Nat} {l : List Str} (h : Fed S k) (hf : Flat S) (hl : l.length ≤ 20) : ∃ (ys : List Str) (S' : Store), runN G (n + 3) 9 [.ref k, .lst (l.map T.str)] S = .ok (.lst (ys.map T.str)) S' ∧ Dr S k S' ∧ ∀ y ∈ ys, y ∈ l := by
  have hk := h.lt
  obtain ⟨ρ, S1, e, ys, S2, q, rfl, rfl, hD, hb, -⟩ := for_ex (enc := T.str) (ks := []) (turn := turnF G (NH.runN G (n + 2)) (.nm 3) [.ex (.bm (.var 2) .insert [.call 6 [.var 0, .bin .add (.bi .len [.var 2]) (.int 1)] [], .var 3])])
    (fun d ρ S' => ∃ (ys : List Str) (S2 : Store) (q : Option T), ρ = [some (.ref k), some (.lst (l.map T.str)), some (.ref S.length), q] ∧ S' = S2 ++ [some (.lst (ys.map T.str))] ∧ Dr S k S2 ∧ (∀ y ∈ ys, y ∈ l) ∧ ys.length = d.length) (fun _ _ _ _ => sn) (xs := l) (d := []) (ρ := [some (.ref k), some (.lst (l.map T.str)), some (.ref S.length), none]) (S := S ++ [some (.lst [])])
    (fun d x r ρ S' hx ⟨ys, S2, q, hρ, hS, hD, hb, hyl⟩ => by
      subst hρ hS
      simp only [List.nil_append] at hx
      have hxm : x ∈ l := by rw [hx]; simp
      have hdl : ys.length ≤ 20 := by
        have h1 := congrArg List.length hx
        simp at h1
        omega
      obtain ⟨i, S3, ei, di, i0, i1⟩ := take_app (n := n + 1) (E := [some (.lst (ys.map T.str))]) (m := (ys.length : Int) + 1) (hD.fed hk) (by omega) (by omega)
      have l2 : S2.length = S.length := hD.len
      have l3 : S3.length = S.length := di.len.trans hD.len
      have hn2 : Store.nd (S2 ++ [some (.lst (ys.map T.str))]) S.length = some (.lst (ys.map T.str)) := nd_at l2
      have hn3 : Store.nd (S3 ++ [some (.lst (ys.map T.str))]) S.length = some (.lst (ys.map T.str)) := nd_at l3
      refine ⟨[some (.ref k), some (.lst (l.map T.str)), some (.ref S.length), some (.str x)], S3 ++ [some (.lst ((ys.take i.toNat ++ [x] ++ ys.drop i.toNat).map T.str))], ?_, _, S3, _, rfl, rfl, hD.trans di, fun y hy => ?_, by simp; omega⟩
      · have hi := ins_ref (v := T.str x) hn3 (by rw [szl]; simp; omega) i0 (show i < 2 ^ 63 by omega)
        rw [set_at l3] at hi
        simp [turnF, bmOk_ins hn2, bi_len_ref hn2, ei, hi, ← List.map_take, ← List.map_drop]
      · simp only [List.mem_append, List.mem_singleton] at hy
        rcases hy with (w | w) | w
        · exact hb y (List.mem_of_mem_take w)
        · rw [w]; exact hxm
        · exact hb y (List.mem_of_mem_drop w)) ⟨[], S, none, rfl, rfl, h.refl, by simp, rfl⟩
  refine ⟨ys, S2, ?_, hD, hb⟩
  rw [rf9]
  simp [b9, startF, e]
  exact seal_new (nd := .lst (ys.map T.str)) hD.len (Nat.le_refl _) (nd_at hD.len) old_strs (hD.flat hf)
end LW
end
section
namespace LW
open PySem hiding exec execs
open NH
open L2 (atI ixN)
theorem st_at {S : Store} {k c : Nat} {fs : List (Nat × T)} {cl : Cl} {G : Gam} {D : NH.Run} {i f : Nat} {v : T} {ρ : Fr} (hr : ρ[i]? = some (some (.ref k))) (h : S.nd k = some (.ins c fs)) (hc : G.cls c = some cl) (hl : fs.length < 1000) (hf : cl.flds.contains f = true) (hk : cl.kind ≠ 2) : stLv G D (.at (.var i) f) v ρ S = .nx ρ (S.set k (some (.ins c (putN f v fs)))) := by
  simp only [stLv, q_ev_var, hr, R.thn_ok, h, hc]
  rw [if_pos ⟨hl, hf, hk⟩]
theorem Wd.is {S : Store} {n : Nat} {x : Str} (h : Wd x) : runN G (n + 1) 18 [.str x] S = .ok (.bl true) S := is_word_ok h.pos (by have := h.most; omega) h.abc
theorem is_number_ok {S : Store} {n : Nat} {x a b : Int} : runN G (n + 1) 28 [.int x, .int a, .int b] S = .ok (.bl (decide (a ≤ x) && decide (x ≤ b))) S := by
  rw [rf28]
  simp [b28, startF]
  by_cases h : a ≤ x <;> simp [h]
theorem is_date_ok {S : Store} {n : Nat} {x : Int} (h0 : 0 ≤ x) (h1 : x ≤ 9999) : runN G (n + 2) 27 [.int x] S = .ok (.bl true) S := by
  rw [rf27]
  simp [b27, startF, is_number_ok, h0, h1]
def lbl (r : Row) : T := .ins 2 [(30, .str r.key), (36, .str r.word), (37, .str r.bearer), (38, .int r.first), (39, .int r.last)]
theorem st_new {S : Store} {c : Nat} {fs : List (Nat × T)} {cl : Cl} {D : NH.Run} {f : Nat} {v : T} {ρ : Fr} (hc : G.cls c = some cl) (hl : fs.length < 1000) (hf : cl.flds.contains f = true) (hk : cl.kind ≠ 2) : stLv G D (.at (.var 0) f) v (some (.ref S.length) :: ρ) (S ++ [some (.ins c fs)]) = .nx (some (.ref S.length) :: ρ) (S ++ [some (.ins c (putN f v fs))]) := by
  rw [st_at (c := c) (fs := fs) rfl nd_new hc hl hf hk, set_new]
theorem label_ok {S : Store} {n : Nat} {row : List Str} {r : Row} (ro : RowOk row r) (hb : Wd r.bearer) (hf : Flat S) : makeC G (runN G (n + 3)) 2 [.str r.key, .str r.word, .str r.bearer, .int r.first, .int r.last] [] S = .ok (lbl r) S := by
  have hd1 := is_date_ok (n := n) (S := S ++ [some (Nd.ins 2 [])]) ro.first (by have := ro.most; have := ro.last; omega)
  have hd2 := is_date_ok (n := n) (S := S ++ [some (Nd.ins 2 [])]) (show 0 ≤ r.last by have := ro.first; have := ro.last; omega) ro.most
  have hlt : ¬ r.last < r.first := by have := ro.last; omega
  have hbody : runN G (n + 3) 24 [.ref S.length, .str r.key, .str r.word, .str r.bearer, .int r.first, .int r.last] (S ++ [some (Nd.ins 2 [])]) = .ok .non (S ++ [some (.ins 2 [(30, .str r.key), (36, .str r.word), (37, .str r.bearer), (38, .int r.first), (39, .int r.last)])]) := by
    rw [rf24]
    have w1 := ro.key.is (n := n + 1) (S := S ++ [some (Nd.ins 2 [])])
    have w2 := ro.word.is (n := n + 1) (S := S ++ [some (Nd.ins 2 [])])
    have w3 := hb.is (n := n + 1) (S := S ++ [some (Nd.ins 2 [])])
    simp [b24, startF, forLoop, turnF, still, w1, w2, w3, hd1, hd2, isT, hlt, st_new gc2, putN]
  have : makeC G (runN G (n + 3)) 2 [.str r.key, .str r.word, .str r.bearer, .int r.first, .int r.last] [] S = sealR S (makeR G (runN G (n + 3)) 2 24 [.str r.key, .str r.word, .str r.bearer, .int r.first, .int r.last] [] S) := by
    simp [makeC]
  rw [this]
  unfold makeR
  rw [cf24_6, hbody]
  simp only [R.bind_ok, bI_ok, tI_ok, oI_nx, oI_rt]
  exact seal_new (nd := .ins 2 _) rfl (Nat.le_refl _) nd_new (by simp [T.old, T.oldF]) hf
end LW
end
section
namespace LW
open PySem hiding exec execs
open NH
open L2 (atI ixN)
section
variable {S : Store} {k : Nat} {G : Gam} {D : NH.Run}
theorem attr_ref {c f : Nat} {fs : List (Nat × T)} (h : S.nd k = some (.ins c fs)) : attrT G (.ref k) f S = attrT G (.ins c fs) f S := by
  unfold attrT
  rw [vw_ref h]
  rfl
theorem attr_ins {c f : Nat} {fs : List (Nat × T)} : attrT G (.ins c fs) f S = match G.cls c with
    | some cl => if cl.flds.contains f then R.of (fs.lookup f) S else (match fs.lookup f with
      | none => R.of (cl.con.lookup f) S
      | some _ => .no)
    | none => .no := Eq.trans rfl rfl
theorem pre_ref {c m : Nat} {fs : List (Nat × T)} (h : S.nd k = some (.ins c fs)) : methPre G (.ref k) m S = methPre G (.ins c fs) m S := by
  unfold methPre
  rw [vw_ref h]
  rfl
theorem pre_ins {c m : Nat} {fs : List (Nat × T)} : methPre G (.ins c fs) m S = match fs.lookup m, methOf G c m with
    | none, some f => .ok f S
    | _, _ => .no := Eq.trans rfl rfl
theorem bi_len_refD {x : List (Str × T)} (h : S.nd k = some (.dct x)) : biT G D .len [.ref k] S = .ok (.int x.length) S := by
  show lenT G D (.ref k) S = _
  unfold lenT
  rw [vw_ref h]
  rfl
theorem notin_refD {x : List (Str × T)} {z : Str} (h : S.nd k = some (.dct x)) : cmpT G D .notin (.str z) (.ref k) S = .ok (.bl (!(getS x z).isSome)) S := by
  show (if isIns S (.ref k) then _ else inD true (.str z) (.ref k) S) = _
  have : isIns S (.ref k) = false := by unfold isIns; rw [vw_ref h]; rfl
  rw [this]
  simp only [Bool.false_eq_true, if_false]
  unfold inD
  rw [vw_ref h]
  rfl
@[simp] theorem in_D {x : List (Str × T)} {z : Str} : inD false (.str z) (.dct x) S = .ok (.bl (getS x z).isSome) S := Eq.trans rfl rfl
@[simp] theorem notin_D {x : List (Str × T)} {z : Str} : inD true (.str z) (.dct x) S = .ok (.bl (!(getS x z).isSome)) S := Eq.trans rfl rfl
end
def bkD (l : List Row) : List (Str × T) := l.map fun r => (r.key, lbl r)
def Sp.as (s : Sp) : List Str := s.keys.filter fun x => decide (x ∈ s.aside)
def Sp.kp (s : Sp) : List Str := s.keys.filter fun x => decide (x ∈ s.kept)
def bk (s : Sp) : T := .ins 1 [(27, .lst (s.row.map T.str)), (28, .dct (bkD s.found)), (31, .lst (s.as.map T.str)), (32, .lst (s.kp.map T.str))]
section
variable {S : Store} {r : Row} {s : Sp}
@[simp] theorem lb30 : attrT G (lbl r) 30 S = .ok (.str r.key) S := by simp [lbl, attr_ins]
@[simp] theorem lb36 : attrT G (lbl r) 36 S = .ok (.str r.word) S := by simp [lbl, attr_ins]
@[simp] theorem lb37 : attrT G (lbl r) 37 S = .ok (.str r.bearer) S := by simp [lbl, attr_ins]
@[simp] theorem lb38 : attrT G (lbl r) 38 S = .ok (.int r.first) S := by simp [lbl, attr_ins]
@[simp] theorem lb39 : attrT G (lbl r) 39 S = .ok (.int r.last) S := by simp [lbl, attr_ins]
@[simp] theorem lbK : isKind G S (lbl r) (.cls 2) = some true := by simp [lbl, isKind, tyOf]
@[simp] theorem bk27 : attrT G (bk s) 27 S = .ok (.lst (s.row.map T.str)) S := by simp [bk, attr_ins]
@[simp] theorem bk28 : attrT G (bk s) 28 S = .ok (.dct (bkD s.found)) S := by simp [bk, attr_ins]
@[simp] theorem bk31 : attrT G (bk s) 31 S = .ok (.lst (s.as.map T.str)) S := by simp [bk, attr_ins]
@[simp] theorem bk32 : attrT G (bk s) 32 S = .ok (.lst (s.kp.map T.str)) S := by simp [bk, attr_ins]
theorem bkD_has {l : List Row} {x : Str} : (getS (bkD l) x).isSome = decide (x ∈ l.map Row.key) := getS_none
end
/-- check_things -/
theorem is_listed_lst {S : Store} {n : Nat} {l : List T} : runN G (n + 1) 17 [.lst l] S = .ok (.bl true) S := by
  rw [rf17]
  simp [b17, startF]
theorem not_take {l : List Str} (nd : l.Nodup) {i : Nat} {w : Str} (h : l[i]? = some w) : ¬ w ∈ l.take i := by
  intro hm
  obtain ⟨j, hj⟩ := List.mem_iff_getElem?.mp hm
  have hl := (List.getElem?_eq_some_iff.mp hj).1
  rw [List.length_take] at hl
  rw [List.getElem?_take_of_lt (by omega)] at hj
  have hi := (List.getElem?_eq_some_iff.mp h).1
  have := (List.getElem?_inj (by omega) nd).mp (hj.trans h.symm)
  omega
theorem check_ok {S : Store} {n : Nat} {l : List Str} (h0 : l ≠ []) (h1 : l.length ≤ 8) (nd : l.Nodup) (hw : ∀ w ∈ l, Wd w) : runN G (n + 2) 23 [.lst (l.map T.str)] S = .ok .non S := by
  obtain ⟨ρ, S1, e, q1, q2, rfl, rfl⟩ := for_ex (enc := fun p : Str × Nat => numT (T.str p.1, p.2)) (ks := []) (turn := turnF G (NH.runN G (n + 1)) (.tp [1, 2]) [.ifS (.or (.not (.call 18 [.var 2] [])) (.or (.cmp .isin (.var 2) (.cut (.var 0) none (some (.var 1)))) (.cmp .eq (.var 1) (.glo 10)))) [.no] []])
    (fun d ρ S' => ∃ (q1 q2 : Option T), ρ = [some (.lst (l.map T.str)), q1, q2] ∧ S' = S) (fun _ _ _ _ => sn) (xs := l.zipIdx) (d := []) (ρ := [some (.lst (l.map T.str)), none, none]) (S := S)
    (fun d x r ρ S' hx ⟨q1, q2, hρ, hS⟩ => by
      subst hρ hS
      simp only [List.nil_append] at hx
      obtain ⟨w, i⟩ := x
      have hi : l[i]? = some w := List.mem_zipIdx_iff_getElem?.mp (show (w, i) ∈ l.zipIdx by rw [hx]; simp)
      have hil := (List.getElem?_eq_some_iff.mp hi).1
      have hwd := (hw w (List.mem_of_getElem? hi)).is (n := n) (S := S')
      have hnt := not_take nd hi
      refine ⟨[some (.lst (l.map T.str)), some (.int (i : Nat)), some (.str w)], S', ?_, _, _, rfl, rfl⟩
      have h8 : ¬ (i : Int) = 8 := by omega
      simp [turnF, setTg, numT, hwd, cutL_hi (show (0 : Int) ≤ (i : Nat) by omega), ← List.map_take, hnt, h8]) ⟨_, _, rfl, rfl⟩
  rw [rf23]
  have hl0 : ¬ ((l.length : Int) = 0) := by
    have := List.length_pos_iff.mpr h0
    omega
  simp [b23, startF, is_listed_lst, h0, enum_map, e]
end LW
end
section
namespace LW
open PySem hiding exec execs
open NH
open L2 (atI ixN)
section
variable {S : Store} {a b o : Option Nd}
theorem nd2a : Store.nd (S ++ [a, b]) S.length = a := by
  unfold Store.nd
  rw [List.getElem?_append_right (Nat.le_refl _), Nat.sub_self]
  rfl
theorem nd2b : Store.nd (S ++ [a, b]) (S.length + 1) = b := by
  unfold Store.nd
  rw [List.getElem?_append_right (by omega), Nat.add_sub_cancel_left]
  rfl
theorem set2a : (S ++ [a, b]).set S.length o = S ++ [o, b] := by
  rw [List.set_append_right _ _ (Nat.le_refl _), Nat.sub_self]
  rfl
theorem set2b : (S ++ [a, b]).set (S.length + 1) o = S ++ [a, o] := by
  rw [List.set_append_right _ _ (by omega), Nat.add_sub_cancel_left]
  rfl
end
def bkS (S : Store) (s : Sp) (l : List Row) : Store := S ++ [some (.ins 1 [(27, .lst (s.row.map T.str)), (28, .ref (S.length + 1))]), some (.dct (bkD l))]
def bkS2 (S : Store) (s : Sp) (l : List (Nat × T)) : Store := S ++ [some (.ins 1 ([(27, .lst (s.row.map T.str)), (28, .dct (bkD s.found))] ++ l)), none]
theorem st_new2 {S : Store} {c : Nat} {fs : List (Nat × T)} {b : Option Nd} {cl : Cl} {D : NH.Run} {f : Nat} {v : T} {ρ : Fr} (hc : G.cls c = some cl) (hl : fs.length < 1000) (hf : cl.flds.contains f = true) (hk : cl.kind ≠ 2) : stLv G D (.at (.var 0) f) v (some (.ref S.length) :: ρ) (S ++ [some (.ins c fs), b]) = .nx (some (.ref S.length) :: ρ) (S ++ [some (.ins c (putN f v fs)), b]) := by
  rw [st_at (c := c) (fs := fs) rfl nd2a hc hl hf hk, set2a]
theorem is_next_ok {S : Store} {n : Nat} {s : Sp} {l : List Row} {r : Row} (hl : l.length < 16) (hn : ¬ r.key ∈ l.map Row.key) (hb : r.bearer ∈ s.row) : runN G (n + 1) 29 [.ref S.length, lbl r] (bkS S s l) = .ok (.bl true) (bkS S s l) := by
  rw [rf29]
  have h1 : Store.nd (bkS S s l) S.length = some (.ins 1 [(27, .lst (s.row.map T.str)), (28, .ref (S.length + 1))]) := nd2a
  have h2 : Store.nd (bkS S s l) (S.length + 1) = some (.dct (bkD l)) := nd2b
  have h16 : ¬ (((bkD l).length : Nat) : Int) = 16 := by simp [bkD]; omega
  simp [b29, startF, attr_ref h1, attr_ins, bi_len_refD h2, h16, notin_refD h2, bkD_has, hb, -List.mem_map, hn]
theorem has_ok {S : Store} {n : Nat} {s : Sp} {x : Str} : runN G (n + 1) 30 [.ref S.length, .str x] (bkS2 S s []) = .ok (.bl (decide (x ∈ s.keys))) (bkS2 S s []) := by
  rw [rf30]
  have h1 : Store.nd (bkS2 S s []) S.length = some (.ins 1 [(27, .lst (s.row.map T.str)), (28, .dct (bkD s.found))]) := nd2a
  simp [b30, startF, attr_ref h1, attr_ins, bkD_has, Sp.keys]
theorem zip_fst {α : Type} {l : List α} {k : Nat} : (l.zipIdx k).map (·.1) = l := by
  induction l generalizing k with
  | nil => rfl
  | cons a l ih => rw [List.zipIdx_cons, List.map_cons, ih]
theorem init_ok {S : Store} {n : Nat} {s : Sp} (ok : s.Ok) : runN G (n + 3) 15 [.ref S.length, .lst (s.row.map T.str), .lst (s.found.map lbl), .lst (s.aside.map T.str), .lst (s.kept.map T.str)] (S ++ [some (.ins 1 [])]) =
    .ok .non (S ++ [some (.ins 1 [(27, .lst (s.row.map T.str)), (28, .dct (bkD s.found)), (31, .lst (s.as.map T.str)), (32, .lst (s.kp.map T.str))]), none]) := by
  rw [rf15]
  have hck := check_ok (n := n) (S := S ++ [some (.ins 1 [])]) ok.row0 (by have := ok.rowL; omega) ok.rowN ok.rowW
  have lL := fun (S : Store) (l : List T) => is_listed_lst (n := n + 1) (S := S) (l := l)
  -- the labels
  obtain ⟨ρ, S1, e, q5, q6, rfl, rfl⟩ := for_ex (enc := fun p : Row × Nat => numT (lbl p.1, p.2)) (ks := []) (turn := turnF G (NH.runN G (n + 2)) (.tp [5, 6]) [.ifS (.not (.meth (.var 0) 29 [.var 6] [])) [.no] [], .asg (.sbD (.attr (.var 0) 28) (.attr (.var 6) 30)) (.var 6)])
    (fun d ρ S' => ∃ (q5 q6 : Option T), ρ = [some (.ref S.length), some (.lst (s.row.map T.str)), some (.lst (s.found.map lbl)), some (.lst (s.aside.map T.str)), some (.lst (s.kept.map T.str)), q5, q6, none] ∧ S' = bkS S s (d.map (·.1))) (fun _ _ _ _ => sn) (xs := s.found.zipIdx) (d := []) (ρ := [some (.ref S.length), some (.lst (s.row.map T.str)), some (.lst (s.found.map lbl)), some (.lst (s.aside.map T.str)), some (.lst (s.kept.map T.str)), none, none, none]) (S := bkS S s [])
    (fun d x r ρ S' hx ⟨q5, q6, hρ, hS⟩ => by
      subst hρ hS
      simp only [List.nil_append] at hx
      have hx2 : s.found = d.map (·.1) ++ x.1 :: r.map (·.1) := by
        rw [← zip_fst (l := s.found) (k := 0), hx]
        simp
      have hxm : x.1 ∈ s.found := by rw [hx2]; simp
      have hnew : ¬ x.1.key ∈ (d.map (·.1)).map Row.key := by
        have := ok.keyN
        unfold Sp.keys at this
        rw [hx2, List.map_append, List.nodup_append] at this
        intro h
        exact this.2.2 _ h x.1.key (by simp) rfl
      have hdl : (d.map (·.1)).length < 16 := by
        have h1 := congrArg List.length hx2
        have h2 := ok.fL
        simp at h1 ⊢
        omega
      have hnx := is_next_ok (n := n + 1) (S := S) hdl hnew (ok.ok _ hxm).bearer
      have h1 : Store.nd (bkS S s (d.map (·.1))) S.length = some (.ins 1 [(27, .lst (s.row.map T.str)), (28, .ref (S.length + 1))]) := nd2a
      have h2 : Store.nd (bkS S s (d.map (·.1))) (S.length + 1) = some (.dct (bkD (d.map (·.1)))) := nd2b
      have hput : putS x.1.key (lbl x.1) (bkD (d.map (·.1))) = bkD ((d ++ [x]).map (·.1)) := by
        rw [putS_new (fun kv hkv => by
          obtain ⟨z, hz, rfl⟩ := List.mem_map.mp hkv
          exact fun e => hnew (by rw [← e]; exact List.mem_map_of_mem hz))]
        simp [bkD]
      have hset : (bkS S s (d.map (·.1))).set (S.length + 1) (some (.dct (bkD ((d ++ [x]).map (·.1))))) = bkS S s ((d ++ [x]).map (·.1)) := set2b
      refine ⟨[some (.ref S.length), some (.lst (s.row.map T.str)), some (.lst (s.found.map lbl)), some (.lst (s.aside.map T.str)), some (.lst (s.kept.map T.str)), some (.int (x.2 : Nat)), some (lbl x.1), none], bkS S s ((d ++ [x]).map (·.1)), ?_, _, _, rfl, rfl⟩
      have hlD : (bkD (d.map (·.1))).length < 16777216 := by simp [bkD] at hdl ⊢; omega
      simp only [turnF, setTg, numT]
      simp [pre_ref h1, pre_ins, methOf, hnx, stLv, attr_ref h1, attr_ins, h2, szl]
      simp only [List.map_append, List.map_cons, List.map_nil] at hput hset
      rw [if_pos (by simpa using hlD), hput, hset]
      rfl) ⟨_, _, rfl, rfl⟩
  have hz : (([] : List (Row × Nat)) ++ s.found.zipIdx).map (fun p => p.1) = s.found := by rw [List.nil_append]; exact zip_fst
  rw [hz] at e
  have h1 : Store.nd (bkS S s s.found) S.length = some (.ins 1 [(27, .lst (s.row.map T.str)), (28, .ref (S.length + 1))]) := nd2a
  have h2 : Store.nd (bkS S s s.found) (S.length + 1) = some (.dct (bkD s.found)) := nd2b
  -- the rulings
  obtain ⟨ρ, S2, e2, p5, p7, rfl, rfl⟩ := for_ex (enc := fun p : Str × Nat => numT (T.str p.1, p.2)) (ks := []) (turn := turnF G (NH.runN G (n + 2)) (.tp [5, 7]) [.ifS (.or (.cmp .notin (.var 7) (.var 0)) (.cmp .isin (.var 7) (.cut (.al false (.lstS [(true, .var 3), (true, .var 4)])) none (some (.var 5))))) [.no] []])
    (fun d ρ S' => ∃ (p5 p7 : Option T), ρ = [some (.ref S.length), some (.lst (s.row.map T.str)), some (.lst (s.found.map lbl)), some (.lst (s.aside.map T.str)), some (.lst (s.kept.map T.str)), p5, q6, p7] ∧ S' = bkS2 S s []) (fun _ _ _ _ => sn) (xs := (s.aside ++ s.kept).zipIdx) (d := []) (ρ := [some (.ref S.length), some (.lst (s.row.map T.str)), some (.lst (s.found.map lbl)), some (.lst (s.aside.map T.str)), some (.lst (s.kept.map T.str)), q5, q6, none]) (S := bkS2 S s [])
    (fun d x r ρ S' hx ⟨p5, p7, hρ, hS⟩ => by
      subst hρ hS
      simp only [List.nil_append] at hx
      obtain ⟨w, i⟩ := x
      have hi : (s.aside ++ s.kept)[i]? = some w := List.mem_zipIdx_iff_getElem?.mp (show (w, i) ∈ (s.aside ++ s.kept).zipIdx by rw [hx]; simp)
      have hnt := not_take ok.akN hi
      have hk : w ∈ s.keys := by
        rcases List.mem_append.mp (List.mem_of_getElem? hi) with q | q
        · exact ok.aK w q
        · exact ok.kK w q
      have h3 : Store.nd (bkS2 S s []) S.length = some (.ins 1 [(27, .lst (s.row.map T.str)), (28, .dct (bkD s.found))]) := nd2a
      have hin := has_ok (n := n + 1) (S := S) (s := s) (x := w)
      have hown : cmpT G (NH.runN G (n + 2)) .notin (.str w) (.ref S.length) (bkS2 S s []) = .ok (.bl false) (bkS2 S s []) := by
        show (if isIns (bkS2 S s []) (.ref S.length) then ownB G (NH.runN G (n + 2)) nmContains true (.ref S.length) (.str w) (bkS2 S s []) else _) = _
        have : isIns (bkS2 S s []) (.ref S.length) = true := by unfold isIns; rw [vw_ref h3]; rfl
        rw [if_pos this]
        unfold ownB
        rw [vw_ref h3]
        simp [methOf, nmContains, hin, hk]
      have hle : (s.aside ++ s.kept).length ≤ 16777216 := by
        have := ok.akL
        omega
      refine ⟨[some (.ref S.length), some (.lst (s.row.map T.str)), some (.lst (s.found.map lbl)), some (.lst (s.aside.map T.str)), some (.lst (s.kept.map T.str)), some (.int (i : Nat)), q6, some (.str w)], bkS2 S s [], ?_, _, _, rfl, rfl⟩
      simp only [turnF, setTg, numT]
      simp only [List.length_append] at hle
      simp [hown, szl, hle, cutL_hi (show (0 : Int) ≤ (i : Nat) by omega), ← List.map_append, ← List.map_take, hnt]) ⟨_, _, rfl, rfl⟩
  have h3 : Store.nd (bkS2 S s []) S.length = some (.ins 1 [(27, .lst (s.row.map T.str)), (28, .dct (bkD s.found))]) := nd2a
  have set27 : ∀ fs v, (S ++ [some (Nd.ins 1 fs)]).set S.length v = S ++ [v] := fun _ _ => set_new
  have hst : ∀ ρ : Fr, settleS (some (.ref S.length) :: ρ) (bkS S s s.found) 0 28 = some (bkS2 S s []) := fun ρ => by
    simp only [settleS, List.getElem?_cons_zero, h1]
    simp [h2, putN]
    unfold bkS bkS2
    rw [set2b, set2a]
    rfl
  have hle : s.aside.length + s.kept.length ≤ 16777216 := by
    have := ok.akL
    simp only [List.length_append] at this
    omega
  have hks : ∀ (ρ : Fr) (l : List (Nat × T)), keysSrc G (some (.ref S.length) :: ρ) (bkS2 S s l) 0 (some 28) = some (s.found.map fun r => T.str r.key, []) := fun ρ l => by
    have h4 : Store.nd (bkS2 S s l) S.length = some (.ins 1 ([(27, .lst (s.row.map T.str)), (28, .dct (bkD s.found))] ++ l)) := nd2a
    unfold keysSrc keysDct
    simp only [List.getElem?_cons_zero]
    rw [vw_ref h4]
    simp [bkD]
  have hflt : ∀ (x : List Str) (ρ : Fr) (i : Nat) (l : List (Nat × T)), ρ[i]? = some (some (.lst (x.map T.str))) → i ≠ 7 → 7 < ρ.length → lcLoop [] (turn1 G (NH.runN G (n + 2)) (.var 7) (.nm 7) (.cmp .isin (.var 7) (.var i)) [7] ρ) (s.found.map fun r => T.str r.key) [] (bkS2 S s l) = .ok ((s.keys.filter fun y => decide (y ∈ x)).map T.str) (bkS2 S s l) := fun x ρ i l hi h7 hl => by
    rw [lc_filt (enc := fun r : Row => T.str r.key) (fun r => decide (r.key ∈ x)) (fun r => T.str r.key) sn (by rw [szl]; have := ok.fL; omega) (fun r hr => ?_)]
    · unfold Sp.keys
      rw [List.filter_map, List.map_map]
      rfl
    · have g7 : (ρ.set 7 (some (.str r.key)))[7]? = some (some (.str r.key)) := List.getElem?_set_self hl
      have gi : (ρ.set 7 (some (.str r.key)))[i]? = some (some (.lst (x.map T.str))) := by
        rw [List.getElem?_set_ne (by omega)]; exact hi
      by_cases hx : r.key ∈ x
      · simp [turn1, wipeF, g7, gi, hx]
      · simp [turn1, wipeF, g7, gi, hx]
  simp only [bkS, bkD, List.map_nil] at e hst
  simp [b15, startF, hck, lL, st_new gc1, st_new2 gc1, putN, enum_map, e, hst, szl, hle, ← List.map_append, e2, hks]
  have b31 : ∀ (ρ : Fr) (v : T), stLv G (NH.runN G (n + 2)) (.at (.var 0) 31) v (some (.ref S.length) :: ρ) (bkS2 S s []) = .nx (some (.ref S.length) :: ρ) (bkS2 S s [(31, v)]) := fun ρ v => by
    unfold bkS2
    rw [st_new2 gc1 (by simp) (by simp) (by simp)]
    simp [putN]
  have b32 : ∀ (ρ : Fr) (v w : T), stLv G (NH.runN G (n + 2)) (.at (.var 0) 32) v (some (.ref S.length) :: ρ) (bkS2 S s [(31, w)]) = .nx (some (.ref S.length) :: ρ) (bkS2 S s [(31, w), (32, v)]) := fun ρ v w => by
    unfold bkS2
    rw [st_new2 gc1 (by simp) (by simp) (by simp)]
    simp [putN]
  rw [hflt s.aside _ 3 _ rfl (by omega) (by simp)]
  simp [b31, hks]
  rw [hflt s.kept _ 4 _ rfl (by omega) (by simp)]
  simp [b32]
  rfl
/-- the new book -/
theorem made_ok {S : Store} {n : Nat} {s : Sp} (ok : s.Ok) (hf : Flat S) : runN G (n + 5) 3 [s.t] S = .ok (bk s) S := by
  have hlab : runN G (n + 4) 16 [s.t] S = .ok (.lst (s.found.map lbl)) S := by
    rw [rf16]
    have e1 : subT s.t (.int 1) S = .ok (.lst (s.found.map Row.t)) S := by simp [Sp.t]
    simp [b16, startF, e1]
    rw [lc_map (enc := Row.t) lbl sn (by rw [szl]; have := ok.fL; omega) (fun r hr => ?_)]
    · simp
    · have ro := ok.ok r hr
      have := label_ok (n := n) ro (ok.rowW _ ro.bearer) hf
      simp [turn0, wipeF, Row.t, this]
  rw [rf3]
  have e0 : subT s.t (.int 0) S = .ok (.lst (s.row.map T.str)) S := by simp [Sp.t]
  have e2 : subT s.t (.int 2) S = .ok (.lst (s.aside.map T.str)) S := by simp [Sp.t]
  have e3 : subT s.t (.int 3) S = .ok (.lst (s.kept.map T.str)) S := by simp [Sp.t]
  have hm : makeC G (runN G (n + 4)) 1 [.lst (s.row.map T.str), .lst (s.found.map lbl)] [(15, .lst (s.aside.map T.str)), (16, .lst (s.kept.map T.str))] S = .ok (bk s) S := by
    have : makeC G (runN G (n + 4)) 1 [.lst (s.row.map T.str), .lst (s.found.map lbl)] [(15, .lst (s.aside.map T.str)), (16, .lst (s.kept.map T.str))] S = sealR S (makeR G (runN G (n + 4)) 1 15 [.lst (s.row.map T.str), .lst (s.found.map lbl)] [(15, .lst (s.aside.map T.str)), (16, .lst (s.kept.map T.str))] S) := by
      simp [makeC]
    rw [this]
    unfold makeR
    rw [ck15, init_ok (n := n + 1) ok]
    simp only [R.bind_ok, bI_ok, tI_ok, oI_nx, oI_rt]
    refine seal_new (nd := .ins 1 _) rfl (Nat.le_refl _) nd2a ?_ hf
    have hD : T.oldD 0 (bkD s.found) = true := by
      unfold bkD
      induction s.found with
      | nil => rfl
      | cons a l ih => simp only [List.map_cons, T.oldD, ih, Bool.and_true]; rfl
    simp [T.old, T.oldF, old_strs, hD]
  simp [b3, startF, e0, e2, e3, hlab, hm]
end LW
end
section
namespace LW
open PySem hiding exec execs
open NH
open L2 (atI ixN)
def noRow : Row := ⟨tx [], tx [], tx [], 0, 0⟩
def lab (s : Sp) (x : Str) : Row := (s.found.find? fun r => decide (r.key = x)).getD noRow
theorem find_key : ∀ {l : List Row} {r : Row}, (l.map Row.key).Nodup → r ∈ l → l.find? (fun q => decide (q.key = r.key)) = some r
  | [], r, _, h => by cases h
  | a :: l, r, nd, h => by
    rw [List.map_cons, List.nodup_cons] at nd
    rw [List.find?_cons]
    rcases List.mem_cons.mp h with q | q
    · subst q; simp
    · have : ¬ a.key = r.key := fun e => nd.1 (by rw [e]; exact List.mem_map_of_mem q)
      simp only [this, decide_false]
      exact find_key nd.2 q
section
variable {S : Store} {n : Nat} {s : Sp} {x y : Str} {dt : Str → Int}
theorem lab_of (ok : s.Ok) {r : Row} (h : r ∈ s.found) : lab s r.key = r := by
  unfold lab
  rw [find_key ok.keyN h]
  rfl
theorem lab_mem (ok : s.Ok) (h : x ∈ s.keys) : lab s x ∈ s.found ∧ (lab s x).key = x := by
  obtain ⟨r, hr, rfl⟩ := List.mem_map.mp h
  rw [lab_of ok hr]
  exact ⟨hr, rfl⟩
theorem get_bk (ok : s.Ok) (h : x ∈ s.keys) : getS (bkD s.found) x = some (lbl (lab s x)) := by
  obtain ⟨r, hr, rfl⟩ := List.mem_map.mp h
  rw [lab_of ok hr]
  exact getS_map (f := Row.key) (g := lbl) ok.keyN hr
theorem get_dt (ok : s.Ok) (h : x ∈ s.keys) : getS (dtT dt s.found) x = some (.int (dt x)) := by
  obtain ⟨r, hr, rfl⟩ := List.mem_map.mp h
  exact getS_map (f := Row.key) (g := fun r => T.int (dt r.key)) ok.keyN hr
theorem dt_has : (getS (dtT dt s.found) x).isSome = decide (x ∈ s.keys) := getS_none
@[simp] theorem pm33 : methPre G (bk s) 33 S = .ok 47 S := by simp [bk, pre_ins, methOf]
@[simp] theorem pm34 : methPre G (bk s) 34 S = .ok 48 S := by simp [bk, pre_ins, methOf]
@[simp] theorem pm51 : methPre G (bk s) 51 S = .ok 49 S := by simp [bk, pre_ins, methOf]
@[simp] theorem pm45 : methPre G (bk s) 45 S = .ok 50 S := by simp [bk, pre_ins, methOf]
@[simp] theorem pm44 : methPre G (bk s) 44 S = .ok 51 S := by simp [bk, pre_ins, methOf]
@[simp] theorem pm52 : methPre G (bk s) 52 S = .ok 52 S := by simp [bk, pre_ins, methOf]
@[simp] theorem pm55 : methPre G (bk s) 55 S = .ok 53 S := by simp [bk, pre_ins, methOf]
@[simp] theorem pm56 : methPre G (bk s) 56 S = .ok 54 S := by simp [bk, pre_ins, methOf]
theorem bk_has : runN G (n + 1) 30 [bk s, .str x] S = .ok (.bl (decide (x ∈ s.keys))) S := by
  rw [rf30]
  simp [b30, startF, bkD_has, Sp.keys]
theorem bk_notin : cmpT G (runN G (n + 1)) .notin (.str x) (bk s) S = .ok (.bl (!decide (x ∈ s.keys))) S := by
  show (if isIns S (bk s) then ownB G (runN G (n + 1)) nmContains true (bk s) (.str x) S else inD true (.str x) (bk s) S) = _
  have h1 : isIns S (bk s) = true := by unfold isIns bk; rfl
  rw [if_pos h1]
  unfold ownB
  have h2 : view S (bk s) = bk s := rfl
  rw [h2]
  have hh := bk_has (S := S) (n := n) (s := s) (x := x)
  unfold bk at hh ⊢
  simp [methOf, nmContains, hh]
theorem bk_len (ok : s.Ok) : biT G (runN G (n + 1)) .len [bk s] S = .ok (.int s.keys.length) S := by
  have h : runN G (n + 1) 31 [bk s] S = .ok (.int s.keys.length) S := by
    rw [rf31]
    simp [b31, startF, bkD, Sp.keys]
  show lenT G (runN G (n + 1)) (bk s) S = _
  unfold bk at h
  unfold lenT bk
  simp [methOf, nmLen, h]
  have := ok.fL
  simp only [Sp.keys, List.length_map]
  omega
theorem bk_things : runN G (n + 1) 47 [bk s] S = .ok (.lst (s.row.map T.str)) S := by
  rw [rf47]
  simp [b47, startF]
theorem keys_bk {ρ : Fr} : keysSrc G (some (bk s) :: ρ) S 0 (some 28) = some (s.found.map fun r => T.str r.key, []) := by
  unfold keysSrc keysDct
  simp only [List.getElem?_cons_zero]
  rw [show view S (bk s) = bk s from rfl]
  unfold bk
  simp [bkD]
def Sp.act (s : Sp) : List Str := s.keys.filter fun x => !decide (x ∈ s.aside)
theorem as_mem (h : x ∈ s.keys) : (x ∈ s.as) = (x ∈ s.aside) := by
  unfold Sp.as
  simp [List.mem_filter, h]
theorem kp_mem (h : x ∈ s.keys) : (x ∈ s.kp) = (x ∈ s.kept) := by
  unfold Sp.kp
  simp [List.mem_filter, h]
theorem key_mem {r : Row} (h : r ∈ s.found) : r.key ∈ s.keys := List.mem_map_of_mem h
theorem bk_labels (ok : s.Ok) : runN G (n + 1) 48 [bk s] S = .ok (.lst (s.found.map lbl)) S := by
  rw [rf48]
  simp [b48, startF, keys_bk]
  rw [lc_map (enc := fun r : Row => T.str r.key) lbl sn (by rw [szl]; have := ok.fL; omega) (fun r hr => ?_)]
  · simp
  · simp [turn0, wipeF, get_bk ok (key_mem hr), lab_of ok hr]
theorem bk_active (ok : s.Ok) : runN G (n + 1) 49 [bk s] S = .ok (.lst (s.act.map T.str)) S := by
  rw [rf49]
  simp [b49, startF, keys_bk]
  rw [lc_filt (enc := fun r : Row => T.str r.key) (fun r => !decide (r.key ∈ s.aside)) (fun r => T.str r.key) sn (by rw [szl]; have := ok.fL; omega) (fun r hr => ?_)]
  · unfold Sp.act Sp.keys
    rw [List.filter_map, List.map_map]
    simp
    rfl
  · have := as_mem (key_mem hr)
    by_cases hx : r.key ∈ s.aside <;> simp [turn1, wipeF, this, hx]
theorem bk_need (h : x ∈ s.keys) : runN G (n + 2) 50 [bk s, .str x] S = .ok .non S := by
  rw [rf50]
  simp [b50, startF, bk_notin, h]
theorem bk_label (ok : s.Ok) (h : x ∈ s.keys) : runN G (n + 3) 51 [bk s, .str x] S = .ok (lbl (lab s x)) S := by
  rw [rf51]
  simp [b51, startF, bk_need h, get_bk ok h]
theorem bk_kept (h : x ∈ s.keys) : runN G (n + 3) 52 [bk s, .str x] S = .ok (.bl (decide (x ∈ s.kept))) S := by
  rw [rf52]
  simp [b52, startF, bk_need h, kp_mem h]
def ix (s : Sp) (x : Str) : Int := ((s.keys.findIdx fun y => decide (y = x) : Nat) : Int)
theorem find_ix {l : List Str} (h : x ∈ l) : (l.map T.str).findIdx? (fun y => y.eqv (.str x)) = some (l.findIdx fun y => decide (y = x)) := by
  induction l with
  | nil => cases h
  | cons a l ih =>
    rw [List.map_cons, List.findIdx?_cons, List.findIdx_cons]
    by_cases e : a = x
    · simp [e]
    · have : (T.str a).eqv (.str x) = false := by simp [e]
      rw [this]
      have hm : x ∈ l := by
        rcases List.mem_cons.mp h with q | q
        · exact absurd q.symm e
        · exact q
      simp [ih hm, e]
theorem index_ok (h : x ∈ s.keys) : bmT (.lst (s.keys.map T.str)) .index [.str x] S = .ok (.int (ix s x)) S := by
  show indexT (.lst (s.keys.map T.str)) (.str x) S = _
  unfold indexT
  simp [find_ix h, ix]
theorem bk_place (h : x ∈ s.keys) : runN G (n + 1) 53 [bk s, .str x] S = .ok (.int (ix s x)) S := by
  rw [rf53]
  have : (bkD s.found).map (fun kv => T.str kv.1) = s.keys.map T.str := by simp [bkD, Sp.keys]
  simp [b53, startF, this, index_ok h]
def ageT (s : Sp) (dt : Str → Int) (x : Str) : T := .tup [.int (dt x), .int (ix s x)]
theorem bk_age (ok : s.Ok) (h : x ∈ s.keys) : runN G (n + 2) 45 [bk s, .dct (dtT dt s.found), .str x] S = .ok (ageT s dt x) S := by
  rw [rf45]
  simp [b45, startF, get_dt ok h, bk_place h, ageT]
def older (s : Sp) (dt : Str → Int) (a b : Str) : Bool := HT.lexLt [dt a, ix s a] [dt b, ix s b]
theorem lt_age : ltD (ageT s dt x) (ageT s dt y) S = .ok (.bl (older s dt x y)) S := by
  simp [ageT, ltD, intsOf, older]
def rivP (s : Sp) (x o : Str) : Bool := decide ((lab s o).word = (lab s x).word) && !decide ((lab s o).bearer = (lab s x).bearer)
def riv (s : Sp) (x : Str) : List Str := s.act.filter (rivP s x)
theorem act_mem (h : x ∈ s.act) : x ∈ s.keys := (List.mem_filter.mp h).1
theorem act_len (ok : s.Ok) : s.act.length ≤ 6 := by
  unfold Sp.act
  exact Nat.le_trans (List.length_filter_le _ _) (by simpa [Sp.keys] using ok.fL)
end
end LW
end
section
namespace LW
open PySem hiding exec execs
open NH
open L2 (atI ixN)
/-- the dates fit -/
def Fit (s : Sp) (dt : Str → Int) : Prop := ∀ r ∈ s.found, r.first ≤ dt r.key ∧ dt r.key ≤ r.last
section
variable {S : Store} {n : Nat} {s : Sp} {x y : Str} {dt : Str → Int}
@[simp] theorem pmL54 {r : Row} : methPre G (lbl r) 54 S = .ok 55 S := by simp [lbl, pre_ins, methOf]
theorem may_ok {r : Row} {d : Int} (h0 : r.first ≤ d) (h1 : d ≤ r.last) : runN G (n + 2) 55 [lbl r, .int d] S = .ok (.bl true) S := by
  rw [rf55]
  simp [b55, startF, is_number_ok, h0, h1]
theorem need_dating_ok (ok : s.Ok) (ft : Fit s dt) : runN G (n + 5) 39 [bk s, .dct (dtT dt s.found)] S = .ok .non S := by
  have h : runN G (n + 4) 43 [bk s, .dct (dtT dt s.found)] S = .ok (.bl true) S := by
    rw [rf43]
    have hl := bk_len (n := n + 2) (S := S) ok
    have hll : (((dtT dt s.found).length : Nat) : Int) = (s.keys.length : Int) := by simp [dtT, Sp.keys]
    simp [b43, startF, hl, hll, bk_labels ok]
    rw [lc_map (enc := lbl) (fun _ => T.bl true) sn (by rw [szl]; have := ok.fL; omega) (fun r hr => ?_)]
    · have := all_map (S := S) (f := fun _ : Row => true) (l := s.found)
      simp [this]
    · have hm := may_ok (n := n + 1) (S := S) (ft r hr).1 (ft r hr).2
      simp [turn0, wipeF, dt_has, key_mem hr, get_dt ok (key_mem hr), hm]
  rw [rf39]
  simp [b39, startF, h]
theorem bk_rivals (ok : s.Ok) (hf : Flat S) (h : x ∈ s.keys) : runN G (n + 4) 54 [bk s, .str x] S = .ok (.lst ((riv s x).map T.str)) S := by
  obtain ⟨ρ, S1, e, q4, q5, rfl, rfl⟩ := for_ex (enc := T.str) (ks := []) (turn := turnF G (NH.runN G (n + 3)) (.nm 4) [.asg (.nm 5) (.sub (.attr (.var 0) 28) (.var 4)), .ifS (.and (.cmp .eq (.attr (.var 5) 36) (.attr (.var 2) 36)) (.cmp .ne (.attr (.var 5) 37) (.attr (.var 2) 37))) [.ex (.bm (.var 3) .append [.var 4])] []])
    (fun d ρ S' => ∃ (q4 q5 : Option T), ρ = [some (bk s), some (.str x), some (lbl (lab s x)), some (.ref S.length), q4, q5] ∧ S' = S ++ [some (.lst ((d.filter (rivP s x)).map T.str))]) (fun _ _ _ _ => sn) (xs := s.act) (d := []) (ρ := [some (bk s), some (.str x), some (lbl (lab s x)), some (.ref S.length), none, none]) (S := S ++ [some (.lst [])])
    (fun d o r ρ S' hx ⟨q4, q5, hρ, hS⟩ => by
      subst hρ hS
      simp only [List.nil_append] at hx
      have ho : o ∈ s.act := by rw [hx]; simp
      have hd : d.length ≤ 6 := by
        have h1 := congrArg List.length hx
        have h2 := act_len ok
        simp at h1
        omega
      have hdl : (d.filter (rivP s x)).length < 16777216 := by
        have := List.length_filter_le (rivP s x) d
        omega
      refine ⟨[some (bk s), some (.str x), some (lbl (lab s x)), some (.ref S.length), some (.str o), some (lbl (lab s o))], S ++ [some (.lst (((d ++ [o]).filter (rivP s x)).map T.str))], ?_, _, _, rfl, rfl⟩
      have g := get_bk ok (act_mem ho)
      have hn : Store.nd (S ++ [some (.lst ((d.filter (rivP s x)).map T.str))]) S.length = some (.lst ((d.filter (rivP s x)).map T.str)) := nd_new
      have hap := app_ref (v := T.str o) hn (by rw [szl]; simpa using hdl)
      rw [set_new] at hap
      by_cases h1 : (lab s o).word = (lab s x).word
      · by_cases h2 : (lab s o).bearer = (lab s x).bearer
        · simp [turnF, g, h1, h2, rivP]
        · simp [turnF, g, h1, h2, rivP, bmOk_ref hn, hap]
      · simp [turnF, g, h1, rivP]) ⟨_, _, rfl, rfl⟩
  rw [rf54]
  simp [b54, startF, bk_label ok h, bk_active ok, e]
  exact seal_new (nd := .lst ((riv s x).map T.str)) rfl (Nat.le_refl _) nd_new old_strs hf
/-! ### ages as keys -/
theorem toD_age : (ageT s dt x).toD = .tuple [.int (dt x), .int (ix s x)] := by
  simp [ageT, T.toD, T.toDs]
theorem ages_ok {l : List Str} (h : l.length ≤ 16777216) : keysOk (l.map (ageT s dt)) := by
  refine ⟨by rw [szl]; simpa using h, fun k hk => ?_, fun d hd d' hd' => ?_, .inl fun d hd => ?_⟩
  · obtain ⟨z, _, rfl⟩ := List.mem_map.mp hk
    rfl
  · rw [List.map_map] at hd hd'
    obtain ⟨z, _, rfl⟩ := List.mem_map.mp hd
    obtain ⟨z', _, rfl⟩ := List.mem_map.mp hd'
    rfl
  · rw [List.map_map] at hd
    obtain ⟨z, _, rfl⟩ := List.mem_map.mp hd
    exact ⟨_, _, toD_age⟩
theorem keysBy_map {α : Type} {enc f : α → T} {turn : T → R T} {l : List α} (h : ∀ a ∈ l, turn (enc a) = .ok (f a) S) : keysBy turn S (l.map enc) = some (l.map f) := by
  induction l with
  | nil => rfl
  | cons a l ih =>
    rw [List.map_cons]
    unfold keysBy
    rw [h a (List.mem_cons_self ..)]
    simp only [if_true]
    rw [ih fun b hb => h b (List.mem_cons_of_mem _ hb)]
    rfl
theorem least_mem : ∀ {l : List (T × T)} {p : T × T}, leastBy p l = p ∨ leastBy p l ∈ l
  | [], p => .inl rfl
  | q :: r, p => by
    unfold leastBy
    split
    · rcases least_mem (l := r) (p := q) with h | h
      · rw [h]; exact .inr (List.mem_cons_self ..)
      · exact .inr (List.mem_cons_of_mem _ h)
    · rcases least_mem (l := r) (p := p) with h | h
      · exact .inl h
      · exact .inr (List.mem_cons_of_mem _ h)
/-! ### barring -/
def oldR (s : Sp) (dt : Str → Int) (x : Str) : List Str := (riv s x).filter fun o => older s dt o x
theorem riv_mem (h : y ∈ riv s x) : y ∈ s.keys := act_mem (List.mem_filter.mp h).1
theorem riv_len (ok : s.Ok) : (riv s x).length ≤ 6 := Nat.le_trans (List.length_filter_le _ _) (act_len ok)
theorem bk_barring (ok : s.Ok) (hf : Flat S) (h : x ∈ s.keys) : ∃ t, runN G (n + 5) 46 [bk s, .dct (dtT dt s.found), .str x, .non] S = .ok t S ∧ ((oldR s dt x = [] ∧ t = .non) ∨ (oldR s dt x ≠ [] ∧ ∃ o, t = .str o)) := by
  have a1 : ∀ y, y ∈ s.keys → runN G (n + 4) 45 [bk s, .dct (dtT dt s.found), .str y] S = .ok (ageT s dt y) S := fun y hy => bk_age (n := n + 2) ok hy
  have l1 : lcLoop [] (turn1 G (NH.runN G (n + 4)) (.var 5) (.nm 5) (.or (.cmp .is (.var 3) .non) (.cmp .isin (.attr (.meth (.var 0) 44 [.var 5] []) 37) (.var 3))) [5] [some (bk s), some (.dct (dtT dt s.found)), some (.str x), some .non, none, none]) ((riv s x).map T.str) [] S = .ok ((riv s x).map T.str) S := by
    rw [lc_map (enc := T.str) T.str sn (by rw [szl]; have := riv_len (x := x) ok; omega) (fun r hr => ?_)]
    simp [turn1, wipeF, isT]
  have l2 : lcLoop [] (turn1 G (NH.runN G (n + 4)) (.var 5) (.nm 5) (.cmp .lt (.call 45 [.var 0, .var 1, .var 5] []) (.call 45 [.var 0, .var 1, .var 2] [])) [5] [some (bk s), some (.dct (dtT dt s.found)), some (.str x), some .non, some (.lst ((riv s x).map T.str)), none]) ((riv s x).map T.str) [] S = .ok ((oldR s dt x).map T.str) S := by
    rw [lc_filt (enc := T.str) (fun o => older s dt o x) T.str sn (by rw [szl]; have := riv_len (x := x) ok; omega) (fun r hr => ?_)]
    · rfl
    · by_cases ho : older s dt r x = true
      · simp [turn1, wipeF, a1 r (riv_mem hr), a1 x h, lt_age, ho]
      · simp [turn1, wipeF, a1 r (riv_mem hr), a1 x h, lt_age, ho]
  rw [rf46]
  simp [b46, startF, bk_rivals (n := n) ok hf h, l1, l2]
  rw [ne_nil_lst dataL_strs]
  cases ho : oldR s dt x with
  | nil =>
    simp
  | cons o r =>
    have hk : keysBy (fun y => runN G (n + 4) 45 [bk s, .dct (dtT dt s.found), y] S) S ((o :: r).map T.str) = some ((o :: r).map (ageT s dt)) := keysBy_map fun a ha => by
      have : a ∈ s.keys := by
        rw [← ho] at ha
        exact riv_mem (List.mem_filter.mp ha).1
      exact a1 a this
    have hlen : (o :: r).length ≤ 16777216 := by
      have h1 := List.length_filter_le (fun o => older s dt o x) (riv s x)
      have h2 := riv_len (x := x) ok
      rw [show (riv s x).filter (fun o => older s dt o x) = o :: r from ho] at h1
      omega
    have hko := ages_ok (s := s) (dt := dt) hlen
    rw [List.map_cons, List.map_cons] at hk
    rw [List.map_cons] at hko
    simp [capsOf, hk, hko]
    have hm := least_mem (l := (r.map T.str).zip (r.map (ageT s dt))) (p := (.str o, ageT s dt o))
    generalize leastBy (.str o, ageT s dt o) ((r.map T.str).zip (r.map (ageT s dt))) = p at hm ⊢
    rcases hm with e | e
    · rw [e]; exact ⟨o, rfl⟩
    · obtain ⟨p1, p2⟩ := p
      obtain ⟨z, _, e2⟩ := List.mem_map.mp (List.of_mem_zip e).1
      exact ⟨z, e2.symm⟩
end
end LW
end
section
namespace LW
open PySem hiding exec execs
open NH
open L2 (atI ixN)
def prT (p : Str × Str) : T := .tup [.str p.1, .str p.2]
def barB (s : Sp) (dt : Str → Int) (x : Str) : Bool := !decide (x ∈ s.kept) && !(oldR s dt x).isEmpty
def leT (x y : T) : Bool := PySem.W.dataLe false T.toD x y
theorem sort_map {α : Type} {f g : α → T} {l : List α} : sortBy (l.map f) (l.map g) = (l.mergeSort fun a b => leT (g a) (g b)).map f := by
  unfold sortBy
  have e : (l.map f).zip (l.map g) = l.map fun x => (f x, g x) := by
    rw [List.zip_map']
  rw [e, ← List.map_mergeSort (r := fun a b => leT (g a) (g b)) (s := PySem.W.dataLe false fun p : T × T => p.2.toD) (f := fun x => (f x, g x)) (fun a _ b _ => rfl), List.map_map]
  rfl
def rkey (s : Sp) (dt : Str → Int) (x : Str) : T := .tup [.bl (!decide (x ∈ s.kept)), ageT s dt x]
def left (s : Sp) (dt : Str → Int) : List Str := s.act.filter fun x => !barB s dt x
def line (s : Sp) (dt : Str → Int) : List Str := (left s dt).mergeSort fun a b => leT (rkey s dt a) (rkey s dt b)
theorem keys_ok2 {α : Type} {f : α → T} {l : List α} (h : l.length ≤ 16777216) (h1 : ∀ a, (f a).data 20 = true) (h2 : ∀ a b, PySem.W.alike (f a).toD (f b).toD = true) (h3 : ∀ a, ∃ x r, (f a).toD = .tuple (x :: r)) : keysOk (l.map f) := by
  refine ⟨by rw [szl]; simpa using h, fun k hk => ?_, fun d hd d' hd' => ?_, .inl fun d hd => ?_⟩
  · obtain ⟨z, _, rfl⟩ := List.mem_map.mp hk
    exact h1 z
  · rw [List.map_map] at hd hd'
    obtain ⟨z, _, rfl⟩ := List.mem_map.mp hd
    obtain ⟨z', _, rfl⟩ := List.mem_map.mp hd'
    exact h2 z z'
  · rw [List.map_map] at hd
    obtain ⟨z, _, rfl⟩ := List.mem_map.mp hd
    exact h3 z
section
variable {S : Store} {n : Nat} {s : Sp} {x y : Str} {dt : Str → Int}
theorem left_mem (h : x ∈ left s dt) : x ∈ s.keys := act_mem (List.mem_filter.mp h).1
theorem left_len (ok : s.Ok) : (left s dt).length ≤ 6 := Nat.le_trans (List.length_filter_le _ _) (act_len ok)
theorem line_mem : x ∈ line s dt ↔ x ∈ left s dt := List.mem_mergeSort
theorem line_len (ok : s.Ok) : (line s dt).length ≤ 6 := by
  unfold line
  rw [List.length_mergeSort]
  exact left_len ok
theorem rkeys_ok (h : (left s dt).length ≤ 16777216) : keysOk ((left s dt).map (rkey s dt)) :=
  keys_ok2 h (fun _ => rfl) (fun _ _ => rfl) fun _ => ⟨_, _, rfl⟩
theorem old_prs {l : List (Str × Str)} : T.oldL 0 (l.map prT) = true := oldL_map fun _ _ => rfl
theorem bk_barred (ok : s.Ok) (hf : Flat S) (ft : Fit s dt) : ∃ os : List (Str × Str), runN G (n + 6) 44 [bk s, .dct (dtT dt s.found), .non] S = .ok (.lst (os.map prT)) S ∧ os.map (·.1) = s.act.filter (barB s dt) := by
  obtain ⟨ρ, S1, e, q4, q5, os, hρ, hS, hos⟩ := for_ex (enc := T.str) (ks := []) (turn := turnF G (NH.runN G (n + 5)) (.nm 4) [.asg (.nm 5) (.ite (.meth (.var 0) 52 [.var 4] []) (.non) (.call 46 [.var 0, .var 1, .var 4, .var 2] [])), .ifS (.cmp .isnot (.var 5) (.non)) [.ex (.bm (.var 3) .append [.tup [.var 4, .var 5]])] []])
    (fun d ρ S' => ∃ (q4 q5 : Option T) (os : List (Str × Str)), ρ = [some (bk s), some (.dct (dtT dt s.found)), some .non, some (.ref S.length), q4, q5] ∧ S' = S ++ [some (.lst (os.map prT))] ∧ os.map (·.1) = d.filter (barB s dt)) (fun _ _ _ _ => sn) (xs := s.act) (d := []) (ρ := [some (bk s), some (.dct (dtT dt s.found)), some .non, some (.ref S.length), none, none]) (S := S ++ [some (.lst [])])
    (fun d o r ρ S' hx ⟨q4, q5, os, hρ, hS, hos⟩ => by
      subst hρ hS
      simp only [List.nil_append] at hx
      have ho : o ∈ s.act := by rw [hx]; simp
      have hok := act_mem ho
      have hd : d.length ≤ 6 := by
        have h1 := congrArg List.length hx
        have h2 := act_len ok
        simp at h1
        omega
      have hol : os.length < 16777216 := by
        have h1 := List.length_filter_le (barB s dt) d
        rw [← hos, List.length_map] at h1
        omega
      have hn : Store.nd (S ++ [some (.lst (os.map prT))]) S.length = some (.lst (os.map prT)) := nd_new
      have fl : Flat (S ++ [some (.lst (os.map prT))]) := hf.app (by
        show oldAll 0 [some (Nd.lst (os.map prT))] = true
        simp [oldAll, Nd.old, old_prs])
      have hk := bk_kept (n := n + 2) (S := S ++ [some (.lst (os.map prT))]) hok
      by_cases hkp : o ∈ s.kept
      · refine ⟨[some (bk s), some (.dct (dtT dt s.found)), some .non, some (.ref S.length), some (.str o), some .non], S ++ [some (.lst (os.map prT))], ?_, _, _, os, rfl, rfl, ?_⟩
        · simp [turnF, hk, hkp, isT]
        · rw [List.filter_append, ← hos]
          simp [barB, hkp]
      · obtain ⟨t, et, ht⟩ := bk_barring (n := n) (dt := dt) ok fl hok
        rcases ht with ⟨h1, rfl⟩ | ⟨h1, z, rfl⟩
        · refine ⟨[some (bk s), some (.dct (dtT dt s.found)), some .non, some (.ref S.length), some (.str o), some .non], S ++ [some (.lst (os.map prT))], ?_, _, _, os, rfl, rfl, ?_⟩
          · simp [turnF, hk, hkp, isT, et]
          · rw [List.filter_append, ← hos]
            simp [barB, hkp, h1]
        · have hap := app_ref (v := prT (o, z)) hn (by rw [szl]; simpa using hol)
          rw [set_new] at hap
          refine ⟨[some (bk s), some (.dct (dtT dt s.found)), some .non, some (.ref S.length), some (.str o), some (.str z)], S ++ [some (.lst ((os ++ [(o, z)]).map prT))], ?_, _, _, os ++ [(o, z)], rfl, rfl, ?_⟩
          · simp only [prT] at hap
            simp [turnF, hk, hkp, isT, et, bmOk_ref hn, hap, prT]
          · rw [List.filter_append, List.map_append, hos]
            simp [barB, hkp, h1]) ⟨_, _, [], rfl, rfl, rfl⟩
  subst hρ hS
  refine ⟨os, ?_, by simpa using hos⟩
  rw [rf44]
  simp [b44, startF, need_dating_ok (n := n) ok ft, bk_active ok, e]
  exact seal_new (nd := .lst (os.map prT)) rfl (Nat.le_refl _) nd_new old_prs hf
theorem bk_row (ok : s.Ok) (hf : Flat S) (ft : Fit s dt) : runN G (n + 7) 40 [bk s, .dct (dtT dt s.found), .non] S = .ok (.lst ((line s dt).map T.str)) S := by
  obtain ⟨os, e, hos⟩ := bk_barred (n := n) (S := S) ok hf ft
  have hol : os.length ≤ 6 := by
    have h1 := List.length_filter_le (barB s dt) s.act
    rw [← hos, List.length_map] at h1
    have := act_len ok
    omega
  have l1 : lcLoop [] (turn0 G (NH.runN G (n + 6)) (.var 4) (.tp [4, 5]) [4, 5] [some (bk s), some (.dct (dtT dt s.found)), some .non, none, none, none, none]) (os.map prT) [] S = .ok (((os.map (·.1))).map T.str) S := by
    rw [lc_map (enc := prT) (fun p => T.str p.1) sn (by rw [szl]; omega) (fun r hr => ?_)]
    · rw [List.map_map]; rfl
    · simp [turn0, wipeF, setTg, prT]
  have l2 : lcLoop [] (turn1 G (NH.runN G (n + 6)) (.var 4) (.nm 4) (.cmp .notin (.var 4) (.var 3)) [4] [some (bk s), some (.dct (dtT dt s.found)), some .non, some (.lst ((s.act.filter (barB s dt)).map T.str)), none, none, none]) (s.act.map T.str) [] S = .ok ((left s dt).map T.str) S := by
    rw [lc_filt (enc := T.str) (fun x => !barB s dt x) T.str sn (by rw [szl]; have := act_len ok; omega) (fun r hr => ?_)]
    · rfl
    · by_cases hb : barB s dt r = true
      · simp [turn1, wipeF, hr, hb]
      · simp [turn1, wipeF, hr, hb]
  have hk : keysBy (fun y => ev G (runN G (n + 6)) (.tup [.not (.meth (.var 1) 52 [.var 0] []), .call 45 [.var 1, .var 2, .var 0] []]) [some y, some (bk s), some (.dct (dtT dt s.found))] S) S ((left s dt).map T.str) = some ((left s dt).map (rkey s dt)) := keysBy_map fun a ha => by
    have hk := left_mem ha
    simp [bk_kept (n := n + 3) hk, bk_age (n := n + 4) ok hk, rkey]
  have hko := rkeys_ok (s := s) (dt := dt) (by have := left_len (dt := dt) ok; omega)
  rw [hos] at l1
  rw [rf40]
  simp only [b40, startF, q_execs_cons, q_execs_nil, q_exec_asg, q_exec_ret, q_ev_al]
  simp [e, l1, bk_active ok, l2, capsOf, -q_ev_tup, hk, hko, sort_map]
  rfl
end
end LW
end
section
namespace LW
open PySem hiding exec execs
open NH
open L2 (atI ixN)
section
variable {S : Store} {n : Nat} {s : Sp} {x y : Str} {dt : Str → Int}
@[simp] theorem sp0 : subT s.t (.int 0) S = .ok (.lst (s.row.map T.str)) S := by simp [Sp.t]
@[simp] theorem sp1 : subT s.t (.int 1) S = .ok (.lst (s.found.map Row.t)) S := by simp [Sp.t]
@[simp] theorem sp2 : subT s.t (.int 2) S = .ok (.lst (s.aside.map T.str)) S := by simp [Sp.t]
@[simp] theorem sp3 : subT s.t (.int 3) S = .ok (.lst (s.kept.map T.str)) S := by simp [Sp.t]
section
variable {r : Row}
@[simp] theorem rw0 : subT r.t (.int 0) S = .ok (.str r.key) S := by simp [Row.t]
@[simp] theorem rw1 : subT r.t (.int 1) S = .ok (.str r.word) S := by simp [Row.t]
@[simp] theorem rw2 : subT r.t (.int 2) S = .ok (.str r.bearer) S := by simp [Row.t]
end
theorem lw_keys (ok : s.Ok) : runN G (n + 1) 5 [s.t] S = .ok (.lst (s.keys.map T.str)) S := by
  rw [rf5]
  simp [b5, startF]
  rw [lc_map (enc := Row.t) (fun r => T.str r.key) sn (by rw [szl]; have := ok.fL; omega) (fun r hr => by simp [turn0, wipeF])]
  simp [Sp.keys]
theorem lw_active (ok : s.Ok) : runN G (n + 1) 19 [s.t] S = .ok (.lst (s.act.map T.str)) S := by
  rw [rf19]
  simp [b19, startF]
  rw [lc_filt (enc := Row.t) (fun r => !decide (r.key ∈ s.aside)) (fun r => T.str r.key) sn (by rw [szl]; have := ok.fL; omega) (fun r hr => ?_)]
  · unfold Sp.act Sp.keys
    rw [List.filter_map, List.map_map]
    simp
    rfl
  · by_cases hx : r.key ∈ s.aside <;> simp [turn1, wipeF, hx]
theorem lw_label (ok : s.Ok) (h : x ∈ s.keys) : runN G (n + 1) 22 [s.t, .str x] S = .ok (lab s x).t S := by
  rw [rf22]
  simp [b22, startF]
  rw [lc_filt (enc := Row.t) (fun r => decide (r.key = x)) Row.t sn (by rw [szl]; have := ok.fL; omega) (fun r hr => ?_)]
  · obtain ⟨r, hr, rfl⟩ := List.mem_map.mp h
    have h1 := find_key ok.keyN hr
    rw [← List.head?_filter] at h1
    cases hl : s.found.filter (fun q => decide (q.key = r.key)) with
    | nil => rw [hl] at h1; cases h1
    | cons a l =>
      rw [hl] at h1
      simp only [List.head?_cons, Option.some.injEq] at h1
      subst h1
      simp [lab_of ok hr]
  · by_cases hx : r.key = x <;> simp [turn1, wipeF, hx]
theorem lw_bearer (ok : s.Ok) (h : x ∈ s.keys) : runN G (n + 2) 10 [s.t, .str x] S = .ok (.str (lab s x).bearer) S := by
  rw [rf10]
  simp [b10, startF, lw_label ok h]
theorem lw_rivals (ok : s.Ok) (h : x ∈ s.keys) : runN G (n + 2) 25 [s.t, .str x] S = .ok (.lst ((riv s x).map T.str)) S := by
  rw [rf25]
  simp [b25, startF, lw_label ok h]
  rw [lc_filt (enc := Row.t) (fun r => rivP s x r.key && !decide (r.key ∈ s.aside)) (fun r => T.str r.key) sn (by rw [szl]; have := ok.fL; omega) (fun r hr => ?_)]
  · unfold riv Sp.act Sp.keys
    rw [List.filter_filter, List.filter_map, List.map_map]
    simp
    rfl
  · by_cases hx : r.key ∈ s.aside
    · simp [turn1, wipeF, hx]
    · by_cases h1 : r.word = (lab s x).word
      · by_cases h2 : r.bearer = (lab s x).bearer <;> simp [turn1, wipeF, hx, rivP, lab_of ok hr, h1, h2]
      · simp [turn1, wipeF, hx, rivP, lab_of ok hr, h1]
theorem lw_age (ok : s.Ok) (h : x ∈ s.keys) : runN G (n + 2) 21 [s.t, .dct (dtT dt s.found), .str x] S = .ok (ageT s dt x) S := by
  rw [rf21]
  simp [b21, startF, get_dt ok h, lw_keys ok, index_ok h, ageT]
theorem lw_older (ok : s.Ok) (hx : x ∈ s.keys) (hy : y ∈ s.keys) : runN G (n + 3) 26 [s.t, .dct (dtT dt s.found), .str x, .str y] S = .ok (.bl (older s dt x y)) S := by
  rw [rf26]
  simp [b26, startF, lw_age ok hx, lw_age ok hy, lt_age]
theorem ix_get (h : x ∈ s.keys) : atI (s.keys.map T.str) (ix s x) = some (.str x) := by
  refine at_map ?_
  generalize s.keys = l at h
  induction l with
  | nil => cases h
  | cons a l ih =>
    rw [List.findIdx_cons]
    by_cases e : a = x
    · simp [e]
    · have hm : x ∈ l := by
        rcases List.mem_cons.mp h with q | q
        · exact absurd q.symm e
        · exact q
      simp [e, ih hm]
theorem empty_map {α β : Type} {f : α → β} {l : List α} : (l.map f).isEmpty = l.isEmpty := by cases l <;> rfl
theorem empty_sort {α : Type} {le : α → α → Bool} {l : List α} : (l.mergeSort le).isEmpty = l.isEmpty := by
  have := List.length_mergeSort (le := le) l
  cases h : l.mergeSort le with
  | nil =>
    rw [h] at this
    cases l with
    | nil => rfl
    | cons a l => simp at this
  | cons a r =>
    rw [h] at this
    cases l with
    | nil => simp at this
    | cons b l => rfl
theorem lw_barring (ok : s.Ok) (hx : x ∈ s.keys) : ∃ zs : List Str, runN G (n + 5) 20 [s.t, .dct (dtT dt s.found), .str x, .lst (s.row.map T.str)] S = .ok (.lst (zs.map T.str)) S ∧ zs.isEmpty = !barB s dt x := by
  by_cases hk : x ∈ s.kept
  · refine ⟨[], ?_, by simp [barB, hk]⟩
    rw [rf20]
    simp [b20, startF, hk]
  · have l1 : lcLoop [] (turn1 G (NH.runN G (n + 4)) (.var 5) (.nm 5) (.and (.cmp .isin (.call 10 [.var 0, .var 5] []) (.var 3)) (.call 26 [.var 0, .var 1, .var 5, .var 2] [])) [5] [some s.t, some (.dct (dtT dt s.found)), some (.str x), some (.lst (s.row.map T.str)), none, none, none, none]) ((riv s x).map T.str) [] S = .ok ((oldR s dt x).map T.str) S := by
      rw [lc_filt (enc := T.str) (fun o => older s dt o x) T.str sn (by rw [szl]; have := riv_len (x := x) ok; omega) (fun r hr => ?_)]
      · rfl
      · have hrk := riv_mem hr
        have hb : (lab s r).bearer ∈ s.row := (ok.ok _ (lab_mem ok hrk).1).bearer
        by_cases ho : older s dt r x = true
        · simp [turn1, wipeF, lw_bearer (n := n + 2) ok hrk, hb, lw_older (n := n + 1) (dt := dt) ok hrk hx, ho]
        · simp [turn1, wipeF, lw_bearer (n := n + 2) ok hrk, hb, lw_older (n := n + 1) (dt := dt) ok hrk hx, ho]
    have om : ∀ o, o ∈ oldR s dt x → o ∈ s.keys := fun o ho => riv_mem (List.mem_filter.mp ho).1
    have ol : (oldR s dt x).length ≤ 6 := Nat.le_trans (List.length_filter_le _ _) (riv_len ok)
    have l2 : lcLoop [] (turn0 G (NH.runN G (n + 4)) (.call 21 [.var 0, .var 1, .var 5] []) (.nm 5) [5] [some s.t, some (.dct (dtT dt s.found)), some (.str x), some (.lst (s.row.map T.str)), some (.lst ((oldR s dt x).map T.str)), none, none, none]) ((oldR s dt x).map T.str) [] S = .ok ((oldR s dt x).map (ageT s dt)) S := by
      rw [lc_map (enc := T.str) (ageT s dt) sn (by rw [szl]; omega) (fun r hr => by simp [turn0, wipeF, lw_age (n := n + 2) ok (om r hr)])]
    have hko := ages_ok (s := s) (dt := dt) (l := oldR s dt x) (by omega)
    have l3 : lcLoop [] (turn0 G (NH.runN G (n + 4)) (.sub (.call 5 [.var 0] []) (.sub (.var 7) (.int 1))) (.nm 7) [7] [some s.t, some (.dct (dtT dt s.found)), some (.str x), some (.lst (s.row.map T.str)), some (.lst ((oldR s dt x).map T.str)), none, some (.lst (((oldR s dt x).mergeSort fun a b => leT (ageT s dt a) (ageT s dt b)).map (ageT s dt))), none]) (((oldR s dt x).mergeSort fun a b => leT (ageT s dt a) (ageT s dt b)).map (ageT s dt)) [] S = .ok (((oldR s dt x).mergeSort fun a b => leT (ageT s dt a) (ageT s dt b)).map T.str) S := by
      rw [lc_map (enc := ageT s dt) T.str sn (by rw [szl, List.length_mergeSort]; omega) (fun r hr => ?_)]
      have := om r (List.mem_mergeSort.mp hr)
      simp [turn0, wipeF, lw_keys (n := n + 3) ok, ageT, ix_get this]
    refine ⟨(oldR s dt x).mergeSort fun a b => leT (ageT s dt a) (ageT s dt b), ?_, by simp [empty_sort, barB, hk]⟩
    rw [rf20]
    simp [b20, startF, hk, lw_rivals (n := n + 2) ok hx, l1, l2, hko, sort_map, l3]
def lkey (s : Sp) (dt : Str → Int) (x : Str) : T := .tup [.int (if x ∈ s.kept then 0 else 1), ageT s dt x]
theorem le_keys {a b : Str} : leT (lkey s dt a) (lkey s dt b) = leT (rkey s dt a) (rkey s dt b) := by
  have h : ∀ a, PySem.W.keyToks (lkey s dt a).toD = PySem.W.keyToks (rkey s dt a).toD := fun a => by
    by_cases hk : a ∈ s.kept <;> simp [lkey, rkey, T.toD, T.toDs, PySem.W.keyToks, PySem.W.keyToksAll, hk]
  unfold leT PySem.W.dataLe
  unfold PySem.W.sortLe
  simp only [h]
theorem lkeys_ok (h : (left s dt).length ≤ 16777216) : keysOk ((left s dt).map (lkey s dt)) :=
  keys_ok2 h (fun _ => rfl) (fun _ _ => rfl) fun _ => ⟨_, _, rfl⟩
theorem old_lkeys {l : List Str} : T.oldL 0 (l.map (lkey s dt)) = true := oldL_map fun _ _ => rfl
theorem lw_row (ok : s.Ok) (hf : Flat S) : runN G (n + 6) 8 [s.t, .dct (dtT dt s.found), .lst (s.row.map T.str)] S = .ok (.lst ((line s dt).map T.str)) S := by
  obtain ⟨ρ, S1, e, q4, q5, hρ, hS⟩ := for_ex (enc := T.str) (ks := []) (turn := turnF G (NH.runN G (n + 5)) (.nm 4) [.ifS (.cmp .eq (.call 20 [.var 0, .var 1, .var 4, .var 2] []) (.al false (.lst []))) [.ex (.bm (.var 3) .append [.tup [.bi .int [.cmp .notin (.var 4) (.sub (.var 0) (.int 3))], .call 21 [.var 0, .var 1, .var 4] []]])] []])
    (fun d ρ S' => ∃ (q4 : Option T) (_ : Unit), ρ = [some s.t, some (.dct (dtT dt s.found)), some (.lst (s.row.map T.str)), some (.ref S.length), q4, none] ∧ S' = S ++ [some (.lst ((d.filter fun x => !barB s dt x).map (lkey s dt)))]) (fun _ _ _ _ => sn) (xs := s.act) (d := []) (ρ := [some s.t, some (.dct (dtT dt s.found)), some (.lst (s.row.map T.str)), some (.ref S.length), none, none]) (S := S ++ [some (.lst [])])
    (fun d o r ρ S' hx ⟨q4, _, hρ, hS⟩ => by
      subst hρ hS
      simp only [List.nil_append] at hx
      have ho : o ∈ s.act := by rw [hx]; simp
      have hok := act_mem ho
      have hd : d.length ≤ 6 := by
        have h1 := congrArg List.length hx
        have h2 := act_len ok
        simp at h1
        omega
      have hol : (d.filter fun x => !barB s dt x).length < 16777216 := by
        have h1 := List.length_filter_le (fun x => !barB s dt x) d
        omega
      have hn : Store.nd (S ++ [some (.lst ((d.filter fun x => !barB s dt x).map (lkey s dt)))]) S.length = some (.lst ((d.filter fun x => !barB s dt x).map (lkey s dt))) := nd_new
      obtain ⟨zs, ez, hz⟩ := lw_barring (S := S ++ [some (.lst ((d.filter fun x => !barB s dt x).map (lkey s dt)))]) (n := n) (dt := dt) ok hok
      refine ⟨[some s.t, some (.dct (dtT dt s.found)), some (.lst (s.row.map T.str)), some (.ref S.length), some (.str o), none], S ++ [some (.lst (((d ++ [o]).filter fun x => !barB s dt x).map (lkey s dt)))], ?_, _, (), rfl, rfl⟩
      have hap := app_ref (v := lkey s dt o) hn (by rw [szl]; simpa using hol)
      rw [set_new] at hap
      simp only [lkey] at hap
      cases hb : barB s dt o with
      | true =>
        have hze : (zs.map T.str).isEmpty = false := by rw [empty_map, hz, hb]; rfl
        simp only [turnF, setTg_nm]
        simp [ez, eq_nil_lst dataL_strs, hze, hb]
      | false =>
        have hze : zs = [] := by
          rw [hb] at hz
          simpa using hz
        subst hze
        simp only [turnF, setTg_nm]
        simp [ez, eq_nil_lst, hb, bmOk_ref hn, lw_age (n := n + 3) ok hok, hap, lkey]) ⟨_, (), rfl, rfl⟩
  subst hρ hS
  have hn : Store.nd (S ++ [some (.lst ((left s dt).map (lkey s dt)))]) S.length = some (.lst ((left s dt).map (lkey s dt))) := nd_new
  have hko := lkeys_ok (s := s) (dt := dt) (by have := left_len (dt := dt) ok; omega)
  have hsort : ((left s dt).mergeSort fun a b => leT (lkey s dt a) (lkey s dt b)) = line s dt := by
    unfold line
    simp only [le_keys]
  have l3 : lcLoop [] (turn0 G (NH.runN G (n + 5)) (.sub (.call 5 [.var 0] []) (.sub (.sub (.var 5) (.int 1)) (.int 1))) (.nm 5) [5] [some s.t, some (.dct (dtT dt s.found)), some (.lst (s.row.map T.str)), some (.ref S.length), q4, none]) ((line s dt).map (lkey s dt)) [] (S ++ [some (.lst ((left s dt).map (lkey s dt)))]) = .ok ((line s dt).map T.str) (S ++ [some (.lst ((left s dt).map (lkey s dt)))]) := by
    rw [lc_map (enc := lkey s dt) T.str sn (by rw [szl]; have := line_len (dt := dt) ok; omega) (fun r hr => ?_)]
    have := left_mem (line_mem.mp hr)
    simp [turn0, wipeF, lw_keys (n := n + 4) ok, lkey, ageT, ix_get this]
  simp only [List.nil_append] at e
  rw [show (s.act.filter fun x => !barB s dt x) = left s dt from rfl] at e
  rw [rf8]
  simp [b8, startF, lw_active (n := n + 4) ok, e, vw_ref hn, hko, sort_map, hsort, l3]
  exact seal_old (E := [_]) rfl (by simp [T.old, old_strs]) hf
end
end LW
end
section
namespace LW
open PySem hiding exec execs
open NH
open L2 (atI ixN)
/-- a word of at most six letters -/
structure W6 (x : Str) : Prop where
  pos : 1 ≤ x.cps.toList.length
  most : x.cps.toList.length ≤ 6
  abc : ∀ c ∈ x.cps.toList, c ∈ abc
def PrOk (p : Str × Str) : Prop := W6 p.1 ∧ W6 p.2 ∧ p.1 ≠ p.2
def rv (ps : List (Str × Str)) : T := .ins 0 [(19, .lst (ps.map prT))]
def hd (l : List Str) : T := match l with
  | [] => .non
  | x :: _ => .str x
section
variable {S : Store} {n : Nat} {s : Sp} {x y : Str} {dt : Str → Int} {ps : List (Str × Str)} {k : Nat}
theorem W6.is (h : W6 x) : runN G (n + 1) 18 [.str x] S = .ok (.bl true) S := is_word_ok h.pos h.most h.abc
theorem is_listed_ref {l : List T} (h : S.nd k = some (.lst l)) : runN G (n + 1) 17 [.ref k] S = .ok (.bl true) S := by
  rw [rf17]
  simp [b17, startF, ik_ref h]
theorem rev_init (hS : Flat S) (h : S.nd k = some (.lst (ps.map prT))) (hp : ∀ p ∈ ps, PrOk p) : makeC G (runN G (n + 3)) 0 [] [(5, .ref k)] S = .ok (rv ps) S := by
  have hk := nd_lt h
  have hn : Store.nd (S ++ [some (.ins 0 [])]) k = some (.lst (ps.map prT)) := (nd_app hk).trans h
  obtain ⟨ρ, S1, e, q2, q3, hρ, hS1⟩ := for_ex (enc := fun p : (Str × Str) × Nat => numT (prT p.1, p.2)) (ks := [(k, ps.map prT)]) (turn := turnF G (NH.runN G (n + 2)) (.tp [2, 3]) [.ifS (.or (.not (.bi .isinstance [.var 3, .glo 2])) (.or (.cmp .ne (.bi .len [.var 3]) (.int 2)) (.not (.bi .all [.al false (.lc (.call 18 [.var 4] []) (.nm 4) (.seq (.var 3)) none [4])])))) [.no] [], .ifS (.cmp .eq (.sub (.var 3) (.int 0)) (.sub (.var 3) (.int 1))) [.no] []])
    (fun d ρ S' => ∃ (q2 q3 : Option T), ρ = [some (.ref S.length), some (.ref k), q2, q3, none] ∧ S' = S ++ [some (.ins 0 [])]) (fun _ _ _ ⟨_, _, _, e⟩ => by rw [e]; exact ⟨hn, trivial⟩) (xs := ps.zipIdx) (d := []) (ρ := [some (.ref S.length), some (.ref k), none, none, none]) (S := S ++ [some (.ins 0 [])])
    (fun d z r ρ S' hx ⟨q2, q3, hρ, hS1⟩ => by
      subst hρ hS1
      simp only [List.nil_append] at hx
      obtain ⟨p, i⟩ := z
      have hpm : p ∈ ps := List.mem_of_getElem? (List.mem_zipIdx_iff_getElem?.mp (show (p, i) ∈ ps.zipIdx by rw [hx]; simp))
      obtain ⟨w1, w2, ne⟩ := hp p hpm
      refine ⟨[some (.ref S.length), some (.ref k), some (.int (i : Nat)), some (prT p), none], S ++ [some (.ins 0 [])], ?_, _, _, rfl, rfl⟩
      have l1 : lcLoop [] (turn0 G (NH.runN G (n + 2)) (.call 18 [.var 4] []) (.nm 4) [4] [some (.ref S.length), some (.ref k), some (.int (i : Nat)), some (.tup [.str p.1, .str p.2]), none]) [.str p.1, .str p.2] [] (S ++ [some (.ins 0 [])]) = .ok [.bl true, .bl true] (S ++ [some (.ins 0 [])]) := by
        have := lc_map (enc := T.str) (fun _ => T.bl true) (ks := []) (turn := turn0 G (NH.runN G (n + 2)) (.call 18 [.var 4] []) (.nm 4) [4] [some (.ref S.length), some (.ref k), some (.int (i : Nat)), some (.tup [.str p.1, .str p.2]), none]) (S := S ++ [some (.ins 0 [])]) (xs := [p.1, p.2]) sn (by rw [szl]; simp) (fun w hw => by
          have : W6 w := by
            simp only [List.mem_cons, List.not_mem_nil, or_false] at hw
            rcases hw with rfl | rfl
            · exact w1
            · exact w2
          simp [turn0, wipeF, this.is])
        simpa using this
      simp [turnF, setTg, numT, prT, l1, allT, bools, ne]) ⟨_, _, rfl, rfl⟩
  subst hρ hS1
  have hbody : runN G (n + 3) 7 [.ref S.length, .ref k] (S ++ [some (.ins 0 [])]) = .ok .non (S ++ [some (.ins 0 [(19, .lst (ps.map prT))])]) := by
    rw [rf7]
    simp [b7, startF, is_listed_ref (n := n + 1) hn, enum_ref hn, enum_map, e, vw_ref hn, st_new gc0, putN]
  have hc : callF G (runN G (n + 3)) 7 [.ref S.length] [(5, .ref k)] (S ++ [some (.ins 0 [])]) = runN G (n + 3) 7 [.ref S.length, .ref k] (S ++ [some (.ins 0 [])]) := Eq.trans rfl rfl
  have : makeC G (runN G (n + 3)) 0 [] [(5, .ref k)] S = sealR S (makeR G (runN G (n + 3)) 0 7 [] [(5, .ref k)] S) := by
    simp [makeC]
  rw [this]
  unfold makeR
  rw [hc, hbody]
  simp only [R.bind_ok, bI_ok, tI_ok, oI_nx, oI_rt]
  exact seal_new (nd := .ins 0 _) rfl (Nat.le_refl _) nd_new (by simp [T.old, T.oldF, old_prs]) hS
theorem data_prs {d : Nat} : T.dataL (d + 1) (ps.map prT) = true := dataL_map fun p _ => by simp [prT]
theorem any_prs {a b : Str} : (ps.map prT).any (fun y => y.eqv (.tup [.str a, .str b])) = decide ((a, b) ∈ ps) := by
  induction ps with
  | nil => rfl
  | cons p l ih =>
    rw [List.map_cons, List.any_cons, ih]
    obtain ⟨c, d⟩ := p
    by_cases h : c = a ∧ d = b
    · obtain ⟨rfl, rfl⟩ := h
      simp [prT]
    · have h2 : ¬ ((a, b) = (c, d)) := fun e => h (by cases e; exact ⟨rfl, rfl⟩)
      have h3 : (prT (c, d)).eqv (.tup [.str a, .str b]) = false := by
        simp only [prT, eqv_tup, eqvL_cons, eqv_str, eqvL_nil, Bool.and_true, Bool.and_eq_false_iff, beq_eq_false_iff_ne, ne_eq]
        by_cases hc : c = a
        · exact .inr fun e => h ⟨hc, e⟩
        · exact .inl hc
      rw [h3, Bool.false_or]
      simp only [List.mem_cons, h2, false_or]
theorem in_prs {neg : Bool} {a b : Str} : inD neg (.tup [.str a, .str b]) (.lst (ps.map prT)) S = .ok (.bl (if neg then !decide ((a, b) ∈ ps) else decide ((a, b) ∈ ps))) S := by
  unfold inD
  simp only [vw_lst, vw_tup, data_tup, dataL_cons, data_str, dataL_nil, data_prs, Bool.and_self, if_true, any_prs]
def best (ps : List (Str × Str)) (l : List Str) : List Str := l.filter fun x => !l.any fun o => decide ((o, x) ∈ ps)
def pickd (ps : List (Str × Str)) (l : List Str) : T := hd (if (best ps l).isEmpty then l else best ps l)
@[simp] theorem rv19 : attrT G (rv ps) 19 S = .ok (.lst (ps.map prT)) S := by simp [rv, attr_ins]
@[simp] theorem rv9 : attrT G (rv ps) 9 S = .ok (.str "reviser") S := by simp [rv, attr_ins]
@[simp] theorem vw_rv : view S (rv ps) = rv ps := rfl
theorem rule_pick {v : T} {l : List Str} : runN G (n + 1) 57 [v, .lst (l.map T.str)] S = .ok (hd l) S := by
  rw [rf57]
  cases l with
  | nil => simp [b57, startF, ne_nil_lst, hd]
  | cons a l =>
    have := ne_nil_lst (S := S) (dataL_strs (n := 59) (l := a :: l))
    rw [List.map_cons] at this
    simp [b57, startF, this, hd]
theorem rev_pick {l : List Str} (hl : l.length ≤ 16777216) : runN G (n + 2) 56 [rv ps, .lst (l.map T.str)] S = .ok (pickd ps l) S := by
  have l1 : lcLoop [] (turn1 G (NH.runN G (n + 1)) (.var 3) (.nm 3) (.not (.bi .any [.al false (.lc (.cmp .isin (.tup [.var 4, .var 3]) (.attr (.var 0) 19)) (.nm 4) (.seq (.var 1)) none [4])])) [3] [some (rv ps), some (.lst (l.map T.str)), none, none, none]) (l.map T.str) [] S = .ok ((best ps l).map T.str) S := by
    rw [lc_filt (enc := T.str) (fun x => !l.any fun o => decide ((o, x) ∈ ps)) T.str sn (by rw [szl]; exact hl) (fun x hx => ?_)]
    · rfl
    · have l2 : lcLoop [] (turn0 G (NH.runN G (n + 1)) (.cmp .isin (.tup [.var 4, .var 3]) (.attr (.var 0) 19)) (.nm 4) [4] [some (rv ps), some (.lst (l.map T.str)), none, some (.str x), none]) (l.map T.str) [] S = .ok (l.map fun o => T.bl (decide ((o, x) ∈ ps))) S := by
        rw [lc_map (enc := T.str) (fun o => T.bl (decide ((o, x) ∈ ps))) sn (by rw [szl]; exact hl) (fun o ho => by simp [turn0, wipeF, in_prs])]
      cases hb : l.any fun o => decide ((o, x) ∈ ps) <;> simp only [turn1, setTg_nm] <;> simp [wipeF, l2, any_map, hb]
  rw [rf56]
  cases hb : (best ps l).isEmpty with
  | true =>
    simp [b56, startF, l1, ne_nil_lst, hb, pickd]
    simp [rv, rule_pick]
  | false =>
    simp [b56, startF, l1, ne_nil_lst, hb, pickd]
    simp [rv, rule_pick]
/-! ### chosen, choice -/
theorem rev_chosen {ks : List Str} (ok : s.Ok) (hf : Flat S) (ft : Fit s dt) (hk : ∀ z ∈ ks, z ∈ s.keys) : runN G (n + 8) 34 [rv ps, bk s, .dct (dtT dt s.found), .lst (ks.map T.str)] S = .ok (pickd ps ((line s dt).filter fun x => decide (x ∈ ks))) S := by
  obtain ⟨ρ, S1, e, q4, hρ, hS⟩ := for_ex (enc := T.str) (ks := []) (turn := turnF G (NH.runN G (n + 7)) (.nm 4) [.ex (.meth (.var 1) 45 [.var 4] [])])
    (fun d ρ S' => ∃ (q4 : Option T), ρ = [some (rv ps), some (bk s), some (.dct (dtT dt s.found)), some (.lst (ks.map T.str)), q4] ∧ S' = S) (fun _ _ _ _ => sn) (xs := ks) (d := []) (ρ := [some (rv ps), some (bk s), some (.dct (dtT dt s.found)), some (.lst (ks.map T.str)), none]) (S := S)
    (fun d z r ρ S' hx ⟨q4, hρ, hS⟩ => by
      subst hρ hS
      simp only [List.nil_append] at hx
      have hz : z ∈ s.keys := hk z (by rw [hx]; simp)
      refine ⟨[some (rv ps), some (bk s), some (.dct (dtT dt s.found)), some (.lst (ks.map T.str)), some (.str z)], S', ?_, _, rfl, rfl⟩
      simp [turnF, bk_need (n := n + 5) hz]) ⟨_, rfl, rfl⟩
  subst hρ hS
  have l1 : lcLoop [] (turn1 G (NH.runN G (n + 7)) (.var 4) (.nm 4) (.cmp .isin (.var 4) (.var 3)) [4] [some (rv ps), some (bk s), some (.dct (dtT dt s.found)), some (.lst (ks.map T.str)), q4]) ((line s dt).map T.str) [] S1 = .ok (((line s dt).filter fun x => decide (x ∈ ks)).map T.str) S1 := by
    rw [lc_filt (enc := T.str) (fun x => decide (x ∈ ks)) T.str sn (by rw [szl]; have := line_len (dt := dt) ok; omega) (fun x hx => ?_)]
    by_cases hz : x ∈ ks <;> simp [turn1, wipeF, hz]
  have hm : methPre G (rv ps) 46 S1 = .ok 56 S1 := by simp [rv, pre_ins, methOf]
  have hl : ((line s dt).filter fun x => decide (x ∈ ks)).length ≤ 16777216 := by
    have h1 := List.length_filter_le (fun x => decide (x ∈ ks)) (line s dt)
    have := line_len (dt := dt) ok
    omega
  rw [rf34]
  simp [b34, startF, need_dating_ok (n := n + 2) ok ft, e, hm, bk_row (n := n) ok hf ft, l1, rev_pick (n := n + 5) (ps := ps) hl]
theorem need_things_ok {ts : List Str} (ht : ∀ z ∈ ts, z ∈ s.row) : runN G (n + 1) 41 [.lst (s.row.map T.str), .lst (ts.map T.str)] S = .ok .non S := by
  obtain ⟨ρ, S1, e, q4, hρ, hS⟩ := for_ex (enc := T.str) (ks := []) (turn := turnF G (NH.runN G n) (.nm 2) [.ifS (.or (.not (.bi .isinstance [.var 2, .glo 5])) (.cmp .notin (.var 2) (.var 0))) [.no] []])
    (fun d ρ S' => ∃ (q4 : Option T), ρ = [some (.lst (s.row.map T.str)), some (.lst (ts.map T.str)), q4] ∧ S' = S) (fun _ _ _ _ => sn) (xs := ts) (d := []) (ρ := [some (.lst (s.row.map T.str)), some (.lst (ts.map T.str)), none]) (S := S)
    (fun d z r ρ S' hx ⟨q4, hρ, hS⟩ => by
      subst hρ hS
      simp only [List.nil_append] at hx
      have hz : z ∈ s.row := ht z (by rw [hx]; simp)
      refine ⟨[some (.lst (s.row.map T.str)), some (.lst (ts.map T.str)), some (.str z)], S', ?_, _, rfl, rfl⟩
      simp [turnF, hz]) ⟨_, rfl, rfl⟩
  subst hρ hS
  rw [rf41]
  simp [b41, startF, e]
theorem rev_choice {ts : List Str} (ok : s.Ok) (hf : Flat S) (ft : Fit s dt) (ht : ∀ z ∈ ts, z ∈ s.row) : runN G (n + 8) 35 [rv ps, bk s, .dct (dtT dt s.found), .lst (ts.map T.str)] S = .ok (pickd ps ((line s dt).filter fun x => decide ((lab s x).bearer ∈ ts))) S := by
  have l1 : lcLoop [] (turn1 G (NH.runN G (n + 7)) (.var 4) (.nm 4) (.cmp .isin (.attr (.meth (.var 1) 44 [.var 4] []) 37) (.var 3)) [4] [some (rv ps), some (bk s), some (.dct (dtT dt s.found)), some (.lst (ts.map T.str)), none]) ((line s dt).map T.str) [] S = .ok (((line s dt).filter fun x => decide ((lab s x).bearer ∈ ts)).map T.str) S := by
    rw [lc_filt (enc := T.str) (fun x => decide ((lab s x).bearer ∈ ts)) T.str sn (by rw [szl]; have := line_len (dt := dt) ok; omega) (fun x hx => ?_)]
    have hk := left_mem (line_mem.mp hx)
    by_cases hz : (lab s x).bearer ∈ ts <;> simp [turn1, wipeF, hz, bk_label (n := n + 4) ok hk]
  have hm : methPre G (rv ps) 46 S = .ok 56 S := by simp [rv, pre_ins, methOf]
  have hl : ((line s dt).filter fun x => decide ((lab s x).bearer ∈ ts)).length ≤ 16777216 := by
    have h1 := List.length_filter_le (fun x => decide ((lab s x).bearer ∈ ts)) (line s dt)
    have := line_len (dt := dt) ok
    omega
  rw [rf35]
  simp [b35, startF, need_dating_ok (n := n + 2) ok ft, bk_things (n := n + 6), need_things_ok (n := n + 6) ht, hm, bk_row (n := n) ok hf ft, l1, rev_pick (n := n + 5) (ps := ps) hl]
end
end LW
end
section
namespace LW
open PySem hiding exec execs
open NH
open L2 (atI ixN)
def nS (m : Nat) : Str := Str.ofString (toString (m : Int))
theorem nS_len : ∀ m < 9, (nS m).length = 1 := by decide +kernel
def txt (m : Nat) : Str := ("reviser " : Str) ++ nS m
theorem app_len {a b : Str} : (a ++ b).length = a.length + b.length := by
  show (a.cps ++ b.cps).size = a.cps.size + b.cps.size
  simp
section
variable {S : Store} {n : Nat} {s : Sp} {x y : Str} {dt : Str → Int} {ps : List (Str × Str)} {k : Nat}
theorem rule_told : runN G (n + 1) 42 [rv ps] S = .ok (.str "reviser") S := by
  rw [rf42]
  simp [b42, startF]
@[simp] theorem part_str (h : x.length ≤ 16777216) : partS (.str x) = some x := by
  show (if x.length ≤ sizeLine then some x else none) = some x
  rw [if_pos (by rw [szl]; exact h)]
theorem part_nat {m : Nat} (h : m < 9) : partS (.int (m : Int)) = some (nS m) := by
  show (if ((m : Int)).natAbs < 2 ^ 64 then some (Str.ofString (toString (m : Int))) else none) = _
  rw [if_pos (by omega)]
  rfl
theorem l_rev : ("reviser" : Str).length = 7 := by decide +kernel
theorem l_sp : (" " : Str).length = 1 := by decide +kernel
theorem l_rule : ("Rule(" : Str).length = 5 := by decide +kernel
theorem l_end : (")" : Str).length = 1 := by decide +kernel
theorem l_revs : ("reviser " : Str).length = 8 := by decide +kernel
theorem l_empty : Str.empty.length = 0 := by decide +kernel
theorem e_rev : Str.empty ++ ("reviser" : Str) ++ (" " : Str) = ("reviser " : Str) := by decide +kernel
theorem e_rule : Str.empty ++ ("Rule(" : Str) = ("Rule(" : Str) := by decide +kernel
theorem txt_len {m : Nat} (h : m < 9) : (txt m).length = 9 := by
  unfold txt
  rw [app_len, nS_len m h, l_revs]
theorem rev_told (hp : ps.length < 9) : runN G (n + 2) 36 [rv ps] S = .ok (.str (txt ps.length)) S := by
  rw [rf36]
  have hs : ev G (runN G (n + 1)) (.sup 0 42 []) [some (rv ps)] S = .ok (.str "reviser") S := by
    simp [rv]
    exact rule_told
  have h1 : (Str.empty ++ ("reviser" : Str)).length ≤ sizeLine := by rw [app_len, l_empty, l_rev, szl]; omega
  have h2 : (Str.empty ++ ("reviser" : Str) ++ (" " : Str)).length ≤ sizeLine := by rw [app_len, app_len, l_empty, l_rev, l_sp, szl]; omega
  have h3 : (Str.empty ++ ("reviser" : Str) ++ (" " : Str) ++ nS ps.length).length ≤ sizeLine := by rw [app_len, app_len, app_len, l_empty, l_rev, l_sp, nS_len _ hp, szl]; omega
  have p1 : partS (.str "reviser") = some ("reviser" : Str) := part_str (by rw [l_rev]; omega)
  have p2 : partS (.str " ") = some (" " : Str) := part_str (by rw [l_sp]; omega)
  simp only [b36, startF, q_execs_cons, q_exec_ret, q_ev_fstr, q_evF_cons, List.map_cons, List.map_nil, List.length_cons, List.length_nil, Nat.sub_self, List.replicate_zero, List.append_nil]
  simp [hs, p1, p2, h1, h2, part_nat hp, h3, -q_ev_sup]
  rw [e_rev]
  rfl
theorem rule_repr (hp : ps.length < 9) : runN G (n + 3) 37 [rv ps] S = .ok (.str (("Rule(" : Str) ++ txt ps.length ++ (")" : Str))) S := by
  rw [rf37]
  have hm : methPre G (rv ps) 8 S = .ok 36 S := by simp [rv, pre_ins, methOf]
  have h1 : (Str.empty ++ ("Rule(" : Str)).length ≤ sizeLine := by rw [app_len, l_empty, l_rule, szl]; omega
  have h0 : ("Rule(" : Str).length ≤ sizeLine := by rw [l_rule, szl]; omega
  have h2 : (("Rule(" : Str) ++ txt ps.length).length ≤ sizeLine := by rw [app_len, l_rule, txt_len hp, szl]; omega
  have h3 : (("Rule(" : Str) ++ txt ps.length ++ (")" : Str)).length ≤ sizeLine := by rw [app_len, app_len, l_rule, txt_len hp, l_end, szl]; omega
  have p1 : partS (.str "Rule(") = some ("Rule(" : Str) := part_str (by rw [l_rule]; omega)
  have p2 : partS (.str ")") = some (")" : Str) := part_str (by rw [l_end]; omega)
  have p3 : partS (.str (txt ps.length)) = some (txt ps.length) := part_str (by rw [txt_len hp]; omega)
  simp [b37, startF, hm, rev_told (n := n) hp, p1, p2, p3, h1, h0, e_rule, h2, h3]
theorem rev_pairs : runN G (n + 1) 38 [rv ps] S = .ok (.ref S.length) (S ++ [some (.lst (ps.map prT))]) := by
  rw [rf38]
  simp [b38, startF]
/-! ### the same -/
@[simp] theorem ne_bls {x y : Bool} : neD (.bl x) (.bl y) S = .ok (.bl (!(x == y))) S := Eq.trans rfl rfl
@[simp] theorem eq_bls {x y : Bool} : eqD (.bl x) (.bl y) S = .ok (.bl (x == y)) S := Eq.trans rfl rfl
def Same (n : Nat) (S : Store) (a b : T) : Prop := runN G (n + 1) 11 [a, b] S = .ok (.bl true) S
theorem same_str : Same n S (.str x) (.str x) := by
  unfold Same
  rw [rf11]
  simp [b11, startF, isT]
theorem same_non : Same n S .non .non := by
  unfold Same
  rw [rf11]
  simp [b11, startF, isT]
theorem same_bl {b : Bool} : Same n S (.bl b) (.bl b) := by
  unfold Same
  rw [rf11]
  simp [b11, startF, isT]
theorem still_app {a b : List (Nat × List T)} (h1 : still S a) (h2 : still S b) : still S (a ++ b) := by
  induction a with
  | nil => exact h2
  | cons p r ih => exact ⟨h1.1, ih h1.2⟩
structure LstV (S : Store) (v : T) (xs : List T) : Prop where
  vw : view S v = .lst xs
  kp : still S (keepL v xs)
  nn : ∀ b, isT b v .non S = .ok (.bl b) S
theorem LstV.lst {xs : List T} : LstV S (.lst xs) xs := ⟨rfl, trivial, fun _ => rfl⟩
theorem LstV.ref {xs : List T} (h : S.nd k = some (.lst xs)) : LstV S (.ref k) xs := ⟨vw_ref h, ⟨h, trivial⟩, fun _ => rfl⟩
theorem LstV.kind {v : T} {xs : List T} (h : LstV S v xs) {b : String} : isKind G S v (.ty b) = kindOf "list" b := by
  unfold isKind tyOf
  rw [h.vw]
  rfl
theorem LstV.len {v : T} {xs : List T} {D : NH.Run} (h : LstV S v xs) : biT G D .len [v] S = .ok (.int xs.length) S := by
  show lenT G D v S = _
  unfold lenT
  rw [h.vw]
theorem same_lst {a b : T} {xs ys : List T} (ha : LstV S a xs) (hb : LstV S b ys) (hl : xs.length = ys.length) (h16 : xs.length ≤ 16777216) (he : ∀ p ∈ xs.zip ys, Same n S p.1 p.2) : Same (n + 1) S a b := by
  unfold Same
  rw [rf11]
  have hz : zipSrc S a b = some ((xs.zip ys).map pairT, keepL a xs ++ keepL b ys) := by
    unfold zipSrc
    rw [ha.vw, hb.vw]
    rfl
  have l1 : lcLoop (keepL a xs ++ keepL b ys) (turn0 G (NH.runN G (n + 1)) (.call 11 [.var 3, .var 4] []) (.tp [3, 4]) [3, 4] [some a, some b, none, none, none]) ((xs.zip ys).map pairT) [] S = .ok ((xs.zip ys).map fun _ => T.bl true) S := by
    rw [lc_map (enc := pairT) (fun _ => T.bl true) (still_app ha.kp hb.kp) (by rw [szl, List.length_zip]; omega) (fun p hp => ?_)]
    have := he p hp
    unfold Same at this
    simp [turn0, wipeF, setTg, pairT, this]
  have hal := all_map (S := S) (f := fun _ : T × T => true) (l := xs.zip ys)
  have hli : (xs.length : Int) = (ys.length : Int) := by omega
  simp [b11, startF, hb.nn, ha.kind, hb.kind, ha.len, hb.len, hli, hz, l1, hal]
theorem same_tup {xs : List T} (h16 : xs.length ≤ 16777216) (he : ∀ p ∈ xs.zip xs, Same n S p.1 p.2) : Same (n + 1) S (.tup xs) (.tup xs) := by
  unfold Same
  rw [rf11]
  have hz : zipSrc S (.tup xs) (.tup xs) = some ((xs.zip xs).map pairT, []) := rfl
  have l1 : lcLoop [] (turn0 G (NH.runN G (n + 1)) (.call 11 [.var 3, .var 4] []) (.tp [3, 4]) [3, 4] [some (.tup xs), some (.tup xs), none, none, none]) ((xs.zip xs).map pairT) [] S = .ok ((xs.zip xs).map fun _ => T.bl true) S := by
    rw [lc_map (enc := pairT) (fun _ => T.bl true) sn (by rw [szl, List.length_zip]; omega) (fun p hp => ?_)]
    have := he p hp
    unfold Same at this
    simp [turn0, wipeF, setTg, pairT, this]
  have hal := all_map (S := S) (f := fun _ : T × T => true) (l := xs.zip xs)
  simp [b11, startF, isT, hz, l1, hal]
theorem same_hd {l : List Str} : Same n S (hd l) (hd l) := by
  cases l with
  | nil => exact same_non
  | cons a l => exact same_str
theorem same_pr {p : Str × Str} : Same (n + 1) S (prT p) (prT p) := same_tup (by simp) fun q hq => by
  simp only [List.zip_cons_cons, List.zip_nil_left, List.mem_cons, List.not_mem_nil, or_false] at hq
  rcases hq with rfl | rfl <;> exact same_str
theorem zip_self {α : Type} {l : List α} {p : α × α} (h : p ∈ l.zip l) : p.1 = p.2 ∧ p.1 ∈ l := by
  induction l with
  | nil => cases h
  | cons a l ih =>
    rw [List.zip_cons_cons, List.mem_cons] at h
    rcases h with rfl | h
    · exact ⟨rfl, List.mem_cons_self ..⟩
    · exact ⟨(ih h).1, List.mem_cons_of_mem _ (ih h).2⟩
end
end LW
end
section
namespace LW
open PySem hiding exec execs
open NH
open L2 (atI ixN)
abbrev bestB : List NH.St := [.asg (.nm 19) (.al false (.lc (.var 18) (.nm 18) (.seq (.var 17)) (some (.cmp .eq (.al false (.lc (.var 20) (.nm 20) (.seq (.var 17)) (some (.cmp .isin (.tup [.var 20, .var 18]) (.var 6))) [20])) (.al false (.lst [])))) [18])), .asg (.nm 19) (.ite (.cmp .ne (.var 19) (.al false (.lst []))) (.var 19) (.var 17)), .ex (.bm (.var 16) .append [.ite (.cmp .ne (.var 19) (.al false (.lst []))) (.sub (.var 19) (.int 0)) (.non)])]
section
variable {S : Store} {n : Nat} {s : Sp} {x y : Str} {dt : Str → Int} {ps : List (Str × Str)} {k kp L : Nat}
theorem in_ref {a b : Str} {D : NH.Run} (h : S.nd kp = some (.lst (ps.map prT))) : cmpT G D .isin (.tup [.str a, .str b]) (.ref kp) S = .ok (.bl (decide ((a, b) ∈ ps))) S := by
  show (if isIns S (.ref kp) then ownB G D nmContains false (.ref kp) (.tup [.str a, .str b]) S else inD false (.tup [.str a, .str b]) (.ref kp) S) = _
  have h1 : isIns S (.ref kp) = false := by unfold isIns; rw [vw_ref h]; rfl
  rw [h1]
  simp only [Bool.false_eq_true, if_false]
  have h2 : inD false (.tup [.str a, .str b]) (.ref kp) S = inD false (.tup [.str a, .str b]) (.lst (ps.map prT)) S := by
    unfold inD
    rw [vw_ref h]
    rfl
  rw [h2, in_prs]
  rfl
theorem empty_filter {α : Type} {p : α → Bool} {l : List α} : (l.filter p).isEmpty = !l.any p := by
  induction l with
  | nil => rfl
  | cons a l ih =>
    cases h : p a with
    | true => simp [List.filter_cons, h]
    | false => rw [List.filter_cons_of_neg (by simp [h]), ih]; simp [h]
def fr (scr : T) (k : Nat) (q2 : Option T) (sp bk dt : T) (kp : Nat) (q7 q8 q9 q10 : Option T) (rv ln : T) (q13 q14 q15 : Option T) (q16 q17 q18 q19 q20 q21 q22 : Option T) : Fr :=
  [some scr, some (.ref k), q2, some sp, some bk, some dt, some (.ref kp), q7, q8, q9, q10, some rv, some ln, q13, q14, q15, q16, q17, q18, q19, q20, q21, q22]
def bst (ps : List (Str × Str)) (l : List Str) : List Str := if (best ps l).isEmpty then l else best ps l
theorem best_turn {D : NH.Run} {scr sp bkt dtt rvt ln : T} {q2 q7 q8 q9 q10 q13 q14 q15 q17 q19 q21 q22 : Option T} {l : List Str} {due : List T} (hl : l.length ≤ 100) (hd : due.length ≤ 100) (h : S.nd kp = some (.lst (ps.map prT))) (hL : S.nd L = some (.lst due)) :
    turnF G D (.nm 17) bestB (.lst (l.map T.str)) (fr scr k q2 sp bkt dtt kp q7 q8 q9 q10 rvt ln q13 q14 q15 (some (.ref L)) q17 none q19 none q21 q22) S =
      .nx (fr scr k q2 sp bkt dtt kp q7 q8 q9 q10 rvt ln q13 q14 q15 (some (.ref L)) (some (.lst (l.map T.str))) none (some (.lst ((bst ps l).map T.str))) none q21 q22) (S.set L (some (.lst (due ++ [pickd ps l])))) := by
  unfold bst
  have l1 : lcLoop [] (turn1 G D (.var 18) (.nm 18) (.cmp .eq (.al false (.lc (.var 20) (.nm 20) (.seq (.var 17)) (some (.cmp .isin (.tup [.var 20, .var 18]) (.var 6))) [20])) (.al false (.lst []))) [18] (fr scr k q2 sp bkt dtt kp q7 q8 q9 q10 rvt ln q13 q14 q15 (some (.ref L)) (some (.lst (l.map T.str))) none q19 none q21 q22)) (l.map T.str) [] S = .ok ((best ps l).map T.str) S := by
    rw [lc_filt (enc := T.str) (fun x => !l.any fun o => decide ((o, x) ∈ ps)) T.str sn (by rw [szl]; omega) (fun x hx => ?_)]
    · rfl
    · have l2 : lcLoop [] (turn1 G D (.var 20) (.nm 20) (.cmp .isin (.tup [.var 20, .var 18]) (.var 6)) [20] (fr scr k q2 sp bkt dtt kp q7 q8 q9 q10 rvt ln q13 q14 q15 (some (.ref L)) (some (.lst (l.map T.str))) (some (.str x)) q19 none q21 q22)) (l.map T.str) [] S = .ok ((l.filter fun o => decide ((o, x) ∈ ps)).map T.str) S := by
        rw [lc_filt (enc := T.str) (fun o => decide ((o, x) ∈ ps)) T.str sn (by rw [szl]; omega) (fun o ho => ?_)]
        by_cases hz : (o, x) ∈ ps <;> simp [turn1, wipeF, fr, in_ref h, hz]
      simp only [fr] at l2
      have he : ((l.filter fun o => decide ((o, x) ∈ ps)).map T.str).isEmpty = !l.any fun o => decide ((o, x) ∈ ps) := by rw [empty_map, empty_filter]
      have h3 := eq_nil_lst (S := S) (dataL_strs (n := 59) (l := l.filter fun o => decide ((o, x) ∈ ps)))
      rw [he] at h3
      cases hb : l.any fun o => decide ((o, x) ∈ ps) with
      | true =>
        rw [hb] at h3
        simp only [turn1, setTg_nm, fr]
        simp [wipeF, l2, h3]
      | false =>
        rw [hb] at h3
        simp only [turn1, setTg_nm, fr]
        simp [wipeF, l2, h3]
  simp only [fr] at l1
  have hne := ne_nil_lst (S := S) (dataL_strs (n := 59) (l := best ps l))
  have hap := fun v => app_ref (v := v) hL (by rw [szl]; omega)
  have fin : ∀ B : List Str, B = (if (best ps l).isEmpty then l else best ps l) → pickd ps l = LW.hd B := fun B e => by rw [e]; rfl
  cases hb : (best ps l).isEmpty with
  | true =>
    rw [empty_map, hb] at hne
    have hf := fin l (by rw [hb]; rfl)
    rw [hf]
    cases l with
    | nil =>
      simp only [List.map_nil] at l1
      simp [turnF, fr, l1, hne, ne_nil_lst, bmOk_ref hL, hap, LW.hd]
    | cons a r =>
      have hne2 := ne_nil_lst (S := S) (dataL_strs (n := 59) (l := a :: r))
      simp only [List.map_cons, List.isEmpty_cons] at hne2 l1
      simp [turnF, fr, l1, hne, hne2, bmOk_ref hL, hap, LW.hd]
  | false =>
    rw [empty_map, hb] at hne
    have hf := fin (best ps l) (by rw [hb]; rfl)
    rw [hf]
    cases hbl : best ps l with
    | nil => rw [hbl] at hb; cases hb
    | cons a r =>
      rw [hbl] at hne l1
      simp only [List.map_cons] at hne l1
      simp [turnF, fr, l1, hne, bmOk_ref hL, hap, LW.hd]
end
end LW
end
section
namespace LW
open PySem hiding exec execs
open NH
open L2 (atI ixN)
abbrev innB : List NH.St := [.asg (.nm 14) (.cut (.call 9 [.var 1, .call 5 [.var 3] []] []) none (some (.call 6 [.var 1, .int 7] []))), .asg (.nm 15) (.cut (.call 9 [.var 1, .sub (.var 3) (.int 0)] []) none (some (.call 6 [.var 1, .bin .add (.bi .len [.sub (.var 3) (.int 0)]) (.int 1)] []))), .asg (.nm 16) (.al true (.lst [])), .forS (.nm 17) (.seq (.al false (.lst [.al false (.lc (.var 18) (.nm 18) (.seq (.var 12)) (some (.cmp .isin (.var 18) (.var 14))) [18]), .al false (.lc (.var 18) (.nm 18) (.seq (.var 12)) (some (.cmp .isin (.call 10 [.var 3, .var 18] []) (.var 15))) [18])]))) [.asg (.nm 19) (.al false (.lc (.var 18) (.nm 18) (.seq (.var 17)) (some (.cmp .eq (.al false (.lc (.var 20) (.nm 20) (.seq (.var 17)) (some (.cmp .isin (.tup [.var 20, .var 18]) (.var 6))) [20])) (.al false (.lst [])))) [18])), .asg (.nm 19) (.ite (.cmp .ne (.var 19) (.al false (.lst []))) (.var 19) (.var 17)), .ex (.bm (.var 16) .append [.ite (.cmp .ne (.var 19) (.al false (.lst []))) (.sub (.var 19) (.int 0)) (.non)])], .ifS (.not (.call 11 [.al false (.lst [.meth (.var 11) 6 [.var 4, .var 5, .var 14] [], .meth (.var 11) 7 [.var 4, .var 5, .var 15] []]), .var 16] [])) [.ret (.bl false)] [], .asg (.nm 21) (.al false (.lst [.meth (.var 11) 5 [] [], .meth (.var 11) 8 [] [], .bi .repr [.var 11], .attr (.var 11) 9, .bi .isinstance [.var 11, .glo 0], .bi .isinstance [.var 11, .glo 1]])), .asg (.nm 22) (.bin .add (.str "reviser ") (.bi .str [.bi .len [.var 6]])), .ifS (.not (.call 11 [.var 21, .al false (.lst [.var 6, .var 22, .bin .add (.bin .add (.str "Rule(") (.var 22)) (.str ")"), .str "reviser", .bl true, .bl false])] [])) [.ret (.bl false)] [], .ex (.bm (.sub (.var 21) (.int 0)) .append [.str "late"])]
abbrev pairB : List NH.St := [.asg (.nm 9) (.call 6 [.var 1, .bi .len [.var 7]] []), .ex (.bm (.var 6) .append [.tup [.sub (.var 7) (.var 9), .sub (.var 7) (.bin .mod (.bi .int [.bin .add (.bin .add (.var 9) (.int 1)) (.call 6 [.var 1, .bin .sub (.bi .len [.var 7]) (.int 1)] [])]) (.bi .len [.var 7]))]])]
abbrev outB : List NH.St := [.asg (.nm 3) (.call 2 [.var 1, .int 4, .int 6, .int 3] []), .asg (.tp [4, 5, 6]) (.tup [(.call 3 [.var 3] []), (.call 4 [.var 1, .var 3] []), (.al true (.lst []))]), .asg (.nm 7) (.bin .add (.call 5 [.var 3] []) (.al false (.lst [.str "zzzzzz", .str "zzzzzy"]))), .forS (.nm 8) (.rng1 (.call 6 [.var 1, .int 9] [])) [.asg (.nm 9) (.call 6 [.var 1, .bi .len [.var 7]] []), .ex (.bm (.var 6) .append [.tup [.sub (.var 7) (.var 9), .sub (.var 7) (.bin .mod (.bi .int [.bin .add (.bin .add (.var 9) (.int 1)) (.call 6 [.var 1, .bin .sub (.bi .len [.var 7]) (.int 1)] [])]) (.bi .len [.var 7]))]])], .asg (.nm 10) (.al true (.list (.var 6))), .par [11, 12] [(.make 0 [] [(5, .var 10)]), (.call 8 [.var 3, .var 5, .sub (.var 3) (.int 0)] [])], .ex (.bm (.var 10) .append [.non]), .forS (.nm 13) (.rng1 (.int 3)) [.asg (.nm 14) (.cut (.call 9 [.var 1, .call 5 [.var 3] []] []) none (some (.call 6 [.var 1, .int 7] []))), .asg (.nm 15) (.cut (.call 9 [.var 1, .sub (.var 3) (.int 0)] []) none (some (.call 6 [.var 1, .bin .add (.bi .len [.sub (.var 3) (.int 0)]) (.int 1)] []))), .asg (.nm 16) (.al true (.lst [])), .forS (.nm 17) (.seq (.al false (.lst [.al false (.lc (.var 18) (.nm 18) (.seq (.var 12)) (some (.cmp .isin (.var 18) (.var 14))) [18]), .al false (.lc (.var 18) (.nm 18) (.seq (.var 12)) (some (.cmp .isin (.call 10 [.var 3, .var 18] []) (.var 15))) [18])]))) [.asg (.nm 19) (.al false (.lc (.var 18) (.nm 18) (.seq (.var 17)) (some (.cmp .eq (.al false (.lc (.var 20) (.nm 20) (.seq (.var 17)) (some (.cmp .isin (.tup [.var 20, .var 18]) (.var 6))) [20])) (.al false (.lst [])))) [18])), .asg (.nm 19) (.ite (.cmp .ne (.var 19) (.al false (.lst []))) (.var 19) (.var 17)), .ex (.bm (.var 16) .append [.ite (.cmp .ne (.var 19) (.al false (.lst []))) (.sub (.var 19) (.int 0)) (.non)])], .ifS (.not (.call 11 [.al false (.lst [.meth (.var 11) 6 [.var 4, .var 5, .var 14] [], .meth (.var 11) 7 [.var 4, .var 5, .var 15] []]), .var 16] [])) [.ret (.bl false)] [], .asg (.nm 21) (.al false (.lst [.meth (.var 11) 5 [] [], .meth (.var 11) 8 [] [], .bi .repr [.var 11], .attr (.var 11) 9, .bi .isinstance [.var 11, .glo 0], .bi .isinstance [.var 11, .glo 1]])), .asg (.nm 22) (.bin .add (.str "reviser ") (.bi .str [.bi .len [.var 6]])), .ifS (.not (.call 11 [.var 21, .al false (.lst [.var 6, .var 22, .bin .add (.bin .add (.str "Rule(") (.var 22)) (.str ")"), .str "reviser", .bl true, .bl false])] [])) [.ret (.bl false)] [], .ex (.bm (.sub (.var 21) (.int 0)) .append [.str "late"])]]
section
variable {S : Store} {n : Nat} {s : Sp} {x y : Str} {dt : Str → Int} {ps : List (Str × Str)} {k kp L : Nat}
theorem hd_old {l : List Str} : (LW.hd l).old 0 = true := by cases l <;> rfl
theorem pickd_old {l : List Str} : (pickd ps l).old 0 = true := hd_old
theorem bi_repr {D : NH.Run} {z : Str} (h : D 37 [rv ps] S = .ok (.str z) S) : biT G D .repr [rv ps] S = .ok (.str z) S := by
  show reprT G D (rv ps) S = _
  unfold reprT
  rw [vw_rv]
  unfold rv at h ⊢
  simp [methOf, nmRepr, h]
theorem bi_strn {D : NH.Run} {m : Nat} (h : m < 9) : biT G D .str [.int (m : Int)] S = .ok (.str (nS m)) S := by
  show (if ((m : Int)).natAbs < 2 ^ 64 then R.ok (T.str (Str.ofString (toString (m : Int)))) S else .no) = _
  rw [if_pos (by omega)]
  rfl
@[simp] theorem rvK3 : isKind G S (rv ps) (.cls 3) = some true := by simp [rv, isKind, tyOf]
@[simp] theorem rvK4 : isKind G S (rv ps) (.cls 4) = some false := by simp [rv, isKind, tyOf]
theorem flat_two {a b : Nd} (h1 : a.tree.old 0 = true) (h2 : b.tree.old 0 = true) : Flat [some a, some b] := by
  have e : ∀ z : Nd, z.old 0 = z.tree.old 0 := fun z => by cases z <;> rfl
  simp [Flat, oldAll, e, h1, h2]
theorem inner_turn {scr t : T} {q2 q7 q8 q9 q10 q13 q14 q15 q16 q17 q19 q21 q22 : Option T} (hF : Fed S k) (hf : Flat S) (hkp : S.nd kp = some (.lst (ps.map prT))) (hne : k ≠ kp) (ok : s.Ok) (ft : Fit s dt) (hps : ps.length < 9) :
    ∃ (p13 p14 p15 p16 p17 p19 p21 p22 : Option T) (S' : Store), turnF G (runN G (n + 9)) (.nm 13) innB t (fr scr k q2 s.t (bk s) (.dct (dtT dt s.found)) kp q7 q8 q9 q10 (rv ps) (.lst ((line s dt).map T.str)) q13 q14 q15 q16 q17 none q19 none q21 q22) S =
      .nx (fr scr k q2 s.t (bk s) (.dct (dtT dt s.found)) kp q7 q8 q9 q10 (rv ps) (.lst ((line s dt).map T.str)) p13 p14 p15 p16 p17 none p19 none p21 p22) S' ∧ Fed S' k ∧ Flat S' ∧ S'.nd kp = some (.lst (ps.map prT)) := by
  have hk := hF.lt
  have hkl : kp < S.length := nd_lt hkp
  obtain ⟨ys, S1, e1, d1, hy⟩ := mixed_dr (n := n + 6) (l := s.keys) hF hf (by simp only [Sp.keys, List.length_map]; have := ok.fL; omega)
  obtain ⟨i, S2, e2, d2, i0, i1⟩ := take_dr (n := n + 8) (m := 7) (d1.fed hk) (by omega) (by omega)
  have D2 := d1.trans d2
  obtain ⟨zs, S3, e3, d3, hz⟩ := mixed_dr (n := n + 6) (l := s.row) (D2.fed hk) (D2.flat hf) (by have := ok.rowL; omega)
  obtain ⟨j, S4, e4, d4, j0, j1⟩ := take_dr (n := n + 8) (m := (s.row.length : Int) + 1) ((D2.trans d3).fed hk) (by omega) (by have := ok.rowL; omega)
  have D4 := (D2.trans d3).trans d4
  have f4 := D4.flat hf
  have len4 : S4.length = S.length := D4.len
  have hkp4 : Store.nd S4 kp = some (.lst (ps.map prT)) := (D4.nd hne).trans hkp
  have hkl4 : kp < S4.length := by omega
  obtain ⟨ks, eks⟩ : ∃ z, z = ys.take i.toNat := ⟨_, rfl⟩
  obtain ⟨ts, ets⟩ : ∃ z, z = zs.take j.toNat := ⟨_, rfl⟩
  have hks : ∀ z ∈ ks, z ∈ s.keys := fun z hz => hy z (List.mem_of_mem_take (by rw [← eks]; exact hz))
  have hts : ∀ w ∈ ts, w ∈ s.row := fun w hw => hz w (List.mem_of_mem_take (by rw [← ets]; exact hw))
  obtain ⟨A, eA⟩ : ∃ z, z = (line s dt).filter fun x => decide (x ∈ ks) := ⟨_, rfl⟩
  obtain ⟨B, eB⟩ : ∃ z, z = (line s dt).filter fun x => decide ((lab s x).bearer ∈ ts) := ⟨_, rfl⟩
  have hA : A.length ≤ 6 := by rw [eA]; exact Nat.le_trans (List.length_filter_le _ _) (line_len ok)
  have hB : B.length ≤ 6 := by rw [eB]; exact Nat.le_trans (List.length_filter_le _ _) (line_len ok)
  have kpa : ∀ E : Store, Store.nd (S4 ++ E) kp = some (.lst (ps.map prT)) := fun E => (nd_app hkl4).trans hkp4
  have lA : lcLoop [] (turn1 G (NH.runN G (n + 9)) (.var 18) (.nm 18) (.cmp .isin (.var 18) (.var 14)) [18] (fr scr k q2 s.t (bk s) (.dct (dtT dt s.found)) kp q7 q8 q9 q10 (rv ps) (.lst ((line s dt).map T.str)) (some t) (some (.lst (ks.map T.str))) (some (.lst (ts.map T.str))) (some (.ref S4.length)) q17 none q19 none q21 q22)) ((line s dt).map T.str) [] (S4 ++ [some (.lst [])]) = .ok (A.map T.str) (S4 ++ [some (.lst [])]) := by
    rw [lc_filt (enc := T.str) (fun x => decide (x ∈ ks)) T.str sn (by rw [szl]; have := line_len (dt := dt) ok; omega) (fun x hx => ?_), ← eA]
    by_cases hz : x ∈ ks <;> simp [turn1, wipeF, fr, hz]
  have lB : lcLoop [] (turn1 G (NH.runN G (n + 9)) (.var 18) (.nm 18) (.cmp .isin (.call 10 [.var 3, .var 18] []) (.var 15)) [18] (fr scr k q2 s.t (bk s) (.dct (dtT dt s.found)) kp q7 q8 q9 q10 (rv ps) (.lst ((line s dt).map T.str)) (some t) (some (.lst (ks.map T.str))) (some (.lst (ts.map T.str))) (some (.ref S4.length)) q17 none q19 none q21 q22)) ((line s dt).map T.str) [] (S4 ++ [some (.lst [])]) = .ok (B.map T.str) (S4 ++ [some (.lst [])]) := by
    rw [lc_filt (enc := T.str) (fun x => decide ((lab s x).bearer ∈ ts)) T.str sn (by rw [szl]; have := line_len (dt := dt) ok; omega) (fun x hx => ?_), ← eB]
    have hk := left_mem (line_mem.mp hx)
    by_cases hz : (lab s x).bearer ∈ ts <;> simp [turn1, wipeF, fr, hz, lw_bearer (n := n + 7) ok hk]
  have b1 := best_turn (D := runN G (n + 9)) (scr := scr) (sp := s.t) (bkt := bk s) (dtt := .dct (dtT dt s.found)) (rvt := rv ps) (ln := .lst ((line s dt).map T.str)) (q2 := q2) (q7 := q7) (q8 := q8) (q9 := q9) (q10 := q10) (q13 := some t) (q14 := some (.lst (ks.map T.str))) (q15 := some (.lst (ts.map T.str))) (q17 := q17) (q19 := q19) (q21 := q21) (q22 := q22) (k := k) (l := A) (due := []) (by omega) (by simp) (kpa [some (.lst [])]) (nd_new (S := S4))
  have b2 := best_turn (D := runN G (n + 9)) (scr := scr) (sp := s.t) (bkt := bk s) (dtt := .dct (dtT dt s.found)) (rvt := rv ps) (ln := .lst ((line s dt).map T.str)) (q2 := q2) (q7 := q7) (q8 := q8) (q9 := q9) (q10 := q10) (q13 := some t) (q14 := some (.lst (ks.map T.str))) (q15 := some (.lst (ts.map T.str))) (q17 := some (.lst (A.map T.str))) (q19 := some (.lst ((bst ps A).map T.str))) (q21 := q21) (q22 := q22) (k := k) (l := B) (due := [pickd ps A]) (by omega) (by simp) (kpa [some (.lst [pickd ps A])]) (nd_new (S := S4))
  rw [set_new] at b1 b2
  simp only [List.nil_append, List.cons_append] at b1 b2
  have f5 : Flat (S4 ++ [some (.lst [pickd ps A, pickd ps B])]) := f4.app (by simp [Flat, oldAll, Nd.old, T.oldL, pickd_old])
  have c1 := rev_chosen (n := n + 1) (ps := ps) ok f5 ft hks
  have c2 := rev_choice (n := n + 1) (ps := ps) ok f5 ft hts
  rw [← eA] at c1
  rw [← eB] at c2
  have m6 : ∀ S, methPre G (rv ps) 6 S = .ok 34 S := fun S => by simp [rv, pre_ins, methOf]
  have m7 : ∀ S, methPre G (rv ps) 7 S = .ok 35 S := fun S => by simp [rv, pre_ins, methOf]
  have m5 : ∀ S, methPre G (rv ps) 5 S = .ok 38 S := fun S => by simp [rv, pre_ins, methOf]
  have m8 : ∀ S, methPre G (rv ps) 8 S = .ok 36 S := fun S => by simp [rv, pre_ins, methOf]
  have s1 : runN G (n + 9) 11 [.lst [pickd ps A, pickd ps B], .ref S4.length] (S4 ++ [some (.lst [pickd ps A, pickd ps B])]) = .ok (.bl true) (S4 ++ [some (.lst [pickd ps A, pickd ps B])]) :=
    same_lst (n := n + 7) LstV.lst (LstV.ref nd_new) rfl (by simp) fun p hp => by
      simp only [List.zip_cons_cons, List.zip_nil_left, List.mem_cons, List.not_mem_nil, or_false] at hp
      rcases hp with rfl | rfl <;> exact same_hd
  have n2a : Store.nd (S4 ++ [some (.lst [pickd ps A, pickd ps B]), some (.lst (ps.map prT))]) (S4.length + 1) = some (.lst (ps.map prT)) := nd2b
  have t8 := rev_told (S := S4 ++ [some (.lst [pickd ps A, pickd ps B]), some (.lst (ps.map prT))]) (n := n + 7) hps
  have r8 := bi_repr (rule_repr (S := S4 ++ [some (.lst [pickd ps A, pickd ps B]), some (.lst (ps.map prT))]) (n := n + 6) hps)
  have pr := rev_pairs (S := S4 ++ [some (.lst [pickd ps A, pickd ps B])]) (n := n + 8) (ps := ps)
  have s2 : runN G (n + 9) 11 [.lst [.ref (S4.length + 1), .str (txt ps.length), .str (("Rule(" : Str) ++ txt ps.length ++ (")" : Str)), .str "reviser", .bl true, .bl false], .lst [.ref kp, .str (txt ps.length), .str (("Rule(" : Str) ++ txt ps.length ++ (")" : Str)), .str "reviser", .bl true, .bl false]] (S4 ++ [some (.lst [pickd ps A, pickd ps B]), some (.lst (ps.map prT))]) = .ok (.bl true) (S4 ++ [some (.lst [pickd ps A, pickd ps B]), some (.lst (ps.map prT))]) :=
    same_lst (n := n + 7) LstV.lst LstV.lst rfl (by simp) fun p hp => by
      simp only [List.zip_cons_cons, List.zip_nil_left, List.mem_cons, List.not_mem_nil, or_false] at hp
      rcases hp with rfl | rfl | rfl | rfl | rfl | rfl
      · refine same_lst (n := n + 6) (LstV.ref n2a) (LstV.ref (kpa _)) rfl (by simp; omega) fun p hp => ?_
        obtain ⟨e, hm⟩ := zip_self hp
        obtain ⟨q, _, hq⟩ := List.mem_map.mp hm
        obtain ⟨p1, p2⟩ := p
        simp only at e hq
        subst e hq
        exact same_pr (n := n + 5)
      · exact same_str
      · exact same_str
      · exact same_str
      · exact same_bl
      · exact same_bl
  have lt : (txt ps.length).length = 9 := txt_len hps
  have g1 : ("reviser " : Str).length + (nS ps.length).length ≤ 16777216 := by rw [l_revs, nS_len _ hps]; omega
  have g2 : ("Rule(" : Str).length + (txt ps.length).length ≤ 16777216 := by rw [l_rule, lt]; omega
  have g3 : (("Rule(" : Str) ++ txt ps.length).length + (")" : Str).length ≤ 16777216 := by rw [app_len, l_rule, lt, l_end]; omega
  have et : ("reviser " : Str) ++ nS ps.length = txt ps.length := rfl
  have bm2 := bmOk_ref n2a
  have ap2 := app_ref (v := T.str "late") n2a (by rw [szl]; simp; omega)
  rw [set2b] at ap2
  refine ⟨some t, some (.lst (ks.map T.str)), some (.lst (ts.map T.str)), some (.ref S4.length), some (.lst (B.map T.str)), some (.lst ((bst ps B).map T.str)), some (.lst [.ref (S4.length + 1), .str (txt ps.length), .str (("Rule(" : Str) ++ txt ps.length ++ (")" : Str)), .str "reviser", .bl true, .bl false]), some (.str (txt ps.length)), S4 ++ [some (.lst [pickd ps A, pickd ps B]), some (.lst (ps.map prT ++ [T.str "late"]))], ?_, ?_, ?_, ?_⟩
  rotate_left
  · exact (D4.fed hk).app (E := [some (.lst [pickd ps A, pickd ps B]), some (.lst (ps.map prT ++ [T.str "late"]))])
  · exact f4.app (flat_two (by simp [T.old, T.oldL, pickd_old]) (by
      simp only [tree_lst, T.old]
      have : ∀ l : List T, T.oldL 0 l = true → T.oldL 0 (l ++ [T.str "late"]) = true := fun l => by
        induction l with
        | nil => exact fun _ => rfl
        | cons a l ih =>
          intro h
          simp only [T.oldL, Bool.and_eq_true, List.cons_append] at h ⊢
          exact ⟨h.1, ih h.2⟩
      exact this _ old_prs))
  · exact kpa _
  simp only [fr] at lA lB b1 b2 ⊢
  simp only [turnF, setTg_nm]
  simp [lw_keys (n := n + 8) ok, e1, e2, cutL_hi i0, cutL_hi j0, ← List.map_take, e3, e4, ← eks, ← ets, lA, lB, forLoop, still, b1, b2, m6, m7, c1, c2, s1, m5, pr, m8, t8, r8, bi_len_ref (kpa _), bi_strn hps, szl, g1, et, g2, g3, s2, bm2, ap2]
end
end LW
end
section
namespace LW
open PySem hiding exec execs
open NH
open L2 (atI ixN)
def zA : Str := "zzzzzz"
def zB : Str := "zzzzzy"
theorem zA6 : W6 zA := ⟨by decide +kernel, by decide +kernel, by decide +kernel⟩
theorem zB6 : W6 zB := ⟨by decide +kernel, by decide +kernel, by decide +kernel⟩
theorem zAB : zA ≠ zB := by decide +kernel
theorem zAl : zA.cps.toList.length = 6 := by decide +kernel
theorem zBl : zB.cps.toList.length = 6 := by decide +kernel
def Sp.ws (s : Sp) : List Str := s.keys ++ [zA, zB]
section
variable {S : Store} {n : Nat} {s : Sp} {dt : Str → Int} {ps : List (Str × Str)} {k kp : Nat}
theorem Wd.w6 {x : Str} (h : Wd x) : W6 x := ⟨h.pos, by have := h.most; omega, h.abc⟩
theorem ws_ok (ok : s.Ok) : s.ws.Nodup ∧ ∀ x ∈ s.ws, W6 x := by
  have hk : ∀ x ∈ s.keys, Wd x := fun x hx => by
    obtain ⟨r, hr, rfl⟩ := List.mem_map.mp hx
    exact (ok.ok r hr).key
  unfold Sp.ws
  refine ⟨?_, fun x hx => ?_⟩
  · rw [List.nodup_append]
    refine ⟨ok.keyN, ?_, fun a ha b hb e => ?_⟩
    · rw [List.nodup_cons]
      exact ⟨by simpa using zAB, by simp⟩
    · subst e
      have h1 := (hk a ha).most
      simp only [List.mem_cons, List.not_mem_nil, or_false] at hb
      rcases hb with rfl | rfl
      · rw [zAl] at h1; omega
      · rw [zBl] at h1; omega
  · rcases List.mem_append.mp hx with q | q
    · exact (hk x q).w6
    · simp only [List.mem_cons, List.not_mem_nil, or_false] at q
      rcases q with rfl | rfl
      · exact zA6
      · exact zB6
theorem ws_len (ok : s.Ok) : 2 ≤ s.ws.length ∧ s.ws.length ≤ 8 := by
  have := ok.fL
  simp only [Sp.ws, Sp.keys, List.length_append, List.length_map, List.length_cons, List.length_nil]
  omega
def fq (scr : T) (k : Nat) (q2 q3 q4 q5 q6 q7 q8 q9 q10 q11 q12 q13 q14 q15 q16 q17 q19 q21 q22 : Option T) : Fr :=
  [some scr, some (.ref k), q2, q3, q4, q5, q6, q7, q8, q9, q10, q11, q12, q13, q14, q15, q16, q17, none, q19, none, q21, q22]
theorem pair_turn {scr t : T} {q2 q3 q4 q5 q8 q9 q10 q11 q12 q13 q14 q15 q16 q17 q19 q21 q22 : Option T} (hF : Fed S k) (hf : Flat S) (hkp : S.nd kp = some (.lst (ps.map prT))) (hne : k ≠ kp) (ok : s.Ok) (hps : ps.length < 100) :
    ∃ (a : T) (p : Str × Str) (S' : Store), turnF G (runN G (n + 9)) (.nm 8) pairB t (fq scr k q2 q3 q4 q5 (some (.ref kp)) (some (.lst (s.ws.map T.str))) q8 q9 q10 q11 q12 q13 q14 q15 q16 q17 q19 q21 q22) S = .nx (fq scr k q2 q3 q4 q5 (some (.ref kp)) (some (.lst (s.ws.map T.str))) (some t) (some a) q10 q11 q12 q13 q14 q15 q16 q17 q19 q21 q22) S' ∧
      Fed S' k ∧ Flat S' ∧ S'.nd kp = some (.lst ((ps ++ [p]).map prT)) ∧ PrOk p := by
  have hk := hF.lt
  have hkl : kp < S.length := nd_lt hkp
  obtain ⟨w2, w8⟩ := ws_len ok
  obtain ⟨wn, w6⟩ := ws_ok ok
  obtain ⟨a, S1, e1, d1, a0, a1⟩ := take_dr (n := n + 8) (m := (s.ws.length : Int)) hF (by omega) (by omega)
  obtain ⟨b, S2, e2, d2, b0, b1⟩ := take_dr (n := n + 8) (m := (s.ws.length : Int) - 1) (d1.fed hk) (by omega) (by omega)
  have hkp1 : Store.nd S1 kp = some (.lst (ps.map prT)) := (d1.nd hne).trans hkp
  have hkp2 : Store.nd S2 kp = some (.lst (ps.map prT)) := (d2.nd hne).trans hkp1
  have hkl2 : kp < S2.length := nd_lt hkp2
  have wpos : (0 : Int) < s.ws.length := by omega
  have c0 : 0 ≤ (a + 1 + b) % (s.ws.length : Int) := Int.emod_nonneg _ (by omega)
  have c1 : (a + 1 + b) % (s.ws.length : Int) < s.ws.length := Int.emod_lt_of_pos _ wpos
  have cne : (a + 1 + b) % (s.ws.length : Int) ≠ a := by
    intro e
    by_cases hlt : a + 1 + b < s.ws.length
    · rw [Int.emod_eq_of_lt (by omega) hlt] at e; omega
    · have : (a + 1 + b) % (s.ws.length : Int) = a + 1 + b - s.ws.length := by
        rw [← Int.emod_eq_of_lt (a := a + 1 + b - s.ws.length) (b := s.ws.length) (by omega) (by omega)]
        rw [Int.sub_emod_right]
      omega
  generalize hc : (a + 1 + b) % (s.ws.length : Int) = c at c0 c1 cne
  obtain ⟨i, rfl⟩ := Int.eq_ofNat_of_zero_le a0
  obtain ⟨j, rfl⟩ := Int.eq_ofNat_of_zero_le c0
  have hi : i < s.ws.length := by omega
  have hj : j < s.ws.length := by omega
  have gi : atI (s.ws.map T.str) (Int.ofNat i) = some (.str s.ws[i]) := at_map (List.getElem?_eq_getElem hi)
  have gj : atI (s.ws.map T.str) (Int.ofNat j) = some (.str s.ws[j]) := at_map (List.getElem?_eq_getElem hj)
  have hij : s.ws[i] ≠ s.ws[j] := fun e => cne (by
    have := (List.getElem_inj wn).mp e
    omega)
  have hap := app_ref (v := prT (s.ws[i], s.ws[j])) hkp2 (by rw [szl]; simp; omega)
  refine ⟨.int (Int.ofNat i), (s.ws[i], s.ws[j]), S2.set kp (some (.lst ((ps ++ [(s.ws[i], s.ws[j])]).map prT))), ?_, ?_, ?_, nd_set hkl2, w6 _ (List.getElem_mem hi), w6 _ (List.getElem_mem hj), hij⟩
  · simp only [prT] at hap
    simp only [Int.ofNat_eq_natCast] at e1 hc gi gj
    simp [turnF, fq, e1, bmOk_ref hkp1, gi, e2, hc, gj, hap, show 0 < s.ws.length by omega, prT]
  · obtain ⟨F, hF2, aF⟩ := d2.fed (S := S1) (by rw [d1.len]; exact hk)
    exact ⟨F, by rw [nd_set_ne hne.symm]; exact hF2, aF⟩
  · refine ((d1.trans d2).flat hf).set ?_
    simp only [Flat, oldAll, List.all_cons, List.all_nil, Bool.and_true, Nd.old]
    exact old_prs
theorem dtT_old : (T.dct (dtT dt s.found)).old 0 = true := oldD_dt
theorem out_turn {scr t : T} {q2 q3 q4 q5 q6 q7 q8 q9 q10 q11 q12 q13 q14 q15 q16 q17 q19 q21 q22 : Option T} (hF : Fed S k) (hf : Flat S) :
    ∃ (p2 p3 p4 p5 p6 p7 p8 p9 p10 p11 p12 p13 p14 p15 p16 p17 p19 p21 p22 : Option T) (S' : Store), turnF G (runN G (n + 9)) (.nm 2) outB t (fq scr k q2 q3 q4 q5 q6 q7 q8 q9 q10 q11 q12 q13 q14 q15 q16 q17 q19 q21 q22) S =
      .nx (fq scr k p2 p3 p4 p5 p6 p7 p8 p9 p10 p11 p12 p13 p14 p15 p16 p17 p19 p21 p22) S' ∧ Fed S' k ∧ Flat S' := by
  have hk := hF.lt
  obtain ⟨s, S1, e1, d1, ok⟩ := spec_dr (n := n + 3) hF hf
  have m1 := made_ok (n := n + 4) ok (d1.flat hf)
  obtain ⟨dt, S2, e2, d2, ft⟩ := dating_dr (n := n + 6) (d1.fed hk) (d1.flat hf) ok
  have D2 := d1.trans d2
  have hk2 : k < S2.length := by rw [D2.len]; exact hk
  have F3 : Fed (S2 ++ [some (.lst [])]) k := (D2.fed hk).app
  have f3 : Flat (S2 ++ [some (.lst [])]) := (D2.flat hf).app rfl
  have hn3 : Store.nd (S2 ++ [some (.lst [])]) S2.length = some (.lst []) := nd_new
  have kne : k ≠ S2.length := by omega
  obtain ⟨c, S4, e4, d4, c0, c1⟩ := take_dr (n := n + 8) (m := 9) F3 (by omega) (by omega)
  have hn4 : Store.nd S4 S2.length = some (.lst []) := (d4.nd kne).trans hn3
  have hk3 : k < (S2 ++ [some (.lst [])] : Store).length := F3.lt
  obtain ⟨ρ, S5, e5, q8', q9', ps, rfl, F5, f5, hn5, hpl, hpo⟩ := for_ex (enc := fun j : Nat => T.int (j : Nat)) (ks := []) (turn := turnF G (NH.runN G (n + 9)) (.nm 8) pairB)
    (fun d ρ S' => ∃ (p8 p9 : Option T) (ps : List (Str × Str)), ρ = fq scr k (some t) (some s.t) (some (bk s)) (some (.dct (dtT dt s.found))) (some (.ref S2.length)) (some (.lst (s.ws.map T.str))) p8 p9 q10 q11 q12 q13 q14 q15 q16 q17 q19 q21 q22 ∧ Fed S' k ∧ Flat S' ∧ S'.nd S2.length = some (.lst (ps.map prT)) ∧ ps.length = d.length ∧ ∀ p ∈ ps, PrOk p) (fun _ _ _ _ => sn) (xs := List.range c.toNat) (d := []) (ρ := fq scr k (some t) (some s.t) (some (bk s)) (some (.dct (dtT dt s.found))) (some (.ref S2.length)) (some (.lst (s.ws.map T.str))) q8 q9 q10 q11 q12 q13 q14 q15 q16 q17 q19 q21 q22) (S := S4)
    (fun d x r ρ S' hx ⟨p8, p9, ps, hρ, F', f', hn', hl', ho'⟩ => by
      subst hρ
      simp only [List.nil_append] at hx
      obtain ⟨_, hxc⟩ := range_split hx
      obtain ⟨a, p, S'', e, F'', f'', hn'', hp⟩ := pair_turn (n := n) (scr := scr) (t := .int (x : Nat)) (q2 := some t) (q3 := some s.t) (q4 := some (bk s)) (q5 := some (.dct (dtT dt s.found))) (q8 := p8) (q9 := p9) (q10 := q10) (q11 := q11) (q12 := q12) (q13 := q13) (q14 := q14) (q15 := q15) (q16 := q16) (q17 := q17) (q19 := q19) (q21 := q21) (q22 := q22) F' f' hn' kne ok (by
        have := (range_split hx).1
        omega)
      exact ⟨_, _, e, _, _, ps ++ [p], rfl, F'', f'', hn'', by simp [hl'], fun z hz => by
        rcases List.mem_append.mp hz with w | w
        · exact ho' z w
        · rw [List.mem_singleton.mp w]; exact hp⟩) ⟨_, _, [], rfl, d4.fed hk3, d4.flat f3, hn4, rfl, by simp⟩
  simp only [List.nil_append, List.length_range] at hpl
  have hps : ps.length < 9 := by omega
  have hk5 : k < S5.length := F5.lt
  have hn6 : Store.nd (S5 ++ [some (.lst (ps.map prT))]) S5.length = some (.lst (ps.map prT)) := nd_new
  have f6 : Flat (S5 ++ [some (.lst (ps.map prT))]) := f5.app (by
    simp only [Flat, oldAll, List.all_cons, List.all_nil, Bool.and_true, Nd.old]
    exact old_prs)
  have mk := rev_init (n := n + 6) f6 hn6 hpo
  have row := lw_row (n := n + 3) (dt := dt) ok f6
  have ap := app_ref (v := T.non) hn6 (by rw [szl]; simp; omega)
  rw [set_new] at ap
  have bm := bmOk_ref hn6
  have F7 : Fed (S5 ++ [some (.lst (ps.map prT ++ [T.non]))]) k := F5.app
  have f7 : Flat (S5 ++ [some (.lst (ps.map prT ++ [T.non]))]) := f5.app (by
    simp only [Flat, oldAll, List.all_cons, List.all_nil, Bool.and_true, Nd.old]
    have : ∀ l : List T, T.oldL 0 l = true → T.oldL 0 (l ++ [T.non]) = true := fun l => by
      induction l with
      | nil => exact fun _ => rfl
      | cons a l ih =>
        intro h
        simp only [T.oldL, Bool.and_eq_true, List.cons_append] at h ⊢
        exact ⟨h.1, ih h.2⟩
    exact this _ old_prs)
  have hn7 : Store.nd (S5 ++ [some (.lst (ps.map prT ++ [T.non]))]) S2.length = some (.lst (ps.map prT)) := (nd_app (nd_lt hn5)).trans hn5
  obtain ⟨ρ, S8, e8, p13, p14, p15, p16, p17, p19, p21, p22, rfl, F8, f8, hn8⟩ := for_ex (enc := fun j : Nat => T.int (j : Nat)) (ks := []) (turn := turnF G (NH.runN G (n + 9)) (.nm 13) innB)
    (fun d ρ S' => ∃ (p13 p14 p15 p16 p17 p19 p21 p22 : Option T), ρ = fr scr k (some t) s.t (bk s) (.dct (dtT dt s.found)) S2.length (some (.lst (s.ws.map T.str))) q8' q9' (some (.ref S5.length)) (rv ps) (.lst ((line s dt).map T.str)) p13 p14 p15 p16 p17 none p19 none p21 p22 ∧ Fed S' k ∧ Flat S' ∧ S'.nd S2.length = some (.lst (ps.map prT))) (fun _ _ _ _ => sn) (xs := List.range 3) (d := []) (ρ := fr scr k (some t) s.t (bk s) (.dct (dtT dt s.found)) S2.length (some (.lst (s.ws.map T.str))) q8' q9' (some (.ref S5.length)) (rv ps) (.lst ((line s dt).map T.str)) q13 q14 q15 q16 q17 none q19 none q21 q22) (S := S5 ++ [some (.lst (ps.map prT ++ [T.non]))])
    (fun d x r ρ S' hx ⟨p13, p14, p15, p16, p17, p19, p21, p22, hρ, F', f', hn'⟩ => by
      subst hρ
      obtain ⟨a13, a14, a15, a16, a17, a19, a21, a22, S'', e, F'', f'', hn''⟩ := inner_turn (n := n) (scr := scr) (t := .int (x : Nat)) (q2 := some t) (q7 := some (.lst (s.ws.map T.str))) (q8 := q8') (q9 := q9') (q10 := some (.ref S5.length)) (q13 := p13) (q14 := p14) (q15 := p15) (q16 := p16) (q17 := p17) (q19 := p19) (q21 := p21) (q22 := p22) F' f' hn' kne ok ft hps
      exact ⟨_, _, e, _, _, _, _, _, _, _, _, rfl, F'', f'', hn''⟩) ⟨_, _, _, _, _, _, _, _, rfl, F7, f7, hn7⟩
  refine ⟨some t, some s.t, some (bk s), some (.dct (dtT dt s.found)), some (.ref S2.length), some (.lst (s.ws.map T.str)), q8', q9', some (.ref S5.length), some (rv ps), some (.lst ((line s dt).map T.str)), p13, p14, p15, p16, p17, p19, p21, p22, S8, ?_, F8, f8⟩
  have c62 : -4611686018427387904 ≤ c ∧ c < 4611686018427387904 := by omega
  have hw : s.keys.map T.str ++ [T.str "zzzzzz", T.str "zzzzzy"] = s.ws.map T.str := by
    unfold Sp.ws
    rw [List.map_append]
    rfl
  have hkl : s.keys.length + 2 ≤ 16777216 := by
    have := (ws_len ok).2
    simp only [Sp.ws, List.length_append, List.length_cons, List.length_nil] at this
    omega
  simp only [fq, fr] at e5 e8 ⊢
  simp only [turnF, setTg_nm]
  simp [e1, m1, e2, stLv, setAll, lw_keys (n := n + 8) ok, szl, hkl, hw, e4, c62, rng0, e5, vw_ref hn5, mk, row, bm, ap, e8]
end
theorem law_true (n : Nat) (ns : List Int) (h : ns.length ≤ 63) : ∃ S', runN G (n + 9 + 1) 0 [.scr ns] [] = .ok (.bl true) S' := by
  obtain ⟨F, e1, a1⟩ := feed_ok (S := []) (n := n + 8) h
  have F0 : Fed ([some F.nd] : Store) 0 := ⟨F, rfl, a1⟩
  have f0 : Flat ([some F.nd] : Store) := flat_fd
  obtain ⟨ρ, S8, e8, p2, p3, p4, p5, p6, p7, p8, p9, p10, p11, p12, p13, p14, p15, p16, p17, p19, p21, p22, rfl, F8, f8⟩ := for_ex (enc := fun j : Nat => T.int (j : Nat)) (ks := []) (turn := turnF G (NH.runN G (n + 9)) (.nm 2) outB)
    (fun d ρ S' => ∃ (p2 p3 p4 p5 p6 p7 p8 p9 p10 p11 p12 p13 p14 p15 p16 p17 p19 p21 p22 : Option T), ρ = fq (.scr ns) 0 p2 p3 p4 p5 p6 p7 p8 p9 p10 p11 p12 p13 p14 p15 p16 p17 p19 p21 p22 ∧ Fed S' 0 ∧ Flat S') (fun _ _ _ _ => sn) (xs := List.range 3) (d := []) (ρ := fq (.scr ns) 0 none none none none none none none none none none none none none none none none none none none) (S := [some F.nd])
    (fun d x r ρ S' hx ⟨p2, p3, p4, p5, p6, p7, p8, p9, p10, p11, p12, p13, p14, p15, p16, p17, p19, p21, p22, hρ, F', f'⟩ => by
      subst hρ
      obtain ⟨a2, a3, a4, a5, a6, a7, a8, a9, a10, a11, a12, a13, a14, a15, a16, a17, a19, a21, a22, S'', e, F'', f''⟩ := out_turn (n := n) (scr := .scr ns) (t := .int (x : Nat)) (q2 := p2) (q3 := p3) (q4 := p4) (q5 := p5) (q6 := p6) (q7 := p7) (q8 := p8) (q9 := p9) (q10 := p10) (q11 := p11) (q12 := p12) (q13 := p13) (q14 := p14) (q15 := p15) (q16 := p16) (q17 := p17) (q19 := p19) (q21 := p21) (q22 := p22) F' f'
      exact ⟨_, _, e, _, _, _, _, _, _, _, _, _, _, _, _, _, _, _, _, _, _, _, rfl, F'', f''⟩) ⟨_, _, _, _, _, _, _, _, _, _, _, _, _, _, _, _, _, _, _, rfl, F0, f0⟩
  refine ⟨S8, ?_⟩
  rw [rf0]
  simp only [fq] at e8
  simp only [List.length_nil, List.nil_append] at e1
  simp [b0, startF, e1, rng0]
  rw [e8]
  simp
end LW
end
section
namespace LW
open PySem PySem.Spec PyProof.Rows L2
theorem ckG : prg.chkG = true := by kernel_rfl
theorem ckF : prg.fns.all (fun q => q.sup || q.chk prg) = true := by kernel_rfl
theorem ckS : prg.supD.all (fun q => q.chkS prg) = true := by kernel_rfl
theorem ckN : (PySem.Challenge.rw_namehold_k50_rules_of_revisers.prog.main.scope.names.lookup ("super" : Str)).isSome = false := by kernel_rfl
theorem ckA : NH.oneArg (defArgs f0.st) ("_law_script" : Str) = true := by kernel_rfl
theorem ckP : f0.ps prg = [("_law_script" : Str)] := by kernel_rfl
theorem at_law {w : World} {mg : Str → Option Value} {fa : Addr} {h : Heap} {K : PySem.W.Frag} (c : NH.SaysY prg file w h K) (X : K.In h) (g : h.Ns mainGlobals mg) (hfa : mg "law" = some (.ref fa)) :
    LamX.LawAtS PySem.Challenge.rw_namehold_k50_rules_of_revisers w K (L2.CX PySem.Challenge.rw_namehold_k50_rules_of_revisers.prog w) (5 * 9 + 4 + 1) 63 "_law_script" mg fa h :=
  NH.law_atY (l := PySem.Challenge.rw_namehold_k50_rules_of_revisers) (L := 0) (q := f0) (nm := "law") (n := 9) c X g rfl ckN rfl rfl rfl hfa ckG ckF ckS rfl rfl ckA ckP rfl fun ns hl _ => law_true 0 ns hl
end LW
open PySem PySem.W PySem.Calls PyProof.Rows
theorem PySem.Challenge.cw_namehold_k50_rules_of_revisers_holds : PySem.Challenge.rw_namehold_k50_rules_of_revisers.Holds := by
  w_on; o_law
  refine HandSHeadRun.head_any (r := OpenLaw.row PySem.Challenge.rw_namehold_k50_rules_of_revisers) (q := view (OpenLaw.row PySem.Challenge.rw_namehold_k50_rules_of_revisers).prog [LW.lawAt]) (H := LW.hk) (ob := LW.ob) (M := 20000) (loose := LW.loose) (d := HandSHeadRun.topDef (OpenLaw.row PySem.Challenge.rw_namehold_k50_rules_of_revisers).prog LW.lawAt) (kwd := []) LW.ob_eq
    (by kernel_rfl) (fun s => by kernel_rfl) LW.run (by kernel_rfl) (by kernel_rfl) (by kernel_rfl) (by rfl) (by first | assumption | decide +kernel) (by decide +kernel) ⟨rfl, rfl, rfl, rfl, rfl, by decide +kernel⟩ ?hw ?hc
  case hw => w_witness2
  case hc =>
    refine LamX.walk_ofTsE (l := PySem.Challenge.rw_namehold_k50_rules_of_revisers) (n := 63) (k := 5 * 9 + 4 + 1) (x := "_law_script") (CX := fun w => L2.CX PySem.Challenge.rw_namehold_k50_rules_of_revisers.prog w) rfl (by decide) (by kernel_rfl) ⟨rfl, by decide, by decide⟩ ?F ?hx
    case hx =>
      intro w H s e s' z
      obtain ⟨_, _, _, _, _, _, _, _, _, _, _, _, q⟩ := z
      exact q
    intro w mg fa h Y G hmg0
    obtain ⟨K, KX, c⟩ := Y
    have hmg : mg ("law" : PySem.Str) = some (.ref fa) := by
      have e : (HandSHeadRun.topDef (OpenLaw.row PySem.Challenge.rw_namehold_k50_rules_of_revisers).prog LW.lawAt).name = ("law" : PySem.Str) := by kernel_rfl
      rw [← e]
      exact hmg0
    exact ⟨K, KX, LW.at_law c KX G hmg⟩
end
