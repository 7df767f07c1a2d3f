import PyProof.Rows.All
import Wide.All
import OpenK.AllK
import Wide.FinOn
import HandS.ForMost
import HandS.Conv
import HandS.Flow
import HandS.Style
import HandS.TupAny
import HandS.TupMul
import HandS.CallSlots
import HandS.Exc
import HandS.More
import KE.KeyNested
import KE.KDictKeyed
import KE.SortData
import KE.LtData
import KE.DataEq
import KE.DataCmp
import KE.DataAny
import KE.DataMinMax
import KE.DataFind
import KE.DataIsa
import PyProof.ReprRoads
import PyProof.SeqIndex
import HandS.IsInst
import PyProof.ListMulRoad
import PyProof.FactsAll.tuple_2
import PyProof.Rows.TupTab
import HandS.RaiseMore
import HandS.TupLen
import HandS.Deep
import HandS.Small
import KE.GoesMore
import PyProof.EnumMake
import HandS.Zip
import HandS.Ends
import HandS.Words
import HandS.Defaults
import PySem.Challenge.RW_askedsodeep_k63_whole_sentences_of_rows
set_option Elab.async false
set_option linter.all false
set_option maxRecDepth 100000
/-! A small language of values: terms, what they come to. -/
namespace Mp
open PySem

/-- values -/
inductive D where
  | non | bl (b : Bool) | int (i : Int) | str (s : Str)
  | lst (xs : List D) | tup (xs : List D)
  | dct (ks : List D) (vs : List D)
  | set (ks : List D)
  | obj (c : Str) (fs : List Str) (vs : List D)
  | fn (x : Str)
  | scr (ns : List Int)
  deriving Inhabited

mutual
/-- as plain data -/
def toPy : D → PyData
  | .non => .none
  | .bl b => .bool b
  | .int i => .int i
  | .str s => .str s
  | .lst xs => .list (toPys xs)
  | .tup xs => .tuple (toPys xs)
  | .dct _ _ => .none
  | .set _ => .none
  | .obj _ _ _ => .none
  | .fn _ => .none
  | .scr _ => .none
def toPys : List D → List PyData
  | [] => []
  | x :: r => toPy x :: toPys r
end
mutual
/-- nothing but None, bools, ints, texts, lists and tuples -/
def plain : D → Bool
  | .non => true
  | .bl _ => true
  | .int _ => true
  | .str _ => true
  | .lst xs => plains xs
  | .tup xs => plains xs
  | .dct _ _ => false
  | .set _ => false
  | .obj _ _ _ => false
  | .fn _ => false
  | .scr _ => false
def plains : List D → Bool
  | [] => true
  | x :: r => plain x && plains r
end
mutual
def deep : D → Nat
  | .lst xs => deeps xs + 1
  | .tup xs => deeps xs + 1
  | _ => 0
def deeps : List D → Nat
  | [] => 0
  | x :: r => max (deep x) (deeps r)
end
/-- what == and < may be asked of -/
def fair (d : D) : Bool := plain d && decide (deep d ≤ 40)
mutual
/-- as a key of a dict -/
def toKey : D → Option NestedKey
  | .non => some .none
  | .bl b => some (.num (if b = true then 1 else 0))
  | .int i => some (.num i)
  | .str s => some (.text s)
  | .tup xs => (toKeys xs).map .tup
  | .lst _ => none
  | .dct _ _ => none
  | .set _ => none
  | .obj _ _ _ => none
  | .fn _ => none
  | .scr _ => none
def toKeys : List D → Option (List NestedKey)
  | [] => some []
  | x :: r => match toKey x with
    | none => none
    | some k => match toKeys r with
      | none => none
      | some ks => some (k :: ks)
end

/-- a name's content: never changed any more, or a thing of its own -/
inductive Cell where
  | fz (d : D) | ow (d : D)
  deriving Inhabited
abbrev Ev := List (Option Cell)
/-- what an expression comes to: a value, a new thing of its own, the thing that a name has -/
inductive RV where
  | fz (d : D) | tmp (d : D) | var (i : Nat)
  deriving Inhabited
inductive Res (α : Type) where
  | ok (a : α) (ρ : Ev)
  | exc (c : Str) (vs : List D) (ρ : Ev)
  | bad
  deriving Inhabited
def Res.bind {α β : Type} : Res α → (α → Ev → Res β) → Res β
  | .ok a ρ, f => f a ρ
  | .exc c vs ρ, _ => .exc c vs ρ
  | .bad, _ => .bad
def ofO {α β : Type} (o : Option α) (f : α → Res β) : Res β := match o with
  | some a => f a
  | none => .bad
theorem ofO_some {α β : Type} {a : α} {f : α → Res β} : ofO (some a) f = f a := rfl
theorem ofO_none {α β : Type} {f : α → Res β} : ofO none f = .bad := rfl

/-! ### terms -/
inductive Blt where
  | len | int | abs | max2 | min2 | max1 | min1 | sum | all | any | sorted | list | tuple | set | dict | str | repr | divmod | bool
  deriving DecidableEq, Inhabited, Repr
inductive Mth where
  | append | extend | pop | popAt | insert | remove | index | count | join | find | split | get | getD | setdefault | update | items | values | keys
  deriving DecidableEq, Inhabited, Repr
inductive Ty where
  | int | bool | str | list | tuple | dict
  deriving DecidableEq, Inhabited, Repr
mutual
inductive E where
  | const (d : D) | var (i : Nat) | glob (x : Str)
  | bin (op : Operator) (a b : E) | neg (a : E)
  | not (a : E) | and (a b : E) | or (a b : E)
  | cmp (op : CmpOp) (a b : E) | chain (op op' : CmpOp) (a b c : E)
  | ite (c a b : E) | tup (es : Es) | lst (es : Es) | dct (ks vs : Es)
  | idx (a b : E) | slc (a : E) (lo hi : E) | rev (a : E) | fld (a : E) (f : Str)
  | call (f : Str) (es : Es) | callk (f : Str) (es : Es) (ks : List Str) (kes : Es)
  | blt (f : Blt) (es : Es) | isi (a : E) (ts : List Ty) | mth (m : Mth) (o : E) (es : Es) | lof (it : I)
  | comp (own : List Nat) (tg : Tg) (it : I) (c : E) (elt : E)
inductive Es where
  | nil | cons (e : E) (es : Es)
inductive I where
  | val (e : E) | range1 (a : E) | range2 (a b : E) | range3 (a b c : E) | enum (a : E) | zip (a b : E)
inductive Tg where
  | name (i : Nat) | sub (a b : E) | tup (ts : Tgs)
inductive Tgs where
  | nil | cons (t : Tg) (ts : Tgs)
end
instance : Inhabited E := ⟨.const .non⟩
mutual
inductive S where
  | asg (t : Tg) (e : E) | par (is : List Nat) (es : Es) | expr (e : E) | ret (e : E)
  | ite (c : E) (a b : Ss) | for (t : Tg) (it : I) (b : Ss) | while (c : E) (b : Ss)
  | raise (c : Str) (es : Es) | cont | brk | pass
inductive Ss where
  | nil | cons (s : S) (ss : Ss)
end
instance : Inhabited S := ⟨.pass⟩
end Mp

set_option maxRecDepth 100000
/-! What operators and built-in functions come to, on values. -/
namespace Mp
open PySem

def dataLtD (a b : D) : Bool := PySem.W.dataLt (toPy a) (toPy b)
def eqvD (a b : D) : Bool := PyData.eqv (toPy a) (toPy b)
/-- can be asked for order -/
def ordd (a b : D) : Bool := fair a && fair b && PySem.W.alike (toPy a) (toPy b) && (match a with | .non => false | _ => true)
def small64 (i : Int) : Bool := decide (-(2 ^ 64) < i) && decide (i < 2 ^ 64)
def okLen (n : Nat) : Bool := decide (n < 1000000)
def repL {α : Type} (k : Nat) (xs : List α) : List α := (List.replicate k xs).flatten

def binD : Operator → D → D → Option RV
  | .Add, .int a, .int b => some (.fz (.int (a + b)))
  | .Add, .lst a, .lst b => if okLen (a.length + b.length) then some (.tmp (.lst (a ++ b))) else none
  | .Add, .tup a, .tup b => if okLen (a.length + b.length) then some (.fz (.tup (a ++ b))) else none
  | .Add, .str a, .str b => if okLen (a.length + b.length) then some (.fz (.str (a ++ b))) else none
  | .Sub, .int a, .int b => some (.fz (.int (a - b)))
  | .Mult, .int a, .int b => if small64 a || small64 b then some (.fz (.int (a * b))) else none
  | .Mult, .lst a, .int k => if okLen (a.length * k.toNat) && decide (k < 100000) && decide (-100000 < k) then some (.tmp (.lst (repL k.toNat a))) else none
  | .Mult, .tup a, .int k => if decide (a.length ≤ 1000) && decide (k ≤ 1000) && decide (0 ≤ k) && !a.isEmpty then some (.fz (.tup (repL k.toNat a))) else none
  | .Mod, .int a, .int b => if decide (0 < b) then some (.fz (.int (a % b))) else none
  | .FloorDiv, .int a, .int b => if decide (0 < b) && decide (b < 1073741824) then some (.fz (.int (a / b))) else none
  | .Pow, .int a, .int b => if decide (0 ≤ b) && decide (b ≤ 100) && decide (a.natAbs < 2 ^ 64) then some (.fz (.int (a ^ b.toNat))) else none
  | _, _, _ => none

/-- the place of a key -/
def keyAt (k : NestedKey) : List D → Option Nat
  | [] => none
  | x :: r => if toKey x = some k then some 0 else (keyAt k r).map (· + 1)
def getK (ks vs : List D) (x : D) : Option (Option D) := (toKey x).map fun k => (keyAt k ks).bind fun i => vs[i]?
def goodKey (x : D) : Bool := match toKey x with
  | some k => decide (k.depth ≤ 8)
  | none => false
/-- ints, texts, None alone, or tuples alone -/
def leafKey : D → Bool
  | .int _ => true
  | .str _ => true
  | _ => false
def tupKey : D → Bool
  | .tup _ => true
  | _ => false
def suits (x : D) (ks : List D) : Bool := goodKey x && ((leafKey x && ks.all leafKey) || (tupKey x && ks.all tupKey))
def putK (ks vs : List D) (x v : D) : List D × List D := match (toKey x).bind fun k => keyAt k ks with
  | some i => (ks, vs.set i v)
  | none => (ks ++ [x], vs ++ [v])

def inD (x y : D) : Option Bool := match y with
  | .lst ys => if fair x && fair y then some (ys.any fun z => eqvD z x) else none
  | .tup ys => if fair x && fair y then some (ys.any fun z => eqvD z x) else none
  | .dct ks _ => if suits x ks then some ((toKey x).bind fun k => keyAt k ks).isSome else none
  | _ => none
def isD (x y : D) : Option Bool := match x, y with
  | .non, .non => some true
  | .bl a, .bl b => some (decide (a = b))
  | .bl _, .non => some false
  | .int _, .non => some false
  | .str _, .non => some false
  | .lst _, .non => some false
  | .tup _, .non => some false
  | .dct _ _, .non => some false
  | .obj _ _ _, .non => some false
  | .non, .bl _ => some false
  | _, _ => none
def cmpD : CmpOp → D → D → Option Bool
  | .Eq, a, b => if fair a && fair b then some (eqvD a b) else none
  | .NotEq, a, b => if fair a && fair b then some (!eqvD a b) else none
  | .Lt, a, b => if ordd a b then some (dataLtD a b) else none
  | .Gt, a, b => if ordd a b then some (dataLtD b a) else none
  | .LtE, a, b => if ordd a b then some (!dataLtD b a) else none
  | .GtE, a, b => if ordd a b then some (!dataLtD a b) else none
  | .In, a, b => inD a b
  | .NotIn, a, b => (inD a b).map (!·)
  | .Is, a, b => isD a b
  | .IsNot, a, b => (isD a b).map (!·)
def truD : D → Option Bool
  | .non => some false
  | .bl b => some b
  | .int i => some (i != 0)
  | .str s => if okLen s.length then some (decide (s.length ≠ 0)) else none
  | .lst xs => some (!xs.isEmpty)
  | .tup xs => some (!xs.isEmpty)
  | .dct ks _ => if ks.all leafKey then some (!ks.isEmpty) else none
  | _ => none
def cutL {α : Type} (xs : List α) (lo hi : Option Int) : List α := (xs.drop (HT.sIx xs.length 0 lo)).take (HT.sIx xs.length xs.length hi - HT.sIx xs.length 0 lo)
def slcD : D → Option Int → Option Int → Option RV
  | .lst xs, l, h => some (.tmp (.lst (cutL xs l h)))
  | .scr ns, l, h => some (.tmp (.lst ((cutL ns l h).map .int)))
  | .tup xs, l, h => some (.fz (.tup (cutL xs l h)))
  | _, _, _ => none
def revD : D → Option RV
  | .lst xs => some (.tmp (.lst xs.reverse))
  | _ => none
def idxD (a i : D) : Option D := match a, i with
  | .lst xs, .int i => L2.atI xs i
  | .scr ns, .int i => (L2.atI ns i).map .int
  | .tup xs, .int i => L2.atI xs i
  | .str s, .int i => if okLen s.length then (L2.atI s.cps.toList i).map fun c => .str ⟨#[c]⟩ else none
  | .dct ks vs, x => if suits x ks then (getK ks vs x).bind id else none
  | _, _ => none
def isTy : Ty → D → Bool
  | .int, .int _ => true
  | .int, .bl _ => true
  | .bool, .bl _ => true
  | .str, .str _ => true
  | .list, .lst _ => true
  | .tuple, .tup _ => true
  | .dict, .dct _ _ => true
  | _, _ => false
def isiD (d : D) (ts : List Ty) : Option Bool := match d with
  | .set _ => none
  | .obj _ _ _ => none
  | .fn _ => none
  | .scr _ => none
  | _ => some (ts.any fun t => isTy t d)
/-- sorted: what it asks of the items -/
def sortable (xs : List D) : Bool := xs.all fair && (xs.all fun x => xs.all fun y => PySem.W.alike (toPy x) (toPy y)) &&
  ((xs.all fun x => match x with | .tup (_ :: _) => true | _ => false) || (xs.all fun x => match x with | .non => false | .tup _ => false | _ => true))
def sortD (xs : List D) : List D := xs.mergeSort (PySem.W.dataLe false toPy)
def allBl : List D → Option (List Bool)
  | [] => some []
  | .bl b :: r => (allBl r).map (b :: ·)
  | _ => none
def allInt : List D → Option (List Int)
  | [] => some []
  | .int b :: r => (allInt r).map (b :: ·)
  | _ => none
def allStr : List D → Option (List Str)
  | [] => some []
  | .str b :: r => (allStr r).map (b :: ·)
  | _ => none
def pairsD : List D → Option (List D × List D)
  | [] => some ([], [])
  | .tup [k, v] :: r => (pairsD r).map fun p => (k :: p.1, v :: p.2)
  | _ => none
/-- one after another put into a dict -/
def putAll : List D → List D → List D × List D → Option (List D × List D)
  | k :: ks, v :: vs, p => if suits k p.1 then putAll ks vs (putK p.1 p.2 k v) else none
  | [], [], p => some p
  | _, _, _ => none
def seqOf : D → Option (List D)
  | .lst xs => some xs
  | .tup xs => some xs
  | _ => none
def minL : Int → List Int → Int
  | m, [] => m
  | m, x :: r => minL (if x < m then x else m) r
def maxL : Int → List Int → Int
  | m, [] => m
  | m, x :: r => maxL (if x > m then x else m) r
mutual
/-- ints of few digits -/
def fewDigits : D → Bool
  | .int i => decide (i.natAbs < 10 ^ 30)
  | .lst xs => fewDigitss xs
  | .tup xs => fewDigitss xs
  | _ => true
def fewDigitss : List D → Bool
  | [] => true
  | x :: r => fewDigits x && fewDigitss r
end
def dedup : List D → List D → List D
  | acc, [] => acc
  | acc, x :: r => if acc.any (fun y => eqvD y x) then dedup acc r else dedup (acc ++ [x]) r

def bltD : Blt → List D → Option RV
  | .len, [.lst xs] => some (.fz (.int xs.length))
  | .len, [.scr xs] => some (.fz (.int xs.length))
  | .len, [.tup xs] => some (.fz (.int xs.length))
  | .len, [.str s] => if okLen s.length then some (.fz (.int s.length)) else none
  | .len, [.dct ks _] => some (.fz (.int ks.length))
  | .len, [.set ks] => some (.fz (.int ks.length))
  | .int, [.int i] => some (.fz (.int i))
  | .int, [.bl b] => some (.fz (.int (if b then 1 else 0)))
  | .abs, [.int i] => some (.fz (.int (if i < 0 then -i else i)))
  | .max2, [.int i, .int j] => some (.fz (.int (if j > i then j else i)))
  | .min2, [.int i, .int j] => some (.fz (.int (if j < i then j else i)))
  | .max1, [.lst xs] => (allInt xs).bind fun ns => match ns with
    | [] => none
    | n :: r => some (.fz (.int (maxL n r)))
  | .min1, [.lst xs] => (allInt xs).bind fun ns => match ns with
    | [] => none
    | n :: r => some (.fz (.int (minL n r)))
  | .sum, [.lst xs] => (allInt xs).map fun ns => .fz (.int ns.sum)
  | .all, [.lst xs] => (allBl xs).map fun bs => .fz (.bl (bs.all id))
  | .any, [.lst xs] => (allBl xs).map fun bs => .fz (.bl (bs.any id))
  | .sorted, [.lst xs] => if sortable xs && okLen xs.length then some (.tmp (.lst (sortD xs))) else none
  | .sorted, [.set xs] => if sortable xs then some (.tmp (.lst (sortD xs))) else none
  | .sorted, [.dct xs _] => if sortable xs && xs.all leafKey && okLen xs.length then some (.tmp (.lst (sortD xs))) else none
  | .list, [.lst xs] => some (.tmp (.lst xs))
  | .list, [.tup xs] => some (.tmp (.lst xs))
  | .tuple, [.lst xs] => some (.fz (.tup xs))
  | .tuple, [.tup xs] => some (.fz (.tup xs))
  | .dict, [.lst xs] => (pairsD xs).bind fun p => (putAll p.1 p.2 ([], [])).map fun q => .tmp (.dct q.1 q.2)
  | .set, [x] => (seqOf x).bind fun xs => if xs.all goodKey && (xs.all tupKey || xs.all leafKey) && decide (xs.length ≤ 1000) then some (.tmp (.set (dedup [] xs))) else none
  | .str, [.int i] => if decide (i.natAbs < 10 ^ 30) then some (.fz (.str (toString i))) else none
  | .str, [.str s] => some (.fz (.str s))
  | .repr, [x] => if fair x && fewDigits x && okLen (PyData.shown (toPy x)).length then some (.fz (.str (PyData.shown (toPy x)))) else none
  | .divmod, [.int i, .int j] => if decide (0 < j) && decide (j < 1073741824) then some (.fz (.tup [.int (i / j), .int (i % j)])) else none
  | _, _ => none

/-- methods that change nothing -/
def mthD : Mth → D → List D → Option RV
  | .index, .lst xs, [y] => if plain y && plain (.lst xs) && SeqAt.shaped (toPy y) && SeqAt.shaped (toPy (.lst xs)) then (xs.findIdx? fun x => eqvD x y).map fun (j : Nat) => RV.fz (D.int (j : Int)) else none
  | .join, .str s, [x] => (seqOf x).bind fun xs => (allStr xs).bind fun ss => if okLen (Str.join s ss).length then some (.fz (.str (Str.join s ss))) else none
  | .get, .dct ks vs, [x] => if suits x ks then (getK ks vs x).map fun o => .fz (o.getD .non) else none
  | _, _, _ => none
/-- methods that change their thing: what is handed back, the thing behind -/
def mutD : Mth → D → List D → Option (D × D)
  | .append, .lst xs, [y] => if okLen xs.length then some (.non, .lst (xs ++ [y])) else none
  | .extend, .lst xs, [.lst ys] => if okLen (xs.length + ys.length) then some (.non, .lst (xs ++ ys)) else none
  | .pop, .lst xs, [] => xs[xs.length - 1]?.map fun y => (y, .lst xs.dropLast)
  | .popAt, .lst xs, [.int i] => if decide (-(2 ^ 63) ≤ i) && decide (i < 2 ^ 63) then (seqIndex? i xs.length).bind fun k => xs[k]?.map fun y => (y, .lst (xs.eraseIdx k)) else none
  | _, _, _ => none
/-- which things have it -/
def kindOk : Mth → D → Bool
  | .append, .lst _ => true
  | .extend, .lst _ => true
  | .pop, .lst _ => true
  | .popAt, .lst _ => true
  | .index, .lst _ => true
  | .join, .str _ => true
  | .get, .dct _ _ => true
  | .setdefault, .dct _ _ => true
  | .update, .dct _ _ => true
  | _, _ => false
def isMut : Mth → Bool
  | .append => true
  | .extend => true
  | .pop => true
  | .popAt => true
  | .insert => true
  | .remove => true
  | .setdefault => true
  | .update => true
  | _ => false
/-- o[i] = v -/
def setD (o i v : D) : Option D := match o, i with
  | .lst xs, .int k => (L2.ixN xs.length k).map fun j => .lst (xs.set j v)
  | .dct ks vs, x => if leafKey x && ks.all leafKey && okLen ks.length then some (.dct (putK ks vs x v).1 (putK ks vs x v).2) else none
  | _, _ => none
end Mp

set_option maxRecDepth 100000
/-! What terms come to. -/
namespace Mp
open PySem

inductive CR where
  | ok (r : D) (own : Bool) (outs : List D)
  | exc (c : Str) (vs : List D) (outs : List D)
  | bad
  deriving Inhabited
/-- a def: its parameters, which of them it may change, their defaults (of the last ones), how many names, its body -/
structure Fn where
  name : Str
  ps : List Str
  refs : List Bool
  dfl : List D
  slots : Nat
  body : Ss
/-- what is around: the defs by name, what a call comes to, the module's constants, turns of a while -/
structure Cl where
  fn : Str → Option Fn
  run : Str → List D → CR
  glob : Str → Option D
  turns : Nat

def deref (ρ : Ev) : RV → Option D
  | .fz d => some d
  | .tmp d => some d
  | .var i => match ρ[i]? with
    | some (some (.ow d)) => some d
    | some (some (.fz d)) => some d
    | _ => none
def derefs (ρ : Ev) : List RV → Option (List D)
  | [] => some []
  | x :: r => match deref ρ x with
    | none => none
    | some d => match derefs ρ r with
      | none => none
      | some ds => some (d :: ds)
/-- rf: the names that are the callers' things -/
def isRef (rf : List Bool) (i : Nat) : Bool := rf.getD i false
def freeze (rf : List Bool) (ρ : Ev) : RV → Option (D × Ev)
  | .fz d => some (d, ρ)
  | .tmp d => some (d, ρ)
  | .var i => match ρ[i]? with
    | some (some (.ow d)) => if isRef rf i then none else some (d, ρ.set i (some (.fz d)))
    | some (some (.fz d)) => some (d, ρ)
    | _ => none
def freezes (rf : List Bool) : List RV → Ev → Option (List D × Ev)
  | [], ρ => some ([], ρ)
  | x :: r, ρ => match freeze rf ρ x with
    | none => none
    | some (d, ρ1) => match freezes rf r ρ1 with
      | none => none
      | some (ds, ρ2) => some (d :: ds, ρ2)
def store (rf : List Bool) (i : Nat) (x : RV) (ρ : Ev) : Option Ev := if isRef rf i then none else match x with
  | .fz d => some (ρ.set i (some (.fz d)))
  | .tmp d => some (ρ.set i (some (.ow d)))
  | .var j => match freeze rf ρ (.var j) with
    | some (d, ρ1) => some (ρ1.set i (some (.fz d)))
    | none => none
/-- an argument: its value, whose name it is (a thing that may be changed) -/
def passOne (rf : List Bool) (ref : Bool) (ρ : Ev) (x : RV) : Option (D × Option Nat × Ev) := if ref then (match x with
    | .var i => match ρ[i]? with
      | some (some (.ow d)) => some (d, some i, ρ)
      | _ => none
    | .tmp d => some (d, none, ρ)
    | .fz _ => none)
  else match freeze rf ρ x with
    | some (d, ρ1) => some (d, none, ρ1)
    | none => none
def passAll (rf : List Bool) : List Bool → List RV → Ev → Option (List D × List (Option Nat) × Ev)
  | ref :: refs, x :: r, ρ => match passOne rf ref ρ x with
    | none => none
    | some (d, b, ρ1) => match passAll rf refs r ρ1 with
      | none => none
      | some (ds, bs, ρ2) => some (d :: ds, b :: bs, ρ2)
  | [], [], ρ => some ([], [], ρ)
  | _, _, _ => none
def writeBack : List (Option Nat) → List D → Ev → Ev
  | some i :: bs, d :: ds, ρ => writeBack bs ds (ρ.set i (some (.ow d)))
  | none :: bs, _ :: ds, ρ => writeBack bs ds ρ
  | _, _, ρ => ρ
def distinct : List (Option Nat) → Bool
  | [] => true
  | none :: r => distinct r
  | some i :: r => !r.contains (some i) && distinct r
/-- the names' things are still theirs -/
def stillOw (bs : List (Option Nat)) (ρ : Ev) : Bool := bs.all fun b => match b with
  | none => true
  | some i => match ρ[i]? with
    | some (some (.ow _)) => true
    | _ => false
def doCall (C : Cl) (rf : List Bool) (f : Str) (xs : List RV) (ρ : Ev) : Res RV :=
  ofO (C.fn f) fun fn => ofO (passAll rf fn.refs (xs ++ (fn.dfl.drop (fn.dfl.length - (fn.refs.length - xs.length))).map .fz) ρ) fun p => if distinct p.2.1 && stillOw p.2.1 p.2.2 then (match C.run f p.1 with
    | .ok r own outs => .ok (if own then .tmp r else .fz r) (writeBack p.2.1 outs p.2.2)
    | .exc c vs outs => .exc c vs (writeBack p.2.1 outs p.2.2)
    | .bad => .bad) else .bad
/-- where the parameters' values stand among the positional values and the keywords' values -/
def keyIx (n : Nat) (ks : List Str) : List Str → Option (List Nat)
  | [] => some []
  | p :: ps => match ks.findIdx? (· == p) with
    | none => none
    | some i => match keyIx n ks ps with
      | none => none
      | some r => some ((n + i) :: r)
def orderIx (ps : List Str) (n : Nat) (ks : List Str) : Option (List Nat) := match keyIx n ks (ps.drop n) with
  | none => none
  | some r => if n + ks.length = ps.length ∧ (List.range n ++ r).Nodup then some (List.range n ++ r) else none
def getAll {α : Type} : List Nat → List α → Option (List α)
  | [], _ => some []
  | i :: is, xs => match xs[i]? with
    | none => none
    | some x => match getAll is xs with
      | none => none
      | some r => some (x :: r)

def itemsD : D → Option (List D)
  | .lst xs => some xs
  | .tup xs => some xs
  | .scr ns => some (ns.map .int)
  | .str s => if okLen s.length then some (s.cps.toList.map fun c => .str ⟨#[c]⟩) else none
  | _ => none
def inR (i : Int) : Bool := decide (-1000000 ≤ i) && decide (i ≤ 1000000)
def rangeD (lo hi : Int) : List D := (List.range (hi - lo).toNat).map fun i => .int (lo + (i : Nat))
def downD (lo hi : Int) : List D := (List.range (lo - hi).toNat).map fun i => .int (lo - (i : Nat))
def enumD : Nat → List D → List D
  | _, [] => []
  | i, x :: r => .tup [.int i, x] :: enumD (i + 1) r
def zipD : List D → List D → List D
  | x :: r, y :: s => .tup [x, y] :: zipD r s
  | _, _ => []
def wipeE (ρ : Ev) : List Nat → Ev
  | [] => ρ
  | i :: is => (wipeE ρ is).set i none
/-- the names in is get back what they had -/
def backE (old : Ev) (ρ : Ev) : List Nat → Ev
  | [] => ρ
  | i :: is => match old[i]? with
    | some c => (backE old ρ is).set i c
    | none => backE old ρ is

def compLoop (own : List Nat) (step : D → Ev → Res (Option D)) : List D → List D → Ev → Res (List D)
  | [], acc, ρ => .ok acc ρ
  | x :: r, acc, ρ => (step x ρ).bind fun o ρ1 => compLoop own step r (match o with
    | some d => acc ++ [d]
    | none => acc) (wipeE ρ1 own)

/-- a slice's bound: left out, or an int -/
def partE : E → RV → Option (Option Int)
  | .const .non, _ => some none
  | _, .fz (.int i) => some (some i)
  | _, _ => none
/-- a method's arguments: looked at, or kept as they are from here on -/
def mArgs (rf : List Bool) (m : Mth) (ys : List RV) (ρ : Ev) : Option (List D × Ev) := match m with
  | .extend => (derefs ρ ys).map fun ds => (ds, ρ)
  | .update => (derefs ρ ys).map fun ds => (ds, ρ)
  | _ => freezes rf ys ρ
def testB (v : Ev → Res RV) (ρ : Ev) : Res Bool := (v ρ).bind fun x ρ1 => ofO (deref ρ1 x) fun d => ofO (truD d) fun b => .ok b ρ1
mutual
def evB (C : Cl) (rf : List Bool) : E → (Ev → Res RV) × (Ev → Res Bool)
  | .const d => (fun v => (v, testB v)) (fun ρ => .ok (.fz d) ρ)
  | .var i => (fun v => (v, testB v)) (fun ρ => match ρ[i]? with
    | some (some (.fz d)) => .ok (.fz d) ρ
    | some (some (.ow _)) => .ok (.var i) ρ
    | _ => .bad)
  | .glob x => (fun v => (v, testB v)) (fun ρ => ofO (C.glob x) fun d => .ok (.fz d) ρ)
  | .bin op a b => (fun v => (v, testB v)) (fun ρ => ((evB C rf a).1 ρ).bind fun x ρ1 => ((evB C rf b).1 ρ1).bind fun y ρ2 => ofO (deref ρ2 x) fun d => ofO (deref ρ2 y) fun e => ofO (binD op d e) fun r => .ok r ρ2)
  | .neg a => (fun v => (v, testB v)) (fun ρ => ((evB C rf a).1 ρ).bind fun x ρ1 => match x with
    | .fz (.int i) => .ok (.fz (.int (-i))) ρ1
    | _ => .bad)
  | .not a => (fun ρ => ((evB C rf a).1 ρ).bind fun x ρ1 => ofO (deref ρ1 x) fun d => ofO (truD d) fun b => .ok (.fz (.bl (!b))) ρ1, fun ρ => ((evB C rf a).2 ρ).bind fun b ρ1 => .ok (!b) ρ1)
  | .and a b => (fun ρ => ((evB C rf a).1 ρ).bind fun x ρ1 => match x with
    | .fz (.bl c) => if c then (evB C rf b).1 ρ1 else .ok (.fz (.bl false)) ρ1
    | _ => .bad, fun ρ => ((evB C rf a).2 ρ).bind fun c ρ1 => if c then (evB C rf b).2 ρ1 else .ok false ρ1)
  | .or a b => (fun ρ => ((evB C rf a).1 ρ).bind fun x ρ1 => match x with
    | .fz (.bl c) => if c then .ok (.fz (.bl true)) ρ1 else (evB C rf b).1 ρ1
    | _ => .bad, fun ρ => ((evB C rf a).2 ρ).bind fun c ρ1 => if c then .ok true ρ1 else (evB C rf b).2 ρ1)
  | .cmp op a b => (fun v => (v, testB v)) (fun ρ => ((evB C rf a).1 ρ).bind fun x ρ1 => ((evB C rf b).1 ρ1).bind fun y ρ2 => ofO (deref ρ2 x) fun d => ofO (deref ρ2 y) fun e => ofO (cmpD op d e) fun r => .ok (.fz (.bl r)) ρ2)
  | .chain op op' a b c => (fun v => (v, testB v)) (fun ρ => ((evB C rf a).1 ρ).bind fun x ρ1 => ((evB C rf b).1 ρ1).bind fun y ρ2 => ofO (deref ρ2 x) fun d => ofO (deref ρ2 y) fun e => ofO (cmpD op d e) fun r =>
    if r then ((evB C rf c).1 ρ2).bind fun z ρ3 => ofO (deref ρ3 y) fun e => ofO (deref ρ3 z) fun g => ofO (cmpD op' e g) fun r' => .ok (.fz (.bl r')) ρ3 else .ok (.fz (.bl false)) ρ2)
  | .ite c a b => (fun v => (v, testB v)) (fun ρ => ((evB C rf c).2 ρ).bind fun k ρ1 => if k then (evB C rf a).1 ρ1 else (evB C rf b).1 ρ1)
  | .tup es => (fun v => (v, testB v)) (fun ρ => (evs C rf es ρ).bind fun xs ρ1 => ofO (freezes rf xs ρ1) fun p => if okLen p.1.length then .ok (.fz (.tup p.1)) p.2 else .bad)
  | .lst es => (fun v => (v, testB v)) (fun ρ => (evs C rf es ρ).bind fun xs ρ1 => ofO (freezes rf xs ρ1) fun p => if okLen p.1.length then .ok (.tmp (.lst p.1)) p.2 else .bad)
  | .dct ks vs => (fun v => (v, testB v)) (fun ρ => (evs C rf ks ρ).bind fun xs ρ1 => (evs C rf vs ρ1).bind fun ys ρ2 => match xs, ys with
    | [], [] => .ok (.tmp (.dct [] [])) ρ2
    | _, _ => ofO (freezes rf xs ρ2) fun p => ofO (freezes rf ys p.2) fun q => if decide (p.1.length ≤ 15) then ofO (putAll p.1 q.1 ([], [])) fun r => .ok (.tmp (.dct r.1 r.2)) q.2 else .bad)
  | .idx a b => (fun v => (v, testB v)) (fun ρ => ((evB C rf a).1 ρ).bind fun x ρ1 => ((evB C rf b).1 ρ1).bind fun y ρ2 => ofO (deref ρ2 x) fun d => ofO (deref ρ2 y) fun e => ofO (idxD d e) fun r => .ok (.fz r) ρ2)
  | .slc a lo hi => (fun v => (v, testB v)) (fun ρ => ((evB C rf a).1 ρ).bind fun x ρ1 => ((evB C rf lo).1 ρ1).bind fun y ρ2 => ((evB C rf hi).1 ρ2).bind fun z ρ3 => ofO (deref ρ3 x) fun d => ofO (partE lo y) fun l => ofO (partE hi z) fun h => ofO (slcD d l h) fun r => .ok r ρ3)
  | .rev a => (fun v => (v, testB v)) (fun ρ => ((evB C rf a).1 ρ).bind fun x ρ1 => ofO (deref ρ1 x) fun d => ofO (revD d) fun r => .ok r ρ1)
  | .fld _ _ => (fun v => (v, testB v)) (fun _ => .bad)
  | .call f es => (fun v => (v, testB v)) (fun ρ => (evs C rf es ρ).bind fun xs ρ1 => doCall C rf f xs ρ1)
  | .callk f es ks kes => (fun v => (v, testB v)) (fun ρ => (evs C rf es ρ).bind fun xs ρ1 => (evs C rf kes ρ1).bind fun zs ρ2 => ofO (C.fn f) fun fn => ofO (orderIx fn.ps xs.length ks) fun ix => ofO (getAll ix (xs ++ zs)) fun ys => doCall C rf f ys ρ2)
  | .blt f es => (fun v => (v, testB v)) (fun ρ => (evs C rf es ρ).bind fun xs ρ1 => ofO (derefs ρ1 xs) fun ds => ofO (bltD f ds) fun r => .ok r ρ1)
  | .isi a ts => (fun v => (v, testB v)) (fun ρ => ((evB C rf a).1 ρ).bind fun x ρ1 => ofO (deref ρ1 x) fun d => ofO (isiD d ts) fun b => .ok (.fz (.bl b)) ρ1)
  | .lof it => (fun v => (v, testB v)) (fun ρ => (evI C rf it ρ).bind fun xs ρ1 => if okLen xs.length then .ok (.tmp (.lst xs)) ρ1 else .bad)
  | .mth m o es => (fun v => (v, testB v)) (fun ρ => ((evB C rf o).1 ρ).bind fun x ρ1 => ofO (deref ρ1 x) fun d0 => if kindOk m d0 then (if isMut m then
      (evs C rf es ρ1).bind fun ys ρ2 => match x with
        | .var i => ofO (mArgs rf m ys ρ2) fun p => match p.2[i]? with
          | some (some (.ow d)) => ofO (mutD m d p.1) fun q => .ok (.fz q.1) (p.2.set i (some (.ow q.2)))
          | _ => .bad
        | _ => .bad
    else (evs C rf es ρ1).bind fun ys ρ2 => ofO (deref ρ2 x) fun d => ofO (derefs ρ2 ys) fun ds => ofO (mthD m d ds) fun r => .ok r ρ2) else .bad)
  | .comp own tg it c elt => (fun v => (v, testB v)) (fun ρ => if own.any (isRef rf) then .bad else (evI C rf it ρ).bind fun xs ρ1 =>
    match compLoop own (fun x ρ => (tgA C rf tg (.fz x) ρ).bind fun _ ρ2 => ((evB C rf c).2 ρ2).bind fun k ρ3 => if k then ((evB C rf elt).1 ρ3).bind fun y ρ4 => ofO (freeze rf ρ4 y) fun p => .ok (some p.1) p.2 else .ok none ρ3) xs [] (wipeE ρ1 own) with
    | .ok ds ρ2 => if okLen ds.length then .ok (.tmp (.lst ds)) (backE ρ1 ρ2 own) else .bad
    | _ => .bad)
def evs (C : Cl) (rf : List Bool) : Es → Ev → Res (List RV)
  | .nil, ρ => .ok [] ρ
  | .cons e es, ρ => ((evB C rf e).1 ρ).bind fun x ρ1 => (evs C rf es ρ1).bind fun xs ρ2 => .ok (x :: xs) ρ2
def evI (C : Cl) (rf : List Bool) : I → Ev → Res (List D)
  | .val e, ρ => ((evB C rf e).1 ρ).bind fun x ρ1 => ofO (freeze rf ρ1 x) fun p => ofO (itemsD p.1) fun xs => .ok xs p.2
  | .range1 a, ρ => ((evB C rf a).1 ρ).bind fun x ρ1 => match x with
    | .fz (.int n) => if inR n then .ok (rangeD 0 n) ρ1 else .bad
    | _ => .bad
  | .range2 a b, ρ => ((evB C rf a).1 ρ).bind fun x ρ1 => ((evB C rf b).1 ρ1).bind fun y ρ2 => match x, y with
    | .fz (.int m), .fz (.int n) => if inR m && inR n then .ok (rangeD m n) ρ2 else .bad
    | _, _ => .bad
  | .range3 a b c, ρ => ((evB C rf a).1 ρ).bind fun x ρ1 => ((evB C rf b).1 ρ1).bind fun y ρ2 => ((evB C rf c).1 ρ2).bind fun z ρ3 => match x, y, z with
    | .fz (.int m), .fz (.int n), .fz (.int (-1)) => if inR m && inR n then .ok (downD m n) ρ3 else .bad
    | _, _, _ => .bad
  | .enum a, ρ => ((evB C rf a).1 ρ).bind fun x ρ1 => ofO (freeze rf ρ1 x) fun p => match p.1 with
    | .lst xs => .ok (enumD 0 xs) p.2
    | .tup xs => .ok (enumD 0 xs) p.2
    | _ => .bad
  | .zip a b, ρ => ((evB C rf a).1 ρ).bind fun x ρ1 => ((evB C rf b).1 ρ1).bind fun y ρ2 => ofO (freeze rf ρ2 x) fun p => ofO (freeze rf p.2 y) fun q => match p.1, q.1 with
    | .lst xs, .lst ys => .ok (zipD xs ys) q.2
    | .tup xs, .tup ys => .ok (zipD xs ys) q.2
    | _, _ => .bad
def tgA (C : Cl) (rf : List Bool) : Tg → RV → Ev → Res Unit
  | .name i, x, ρ => ofO (store rf i x ρ) fun ρ1 => .ok () ρ1
  | .sub a b, v, ρ => ofO (freeze rf ρ v) fun p => ((evB C rf a).1 p.2).bind fun x ρ1 => ((evB C rf b).1 ρ1).bind fun y ρ2 => ofO (freeze rf ρ2 y) fun q => match x with
    | .var i => match q.2[i]? with
      | some (some (.ow d)) => ofO (setD d q.1 p.1) fun d' => .ok () (q.2.set i (some (.ow d')))
      | _ => .bad
    | _ => .bad
  | .tup ts, v, ρ => ofO (freeze rf ρ v) fun p => match p.1 with
    | .tup ds => tgAs C rf ts ds p.2
    | _ => .bad
def tgAs (C : Cl) (rf : List Bool) : Tgs → List D → Ev → Res Unit
  | .nil, [], ρ => .ok () ρ
  | .cons t ts, d :: ds, ρ => (tgA C rf t (.fz d) ρ).bind fun _ ρ1 => tgAs C rf ts ds ρ1
  | _, _, _ => .bad
end
def ev (C : Cl) (rf : List Bool) (e : E) (ρ : Ev) : Res RV := (evB C rf e).1 ρ
def evT (C : Cl) (rf : List Bool) (e : E) (ρ : Ev) : Res Bool := (evB C rf e).2 ρ
theorem ev_eqs {C : Cl} {rf : List Bool} : (∀ d ρ, ev C rf (.const d) ρ = .ok (.fz d) ρ) ∧
    (∀ i ρ, ev C rf (.var i) ρ = match ρ[i]? with
    | some (some (.fz d)) => .ok (.fz d) ρ
    | some (some (.ow _)) => .ok (.var i) ρ
    | _ => .bad) ∧
    (∀ x ρ, ev C rf (.glob x) ρ = ofO (C.glob x) fun d => .ok (.fz d) ρ) ∧
    (∀ op a b ρ, ev C rf (.bin op a b) ρ = (ev C rf a ρ).bind fun x ρ1 => (ev C rf b ρ1).bind fun y ρ2 => ofO (deref ρ2 x) fun d => ofO (deref ρ2 y) fun e => ofO (binD op d e) fun r => .ok r ρ2) ∧
    (∀ a ρ, ev C rf (.neg a) ρ = (ev C rf a ρ).bind fun x ρ1 => match x with
    | .fz (.int i) => .ok (.fz (.int (-i))) ρ1
    | _ => .bad) ∧
    (∀ a ρ, ev C rf (.not a) ρ = (ev C rf a ρ).bind fun x ρ1 => ofO (deref ρ1 x) fun d => ofO (truD d) fun b => .ok (.fz (.bl (!b))) ρ1) ∧
    (∀ a b ρ, ev C rf (.and a b) ρ = (ev C rf a ρ).bind fun x ρ1 => match x with
    | .fz (.bl c) => if c then ev C rf b ρ1 else .ok (.fz (.bl false)) ρ1
    | _ => .bad) ∧
    (∀ a b ρ, ev C rf (.or a b) ρ = (ev C rf a ρ).bind fun x ρ1 => match x with
    | .fz (.bl c) => if c then .ok (.fz (.bl true)) ρ1 else ev C rf b ρ1
    | _ => .bad) ∧
    (∀ op a b ρ, ev C rf (.cmp op a b) ρ = (ev C rf a ρ).bind fun x ρ1 => (ev C rf b ρ1).bind fun y ρ2 => ofO (deref ρ2 x) fun d => ofO (deref ρ2 y) fun e => ofO (cmpD op d e) fun r => .ok (.fz (.bl r)) ρ2) ∧
    (∀ op op' a b c ρ, ev C rf (.chain op op' a b c) ρ = (ev C rf a ρ).bind fun x ρ1 => (ev C rf b ρ1).bind fun y ρ2 => ofO (deref ρ2 x) fun d => ofO (deref ρ2 y) fun e => ofO (cmpD op d e) fun r =>
    if r then (ev C rf c ρ2).bind fun z ρ3 => ofO (deref ρ3 y) fun e => ofO (deref ρ3 z) fun g => ofO (cmpD op' e g) fun r' => .ok (.fz (.bl r')) ρ3 else .ok (.fz (.bl false)) ρ2) ∧
    (∀ c a b ρ, ev C rf (.ite c a b) ρ = (evT C rf c ρ).bind fun k ρ1 => if k then ev C rf a ρ1 else ev C rf b ρ1) ∧
    (∀ es ρ, ev C rf (.tup es) ρ = (evs C rf es ρ).bind fun xs ρ1 => ofO (freezes rf xs ρ1) fun p => if okLen p.1.length then .ok (.fz (.tup p.1)) p.2 else .bad) ∧
    (∀ es ρ, ev C rf (.lst es) ρ = (evs C rf es ρ).bind fun xs ρ1 => ofO (freezes rf xs ρ1) fun p => if okLen p.1.length then .ok (.tmp (.lst p.1)) p.2 else .bad) ∧
    (∀ ks vs ρ, ev C rf (.dct ks vs) ρ = (evs C rf ks ρ).bind fun xs ρ1 => (evs C rf vs ρ1).bind fun ys ρ2 => match xs, ys with
    | [], [] => .ok (.tmp (.dct [] [])) ρ2
    | _, _ => ofO (freezes rf xs ρ2) fun p => ofO (freezes rf ys p.2) fun q => if decide (p.1.length ≤ 15) then ofO (putAll p.1 q.1 ([], [])) fun r => .ok (.tmp (.dct r.1 r.2)) q.2 else .bad) ∧
    (∀ a b ρ, ev C rf (.idx a b) ρ = (ev C rf a ρ).bind fun x ρ1 => (ev C rf b ρ1).bind fun y ρ2 => ofO (deref ρ2 x) fun d => ofO (deref ρ2 y) fun e => ofO (idxD d e) fun r => .ok (.fz r) ρ2) ∧
    (∀ a lo hi ρ, ev C rf (.slc a lo hi) ρ = (ev C rf a ρ).bind fun x ρ1 => (ev C rf lo ρ1).bind fun y ρ2 => (ev C rf hi ρ2).bind fun z ρ3 => ofO (deref ρ3 x) fun d => ofO (partE lo y) fun l => ofO (partE hi z) fun h => ofO (slcD d l h) fun r => .ok r ρ3) ∧
    (∀ a ρ, ev C rf (.rev a) ρ = (ev C rf a ρ).bind fun x ρ1 => ofO (deref ρ1 x) fun d => ofO (revD d) fun r => .ok r ρ1) ∧
    (∀ u1 u2 u3, ev C rf (.fld u1 u2) u3 = .bad) ∧
    (∀ f es ρ, ev C rf (.call f es) ρ = (evs C rf es ρ).bind fun xs ρ1 => doCall C rf f xs ρ1) ∧
    (∀ f es ks kes ρ, ev C rf (.callk f es ks kes) ρ = (evs C rf es ρ).bind fun xs ρ1 => (evs C rf kes ρ1).bind fun zs ρ2 => ofO (C.fn f) fun fn => ofO (orderIx fn.ps xs.length ks) fun ix => ofO (getAll ix (xs ++ zs)) fun ys => doCall C rf f ys ρ2) ∧
    (∀ f es ρ, ev C rf (.blt f es) ρ = (evs C rf es ρ).bind fun xs ρ1 => ofO (derefs ρ1 xs) fun ds => ofO (bltD f ds) fun r => .ok r ρ1) ∧
    (∀ a ts ρ, ev C rf (.isi a ts) ρ = (ev C rf a ρ).bind fun x ρ1 => ofO (deref ρ1 x) fun d => ofO (isiD d ts) fun b => .ok (.fz (.bl b)) ρ1) ∧
    (∀ it ρ, ev C rf (.lof it) ρ = (evI C rf it ρ).bind fun xs ρ1 => if okLen xs.length then .ok (.tmp (.lst xs)) ρ1 else .bad) ∧
    (∀ m o es ρ, ev C rf (.mth m o es) ρ = (ev C rf o ρ).bind fun x ρ1 => ofO (deref ρ1 x) fun d0 => if kindOk m d0 then (if isMut m then
      (evs C rf es ρ1).bind fun ys ρ2 => match x with
        | .var i => ofO (mArgs rf m ys ρ2) fun p => match p.2[i]? with
          | some (some (.ow d)) => ofO (mutD m d p.1) fun q => .ok (.fz q.1) (p.2.set i (some (.ow q.2)))
          | _ => .bad
        | _ => .bad
    else (evs C rf es ρ1).bind fun ys ρ2 => ofO (deref ρ2 x) fun d => ofO (derefs ρ2 ys) fun ds => ofO (mthD m d ds) fun r => .ok r ρ2) else .bad) ∧
    (∀ own tg it c elt ρ, ev C rf (.comp own tg it c elt) ρ = if own.any (isRef rf) then .bad else (evI C rf it ρ).bind fun xs ρ1 =>
    match compLoop own (fun x ρ => (tgA C rf tg (.fz x) ρ).bind fun _ ρ2 => (evT C rf c ρ2).bind fun k ρ3 => if k then (ev C rf elt ρ3).bind fun y ρ4 => ofO (freeze rf ρ4 y) fun p => .ok (some p.1) p.2 else .ok none ρ3) xs [] (wipeE ρ1 own) with
    | .ok ds ρ2 => if okLen ds.length then .ok (.tmp (.lst ds)) (backE ρ1 ρ2 own) else .bad
    | _ => .bad) := by
  refine ⟨?_, ?_, ?_, ?_, ?_, ?_, ?_, ?_, ?_, ?_, ?_, ?_, ?_, ?_, ?_, ?_, ?_, ?_, ?_, ?_, ?_, ?_, ?_, ?_, ?_⟩ <;> (intros; rfl)
theorem evT_eqs {C : Cl} {rf : List Bool} : (∀ a ρ, evT C rf (.not a) ρ = (evT C rf a ρ).bind fun b ρ1 => .ok (!b) ρ1) ∧
    (∀ a b ρ, evT C rf (.and a b) ρ = (evT C rf a ρ).bind fun c ρ1 => if c then evT C rf b ρ1 else .ok false ρ1) ∧
    (∀ a b ρ, evT C rf (.or a b) ρ = (evT C rf a ρ).bind fun c ρ1 => if c then .ok true ρ1 else evT C rf b ρ1) ∧
    (∀ d ρ, evT C rf (.const d) ρ = (ev C rf (.const d) ρ).bind fun x ρ1 => ofO (deref ρ1 x) fun d => ofO (truD d) fun b => .ok b ρ1) ∧
    (∀ i ρ, evT C rf (.var i) ρ = (ev C rf (.var i) ρ).bind fun x ρ1 => ofO (deref ρ1 x) fun d => ofO (truD d) fun b => .ok b ρ1) ∧
    (∀ x ρ, evT C rf (.glob x) ρ = (ev C rf (.glob x) ρ).bind fun x ρ1 => ofO (deref ρ1 x) fun d => ofO (truD d) fun b => .ok b ρ1) ∧
    (∀ op a b ρ, evT C rf (.bin op a b) ρ = (ev C rf (.bin op a b) ρ).bind fun x ρ1 => ofO (deref ρ1 x) fun d => ofO (truD d) fun b => .ok b ρ1) ∧
    (∀ a ρ, evT C rf (.neg a) ρ = (ev C rf (.neg a) ρ).bind fun x ρ1 => ofO (deref ρ1 x) fun d => ofO (truD d) fun b => .ok b ρ1) ∧
    (∀ op a b ρ, evT C rf (.cmp op a b) ρ = (ev C rf (.cmp op a b) ρ).bind fun x ρ1 => ofO (deref ρ1 x) fun d => ofO (truD d) fun b => .ok b ρ1) ∧
    (∀ op op' a b c ρ, evT C rf (.chain op op' a b c) ρ = (ev C rf (.chain op op' a b c) ρ).bind fun x ρ1 => ofO (deref ρ1 x) fun d => ofO (truD d) fun b => .ok b ρ1) ∧
    (∀ c a b ρ, evT C rf (.ite c a b) ρ = (ev C rf (.ite c a b) ρ).bind fun x ρ1 => ofO (deref ρ1 x) fun d => ofO (truD d) fun b => .ok b ρ1) ∧
    (∀ es ρ, evT C rf (.tup es) ρ = (ev C rf (.tup es) ρ).bind fun x ρ1 => ofO (deref ρ1 x) fun d => ofO (truD d) fun b => .ok b ρ1) ∧
    (∀ es ρ, evT C rf (.lst es) ρ = (ev C rf (.lst es) ρ).bind fun x ρ1 => ofO (deref ρ1 x) fun d => ofO (truD d) fun b => .ok b ρ1) ∧
    (∀ ks vs ρ, evT C rf (.dct ks vs) ρ = (ev C rf (.dct ks vs) ρ).bind fun x ρ1 => ofO (deref ρ1 x) fun d => ofO (truD d) fun b => .ok b ρ1) ∧
    (∀ a b ρ, evT C rf (.idx a b) ρ = (ev C rf (.idx a b) ρ).bind fun x ρ1 => ofO (deref ρ1 x) fun d => ofO (truD d) fun b => .ok b ρ1) ∧
    (∀ a lo hi ρ, evT C rf (.slc a lo hi) ρ = (ev C rf (.slc a lo hi) ρ).bind fun x ρ1 => ofO (deref ρ1 x) fun d => ofO (truD d) fun b => .ok b ρ1) ∧
    (∀ a ρ, evT C rf (.rev a) ρ = (ev C rf (.rev a) ρ).bind fun x ρ1 => ofO (deref ρ1 x) fun d => ofO (truD d) fun b => .ok b ρ1) ∧
    (∀ f es ρ, evT C rf (.call f es) ρ = (ev C rf (.call f es) ρ).bind fun x ρ1 => ofO (deref ρ1 x) fun d => ofO (truD d) fun b => .ok b ρ1) ∧
    (∀ f es ks kes ρ, evT C rf (.callk f es ks kes) ρ = (ev C rf (.callk f es ks kes) ρ).bind fun x ρ1 => ofO (deref ρ1 x) fun d => ofO (truD d) fun b => .ok b ρ1) ∧
    (∀ f es ρ, evT C rf (.blt f es) ρ = (ev C rf (.blt f es) ρ).bind fun x ρ1 => ofO (deref ρ1 x) fun d => ofO (truD d) fun b => .ok b ρ1) ∧
    (∀ a ts ρ, evT C rf (.isi a ts) ρ = (ev C rf (.isi a ts) ρ).bind fun x ρ1 => ofO (deref ρ1 x) fun d => ofO (truD d) fun b => .ok b ρ1) ∧
    (∀ it ρ, evT C rf (.lof it) ρ = (ev C rf (.lof it) ρ).bind fun x ρ1 => ofO (deref ρ1 x) fun d => ofO (truD d) fun b => .ok b ρ1) ∧
    (∀ m o es ρ, evT C rf (.mth m o es) ρ = (ev C rf (.mth m o es) ρ).bind fun x ρ1 => ofO (deref ρ1 x) fun d => ofO (truD d) fun b => .ok b ρ1) ∧
    (∀ own tg it c elt ρ, evT C rf (.comp own tg it c elt) ρ = (ev C rf (.comp own tg it c elt) ρ).bind fun x ρ1 => ofO (deref ρ1 x) fun d => ofO (truD d) fun b => .ok b ρ1) ∧
    (∀ a f ρ, evT C rf (.fld a f) ρ = (ev C rf (.fld a f) ρ).bind fun x ρ1 => ofO (deref ρ1 x) fun d => ofO (truD d) fun b => .ok b ρ1) := by
  refine ⟨?_, ?_, ?_, ?_, ?_, ?_, ?_, ?_, ?_, ?_, ?_, ?_, ?_, ?_, ?_, ?_, ?_, ?_, ?_, ?_, ?_, ?_, ?_, ?_, ?_⟩ <;> (intros; rfl)
theorem evs_eqs {C : Cl} {rf : List Bool} : (∀ ρ, evs C rf .nil ρ = .ok [] ρ) ∧
    (∀ e es ρ, evs C rf (.cons e es) ρ = (ev C rf e ρ).bind fun x ρ1 => (evs C rf es ρ1).bind fun xs ρ2 => .ok (x :: xs) ρ2) := by
  refine ⟨?_, ?_⟩ <;> (intros; rfl)
theorem evI_eqs {C : Cl} {rf : List Bool} : (∀ e ρ, evI C rf (.val e) ρ = (ev C rf e ρ).bind fun x ρ1 => ofO (freeze rf ρ1 x) fun p => ofO (itemsD p.1) fun xs => .ok xs p.2) ∧
    (∀ a ρ, evI C rf (.range1 a) ρ = (ev C rf a ρ).bind fun x ρ1 => match x with
    | .fz (.int n) => if inR n then .ok (rangeD 0 n) ρ1 else .bad
    | _ => .bad) ∧
    (∀ a b ρ, evI C rf (.range2 a b) ρ = (ev C rf a ρ).bind fun x ρ1 => (ev C rf b ρ1).bind fun y ρ2 => match x, y with
    | .fz (.int m), .fz (.int n) => if inR m && inR n then .ok (rangeD m n) ρ2 else .bad
    | _, _ => .bad) ∧
    (∀ a b c ρ, evI C rf (.range3 a b c) ρ = (ev C rf a ρ).bind fun x ρ1 => (ev C rf b ρ1).bind fun y ρ2 => (ev C rf c ρ2).bind fun z ρ3 => match x, y, z with
    | .fz (.int m), .fz (.int n), .fz (.int (-1)) => if inR m && inR n then .ok (downD m n) ρ3 else .bad
    | _, _, _ => .bad) ∧
    (∀ a ρ, evI C rf (.enum a) ρ = (ev C rf a ρ).bind fun x ρ1 => ofO (freeze rf ρ1 x) fun p => match p.1 with
    | .lst xs => .ok (enumD 0 xs) p.2
    | .tup xs => .ok (enumD 0 xs) p.2
    | _ => .bad) ∧
    (∀ a b ρ, evI C rf (.zip a b) ρ = (ev C rf a ρ).bind fun x ρ1 => (ev C rf b ρ1).bind fun y ρ2 => ofO (freeze rf ρ2 x) fun p => ofO (freeze rf p.2 y) fun q => match p.1, q.1 with
    | .lst xs, .lst ys => .ok (zipD xs ys) q.2
    | .tup xs, .tup ys => .ok (zipD xs ys) q.2
    | _, _ => .bad) := by
  refine ⟨?_, ?_, ?_, ?_, ?_, ?_⟩ <;> (intros; rfl)
theorem tgA_eqs {C : Cl} {rf : List Bool} : (∀ i x ρ, tgA C rf (.name i) x ρ = ofO (store rf i x ρ) fun ρ1 => .ok () ρ1) ∧
    (∀ a b v ρ, tgA C rf (.sub a b) v ρ = ofO (freeze rf ρ v) fun p => (ev C rf a p.2).bind fun x ρ1 => (ev C rf b ρ1).bind fun y ρ2 => ofO (freeze rf ρ2 y) fun q => match x with
    | .var i => match q.2[i]? with
      | some (some (.ow d)) => ofO (setD d q.1 p.1) fun d' => .ok () (q.2.set i (some (.ow d')))
      | _ => .bad
    | _ => .bad) ∧
    (∀ ts v ρ, tgA C rf (.tup ts) v ρ = ofO (freeze rf ρ v) fun p => match p.1 with
    | .tup ds => tgAs C rf ts ds p.2
    | _ => .bad) := by
  refine ⟨?_, ?_, ?_⟩ <;> (intros; rfl)
theorem tgAs_eqs {C : Cl} {rf : List Bool} : (∀ ρ, tgAs C rf .nil ([]) ρ = .ok () ρ) ∧
    (∀ t ts d ds ρ, tgAs C rf (.cons t ts) (d :: ds) ρ = (tgA C rf t (.fz d) ρ).bind fun _ ρ1 => tgAs C rf ts ds ρ1) ∧
    (∀ d ds ρ, tgAs C rf .nil (d :: ds) ρ = .bad) ∧
    (∀ t ts ρ, tgAs C rf (.cons t ts) [] ρ = .bad) := by
  refine ⟨?_, ?_, ?_, ?_⟩ <;> (intros; rfl)

inductive Fl where
  | next | ret (x : RV) | brk | cont
  deriving Inhabited
def forLoop (step : D → Ev → Res Fl) : List D → Ev → Res Fl
  | [], ρ => .ok .next ρ
  | x :: r, ρ => (step x ρ).bind fun f ρ1 => match f with
    | .next => forLoop step r ρ1
    | .cont => forLoop step r ρ1
    | .brk => .ok .next ρ1
    | .ret v => .ok (.ret v) ρ1
def whLoop (test : Ev → Res Bool) (body : Ev → Res Fl) : Nat → Ev → Res Fl
  | 0, _ => .bad
  | n + 1, ρ => (test ρ).bind fun b ρ1 => if b then (body ρ1).bind fun f ρ2 => (match f with
    | .next => whLoop test body n ρ2
    | .cont => whLoop test body n ρ2
    | .brk => .ok .next ρ2
    | .ret v => .ok (.ret v) ρ2) else .ok .next ρ1
def stores (rf : List Bool) : List Nat → List RV → Ev → Option Ev
  | i :: is, x :: xs, ρ => match store rf i x ρ with
    | some ρ1 => stores rf is xs ρ1
    | none => none
  | [], [], ρ => some ρ
  | _, _, _ => none
/-- the things of names among them are kept as they are from here on -/
def settle (rf : List Bool) : List RV → Ev → Option (List RV × Ev)
  | [], ρ => some ([], ρ)
  | .var i :: r, ρ => match freeze rf ρ (.var i) with
    | none => none
    | some (d, ρ1) => match settle rf r ρ1 with
      | none => none
      | some (xs, ρ2) => some (.fz d :: xs, ρ2)
  | x :: r, ρ => match settle rf r ρ with
    | none => none
    | some (xs, ρ2) => some (x :: xs, ρ2)
mutual
def ex (C : Cl) (rf : List Bool) : S → Ev → Res Fl
  | .asg t e, ρ => (ev C rf e ρ).bind fun x ρ1 => (tgA C rf t x ρ1).bind fun _ ρ2 => .ok .next ρ2
  | .par is es, ρ => (evs C rf es ρ).bind fun xs ρ1 => ofO (settle rf xs ρ1) fun p => ofO (stores rf is p.1 p.2) fun ρ2 => .ok .next ρ2
  | .expr e, ρ => (ev C rf e ρ).bind fun _ ρ1 => .ok .next ρ1
  | .ret e, ρ => (ev C rf e ρ).bind fun x ρ1 => .ok (.ret x) ρ1
  | .ite c a b, ρ => (evT C rf c ρ).bind fun k ρ1 => if k then exs C rf a ρ1 else exs C rf b ρ1
  | .for t it b, ρ => (evI C rf it ρ).bind fun xs ρ1 => forLoop (fun x ρ => (tgA C rf t (.fz x) ρ).bind fun _ ρ2 => exs C rf b ρ2) xs ρ1
  | .while c b, ρ => whLoop (evT C rf c) (exs C rf b) C.turns ρ
  | .raise c es, ρ => (evs C rf es ρ).bind fun xs ρ1 => ofO (freezes rf xs ρ1) fun p => .exc c p.1 p.2
  | .cont, ρ => .ok .cont ρ
  | .brk, ρ => .ok .brk ρ
  | .pass, ρ => .ok .next ρ
def exs (C : Cl) (rf : List Bool) : Ss → Ev → Res Fl
  | .nil, ρ => .ok .next ρ
  | .cons s ss, ρ => (ex C rf s ρ).bind fun f ρ1 => match f with
    | .next => exs C rf ss ρ1
    | f => .ok f ρ1
end
def startE : List Bool → List D → Ev
  | true :: rs, d :: ds => some (.ow d) :: startE rs ds
  | false :: rs, d :: ds => some (.fz d) :: startE rs ds
  | _, _ => []
/-- what the changed parameters are behind -/
def outsOf : List Bool → Ev → Option (List D)
  | [], _ => some []
  | true :: rs, some (.ow d) :: ρ => (outsOf rs ρ).map (d :: ·)
  | false :: rs, _ :: ρ => (outsOf rs ρ).map (.non :: ·)
  | _, _ => none
def runFn (C : Cl) (f : Fn) (ds : List D) : CR := if ds.length = f.refs.length then (match exs C f.refs f.body (startE f.refs ds ++ List.replicate (f.slots - ds.length) none) with
  | .ok fl ρ => match outsOf f.refs ρ with
    | none => .bad
    | some outs => match fl with
      | .next => .ok .non false outs
      | .ret (.fz d) => .ok d false outs
      | .ret (.tmp d) => .ok d true outs
      | .ret (.var i) => if isRef f.refs i then .bad else match ρ[i]? with
        | some (some (.ow d)) => .ok d true outs
        | some (some (.fz d)) => .ok d false outs
        | _ => .bad
      | _ => .bad
  | .exc c vs ρ => match outsOf f.refs ρ with
    | none => .bad
    | some outs => .exc c vs outs
  | .bad => .bad) else .bad
/-- the program -/
structure Pg where
  fns : List Fn
  globs : List (Str × D)
  turns : Nat
def Pg.fn (P : Pg) (x : Str) : Option Fn := P.fns.find? fun f => f.name == x
def Pg.cl (P : Pg) (run : Str → List D → CR) : Cl := ⟨P.fn, run, fun x => P.globs.lookup x, P.turns⟩
def Pg.call (P : Pg) : Nat → Str → List D → CR
  | 0, _, _ => .bad
  | n + 1, f, ds => match P.fn f with
    | none => .bad
    | some fn => runFn (P.cl (P.call n)) fn ds
end Mp

set_option maxRecDepth 100000
/-! How values stand in the heap. -/
namespace Mp
open PySem L2

theorem same_of {F H : Hp} {a : Addr} {o : HO} (s : Same F H) (h : H a = none) : Same F (upd H a o) := fun b u e => by
  have := s b u e
  rw [upd_ne (ne_of_none this h)]; exact this
theorem same_upd {H : Hp} {a : Addr} {o : HO} (h : H a = none) : Same H (upd H a o) := same_of (Same.refl H) h

/-- a dict whose keys are tuples: what its object holds -/
def EntR (w : World) (p : NestedKey × V × V) (e : DictEntry) : Prop := e.hash = p.1.hash w ∧ RelV p.2.1 e.key ∧ RelV p.2.2 e.val
def dctO (w : World) (a : Addr) (es : List (NestedKey × V × V)) : HO := .ext fun h => (a == sysModules) = false ∧ ∃ o ents ep, h.get? a = some o ∧ o.ExactDict ∧ o.data = .dict ents ep ∧ Paired (EntR w) es ents.toList
/-- its keys -/
structure KeysN (es : List (NestedKey × V × V)) (ks : List D) : Prop where
  nd : (es.map (·.1)).Nodup
  keys : toKeys ks = some (es.map (·.1))
  tup : ks.all tupKey = true
  ne : es ≠ []
  dp : ∀ p ∈ es, p.1.depth ≤ 8
  sz : es.length ≤ 2000000
/-- a key as a value -/
def kD : Key → D
  | .inl i => .int i
  | .inr x => .str x

section
variable (K : PySem.W.Frag) (w : World)
mutual
/-- v stands for the value d -/
inductive Rp (H : Hp) : V → D → Prop
  | non : Rp H .non .non
  | bl (b : Bool) : Rp H (.bl b) (.bl b)
  | int (i : Int) : Rp H (.int i) (.int i)
  | str (x : Str) : Rp H (.str x) (.str x)
  | lst {a : Addr} {xs : List V} {ds : List D} : H a = some (.lst xs) → Rps H xs ds → Rp H (.ref a) (.lst ds)
  | scr {a : Addr} {ns : List Int} : SqL K H a (ns.map V.int) → Rp H (.ref a) (.scr ns)
  | tup {a : Addr} {xs : List V} {ds : List D} : SqT K H a xs → Rps H xs ds → Rp H (.ref a) (.tup ds)
  | dct {a : Addr} {kvs : List (Key × V)} {ks vs : List D} : H a = some (.dK kvs) → (kvs.map (·.1)).Nodup → ks = kvs.map (fun p => kD p.1) → Rps H (kvs.map (·.2)) vs → Rp H (.ref a) (.dct ks vs)
  | dcn {a : Addr} {es : List (NestedKey × V × V)} {ks vs : List D} : H a = some (dctO w a es) → KeysN es ks → Rps H (es.map (·.2.1)) ks → Rps H (es.map (·.2.2)) vs → Rp H (.ref a) (.dct ks vs)
inductive Rps (H : Hp) : List V → List D → Prop
  | nil : Rps H [] []
  | cons {v : V} {vs : List V} {d : D} {ds : List D} : Rp H v d → Rps H vs ds → Rps H (v :: vs) (d :: ds)
end
/-- a thing at a: its items are in F, itself in H -/
def OwnAt (F H : Hp) (a : Addr) : D → Prop
  | .lst ds => ∃ xs, H a = some (.lst xs) ∧ Rps K w F xs ds
  | .dct ks vs => (∃ kvs : List (Key × V), H a = some (.dK kvs) ∧ (kvs.map (·.1)).Nodup ∧ ks = kvs.map (fun p => kD p.1) ∧ Rps K w F (kvs.map (·.2)) vs) ∨
    ∃ es : List (NestedKey × V × V), H a = some (dctO w a es) ∧ KeysN es ks ∧ Rps K w F (es.map (·.2.1)) ks ∧ Rps K w F (es.map (·.2.2)) vs
  | _ => False
end

section
variable {K : PySem.W.Frag} {w : World} {F F' H H' : Hp}
theorem Same.sqT {a : Addr} {xs : List V} (e : Same H H') (h : SqT K H a xs) : SqT K H' a xs := by
  rcases h with (h | ⟨o, h⟩) | h
  · exact .inl (.inl (e _ _ h))
  · exact .inl (.inr ⟨o, e _ _ h⟩)
  · exact .inr h
mutual
theorem Rp.mono (e : Same H H') : ∀ (d : D) (v : V), Rp K w H v d → Rp K w H' v d
  | .non, _, h => by cases h; exact .non
  | .bl b, _, h => by cases h; exact .bl b
  | .int i, _, h => by cases h; exact .int i
  | .str x, _, h => by cases h; exact .str x
  | .lst ds, _, h => by
    cases h with
    | lst hs hr => exact .lst (e _ _ hs) (Rps.mono e ds _ hr)
  | .tup ds, _, h => by
    cases h with
    | tup hs hr => exact .tup (Same.sqT e hs) (Rps.mono e ds _ hr)
  | .dct ks vs, _, h => by
    cases h with
    | dct h1 h2 h3 h4 => exact .dct (e _ _ h1) h2 h3 (Rps.mono e vs _ h4)
    | dcn h1 h2 h3 h4 => exact .dcn (e _ _ h1) h2 (Rps.mono e ks _ h3) (Rps.mono e vs _ h4)
  | .set _, _, h => by cases h
  | .obj _ _ _, _, h => by cases h
  | .fn _, _, h => by cases h
  | .scr _, _, h => by cases h with | scr hs => exact .scr (e.seq hs)
theorem Rps.mono (e : Same H H') : ∀ (ds : List D) (vs : List V), Rps K w H vs ds → Rps K w H' vs ds
  | [], _, h => by cases h; exact .nil
  | d :: ds, _, h => by
    cases h with
    | cons h1 h2 => exact .cons (Rp.mono e d _ h1) (Rps.mono e ds _ h2)
end
theorem Rp.up {v : V} {d : D} (h : Rp K w H v d) (e : Same H H') : Rp K w H' v d := Rp.mono e d v h
theorem Rps.up {v : List V} {d : List D} (h : Rps K w H v d) (e : Same H H') : Rps K w H' v d := Rps.mono e d v h
theorem Rps.length : ∀ {vs : List V} {ds : List D}, Rps K w H vs ds → vs.length = ds.length
  | _, [], h => by cases h; rfl
  | _, _ :: ds, h => by
    cases h with
    | cons _ h2 => simp [Rps.length h2]
theorem Rps.append : ∀ {vs us : List V} {ds es : List D}, Rps K w H vs ds → Rps K w H us es → Rps K w H (vs ++ us) (ds ++ es)
  | _, _, [], _, h, g => by cases h; exact g
  | _, _, _ :: _, _, h, g => by
    cases h with
    | cons h1 h2 => exact .cons h1 (Rps.append h2 g)
theorem Rps.get : ∀ {vs : List V} {ds : List D} {i : Nat} {d : D}, Rps K w H vs ds → ds[i]? = some d → ∃ v, vs[i]? = some v ∧ Rp K w H v d
  | _, [], i, _, h, e => by simp at e
  | _, d :: ds, 0, _, h, e => by
    cases h with
    | cons h1 _ => simp only [List.getElem?_cons_zero, Option.some.injEq] at e; subst e; exact ⟨_, rfl, h1⟩
  | _, d :: ds, i + 1, _, h, e => by
    cases h with
    | cons _ h2 =>
      simp only [List.getElem?_cons_succ] at e
      obtain ⟨v, e1, e2⟩ := Rps.get h2 e
      exact ⟨v, by simpa using e1, e2⟩
theorem Rps.get' : ∀ {vs : List V} {ds : List D} {i : Nat} {v : V}, Rps K w H vs ds → vs[i]? = some v → ∃ d, ds[i]? = some d ∧ Rp K w H v d
  | _, [], i, _, h, e => by cases h; simp at e
  | _, d :: ds, 0, _, h, e => by
    cases h with
    | cons h1 _ => simp only [List.getElem?_cons_zero, Option.some.injEq] at e; subst e; exact ⟨_, rfl, h1⟩
  | _, d :: ds, i + 1, _, h, e => by
    cases h with
    | cons _ h2 =>
      simp only [List.getElem?_cons_succ] at e
      obtain ⟨v, e1, e2⟩ := Rps.get' h2 e
      exact ⟨v, by simpa using e1, e2⟩
theorem Rps.set {x : V} {d : D} (r : Rp K w H x d) : ∀ {vs : List V} {ds : List D} (i : Nat), Rps K w H vs ds → Rps K w H (vs.set i x) (ds.set i d)
  | _, [], _, h => by cases h; exact .nil
  | _, _ :: _, 0, h => by cases h with | cons _ h2 => exact .cons r h2
  | _, _ :: _, i + 1, h => by cases h with | cons h1 h2 => exact .cons h1 (Rps.set r i h2)
theorem Rps.take : ∀ {vs : List V} {ds : List D} (n : Nat), Rps K w H vs ds → Rps K w H (vs.take n) (ds.take n)
  | _, _, 0, h => by simp only [List.take_zero]; exact .nil
  | _, [], _ + 1, h => by cases h; exact .nil
  | _, _ :: _, n + 1, h => by cases h with | cons h1 h2 => exact .cons h1 (Rps.take n h2)
theorem Rps.drop : ∀ {vs : List V} {ds : List D} (n : Nat), Rps K w H vs ds → Rps K w H (vs.drop n) (ds.drop n)
  | _, _, 0, h => h
  | _, [], _ + 1, h => by cases h; exact .nil
  | _, _ :: _, n + 1, h => by cases h with | cons h1 h2 => exact Rps.drop n h2
theorem Rps.eraseIdx : ∀ {vs : List V} {ds : List D} (n : Nat), Rps K w H vs ds → Rps K w H (vs.eraseIdx n) (ds.eraseIdx n)
  | _, [], _, h => by cases h; exact .nil
  | _, _ :: _, 0, h => by cases h with | cons h1 h2 => exact h2
  | _, _ :: _, n + 1, h => by cases h with | cons h1 h2 => exact .cons h1 (Rps.eraseIdx n h2)
theorem Rps.reverse {vs : List V} {ds : List D} (h : Rps K w H vs ds) : Rps K w H vs.reverse ds.reverse := by
  induction ds generalizing vs with
  | nil => cases h; exact .nil
  | cons d ds ih =>
    cases h with
    | cons h1 h2 =>
      rw [List.reverse_cons, List.reverse_cons]
      exact Rps.append (ih h2) (.cons h1 .nil)
theorem Rps.rep {vs : List V} {ds : List D} (h : Rps K w H vs ds) : ∀ k : Nat, Rps K w H (List.replicate k vs).flatten (repL k ds)
  | 0 => .nil
  | k + 1 => by
    unfold repL
    rw [List.replicate_succ, List.replicate_succ, List.flatten_cons, List.flatten_cons]
    exact Rps.append h (Rps.rep h k)
theorem Rps.dropLast {vs : List V} {ds : List D} (h : Rps K w H vs ds) : Rps K w H vs.dropLast ds.dropLast := by
  rw [List.dropLast_eq_take, List.dropLast_eq_take, h.length]
  exact h.take _

theorem OwnAt.up {a : Addr} {d : D} (h : OwnAt K w F H a d) (e : Same F F') (q : H' a = H a) : OwnAt K w F' H' a d := by
  cases d with
  | lst ds => obtain ⟨xs, h1, h2⟩ := h; exact ⟨xs, by rw [q]; exact h1, h2.up e⟩
  | dct ks vs =>
    rcases h with ⟨es, h1, h2, h3, h4⟩ | ⟨es, h1, h2, h3, h4⟩
    · exact .inl ⟨es, by rw [q]; exact h1, h2, h3, h4.up e⟩
    · exact .inr ⟨es, by rw [q]; exact h1, h2, h3.up e, h4.up e⟩
  | _ => exact h.elim
theorem OwnAt.some {a : Addr} {d : D} (h : OwnAt K w F H a d) : ∃ o, H a = some o := by
  cases d with
  | lst ds => obtain ⟨xs, h1, h2⟩ := h; exact ⟨_, h1⟩
  | dct ks vs => rcases h with ⟨es, h1, h2⟩ | ⟨es, h1, h2⟩ <;> exact ⟨_, h1⟩
  | _ => exact h.elim
/-- a thing that is not changed any more -/
theorem OwnAt.rp {a : Addr} {d : D} (h : OwnAt K w F H a d) (s : Same F F') (q : F' a = H a) : Rp K w F' (.ref a) d := by
  cases d with
  | lst ds => obtain ⟨xs, h1, h2⟩ := h; exact .lst (by rw [q]; exact h1) (h2.up s)
  | dct ks vs =>
    rcases h with ⟨es, h1, h2, h3, h4⟩ | ⟨es, h1, h2, h3, h4⟩
    · exact .dct (by rw [q]; exact h1) h2 h3 (h4.up s)
    · exact .dcn (by rw [q]; exact h1) h2 (h3.up s) (h4.up s)
  | _ => exact h.elim
/-- F with what H has at a -/
def put (F H : Hp) (a : Addr) : Hp := fun b => if b = a then H a else F b
theorem put_same {F H : Hp} {a : Addr} (h : F a = none) : Same F (put F H a) := fun b o e => by
  unfold put; rw [if_neg (ne_of_none e h)]; exact e
theorem put_in {F H : Hp} {a : Addr} (s : Same F H) : Same (put F H a) H := fun b o e => by
  unfold put at e
  split at e
  · rename_i q; subst q; exact e
  · exact s _ _ e
theorem put_at {F H : Hp} {a : Addr} : put F H a a = H a := if_pos rfl
theorem put_ne {F H : Hp} {a b : Addr} (h : b ≠ a) : put F H a b = F b := if_neg h

/-- an operand: it stands in F, or is a thing of its own -/
inductive Ar (K : PySem.W.Frag) (w : World) (F H : Hp) : V → D → Prop
  | fz {v : V} {d : D} : Rp K w F v d → Ar K w F H v d
  | ow {a : Addr} {d : D} : F a = none → OwnAt K w F H a d → Ar K w F H (.ref a) d
theorem Ar.rp {v : V} {d : D} (h : Ar K w F H v d) (s : Same F H) : Rp K w H v d := by
  cases h with
  | fz h => exact h.up s
  | ow _ h => exact h.rp s rfl
theorem Ar.lst {v : V} {ds : List D} (h : Ar K w F H v (.lst ds)) (s : Same F H) : ∃ a xs, v = .ref a ∧ H a = some (.lst xs) ∧ Rps K w F xs ds := by
  cases h with
  | fz h => cases h with | lst h1 h2 => exact ⟨_, _, rfl, s _ _ h1, h2⟩
  | ow _ h => obtain ⟨xs, h1, h2⟩ := h; exact ⟨_, _, rfl, h1, h2⟩
theorem Ar.scr {v : V} {ns : List Int} (h : Ar K w F H v (.scr ns)) (s : Same F H) : ∃ a, v = .ref a ∧ SqL K H a (ns.map V.int) := by
  cases h with
  | fz h => cases h with | scr h1 => exact ⟨_, rfl, s.seq h1⟩
  | ow _ h => exact h.elim
theorem Ar.tup {v : V} {ds : List D} (h : Ar K w F H v (.tup ds)) (s : Same F H) : ∃ a xs, v = .ref a ∧ SqT K H a xs ∧ Rps K w F xs ds := by
  cases h with
  | fz h => cases h with | tup h1 h2 => exact ⟨_, _, rfl, Same.sqT s h1, h2⟩
  | ow _ h => exact h.elim
theorem Ar.dct {v : V} {ks vs : List D} (h : Ar K w F H v (.dct ks vs)) (s : Same F H) : ∃ a : Addr, v = .ref a ∧ OwnAt K w F H a (.dct ks vs) := by
  cases h with
  | fz h =>
    cases h with
    | dct h1 h2 h3 h4 => exact ⟨_, rfl, .inl ⟨_, s _ _ h1, h2, h3, h4⟩⟩
    | dcn h1 h2 h3 h4 => exact ⟨_, rfl, .inr ⟨_, s _ _ h1, h2, h3, h4⟩⟩
  | ow _ h => exact ⟨_, rfl, h⟩
theorem Ar.int {v : V} {i : Int} (h : Ar K w F H v (.int i)) : v = .int i := by
  cases h with
  | fz h => cases h; rfl
  | ow _ h => exact h.elim
theorem Ar.str {v : V} {i : Str} (h : Ar K w F H v (.str i)) : v = .str i := by
  cases h with
  | fz h => cases h; rfl
  | ow _ h => exact h.elim
theorem Ar.bl {v : V} {i : Bool} (h : Ar K w F H v (.bl i)) : v = .bl i := by
  cases h with
  | fz h => cases h; rfl
  | ow _ h => exact h.elim
theorem Ar.non {v : V} (h : Ar K w F H v .non) : v = .non := by
  cases h with
  | fz h => cases h; rfl
  | ow _ h => exact h.elim

/-! ### as the library's data -/
mutual
theorem Rp.dp : ∀ (d : D) (v : V), plain d = true → Rp K w H v d → Dp K H v (toPy d)
  | .non, _, _, h => by cases h; exact .non
  | .bl b, _, _, h => by cases h; exact .bl b
  | .int i, _, _, h => by cases h; exact .int i
  | .str x, _, _, h => by cases h; exact .str x
  | .lst ds, _, p, h => by
    cases h with
    | lst hs hr => exact .lst (SqL.of hs) (Rps.dps ds _ (by simpa [plain] using p) hr)
  | .tup ds, _, p, h => by
    cases h with
    | tup hs hr => exact .tup hs (Rps.dps ds _ (by simpa [plain] using p) hr)
  | .dct _ _, _, p, _ => by simp [plain] at p
  | .set _, _, p, _ => by simp [plain] at p
  | .obj _ _ _, _, p, _ => by simp [plain] at p
  | .fn _, _, p, _ => by simp [plain] at p
  | .scr _, _, p, _ => by simp [plain] at p
theorem Rps.dps : ∀ (ds : List D) (vs : List V), plains ds = true → Rps K w H vs ds → DpAll K H vs (toPys ds)
  | [], _, _, h => by cases h; exact .nil
  | d :: ds, _, p, h => by
    cases h with
    | cons h1 h2 =>
      simp only [plains, Bool.and_eq_true] at p
      exact .cons (Rp.dp d _ p.1 h1) (Rps.dps ds _ p.2 h2)
end
mutual
theorem plain_toPy : ∀ d : D, plain d = true → (toPy d).plain = true
  | .non, _ => by simp [toPy, PyData.plain]
  | .bl _, _ => by simp [toPy, PyData.plain]
  | .int _, _ => by simp [toPy, PyData.plain]
  | .str _, _ => by simp [toPy, PyData.plain]
  | .lst ds, p => by simp only [toPy, PyData.plain]; exact plain_toPys ds (by simpa [plain] using p)
  | .tup ds, p => by simp only [toPy, PyData.plain]; exact plain_toPys ds (by simpa [plain] using p)
  | .dct _ _, p => by simp [plain] at p
  | .set _, p => by simp [plain] at p
  | .obj _ _ _, p => by simp [plain] at p
  | .fn _, p => by simp [plain] at p
  | .scr _, p => by simp [plain] at p
theorem plain_toPys : ∀ ds : List D, plains ds = true → PyData.plainAll (toPys ds) = true
  | [], _ => by simp [toPys, PyData.plainAll]
  | d :: ds, p => by
    simp only [plains, Bool.and_eq_true] at p
    simp only [toPys, PyData.plainAll, Bool.and_eq_true]
    exact ⟨plain_toPy d p.1, plain_toPys ds p.2⟩
end
mutual
theorem depth_toPy : ∀ d : D, (toPy d).depth ≤ deep d
  | .non => by simp [toPy, PyData.depth]
  | .bl _ => by simp [toPy, PyData.depth]
  | .int _ => by simp [toPy, PyData.depth]
  | .str _ => by simp [toPy, PyData.depth]
  | .lst ds => by simp only [toPy, PyData.depth, deep]; have := depth_toPys ds; omega
  | .tup ds => by simp only [toPy, PyData.depth, deep]; have := depth_toPys ds; omega
  | .dct _ _ => by simp [toPy, PyData.depth]
  | .set _ => by simp [toPy, PyData.depth]
  | .obj _ _ _ => by simp [toPy, PyData.depth]
  | .fn _ => by simp [toPy, PyData.depth]
  | .scr _ => by simp [toPy, PyData.depth]
theorem depth_toPys : ∀ ds : List D, PyData.depthAll (toPys ds) ≤ deeps ds
  | [] => by simp [toPys, PyData.depthAll]
  | d :: ds => by
    simp only [toPys, PyData.depthAll, deeps]
    have h1 := depth_toPy d
    have h2 := depth_toPys ds
    omega
end
theorem fair_plain {d : D} (h : fair d = true) : plain d = true := by unfold fair at h; simp only [Bool.and_eq_true] at h; exact h.1
theorem fair_deep {d : D} (h : fair d = true) : deep d ≤ 40 := by unfold fair at h; simp only [Bool.and_eq_true, decide_eq_true_eq] at h; exact h.2
theorem fair_depth {d : D} (h : fair d = true) : (toPy d).depth ≤ 40 := Nat.le_trans (depth_toPy d) (fair_deep h)
theorem toPys_map : ∀ ds : List D, toPys ds = ds.map toPy
  | [] => by simp [toPys]
  | d :: ds => by simp [toPys, toPys_map ds]

/-! ### what an operation may do: new things -/
structure Grow (F H F' H' : Hp) : Prop where
  fr : Same F F'
  hh : Same H H'
  inn : Same F' H'
  new : ∀ a o, F' a = some o → (∃ u, F a = some u) ∨ H a = none
theorem Grow.refl (s : Same F H) : Grow F H F H := ⟨Same.refl F, Same.refl H, s, fun a o e => .inl ⟨o, e⟩⟩
/-- what comes out -/
def Out1 (K : PySem.W.Frag) (w : World) (H F' H' : Hp) (v : V) : RV → Prop
  | .fz d => Rp K w F' v d
  | .tmp d => ∃ a, v = .ref a ∧ H a = none ∧ F' a = none ∧ OwnAt K w F' H' a d
  | .var _ => False
/-- a new list -/
theorem out_lst {p : Addr} {xs : List V} {ds : List D} (s : Same F H) (hp : H p = none) (r : Rps K w F xs ds) : Grow F H F (upd H p (.lst xs)) ∧ Out1 K w H F (upd H p (.lst xs)) (.ref p) (.tmp (.lst ds)) := by
  refine ⟨⟨Same.refl F, same_upd hp, same_of s hp, fun a o e => .inl ⟨o, e⟩⟩, p, rfl, hp, s.free hp, xs, upd_same, r⟩
/-- a new tuple -/
theorem out_tup {p : Addr} {xs : List V} {ds : List D} (s : Same F H) (hp : H p = none) (r : Rps K w F xs ds) : Grow F H (upd F p (.tup xs)) (upd H p (.tup xs)) ∧ Out1 K w H (upd F p (.tup xs)) (upd H p (.tup xs)) (.ref p) (.fz (.tup ds)) := by
  have hf : F p = none := s.free hp
  refine ⟨⟨same_upd hf, same_upd hp, fun b o e => ?_, fun a o e => ?_⟩, ?_⟩
  · by_cases q : b = p
    · subst q; rw [upd_same] at e ⊢; exact e
    · rw [upd_ne q] at e ⊢; exact s _ _ e
  · by_cases q : a = p
    · subst q; exact .inr hp
    · rw [upd_ne q] at e; exact .inl ⟨o, e⟩
  · exact .tup (SqT.of upd_same) (r.up (same_upd hf))
theorem out_fz {v : V} {d : D} (s : Same F H) (r : Rp K w F v d) : Grow F H F H ∧ Out1 K w H F H v (.fz d) := ⟨Grow.refl s, r⟩
end
end Mp

set_option maxRecDepth 100000
set_option maxHeartbeats 4000000
/-! Operators of two values. -/
namespace Mp
open PySem PySem.Spec PyProof.Rows L2

theorem okLen_lt {n : Nat} (h : okLen n = true) : n < 1000000 := of_decide_eq_true h
theorem okLen_le {n : Nat} (h : okLen n = true) : n ≤ sizeLine := by have := okLen_lt h; rw [sizeLine_eq]; omega
theorem okLen_ls {n : Nat} (h : okLen n = true) : n < sizeLine := by have := okLen_lt h; rw [sizeLine_eq]; omega

/-- what an operator of two values asks and gives -/
def rB (K : PySem.W.Frag) (w : World) (g : D → D → Option RV) : R2 := fun x y H Q => ∃ F d e res, Same F H ∧ Ar K w F H x d ∧ Ar K w F H y e ∧ g d e = some res ∧ ∀ v F' H', Grow F H F' H' → Out1 K w H F' H' v res → Q v H'
theorem rB.fin {F H : Hp} {K : PySem.W.Frag} {w : World} {Q : VK} {v : V} {d : D} (s : Same F H) (q : ∀ v F' H', Grow F H F' H' → Out1 K w H F' H' v (.fz d) → Q v H') (r : Rp K w F v d) : Q v H :=
  q v F H (Grow.refl s) r

section
variable {X : Cx}
/-- t * 1 -/
theorem tup_mul1 (l : Addr) (items : Array Value) (n : Nat) (dd : Option Addr) (sl : Array (Option Value)) (u : Tok) :
    Meets (Builtin.«tuple.__mul__» ⟨[.ref l, .int 1 u], []⟩) (fun _ R s => s.heap.get? l = some { cls := .type "tuple", dict := dd, data := .seq items n, slots := sl } ∧ R (.ok (.ret (Value.ref l))) s) :=
  .of_wp fun prog w A R s h => by
    obtain ⟨hp, g, d, tk, os⟩ := s
    obtain ⟨hl, h⟩ := h
    have f1 := AutoSeq1.idx_int
    wp_walk using AutoSeq1.wpAny_loadPart' hl
    repeat (first
      | (refine wpAny_ite_false (decide_eq_false (by decide)) ?_; wp_walk using AutoSeq1.wpAny_loadPart' hl)
      | (refine wpAny_ite_true (decide_eq_true (by simp)) ?_; wp_walk using AutoSeq1.wpAny_loadPart' hl))
    all_goals exact ⟨_, rfl, h⟩
/-- t * 0 -/
theorem tup_mul0 (l : Addr) (items : Array Value) (n : Nat) (dd : Option Addr) (sl : Array (Option Value)) (u : Tok) (hi : items.isEmpty = false) :
    Meets (Builtin.«tuple.__mul__» ⟨[.ref l, .int 0 u], []⟩) (fun _ R s => s.heap.get? l = some { cls := .type "tuple", dict := dd, data := .seq items n, slots := sl } ∧
      R (.ok (.ret (Value.ref s.heap.objs.size))) { s with heap := s.heap.push { cls := Value.type "tuple", data := Data.seq #[] }, toks := s.toks }) :=
  .of_wp fun prog w A R s h => by
    obtain ⟨hp, g, d, tk, os⟩ := s
    obtain ⟨hl, h⟩ := h
    have f1 := AutoSeq1.idx_int
    wp_walk using AutoSeq1.wpAny_loadPart' hl
    repeat (first
      | (refine wpAny_ite_false (decide_eq_false (by first | decide | (simp [hi]; done))) ?_; wp_walk using AutoSeq1.wpAny_loadPart' hl)
      | (refine wpAny_ite_true (decide_eq_true (by simp)) ?_; wp_walk using AutoSeq1.wpAny_loadPart' hl))
    all_goals exact ⟨_, rfl, h⟩
theorem op_tupMul : OpR X (binaryOp .Mult) (fun x y H Q => ∃ l k xs, x = .ref l ∧ y = .int k ∧ SqT X.K H l xs ∧ xs ≠ [] ∧ 0 ≤ k ∧ k ≤ 1000 ∧ xs.length ≤ 1000 ∧ (k = 1 → Q (.ref l) H) ∧ (k ≠ 1 → ∀ p, H p = none → Q (.ref p) (upd H p (.tup (List.replicate k.toNat xs).flatten)))) := by
  intro pins s σ H x y v u Q I rx ry h
  obtain ⟨l, k, xs, rfl, rfl, hT, hne, h1, h2, hz, q1, q2⟩ := h
  by_cases k2 : 2 ≤ k
  · exact op_repT pins s σ H _ _ v u Q I rx ry ⟨l, k, xs, rfl, rfl, hT, hne, k2, h2, hz, q2 (by omega)⟩
  cases rx
  obtain ⟨t, rfl⟩ := ry
  obtain ⟨its, r, ⟨⟨cls, dd, data, sl⟩, ho, hc, n, hd⟩, hs⟩ := I.tuple hT
  simp only at hc hd
  subst hc hd
  have hi : its.toArray.isEmpty = false := by
    cases r with
    | nil => exact absurd rfl hne
    | cons _ _ => rfl
  by_cases k1 : k = 1
  · subst k1
    exact wpAny_binaryOp_repeat_ref (T := "tuple") (U := "int") (by decide) ⟨_, ho, rfl⟩ (fun s' => typeIs_int s' 1 t) noFill_tuple_mul F.fills_int_mul F.slot_int_rmul repeat_tuple F.slot_int_index.lookup
      (call_meets F.slot_int_rmul (typeIs_int s 1 t) F.entry_int_rmul (F.args_int_rmul_2 _ _) (int_rmul_tuple 1 t l its.toArray n dd sl)
        ⟨ho, rfl, ⟨_, ho, rfl⟩, call_meets F.slot_tuple_mul ⟨_, ho, rfl⟩ F.entry_tuple_mul (F.args_tuple_mul_2 _ _) (tup_mul1 l its.toArray n dd sl t) ⟨ho, ⟨.ref l, H, I, rfl, q1 rfl⟩⟩⟩)
  · have k0 : k = 0 := by omega
    subst k0
    refine wpAny_binaryOp_repeat_ref (T := "tuple") (U := "int") (by decide) ⟨_, ho, rfl⟩ (fun s' => typeIs_int s' 0 t) noFill_tuple_mul F.fills_int_mul F.slot_int_rmul repeat_tuple F.slot_int_index.lookup
      (call_meets F.slot_int_rmul (typeIs_int s 0 t) F.entry_int_rmul (F.args_int_rmul_2 _ _) (int_rmul_tuple 0 t l its.toArray n dd sl)
        ⟨ho, rfl, ⟨_, ho, rfl⟩, call_meets F.slot_tuple_mul ⟨_, ho, rfl⟩ F.entry_tuple_mul (F.args_tuple_mul_2 _ _) (tup_mul0 l its.toArray n dd sl t hi) ⟨ho, ?_⟩⟩)
    refine ⟨.ref s.heap.objs.size, _, I.laid (t' := s.toks) (o := .tup []) (fun b ob q => Heap.get?_push_of_some _ q) (Nat.le_refl _) ?_, rfl, q2 k1 _ (I.hok.fresh (Nat.le_refl _))⟩
    exact ⟨Nat.zero_le _, [], .nil, IsTup.new _ _⟩
theorem small64_of {i : Int} (h : small64 i = true) : -(2 ^ 64) < i ∧ i < 2 ^ 64 := by
  unfold small64 at h
  simpa only [Bool.and_eq_true, decide_eq_true_eq] using h
theorem Rps.nil_of {K : PySem.W.Frag} {w : World} {F : Hp} {xs : List V} {ds : List D} (h : Rps K w F xs ds) : xs = [] ↔ ds = [] := by
  cases h with
  | nil => exact ⟨fun _ => rfl, fun _ => rfl⟩
  | cons _ _ => exact ⟨fun e => (nomatch e), fun e => (nomatch e)⟩
/-- THE OPERATORS -/
theorem op_bin (op : Operator) : OpR X (binaryOp op) (rB X.K X.w (binD op)) := by
  intro pins s σ H x y v u Q I rx ry ⟨F, d, e, res, sm, ax, ay, hg, q⟩
  unfold binD at hg
  split at hg
  · -- int + int
    cases hg
    cases ax.int; cases ay.int
    exact op_add pins s σ H _ _ v u Q I rx ry ⟨_, _, rfl, rfl, rB.fin sm q (.int _)⟩
  · -- list + list
    split at hg <;> cases hg
    rename_i a b hl
    obtain ⟨p1, xs, rfl, e1, r1⟩ := ax.lst sm
    obtain ⟨p2, ys, rfl, e2, r2⟩ := ay.lst sm
    refine op_cat pins s σ H _ _ v u Q I rx ry ⟨p1, p2, xs, ys, rfl, rfl, e1, e2, by rw [r1.length, r2.length]; exact okLen_le hl, fun p hp => ?_⟩
    have := out_lst sm hp (r1.append r2)
    exact q _ _ _ this.1 this.2
  · -- tuple + tuple
    split at hg <;> cases hg
    rename_i a b hl
    obtain ⟨p1, xs, rfl, e1, r1⟩ := ax.tup sm
    obtain ⟨p2, ys, rfl, e2, r2⟩ := ay.tup sm
    refine op_catA pins s σ H _ _ v u Q I rx ry ⟨p1, p2, xs, ys, rfl, rfl, e1, e2, by rw [r1.length, r2.length]; exact okLen_le hl, fun e => ?_, fun _ e => ?_, fun _ _ p hp => ?_⟩
    · have := (r1.nil_of).mp e
      subst this
      cases ay with
      | fz h => exact rB.fin sm q (by rw [List.nil_append]; exact h)
      | ow _ h => exact h.elim
    · have := (r2.nil_of).mp e
      subst this
      cases ax with
      | fz h => exact rB.fin sm q (by rw [List.append_nil]; exact h)
      | ow _ h => exact h.elim
    · have := out_tup sm hp (r1.append r2)
      exact q _ _ _ this.1 this.2
  · -- text + text
    split at hg <;> cases hg
    rename_i a b hl
    cases ax.str; cases ay.str
    exact op_add_str pins s σ H _ _ v u Q I rx ry ⟨_, _, rfl, rfl, okLen_le hl, rB.fin sm q (.str _)⟩
  · cases hg
    cases ax.int; cases ay.int
    exact op_sub pins s σ H _ _ v u Q I rx ry ⟨_, _, rfl, rfl, rB.fin sm q (.int _)⟩
  · split at hg <;> cases hg
    rename_i a b hl
    cases ax.int; cases ay.int
    refine op_mul pins s σ H _ _ v u Q I rx ry ⟨_, _, rfl, rfl, ?_, rB.fin sm q (.int _)⟩
    rw [Bool.or_eq_true] at hl
    exact hl.imp small64_of small64_of
  · -- list * int
    split at hg <;> cases hg
    rename_i a k hl
    simp only [Bool.and_eq_true, decide_eq_true_eq] at hl
    obtain ⟨p1, xs, rfl, e1, r1⟩ := ax.lst sm
    cases ay.int
    refine op_rep pins s σ H _ _ v u Q I rx ry ⟨p1, k, xs, rfl, rfl, e1, by omega, by omega, by rw [r1.length]; exact okLen_le hl.1.1, fun p hp => ?_⟩
    have := out_lst sm hp (r1.rep k.toNat)
    exact q _ _ _ this.1 this.2
  · -- tuple * int
    split at hg <;> cases hg
    rename_i a k hl
    simp only [Bool.and_eq_true, decide_eq_true_eq] at hl
    obtain ⟨p1, xs, rfl, e1, r1⟩ := ax.tup sm
    cases ay.int
    have hne : xs ≠ [] := fun e => by
      have := (r1.nil_of).mp e
      subst this
      simp at hl
    refine op_tupMul pins s σ H _ _ v u Q I rx ry ⟨p1, k, xs, rfl, rfl, e1, hne, hl.1.2, hl.1.1.2, by rw [r1.length]; exact hl.1.1.1, fun e => ?_, fun _ p hp => ?_⟩
    · subst e
      cases ax with
      | fz h => exact rB.fin sm q (by show Rp X.K X.w F (.ref p1) (.tup (repL 1 a)); unfold repL; simpa using h)
      | ow _ h => exact h.elim
    · have := out_tup sm hp (r1.rep k.toNat)
      exact q _ _ _ this.1 this.2
  · split at hg <;> cases hg
    rename_i a b hl
    cases ax.int; cases ay.int
    exact op_mod pins s σ H _ _ v u Q I rx ry ⟨_, _, rfl, rfl, of_decide_eq_true hl, rB.fin sm q (.int _)⟩
  · split at hg <;> cases hg
    rename_i a b hl
    simp only [Bool.and_eq_true, decide_eq_true_eq] at hl
    cases ax.int; cases ay.int
    exact op_fdiv pins s σ H _ _ v u Q I rx ry ⟨_, _, rfl, rfl, hl, rB.fin sm q (.int _)⟩
  · split at hg <;> cases hg
    rename_i a b hl
    simp only [Bool.and_eq_true, decide_eq_true_eq] at hl
    cases ax.int; cases ay.int
    exact op_pow pins s σ H _ _ v u Q I rx ry ⟨_, _, rfl, rfl, ⟨hl.1.1, by omega, hl.2⟩, rB.fin sm q (.int _)⟩
  · cases hg
end
end Mp

set_option maxRecDepth 100000
set_option maxHeartbeats 4000000
/-! Comparisons, truth, dicts read. -/
namespace Mp
open PySem PySem.Spec PyProof.Rows L2

section
variable {X : Cx} {pins : List (Addr × Obj)} {σ : L2.St} {H F : Hp} {s : Shared}
/-- an operand as the library's data -/
theorem Ar.reads (I : Inv X pins σ H s) (sm : Same F H) {v : V} {d : D} {u : Value} (h : Ar X.K X.w F H v d) (p : plain d = true) (r : RelV v u) : ∃ as, Reads s.heap u (toPy d) as :=
  Dp.reads I _ _ _ (Rp.dp d v p (h.rp sm)) r

mutual
theorem Rp.nested (I : Inv X pins σ H s) : ∀ (d : D) (v : V) (u : Value) (k : NestedKey), Rp X.K X.w H v d → RelV v u → toKey d = some k → NestedIs s.heap k u
  | .non, _, _, _, h, r, e => by cases h; cases r; simp only [toKey, Option.some.injEq] at e; subst e; exact .none
  | .bl b, _, _, _, h, r, e => by cases h; cases r; simp only [toKey, Option.some.injEq] at e; subst e; exact .bool rfl
  | .int i, _, _, _, h, r, e => by cases h; obtain ⟨t, rfl⟩ := r; simp only [toKey, Option.some.injEq] at e; subst e; exact .int i t
  | .str x, _, _, _, h, r, e => by cases h; obtain ⟨t, rfl⟩ := r; simp only [toKey, Option.some.injEq] at e; subst e; exact .text x t
  | .tup ds, _, _, _, h, r, e => by
    cases h with
    | tup hs hr =>
      cases r
      simp only [toKey, Option.map_eq_some_iff] at e
      obtain ⟨ks, e1, e2⟩ := e
      subst e2
      obtain ⟨its, rv, ⟨o, ho, hc, n, hd⟩, _⟩ := I.tuple hs
      exact .tup ho hc hd (Rps.nested I ds _ its ks hr rv e1)
  | .lst _, _, _, _, _, _, e => by simp [toKey] at e
  | .dct _ _, _, _, _, _, _, e => by simp [toKey] at e
  | .set _, _, _, _, _, _, e => by simp [toKey] at e
  | .obj _ _ _, _, _, _, _, _, e => by simp [toKey] at e
  | .fn _, _, _, _, _, _, e => by simp [toKey] at e
  | .scr _, _, _, _, _, _, e => by simp [toKey] at e
theorem Rps.nested (I : Inv X pins σ H s) : ∀ (ds : List D) (vs : List V) (us : List Value) (ks : List NestedKey), Rps X.K X.w H vs ds → Vals vs us → toKeys ds = some ks → NestedAll s.heap ks us
  | [], _, _, _, h, r, e => by cases h; cases r; simp only [toKeys, Option.some.injEq] at e; subst e; exact .nil
  | d :: ds, _, _, _, h, r, e => by
    cases h with
    | cons h1 h2 =>
      cases r with
      | cons r1 r2 =>
        simp only [toKeys] at e
        cases q1 : toKey d with
        | none => rw [q1] at e; simp at e
        | some k =>
          rw [q1] at e
          cases q2 : toKeys ds with
          | none => rw [q2] at e; simp at e
          | some ks =>
            rw [q2] at e
            simp only [Option.some.injEq] at e
            subst e
            exact .cons (Rp.nested I d _ _ k h1 r1 q1) (Rps.nested I ds _ _ ks h2 r2 q2)
end

/-! ### keys -/
theorem toKey_kD (k : Key) : toKey (kD k) = some (match k with | .inl i => .num i | .inr x => .text x) := by
  cases k <;> rfl
theorem keyAt_kD (k : Key) : ∀ kvs : List (Key × V), keyAt (match k with | .inl i => .num i | .inr x => .text x) (kvs.map fun p => kD p.1) = kvs.findIdx? fun p => decide (p.1 = k)
  | [] => rfl
  | p :: r => by
    show (if toKey (kD p.1) = some _ then some 0 else (keyAt _ (r.map fun p => kD p.1)).map (· + 1)) = _
    rw [keyAt_kD k r, List.findIdx?_cons, toKey_kD]
    by_cases e : p.1 = k
    · subst e; simp
    · rw [if_neg, decide_eq_false e]
      · rfl
      · intro z
        apply e
        rcases p with ⟨k', y⟩
        cases k' <;> cases k <;> simp_all
theorem valV_idx (k : Key) : ∀ kvs : List (Key × V), valV kvs k = (kvs.findIdx? fun p => decide (p.1 = k)).bind fun i => (kvs.map (·.2))[i]?
  | [] => rfl
  | p :: r => by
    rw [List.findIdx?_cons]
    by_cases e : p.1 = k
    · rw [valV_pos e, decide_eq_true e]; simp
    · rw [valV_neg e, valV_idx k r, decide_eq_false e]
      simp only [Bool.false_eq_true, if_false]
      cases (r.findIdx? fun p => decide (p.1 = k)) <;> simp
theorem leaf_kD {d : D} (h : leafKey d = true) : ∃ k, d = kD k := by
  unfold leafKey at h
  split at h
  · exact ⟨.inl _, rfl⟩
  · exact ⟨.inr _, rfl⟩
  · cases h
theorem Rp.kV {k : Key} {v : V} (h : Rp X.K X.w H v (kD k)) : v = kV k := by
  cases k <;> (cases h; rfl)
/-- a value under a leaf key -/
theorem Rps.valV {kvs : List (Key × V)} {vs : List D} (k : Key) (h : Rps X.K X.w F (kvs.map (·.2)) vs) : (getK (kvs.map fun p => kD p.1) vs (kD k) = some none ∧ L2.valV kvs k = none) ∨ ∃ d v, getK (kvs.map fun p => kD p.1) vs (kD k) = some (some d) ∧ L2.valV kvs k = some v ∧ Rp X.K X.w F v d := by
  unfold getK
  rw [toKey_kD, Option.map_some, keyAt_kD, valV_idx]
  cases q : (kvs.findIdx? fun p => decide (p.1 = k)) with
  | none => exact .inl ⟨rfl, rfl⟩
  | some i =>
    have hi : i < (kvs.map (·.2)).length := by
      have := List.findIdx?_eq_some_iff_getElem.mp q
      obtain ⟨h1, _⟩ := this
      simpa using h1
    obtain ⟨d, e1, e2⟩ := h.get' (List.getElem?_eq_getElem hi)
    refine .inr ⟨d, _, ?_, List.getElem?_eq_getElem hi, e2⟩
    simp only [Option.bind_some, e1]

/-- a dict with keys that are tuples, at the library's level -/
abbrev KX (xs : List (NestedKey × Addr × Value)) (es : List (NestedKey × V × V)) : Prop := Paired (fun (p : NestedKey × V × V) (q : NestedKey × Addr × Value) => p.1 = q.1 ∧ p.2.1 = .ref q.2.1 ∧ RelV p.2.2 q.2.2) es xs
theorem paired_mem {α β : Type} {R : α → β → Prop} : ∀ {l : List α} {m : List β}, Paired R l m → ∀ y ∈ m, ∃ x ∈ l, R x y
  | _, _, .nil, y, h => (nomatch h)
  | _, _, .cons r t, y, h => by
    rcases List.mem_cons.mp h with rfl | h
    · exact ⟨_, List.mem_cons_self, r⟩
    · obtain ⟨x, h1, h2⟩ := paired_mem t y h
      exact ⟨x, List.mem_cons_of_mem _ h1, h2⟩
theorem tupKey_tup {d : D} (h : tupKey d = true) : ∃ ds, d = .tup ds := by
  unfold tupKey at h
  split at h
  · exact ⟨_, rfl⟩
  · cases h
theorem rp_ref {K : PySem.W.Frag} {w : World} {H : Hp} {v : V} {ds : List D} (h : Rp K w H v (.tup ds)) : ∃ a, v = .ref a := by
  cases h; exact ⟨_, rfl⟩
theorem toKeys_cons {d : D} {ds : List D} {ks : List NestedKey} (h : toKeys (d :: ds) = some ks) : ∃ k r, toKey d = some k ∧ toKeys ds = some r ∧ ks = k :: r := by
  simp only [toKeys] at h
  cases q1 : toKey d with
  | none => rw [q1] at h; simp at h
  | some k =>
    rw [q1] at h
    cases q2 : toKeys ds with
    | none => rw [q2] at h; simp at h
    | some r =>
      rw [q2] at h
      simp only [Option.some.injEq] at h
      exact ⟨k, r, rfl, rfl, h.symm⟩
theorem dictH_of (I : Inv X pins σ H s) {ents : List DictEntry} : ∀ {es : List (NestedKey × V × V)} {ks : List D}, Paired (EntR X.w) es ents → Rps X.K X.w H (es.map (·.2.1)) ks → toKeys ks = some (es.map (·.1)) → ks.all tupKey = true → (∀ p ∈ es, p.1.depth ≤ 8) →
    ∃ xs : List (NestedKey × Addr × Value), KX xs es ∧ ents = xs.map (entryOfKey (nestedKind X.prog X.w)) ∧ (∀ x ∈ xs, (nestedKind X.prog X.w).is s.heap x.1 x.2.1) ∧ xs.map (·.1) = es.map (·.1) := by
  induction ents with
  | nil => intro es ks h; cases h; exact fun _ _ _ _ => ⟨[], .nil, rfl, (fun _ h => nomatch h), rfl⟩
  | cons en r ih =>
    intro es ks h
    cases h with
    | @cons p _ es' _ hp hr =>
      obtain ⟨k, kv, v⟩ := p
      intro rk tk tu dp
      cases ks with
      | nil => cases rk
      | cons d ds =>
        cases rk with
        | cons r1 r2 =>
          obtain ⟨k', r', e1, e2, e3⟩ := toKeys_cons tk
          simp only [List.map_cons, List.cons.injEq] at e3
          obtain ⟨e3, e4⟩ := e3
          subst e3 e4
          simp only [List.all_cons, Bool.and_eq_true] at tu
          obtain ⟨dd, rfl⟩ := tupKey_tup tu.1
          obtain ⟨b, rfl⟩ := rp_ref r1
          obtain ⟨xs, x1, x2, x3, x4⟩ := ih hr r2 e2 tu.2 fun p hp => dp p (List.mem_cons_of_mem _ hp)
          obtain ⟨h1, h2, h3⟩ := hp
          have ek : en.key = .ref b := h2
          refine ⟨(k, b, en.val) :: xs, .cons ⟨rfl, rfl, h3⟩ x1, ?_, fun x hx => ?_, by simp [x4]⟩
          · rw [List.map_cons, ← x2]
            congr 1
            show en = ⟨k.hash X.w, .ref b, en.val⟩
            obtain ⟨a1, a2, a3⟩ := en
            simp only at h1 ek ⊢
            rw [h1, ek]
          · rcases List.mem_cons.mp hx with rfl | hx
            · exact ⟨Rp.nested I _ _ _ k r1 rfl e1, dp _ List.mem_cons_self⟩
            · exact x3 x hx
theorem dcn_dict (I : Inv X pins σ H s) {a : Addr} {es : List (NestedKey × V × V)} {ks : List D} (e : H a = some (dctO X.w a es)) (kn : KeysN es ks) (rk : Rps X.K X.w H (es.map (·.2.1)) ks) :
    (a == sysModules) = false ∧ ∃ xs : List (NestedKey × Addr × Value), KX xs es ∧ s.heap.DictOfH (nestedKind X.prog X.w) a xs := by
  obtain ⟨⟨hs, o, ents, ep, ho, hx, hd, hp⟩, _⟩ := I.hok a _ e
  obtain ⟨xs, x1, x2, x3, x4⟩ := dictH_of I hp rk kn.keys kn.tup kn.dp
  exact ⟨hs, xs, x1, o, ents, ep, ho, hx, hd, x2, x3, by rw [x4]; exact kn.nd⟩
/-- an empty dict, as one whose keys are tuples -/
theorem dk_empty_dict (I : Inv X pins σ H s) {a : Addr} (e : H a = some (.dK [])) : (a == sysModules) = false ∧ s.heap.DictOfH (nestedKind X.prog X.w) a [] := by
  obtain ⟨z, hd, vs, rel, o, es, ep, ho, hx, hdt, hk, hp, _⟩ := dk_of I.hok e
  cases rel
  cases hes : es.toList with
  | nil => exact ⟨hd, o, es, ep, ho, hx, hdt, hes, (fun _ h => nomatch h), List.nodup_nil⟩
  | cons _ _ => rw [hes] at hp; cases hp
/-- a value under a key that is a tuple -/
theorem atKey_dcn {es : List (NestedKey × V × V)} {xs : List (NestedKey × Addr × Value)} (h : KX xs es) {ks vs : List D} (tk : toKeys ks = some (es.map (·.1))) (rv : Rps X.K X.w F (es.map (·.2.2)) vs) (k : NestedKey) :
    (((keyAt k ks).bind fun i => vs[i]?) = none ∧ atKey xs k = none) ∨ ∃ i d v b u, keyAt k ks = some i ∧ vs[i]? = some d ∧ (es[i]?.map (·.2.2)) = some v ∧ atKey xs k = some (b, u) ∧ RelV v u ∧ Rp X.K X.w F v d := by
  induction h generalizing ks vs with
  | nil =>
    cases ks with
    | nil => exact .inl ⟨rfl, rfl⟩
    | cons d ds => obtain ⟨_, _, _, _, z⟩ := toKeys_cons tk; cases z
  | @cons p q es xs hpq ht ih =>
    obtain ⟨h1, h2, h3⟩ := hpq
    cases ks with
    | nil => simp [toKeys] at tk
    | cons d ds =>
      obtain ⟨k', r', e1, e2, e3⟩ := toKeys_cons tk
      simp only [List.map_cons, List.cons.injEq] at e3
      cases rv with
      | @cons _ _ dv dvs r1 r2 =>
        by_cases c : p.1 = k
        · refine .inr ⟨0, dv, p.2.2, q.2.1, q.2.2, ?_, rfl, rfl, ?_, h3, r1⟩
          · show (if toKey d = some k then some 0 else _) = some 0
            rw [if_pos (by rw [e1, ← e3.1, c])]
          · unfold atKey
            rw [List.find?_cons, decide_eq_true (by rw [← h1]; exact c)]
            rfl
        · have hk : keyAt k (d :: ds) = (keyAt k ds).map (· + 1) := by
            show (if toKey d = some k then some 0 else _) = _
            rw [if_neg (by rw [e1, ← e3.1]; simpa using c)]
          have ha : atKey (q :: xs) k = atKey xs k := by
            unfold atKey
            rw [List.find?_cons, decide_eq_false (by rw [← h1]; exact c)]
          rw [hk, ha]
          rcases ih (by rw [e2, e3.2]) r2 with ⟨i1, i2⟩ | ⟨i, d', v, b, u, i1, i2, i3, i4, i5, i6⟩
          · refine .inl ⟨?_, i2⟩
            cases q1 : keyAt k ds with
            | none => rfl
            | some i => rw [q1] at i1; simpa using i1
          · exact .inr ⟨i + 1, d', v, b, u, by rw [i1]; rfl, by simpa using i2, by simpa using i3, i4, i5, i6⟩
end
end Mp

set_option maxRecDepth 100000
set_option maxHeartbeats 4000000
/-! Comparisons. -/
namespace Mp
open PySem PySem.Spec PyProof.Rows L2

section
variable {X : Cx}
/-- a comparison's outcome as a result -/
def bD (g : D → D → Option Bool) : D → D → Option RV := fun a b => (g a b).map fun k => .fz (.bl k)
theorem rB.bl {F H : Hp} {K : PySem.W.Frag} {w : World} {Q : VK} {k : Bool} {g : Option Bool} {res : RV} (hg : g.map (fun k => RV.fz (.bl k)) = some res) (e : g = some k) (s : Same F H) (q : ∀ v F' H', Grow F H F' H' → Out1 K w H F' H' v res → Q v H') : Q (.bl k) H := by
  rw [e] at hg
  cases hg
  exact q _ F H (Grow.refl s) (.bl k)
theorem rB.bl' {F H : Hp} {K : PySem.W.Frag} {w : World} {Q : VK} {k k' : Bool} {g : Option Bool} {res : RV} (hg : g.map (fun k => RV.fz (.bl k)) = some res) (e : g = some k') (ek : k = k') (s : Same F H) (q : ∀ v F' H', Grow F H F' H' → Out1 K w H F' H' v res → Q v H') : Q (.bl k) H := by
  subst ek; exact rB.bl hg e s q
theorem room40 {A : Around} {a b : Nat} (hu : A.units + 64 < cLine) (h : a ≤ 40) : A.units + min a b < cLine := by omega
theorem room41 {A : Around} {a b : Nat} (hu : A.units + 64 < cLine) (h : b ≤ 40) : A.units + 1 + min a b < cLine := by omega
theorem keyAt_lt {k : NestedKey} : ∀ {ks : List D} {i : Nat}, keyAt k ks = some i → i < ks.length
  | [], i, h => by cases h
  | x :: r, i, h => by
    have h' : (if toKey x = some k then some 0 else (keyAt k r).map (· + 1)) = some i := h
    split at h'
    · cases h'; exact Nat.succ_pos _
    · obtain ⟨j, h1, h2⟩ := Option.map_eq_some_iff.mp h'
      have := keyAt_lt h1
      rw [List.length_cons]
      omega
theorem KeysN.leaf {es : List (NestedKey × V × V)} {ks : List D} (kn : KeysN es ks) (h : ks.all leafKey = true) : False := by
  cases ks with
  | nil => exact kn.ne (by have := kn.keys; simp [toKeys] at this; simpa using this)
  | cons a b =>
    have h1 := kn.tup
    simp only [List.all_cons, Bool.and_eq_true] at h1 h
    obtain ⟨ds, rfl⟩ := tupKey_tup h1.1
    exact absurd h.1 (by simp [leafKey])
theorem in_dict (hu : X.A.units + 64 < cLine) {op : CmpOp} {neg : Bool} (hop : op = if neg then .NotIn else .In) {pins : List (Addr × Obj)} {s : Shared} {σ : L2.St} {F H : Hp} {x y : V} {v u : Value} {Q : VK} {d : D} {ks vs : List D}
    (I : Inv X pins σ H s) (rx : RelV x v) (ry : RelV y u) (sm : Same F H) (ax : Ar X.K X.w F H x d) (ay : Ar X.K X.w F H y (.dct ks vs)) (hs : suits d ks = true)
    (q : Q (.bl (if neg then !((toKey d).bind fun k => keyAt k ks).isSome else ((toKey d).bind fun k => keyAt k ks).isSome)) H) : wpAny (model X.prog X.w) X.A (compareOp op v u) (EP X pins σ Q) X.xe s := by
  obtain ⟨a, rfl, ow⟩ := ay.dct sm
  cases ry
  unfold suits at hs
  rw [Bool.and_eq_true, Bool.or_eq_true, Bool.and_eq_true, Bool.and_eq_true] at hs
  obtain ⟨hgk, hs⟩ := hs
  rcases hs with ⟨hl, hl2⟩ | ⟨ht, ht2⟩
  · obtain ⟨k, rfl⟩ := leaf_kD hl
    have ex := Rp.kV (ax.rp sm)
    subst ex
    rcases ow with ⟨kvs, e, nd, rfl, rv⟩ | ⟨es, e, kn, rk, rv⟩
    · have g : DGet H a (kV k) (valV kvs k) := .k e
      have eq : (valV kvs k).isSome = ((toKey (kD k)).bind fun k => keyAt k (kvs.map fun p => kD p.1)).isSome := by
        rw [toKey_kD, Option.bind_some, keyAt_kD, valV_idx]
        cases qq : (kvs.findIdx? fun p => decide (p.1 = k)) with
        | none => rfl
        | some i =>
          obtain ⟨hi, _⟩ := List.findIdx?_eq_some_iff_getElem.mp qq
          rw [Option.bind_some, List.getElem?_eq_getElem (by simpa using hi)]
          rfl
      cases neg with
      | false =>
        subst hop
        exact d_in (by omega) I g rx fun s' I' => ⟨.bl (valV kvs k).isSome, H, I', rfl, by rw [eq]; exact q⟩
      | true =>
        subst hop
        exact d_notIn (by omega) I g rx fun s' I' => ⟨.bl (!(valV kvs k).isSome), H, I', rfl, by rw [eq]; exact q⟩
    · exact (kn.leaf hl2).elim
  · obtain ⟨ds, rfl⟩ := tupKey_tup ht
    have rpx := ax.rp sm
    obtain ⟨b, rfl⟩ := rp_ref rpx
    have rvb : v = .ref b := rx
    subst rvb
    unfold goodKey at hgk
    cases hk : toKey (.tup ds) with
    | none => rw [hk] at hgk; cases hgk
    | some k =>
      rw [hk] at hgk q
      simp only [decide_eq_true_eq] at hgk
      have nk : (nestedKind X.prog X.w).is s.heap k b := ⟨Rp.nested I _ _ _ k rpx rfl hk, hgk⟩
      have hroom : (nestedKind X.prog X.w).room X.A.in1 := by show X.A.units + 1 + 8 < cLine; omega
      obtain ⟨hsys, xs, dd, eq⟩ : (a == sysModules) = false ∧ ∃ xs, s.heap.DictOfH (nestedKind X.prog X.w) a xs ∧ (atKey xs k).isSome = (keyAt k ks).isSome := by
        rcases ow with ⟨kvs, e, nd, rfl, rv⟩ | ⟨es, e, kn, rk, rv⟩
        · have : kvs = [] := by
            cases kvs with
            | nil => rfl
            | cons p r =>
              simp only [List.map_cons, List.all_cons, Bool.and_eq_true] at ht2
              exact absurd ht2.1 (by cases p.1 <;> simp [kD, tupKey])
          subst this
          obtain ⟨h1, h2⟩ := dk_empty_dict I e
          exact ⟨h1, [], h2, rfl⟩
        · obtain ⟨h1, xs, h2, h3⟩ := dcn_dict I e kn (rk.up sm)
          refine ⟨h1, xs, h3, ?_⟩
          rcases atKey_dcn h2 kn.keys rv k with ⟨i1, i2⟩ | ⟨i, d', v', b', u', i1, i2, i3, i4, i5, i6⟩
          · rw [i2]
            cases q1 : keyAt k ks with
            | none => rfl
            | some i =>
              exfalso
              rw [q1, Option.bind_some] at i1
              have l1 : ks.length = vs.length := by
                have a1 := rk.length
                have a2 := rv.length
                simp only [List.length_map] at a1 a2
                omega
              have l2 : i < ks.length := keyAt_lt q1
              rw [List.getElem?_eq_none_iff] at i1
              omega
          · rw [i1, i4]; rfl
      rw [Option.bind_some] at q
      cases neg with
      | false =>
        subst hop
        exact wpAny_in_heap hroom nk hsys dd ⟨.bl (atKey xs k).isSome, H, I.tok _, rfl, by rw [eq]; exact q⟩
      | true =>
        subst hop
        exact wpAny_notIn_heap hroom nk hsys dd ⟨.bl (!(atKey xs k).isSome), H, I.tok _, rfl, by rw [eq]; exact q⟩
theorem plainAll_of {xs : List D} (h : plains xs = true) : PyData.plainAll (xs.map toPy) = true := by rw [← toPys_map]; exact plain_toPys xs h
/-- membership in a list, a tuple -/
theorem in_seq (hu : X.A.units + 64 < cLine) {op : CmpOp} {neg : Bool} (hop : op = if neg then .NotIn else .In) {pins : List (Addr × Obj)} {s : Shared} {σ : L2.St} {F H : Hp} {x y : V} {v u : Value} {Q : VK} {d e : D} {ys : List D}
    (I : Inv X pins σ H s) (rx : RelV x v) (ry : RelV y u) (sm : Same F H) (ax : Ar X.K X.w F H x d) (ay : Ar X.K X.w F H y e) (he : e = .lst ys ∨ e = .tup ys) (fx : fair d = true) (fy : fair e = true)
    (q : Q (.bl (if neg then !(ys.any fun z => eqvD z d) else ys.any fun z => eqvD z d)) H) : wpAny (model X.prog X.w) X.A (compareOp op v u) (EP X pins σ Q) X.xe s := by
  obtain ⟨as, r1⟩ := ax.reads I sm (fair_plain fx) rx
  obtain ⟨bs, r2⟩ := ay.reads I sm (fair_plain fy) ry
  have hd := plain_toPy d (fair_plain fx)
  have hu' : X.A.units + 1 + min (PyData.depthAll (ys.map toPy)) (toPy d).depth < cLine := by have := fair_depth fx; omega
  have any_eq : ((ys.map toPy).any fun y => PyData.eqv y (toPy d)) = ys.any fun z => eqvD z d := by rw [List.any_map]; rfl
  have hys : PyData.plainAll (ys.map toPy) = true := by
    rcases he with rfl | rfl <;> exact plainAll_of (by have := fair_plain fy; simpa [plain] using this)
  rcases he with rfl | rfl
  · have r2' : Reads s.heap u (.list (ys.map toPy)) bs := by rw [← toPys_map]; simpa [toPy] using r2
    cases neg with
    | false => subst hop; exact PySem.SeqAt.in_list_data r2' r1 hys hd hu' ⟨.bl _, H, I, rfl, by rw [any_eq]; exact q⟩
    | true => subst hop; exact PySem.SeqAt.notIn_list_data r2' r1 hys hd hu' ⟨.bl _, H, I, rfl, by rw [any_eq]; exact q⟩
  · have r2' : Reads s.heap u (.tuple (ys.map toPy)) bs := by rw [← toPys_map]; simpa [toPy] using r2
    cases neg with
    | false => subst hop; exact PySem.SeqAt.in_tuple_data r2' r1 hys hd hu' ⟨.bl _, H, I, rfl, by rw [any_eq]; exact q⟩
    | true => subst hop; exact PySem.SeqAt.notIn_tuple_data r2' r1 hys hd hu' ⟨.bl _, H, I, rfl, by rw [any_eq]; exact q⟩
theorem in_all (hu : X.A.units + 64 < cLine) {op : CmpOp} {neg : Bool} (hop : op = if neg then .NotIn else .In) {pins : List (Addr × Obj)} {s : Shared} {σ : L2.St} {F H : Hp} {x y : V} {v u : Value} {Q : VK} {d e : D} {k : Bool}
    (I : Inv X pins σ H s) (rx : RelV x v) (ry : RelV y u) (sm : Same F H) (ax : Ar X.K X.w F H x d) (ay : Ar X.K X.w F H y e) (hk : inD d e = some k) (q : Q (.bl (if neg then !k else k)) H) : wpAny (model X.prog X.w) X.A (compareOp op v u) (EP X pins σ Q) X.xe s := by
  unfold inD at hk
  split at hk
  · split at hk <;> cases hk
    rename_i hf
    rw [Bool.and_eq_true] at hf
    exact in_seq hu hop I rx ry sm ax ay (.inl rfl) hf.1 hf.2 q
  · split at hk <;> cases hk
    rename_i hf
    rw [Bool.and_eq_true] at hf
    exact in_seq hu hop I rx ry sm ax ay (.inr rfl) hf.1 hf.2 q
  · split at hk <;> cases hk
    rename_i hf
    exact in_dict hu hop I rx ry sm ax ay hf q
  · cases hk
theorem ordd_of {a b : D} (h : ordd a b = true) : fair a = true ∧ fair b = true ∧ PySem.W.alike (toPy a) (toPy b) = true ∧ toPy a ≠ .none := by
  unfold ordd at h
  simp only [Bool.and_eq_true] at h
  obtain ⟨⟨⟨h1, h2⟩, h3⟩, h4⟩ := h
  refine ⟨h1, h2, h3, fun e => ?_⟩
  have := fair_plain h1
  cases a <;> simp_all [toPy, plain]
/-- x is y -/
theorem is_all {op : CmpOp} {neg : Bool} (hop : op = if neg then .IsNot else .Is) {pins : List (Addr × Obj)} {s : Shared} {σ : L2.St} {F H : Hp} {x y : V} {v u : Value} {Q : VK} {d e : D} {k : Bool}
    (I : Inv X pins σ H s) (rx : RelV x v) (ry : RelV y u) (sm : Same F H) (ax : Ar X.K X.w F H x d) (ay : Ar X.K X.w F H y e) (hk : isD d e = some k) (q : Q (.bl (if neg then !k else k)) H) : wpAny (model X.prog X.w) X.A (compareOp op v u) (EP X pins σ Q) X.xe s := by
  have non : ∀ {d : D}, Ar X.K X.w F H x d → Ar X.K X.w F H y .non → k = decide (x = .non) → wpAny (model X.prog X.w) X.A (compareOp op v u) (EP X pins σ Q) X.xe s := by
    intro d ax ay hk
    subst hk
    cases ay.non
    cases neg with
    | false => subst hop; exact op_isN pins s σ H _ _ v u Q I rx ry ⟨rfl, q⟩
    | true => subst hop; exact op_notN pins s σ H _ _ v u Q I rx ry ⟨rfl, q⟩
  have ref : ∀ {d : D}, Ar X.K X.w F H x d → (∀ a, x ≠ .ref a) ∨ True := fun _ => .inr trivial
  unfold isD at hk
  split at hk <;> cases hk
  · exact non ax ay (by rw [ax.non]; rfl)
  · cases ax.bl; cases ay.bl
    rename_i a b
    cases (show v = Value.bool a from rx)
    cases (show u = Value.bool b from ry)
    by_cases e : a = b
    · subst e
      cases neg with
      | false => subst hop; exact wpAny_is_self rfl ⟨.bl true, H, I, rfl, by simpa using q⟩
      | true => subst hop; exact wpAny_isNot_self rfl ⟨.bl false, H, I, rfl, by simpa using q⟩
    · cases neg with
      | false => subst hop; exact wpAny_is_other rfl (fun z => e (Value.bool.inj z)) ⟨.bl false, H, I, rfl, by simpa [e] using q⟩
      | true => subst hop; exact wpAny_isNot_other rfl (fun z => e (Value.bool.inj z)) ⟨.bl true, H, I, rfl, by simpa [e] using q⟩
  · exact non ax ay (by rw [ax.bl]; rfl)
  · exact non ax ay (by rw [ax.int]; rfl)
  · exact non ax ay (by rw [ax.str]; rfl)
  · obtain ⟨a, xs, e, _⟩ := ax.lst sm; exact non ax ay (by rw [e]; rfl)
  · obtain ⟨a, xs, e, _⟩ := ax.tup sm; exact non ax ay (by rw [e]; rfl)
  · obtain ⟨a, e, _⟩ := ax.dct sm; exact non ax ay (by rw [e]; rfl)
  · cases ax with
    | fz h => cases h
    | ow _ h => exact h.elim
  · cases ax.non; cases ay.bl
    rename_i b
    cases (show v = Value.none from rx)
    cases (show u = Value.bool b from ry)
    cases neg with
    | false => subst hop; exact wpAny_is_other rfl (fun z => nomatch z) ⟨.bl false, H, I, rfl, by simpa using q⟩
    | true => subst hop; exact wpAny_isNot_other rfl (fun z => nomatch z) ⟨.bl true, H, I, rfl, by simpa using q⟩
/-- THE COMPARISONS -/
theorem op_cmp (hu : X.A.units + 64 < cLine) (op : CmpOp) : OpR X (compareOp op) (rB X.K X.w (bD (cmpD op))) := by
  intro pins s σ H x y v u Q I rx ry ⟨F, d, e, res, sm, ax, ay, hg, q⟩
  unfold bD at hg
  obtain ⟨k, hk, rfl⟩ := Option.map_eq_some_iff.mp hg
  have q' : Q (.bl k) H := q _ F H (Grow.refl sm) (.bl k)
  unfold cmpD at hk
  split at hk
  · split at hk <;> cases hk
    rename_i a b hf
    rw [Bool.and_eq_true] at hf
    obtain ⟨as, r1⟩ := ax.reads I sm (fair_plain hf.1) rx
    obtain ⟨bs, r2⟩ := ay.reads I sm (fair_plain hf.2) ry
    exact PySem.SeqAt.eq_plain r1 r2 (plain_toPy _ (fair_plain hf.1)) (plain_toPy _ (fair_plain hf.2)) (room40 hu (fair_depth hf.1)) ⟨.bl _, H, I, rfl, q'⟩
  · split at hk <;> cases hk
    rename_i a b hf
    rw [Bool.and_eq_true] at hf
    obtain ⟨as, r1⟩ := ax.reads I sm (fair_plain hf.1) rx
    obtain ⟨bs, r2⟩ := ay.reads I sm (fair_plain hf.2) ry
    exact PySem.SeqAt.ne_plain r1 r2 (plain_toPy _ (fair_plain hf.1)) (plain_toPy _ (fair_plain hf.2)) (room40 hu (fair_depth hf.1)) ⟨.bl _, H, I, rfl, q'⟩
  · split at hk <;> cases hk
    rename_i a b hf
    obtain ⟨h1, h2, h3, h4⟩ := ordd_of hf
    obtain ⟨as, r1⟩ := ax.reads I sm (fair_plain h1) rx
    obtain ⟨bs, r2⟩ := ay.reads I sm (fair_plain h2) ry
    exact PySem.W.lt_data r1 r2 h3 h4 (room40 hu (fair_depth h1)) ⟨.bl _, H, I, rfl, q'⟩
  · split at hk <;> cases hk
    rename_i a b hf
    obtain ⟨h1, h2, h3, h4⟩ := ordd_of hf
    obtain ⟨as, r1⟩ := ax.reads I sm (fair_plain h1) rx
    obtain ⟨bs, r2⟩ := ay.reads I sm (fair_plain h2) ry
    exact PySem.W.gt_data r1 r2 h3 h4 (room40 hu (fair_depth h1)) ⟨.bl _, H, I, rfl, q'⟩
  · split at hk <;> cases hk
    rename_i a b hf
    obtain ⟨h1, h2, h3, h4⟩ := ordd_of hf
    obtain ⟨as, r1⟩ := ax.reads I sm (fair_plain h1) rx
    obtain ⟨bs, r2⟩ := ay.reads I sm (fair_plain h2) ry
    exact PySem.W.le_data r1 r2 h3 h4 (room40 hu (fair_depth h1)) ⟨.bl _, H, I, rfl, q'⟩
  · split at hk <;> cases hk
    rename_i a b hf
    obtain ⟨h1, h2, h3, h4⟩ := ordd_of hf
    obtain ⟨as, r1⟩ := ax.reads I sm (fair_plain h1) rx
    obtain ⟨bs, r2⟩ := ay.reads I sm (fair_plain h2) ry
    exact PySem.W.ge_data r1 r2 h3 h4 (room40 hu (fair_depth h1)) ⟨.bl _, H, I, rfl, q'⟩
  · exact in_all hu (neg := false) rfl I rx ry sm ax ay hk q'
  · obtain ⟨k', hk', e'⟩ := Option.map_eq_some_iff.mp hk
    subst e'
    exact in_all hu (neg := true) rfl I rx ry sm ax ay hk' q'
  · exact is_all (neg := false) rfl I rx ry sm ax ay hk q'
  · obtain ⟨k', hk', e'⟩ := Option.map_eq_some_iff.mp hk
    subst e'
    exact is_all (neg := true) rfl I rx ry sm ax ay hk' q'
/-- a value's truth -/
theorem tru_val (hu : X.A.units + 64 < cLine) : TruR X (fun x H Q => ∃ F d k, Same F H ∧ Ar X.K X.w F H x d ∧ truD d = some k ∧ Q k H) := by
  intro pins s σ H x v Q I rx ⟨F, d, k, sm, ax, hk, q⟩
  have go : TruV X.K x H k → wpAny (model X.prog X.w) X.A (truthy v) (TP X pins σ Q) X.xe s := fun t => tru_ok pins s σ H x v Q I rx ⟨k, t, q⟩
  unfold truD at hk
  split at hk
  · cases hk; cases ax.non; exact go rfl
  · cases hk; cases ax.bl; exact go rfl
  · cases hk; cases ax.int; exact go rfl
  · split at hk <;> cases hk
    rename_i z hl
    cases ax.str
    refine go ⟨okLen_le hl, ?_⟩
    by_cases e : z.length = 0
    · simp [e]
    · rw [decide_eq_true (by simpa using e)]
      exact (bne_iff_ne.mpr (by omega)).symm
  · cases hk
    obtain ⟨a, xs, rfl, h1, h2⟩ := ax.lst sm
    refine go (.inl ⟨xs, SqL.of h1, ?_⟩)
    have := h2.nil_of
    cases xs <;> cases h2 <;> rfl
  · cases hk
    obtain ⟨a, xs, rfl, h1, h2⟩ := ax.tup sm
    refine go (.inr (.inl ⟨xs, h1, ?_⟩))
    cases h2 <;> rfl
  · split at hk <;> cases hk
    rename_i ks vs hl
    obtain ⟨a, rfl, ow⟩ := ax.dct sm
    rcases ow with ⟨kvs, e, nd, rfl, rv⟩ | ⟨es, e, kn, rk, rv⟩
    · refine go (.inr (.inr ⟨kvs, e, ?_⟩))
      cases kvs <;> rfl
    · exact (kn.leaf hl).elim
  · cases hk
end
end Mp

set_option maxRecDepth 100000
set_option maxHeartbeats 4000000
/-! Items, slices. -/
namespace Mp
open PySem PySem.Spec PyProof.Rows L2

section
variable {X : Cx}
theorem Rps.atI {K : PySem.W.Frag} {w : World} {H : Hp} {vs : List V} {ds : List D} {i : Int} {d : D} (h : Rps K w H vs ds) (e : L2.atI ds i = some d) : ∃ v, L2.atI vs i = some v ∧ Rp K w H v d := by
  unfold L2.atI at e ⊢
  rw [h.length]
  cases q : ixN ds.length i with
  | none => rw [q] at e; cases e
  | some j =>
    rw [q] at e
    obtain ⟨v, e1, e2⟩ := h.get (show ds[j]? = some d from e)
    exact ⟨v, e1, e2⟩
theorem atI_map {α β : Type} (f : α → β) (xs : List α) (i : Int) : L2.atI (xs.map f) i = (L2.atI xs i).map f := by
  unfold L2.atI
  rw [List.length_map]
  cases ixN xs.length i with
  | none => rfl
  | some j => simp
/-- a value of a dict -/
theorem get_dict (hu : X.A.units + 64 < cLine) {pins : List (Addr × Obj)} {s : Shared} {σ : L2.St} {F H : Hp} {y : V} {u : Value} {Q : Value → Shared → Prop} {x d : D} {a : Addr} {ks vs : List D}
    (I : Inv X pins σ H s) (ry : RelV y u) (sm : Same F H) (ay : Ar X.K X.w F H y x) (ow : OwnAt X.K X.w F H a (.dct ks vs)) (hs : suits x ks = true) (hg : getK ks vs x = some (some d))
    (q : ∀ v z s', Inv X pins σ H s' → RelV v z → Rp X.K X.w F v d → Q z s') : wpAny (model X.prog X.w) X.A (getItem (.ref a) u) Q X.xe s := by
  unfold suits at hs
  rw [Bool.and_eq_true, Bool.or_eq_true, Bool.and_eq_true, Bool.and_eq_true] at hs
  obtain ⟨hgk, hs⟩ := hs
  rcases hs with ⟨hl, hl2⟩ | ⟨ht, ht2⟩
  · obtain ⟨k, rfl⟩ := leaf_kD hl
    have ex := Rp.kV (ay.rp sm)
    subst ex
    rcases ow with ⟨kvs, e, nd, rfl, rv⟩ | ⟨es, e, kn, rk, rv⟩
    · rcases rv.valV k with ⟨h1, _⟩ | ⟨d', v, h1, h2, h3⟩
      · rw [h1] at hg; simp at hg
      · rw [h1] at hg
        simp only [Option.some.injEq] at hg
        subst hg
        have g : DGet H a (kV k) (some v) := by rw [← h2]; exact .k e
        exact d_getItem (by omega) I g ry fun z s' I' rz => q v z s' I' rz h3
    · exact (kn.leaf hl2).elim
  · obtain ⟨ds, rfl⟩ := tupKey_tup ht
    have rpy := ay.rp sm
    obtain ⟨b, rfl⟩ := rp_ref rpy
    cases (show u = .ref b from ry)
    unfold goodKey at hgk
    unfold getK at hg
    cases hk : toKey (.tup ds) with
    | none => rw [hk] at hgk; cases hgk
    | some k =>
      rw [hk] at hgk hg
      simp only [decide_eq_true_eq] at hgk
      simp only [Option.map_some, Option.some.injEq] at hg
      have nk : (nestedKind X.prog X.w).is s.heap k b := ⟨Rp.nested I _ _ _ k rpy rfl hk, hgk⟩
      have hroom : (nestedKind X.prog X.w).room X.A.in1 := by show X.A.units + 1 + 8 < cLine; omega
      rcases ow with ⟨kvs, e, nd, rfl, rv⟩ | ⟨es, e, kn, rk, rv⟩
      · have : kvs = [] := by
          cases kvs with
          | nil => rfl
          | cons p r =>
            simp only [List.map_cons, List.all_cons, Bool.and_eq_true] at ht2
            exact absurd ht2.1 (by cases p.1 <;> simp [kD, tupKey])
        subst this
        simp [keyAt] at hg
      · obtain ⟨h1, xs, h2, h3⟩ := dcn_dict I e kn (rk.up sm)
        rcases atKey_dcn h2 kn.keys rv k with ⟨i1, i2⟩ | ⟨i, d', v', b', u', i1, i2, i3, i4, i5, i6⟩
        · rw [i1] at hg; cases hg
        · rw [i1] at hg
          simp only [Option.bind_some] at hg
          rw [i2] at hg
          simp only [Option.some.injEq] at hg
          subst hg
          exact wpAny_getItem_heap hroom nk h3 i4 (q v' u' _ (I.tok _) i5 i6)
theorem dct_type {pins : List (Addr × Obj)} {s : Shared} {σ : L2.St} {F H : Hp} {a : Addr} {ks vs : List D} (I : Inv X pins σ H s) (sm : Same F H) (ow : OwnAt X.K X.w F H a (.dct ks vs)) : ∃ ob, s.heap.get? a = some ob ∧ ob.ExactDict := by
  rcases ow with ⟨kvs, e, nd, rfl, rv⟩ | ⟨es, e, kn, rk, rv⟩
  · obtain ⟨_, _, _, _, o, _, _, e, ex, _⟩ := I.hok a _ e
    exact ⟨o, e, ex⟩
  · obtain ⟨⟨_, o, _, _, ho, hx, _⟩, _⟩ := I.hok a _ e
    exact ⟨o, ho, hx⟩
def fzD (g : D → D → Option D) : D → D → Option RV := fun a b => (g a b).map .fz
/-- ITEMS -/
theorem ix_all (hu : X.A.units + 64 < cLine) : IxR X (rB X.K X.w (fzD idxD)) := by
  intro value slice pins s σ H x y v u Q I rx ry ⟨F, d, e, res, sm, ax, ay, hg, q⟩ hs
  unfold fzD at hg
  obtain ⟨r, hr, rfl⟩ := Option.map_eq_some_iff.mp hg
  have fin : ∀ {z : V}, Rp X.K X.w F z r → Q z H := fun h => q _ F H (Grow.refl sm) h
  unfold idxD at hr
  split at hr
  · obtain ⟨a, xs, rfl, h1, h2⟩ := ax.lst sm
    cases ay.int
    obtain ⟨z, e1, e2⟩ := h2.atI hr
    exact ix_list value slice pins s σ H _ _ v u Q I rx ry ⟨a, xs, _, z, rfl, rfl, SqL.of h1, e1, fin e2⟩ hs
  · obtain ⟨a, rfl, h1⟩ := ax.scr sm
    cases ay.int
    obtain ⟨i, e1, rfl⟩ := Option.map_eq_some_iff.mp hr
    exact ix_list value slice pins s σ H _ _ v u Q I rx ry ⟨a, _, _, .int i, rfl, rfl, h1, by rw [atI_map, e1]; rfl, fin (.int i)⟩ hs
  · obtain ⟨a, xs, rfl, h1, h2⟩ := ax.tup sm
    cases ay.int
    obtain ⟨z, e1, e2⟩ := h2.atI hr
    exact ix_tup value slice pins s σ H _ _ v u Q I rx ry ⟨a, xs, _, z, rfl, rfl, h1, e1, fin e2⟩ hs
  · split at hr
    · rename_i hl
      cases ax.str; cases ay.int
      obtain ⟨c, e1, rfl⟩ := Option.map_eq_some_iff.mp hr
      exact ix_str value slice pins s σ H _ _ v u Q I rx ry ⟨_, _, c, rfl, rfl, okLen_le hl, e1, fin (.str _)⟩ hs
    · cases hr
  · split at hr
    · rename_i ks vs hsu
      obtain ⟨a, rfl, ow⟩ := ax.dct sm
      cases (show v = .ref a from rx)
      obtain ⟨ob, ho, hx⟩ := dct_type I sm ow
      have hr' : getK ks vs e = some (some r) := by
        obtain ⟨o, h1, h2⟩ := Option.bind_eq_some_iff.mp hr
        rw [h1]; exact congrArg some h2
      exact tail_any ⟨ob, ho, hx.1⟩ PySem.F.slot_dict_getitem.lookup (get_dict hu I ry sm ay ow hsu hr' fun z z' s' I' rz rp => ⟨z, H, I', rz, fin rp⟩) hs
    · cases hr
  · cases hr
/-- what a slice asks and gives -/
theorem Rps.cut {K : PySem.W.Frag} {w : World} {H : Hp} {vs : List V} {ds : List D} (h : Rps K w H vs ds) (lo hi : Option Int) : Rps K w H (cutV vs lo hi) (cutL ds lo hi) := by
  unfold cutV cutL
  rw [h.length]
  exact (h.drop _).take _
theorem cut_whole {α : Type} {xs : List α} {lo hi : Option Int} (h : HT.sIx xs.length 0 lo = 0 ∧ HT.sIx xs.length xs.length hi = xs.length) : cutL xs lo hi = xs := by
  unfold cutL
  rw [h.1, h.2]
  simp
theorem Rps.ints {K : PySem.W.Frag} {w : World} {H : Hp} : ∀ ns : List Int, Rps K w H (ns.map V.int) (ns.map D.int)
  | [] => .nil
  | n :: r => .cons (.int n) (Rps.ints r)
theorem cut_map {α β : Type} (f : α → β) (xs : List α) (lo hi : Option Int) : cutL (xs.map f) lo hi = (cutL xs lo hi).map f := by
  unfold cutL
  rw [List.length_map, List.map_take, List.map_drop]
theorem cutV_ints (ns : List Int) (lo hi : Option Int) : cutV (ns.map V.int) lo hi = (cutL ns lo hi).map V.int := cut_map V.int ns lo hi
def rSl (K : PySem.W.Frag) (w : World) : V → Option Int → Option Int → Hp → VK → Prop := fun x lo hi H Q => ∃ F d res, Same F H ∧ Ar K w F H x d ∧ slcD d lo hi = some res ∧ ∀ v F' H', Grow F H F' H' → Out1 K w H F' H' v res → Q v H'
theorem sl_all : SlR X (rSl X.K X.w) := by
  intro pins s σ H x v vl vu lo hi sl Q I rx hs pl pu ⟨F, d, res, sm, ax, hg, q⟩
  unfold slcD at hg
  split at hg <;> cases hg
  · obtain ⟨a, xs, rfl, h1, h2⟩ := ax.lst sm
    refine sl_list pins s σ H _ v vl vu lo hi sl Q I rx hs pl pu ⟨a, xs, rfl, SqL.of h1, fun p hp => ?_⟩
    have := out_lst sm hp (h2.cut lo hi)
    exact q _ _ _ this.1 this.2
  · rename_i ns
    obtain ⟨a, rfl, h1⟩ := ax.scr sm
    refine sl_list pins s σ H _ v vl vu lo hi sl Q I rx hs pl pu ⟨a, _, rfl, h1, fun p hp => ?_⟩
    rw [cutV_ints]
    have := out_lst (K := X.K) (w := X.w) sm hp (Rps.ints (cutL ns lo hi))
    exact q _ _ _ this.1 this.2
  · obtain ⟨a, xs, rfl, h1, h2⟩ := ax.tup sm
    refine sl_tupA pins s σ H _ v vl vu lo hi sl Q I rx hs pl pu ⟨a, xs, rfl, h1, fun hw => ?_, fun hw p hp => ?_⟩
    · cases ax with
      | fz h => exact q _ F H (Grow.refl sm) (by rw [h2.length] at hw; rw [cut_whole hw]; exact h)
      | ow _ h => exact h.elim
    · have := out_tup sm hp (h2.cut lo hi)
      exact q _ _ _ this.1 this.2
end
end Mp

set_option maxRecDepth 100000
set_option maxHeartbeats 4000000
/-! Built-in functions. -/
namespace Mp
open PySem PySem.Spec PyProof.Rows L2

inductive Ars (K : PySem.W.Frag) (w : World) (F H : Hp) : List V → List D → Prop
  | nil : Ars K w F H [] []
  | cons {v : V} {d : D} {vs : List V} {ds : List D} : Ar K w F H v d → Ars K w F H vs ds → Ars K w F H (v :: vs) (d :: ds)
theorem Ars.one {K : PySem.W.Frag} {w : World} {F H : Hp} {vs : List V} {d : D} (h : Ars K w F H vs [d]) : ∃ v, vs = [v] ∧ Ar K w F H v d := by
  cases h with
  | cons h t => cases t; exact ⟨_, rfl, h⟩
theorem Ars.two {K : PySem.W.Frag} {w : World} {F H : Hp} {vs : List V} {d e : D} (h : Ars K w F H vs [d, e]) : ∃ v u, vs = [v, u] ∧ Ar K w F H v d ∧ Ar K w F H u e := by
  cases h with
  | cons h t =>
    cases t with
    | cons h' t => cases t; exact ⟨_, _, rfl, h, h'⟩
def rC (K : PySem.W.Frag) (w : World) (g : List D → Option RV) : List V → Hp → VK → Prop := fun xs H Q => ∃ F ds res, Same F H ∧ Ars K w F H xs ds ∧ g ds = some res ∧ ∀ v F' H', Grow F H F' H' → Out1 K w H F' H' v res → Q v H'
/-- what a name of a built-in stands for -/
def bltV : Blt → Value
  | .len => .builtin "len" | .int => .type "int" | .abs => .builtin "abs" | .max2 => .builtin "max" | .min2 => .builtin "min" | .max1 => .builtin "max" | .min1 => .builtin "min"
  | .sum => .builtin "sum" | .all => .builtin "all" | .any => .builtin "any" | .sorted => .builtin "sorted" | .list => .type "list" | .tuple => .type "tuple" | .set => .type "set"
  | .dict => .type "dict" | .str => .type "str" | .repr => .builtin "repr" | .divmod => .builtin "divmod" | .bool => .type "bool"

section
variable {X : Cx}
theorem allBl_eq : ∀ {xs : List D} {bs : List Bool}, allBl xs = some bs → xs = bs.map D.bl
  | [], bs, h => by cases h; rfl
  | .bl b :: r, bs, h => by
    obtain ⟨q, h1, h2⟩ := Option.map_eq_some_iff.mp (show (allBl r).map (b :: ·) = some bs from h)
    subst h2
    rw [allBl_eq h1] <;> rfl
  | .non :: _, _, h => by cases h
  | .int _ :: _, _, h => by cases h
  | .str _ :: _, _, h => by cases h
  | .lst _ :: _, _, h => by cases h
  | .tup _ :: _, _, h => by cases h
  | .dct _ _ :: _, _, h => by cases h
  | .set _ :: _, _, h => by cases h
  | .obj _ _ _ :: _, _, h => by cases h
  | .fn _ :: _, _, h => by cases h
  | .scr _ :: _, _, h => by cases h
theorem allInt_eq : ∀ {xs : List D} {bs : List Int}, allInt xs = some bs → xs = bs.map D.int
  | [], bs, h => by cases h; rfl
  | .int b :: r, bs, h => by
    obtain ⟨q, h1, h2⟩ := Option.map_eq_some_iff.mp (show (allInt r).map (b :: ·) = some bs from h)
    subst h2
    rw [allInt_eq h1] <;> rfl
  | .non :: _, _, h => by cases h
  | .bl _ :: _, _, h => by cases h
  | .str _ :: _, _, h => by cases h
  | .lst _ :: _, _, h => by cases h
  | .tup _ :: _, _, h => by cases h
  | .dct _ _ :: _, _, h => by cases h
  | .set _ :: _, _, h => by cases h
  | .obj _ _ _ :: _, _, h => by cases h
  | .fn _ :: _, _, h => by cases h
  | .scr _ :: _, _, h => by cases h
theorem Rps.bls {K : PySem.W.Frag} {w : World} {H : Hp} : ∀ {vs : List V} {bs : List Bool}, Rps K w H vs (bs.map D.bl) → vs = bs.map V.bl
  | _, [], h => by cases h; rfl
  | _, _ :: _, h => by
    cases h with
    | cons h1 h2 => cases h1; rw [Rps.bls h2]; rfl
theorem Rps.intsV {K : PySem.W.Frag} {w : World} {H : Hp} : ∀ {vs : List V} {bs : List Int}, Rps K w H vs (bs.map D.int) → vs = bs.map V.int
  | _, [], h => by cases h; rfl
  | _, _ :: _, h => by
    cases h with
    | cons h1 h2 => cases h1; rw [Rps.intsV h2]; rfl
theorem maxL_spec : ∀ (ns : List Int) (m : Int), (maxL m ns = m ∨ maxL m ns ∈ ns) ∧ m ≤ maxL m ns ∧ ∀ y ∈ ns, y ≤ maxL m ns
  | [], m => ⟨.inl rfl, Int.le_refl _, (fun _ h => nomatch h)⟩
  | x :: r, m => by
    show (maxL (if x > m then x else m) r = m ∨ maxL (if x > m then x else m) r ∈ x :: r) ∧ m ≤ maxL (if x > m then x else m) r ∧ ∀ y ∈ x :: r, y ≤ maxL (if x > m then x else m) r
    obtain ⟨h1, h2, h3⟩ := maxL_spec r (if x > m then x else m)
    by_cases c : x > m
    · rw [if_pos c] at h1 h2 h3 ⊢
      refine ⟨.inr (h1.elim (fun e => by rw [e]; exact List.mem_cons_self) fun e => List.mem_cons_of_mem _ e), by omega, fun y hy => ?_⟩
      rcases List.mem_cons.mp hy with rfl | hy
      · exact h2
      · exact h3 y hy
    · rw [if_neg c] at h1 h2 h3 ⊢
      refine ⟨h1.imp id fun e => List.mem_cons_of_mem _ e, h2, fun y hy => ?_⟩
      rcases List.mem_cons.mp hy with rfl | hy
      · omega
      · exact h3 y hy
theorem minL_spec : ∀ (ns : List Int) (m : Int), (minL m ns = m ∨ minL m ns ∈ ns) ∧ minL m ns ≤ m ∧ ∀ y ∈ ns, minL m ns ≤ y
  | [], m => ⟨.inl rfl, Int.le_refl _, (fun _ h => nomatch h)⟩
  | x :: r, m => by
    show (minL (if x < m then x else m) r = m ∨ minL (if x < m then x else m) r ∈ x :: r) ∧ minL (if x < m then x else m) r ≤ m ∧ ∀ y ∈ x :: r, minL (if x < m then x else m) r ≤ y
    obtain ⟨h1, h2, h3⟩ := minL_spec r (if x < m then x else m)
    by_cases c : x < m
    · rw [if_pos c] at h1 h2 h3 ⊢
      refine ⟨.inr (h1.elim (fun e => by rw [e]; exact List.mem_cons_self) fun e => List.mem_cons_of_mem _ e), by omega, fun y hy => ?_⟩
      rcases List.mem_cons.mp hy with rfl | hy
      · exact h2
      · exact h3 y hy
    · rw [if_neg c] at h1 h2 h3 ⊢
      refine ⟨h1.imp id fun e => List.mem_cons_of_mem _ e, h2, fun y hy => ?_⟩
      rcases List.mem_cons.mp hy with rfl | hy
      · omega
      · exact h3 y hy
theorem Grow.fz {F H : Hp} {K : PySem.W.Frag} {w : World} {Q : VK} {v : V} {d : D} (s : Same F H) (q : ∀ v F' H', Grow F H F' H' → Out1 K w H F' H' v (.fz d) → Q v H') (r : Rp K w F v d) : Q v H := q v F H (Grow.refl s) r

def OkB (X : Cx) (f : Blt) : Prop := CallR X (bltV f) (rC X.K X.w (bltD f))

theorem ok_len : OkB X .len := by
  intro pins s σ H xs us Q I r ⟨F, ds, res, sm, as, hg, q⟩
  unfold bltD at hg
  split at hg <;> (first | contradiction | cases hg | skip)
  · rename_i ys _
    obtain ⟨v, rfl, a⟩ := as.one
    obtain ⟨p, zs, rfl, h1, h2⟩ := a.lst sm
    exact call_len_seq pins s σ H _ us Q I r ⟨p, zs, rfl, .inl (SqL.of h1), by rw [h2.length]; exact Grow.fz sm q (.int _)⟩
  · obtain ⟨v, rfl, a⟩ := as.one
    obtain ⟨p, rfl, h1⟩ := a.scr sm
    exact call_len_seq pins s σ H _ us Q I r ⟨p, _, rfl, .inl h1, by rw [List.length_map]; exact Grow.fz sm q (.int _)⟩
  · obtain ⟨v, rfl, a⟩ := as.one
    obtain ⟨p, zs, rfl, h1, h2⟩ := a.tup sm
    exact call_len_seq pins s σ H _ us Q I r ⟨p, zs, rfl, .inr h1, by rw [h2.length]; exact Grow.fz sm q (.int _)⟩
  · split at hg <;> cases hg
    rename_i hl
    obtain ⟨v, rfl, a⟩ := as.one
    cases a.str
    exact call_len_str pins s σ H _ us Q I r ⟨_, rfl, okLen_le hl, Grow.fz sm q (.int _)⟩
  · obtain ⟨v, rfl, a⟩ := as.one
    obtain ⟨p, rfl, ow⟩ := a.dct sm
    obtain ⟨u, rfl, rx⟩ := vals1 r
    cases rx
    rcases ow with ⟨kvs, e, nd, rfl, rv⟩ | ⟨es, e, kn, rk, rv⟩
    · refine d_len I (.inl e) fun t s' I' => ⟨.int kvs.length, H, I', ⟨_, rfl⟩, ?_⟩
      rw [List.length_map] at q
      exact Grow.fz sm q (.int _)
    · obtain ⟨hs, xs, x1, x2⟩ := dcn_dict I e kn (rk.up sm)
      have hl : es.length = xs.length := Paired.length x1
      have hz := kn.sz
      refine PySem.call_len_dictH hs x2 (by omega) ⟨.int xs.length, H, I.tok _, ⟨_, rfl⟩, ?_⟩
      have : (es.map (·.2.1)).length = _ := rk.length
      rw [List.length_map] at this
      rw [← hl, this]
      exact Grow.fz sm q (.int _)
/-- values and what they stand for -/
abbrev RD (K : PySem.W.Frag) (w : World) (F : Hp) : Value → D → Prop := fun u d => ∃ x, RelV x u ∧ Rp K w F x d
theorem each_of {K : PySem.W.Frag} {w : World} {F : Hp} : ∀ {zs : List V} {its : List Value} {ds : List D}, Vals zs its → Rps K w F zs ds → PySem.W.EachIs (RD K w F) its ds
  | _, _, [], r, h => by cases h; cases r; exact .nil
  | _, _, _ :: _, r, h => by
    cases h with
    | cons h1 h2 =>
      cases r with
      | cons r1 r2 => exact .cons ⟨_, r1, h1⟩ (each_of r2 h2)
theorem of_each {K : PySem.W.Frag} {w : World} {F : Hp} : ∀ {its : List Value} {ds : List D}, PySem.W.EachIs (RD K w F) its ds → ∃ zs, Vals zs its ∧ Rps K w F zs ds
  | _, _, .nil => ⟨[], .nil, .nil⟩
  | _, _, .cons ⟨x, h1, h2⟩ t => by
    obtain ⟨zs, t1, t2⟩ := of_each t
    exact ⟨x :: zs, .cons h1 t1, .cons h2 t2⟩
theorem each_reads {pins : List (Addr × Obj)} {s : Shared} {σ : L2.St} {F H : Hp} (I : Inv X pins σ H s) (sm : Same F H) {its : List Value} {ds : List D} (hf : ∀ d ∈ ds, plain d = true) (h : PySem.W.EachIs (RD X.K X.w F) its ds) : PySem.W.EachIs (fun v b => ∃ as, Reads s.heap v (toPy b) as) its ds :=
  (PySem.W.each_mem h).mono fun v d ⟨⟨x, h1, h2⟩, hd⟩ => (Ar.fz h2 : Ar X.K X.w F H x d).reads I sm (hf d hd) h1
theorem sortable_fair {ds : List D} (h : sortable ds = true) : (∀ d ∈ ds, fair d = true) ∧ PySem.W.AllAlike (ds.map toPy) ∧ PySem.W.Sortable (ds.map toPy) := by
  unfold sortable at h
  simp only [Bool.and_eq_true, Bool.or_eq_true, List.all_eq_true] at h
  obtain ⟨⟨h1, h2⟩, h3⟩ := h
  refine ⟨h1, fun d hd d' hd' => ?_, ?_⟩
  · obtain ⟨b, hb, rfl⟩ := List.mem_map.mp hd
    obtain ⟨b', hb', rfl⟩ := List.mem_map.mp hd'
    exact h2 b hb b' hb'
  · rcases h3 with h3 | h3
    · refine .inl fun d hd => ?_
      obtain ⟨b, hb, rfl⟩ := List.mem_map.mp hd
      have := h3 b hb
      split at this
      · exact ⟨_, _, by simp only [toPy, toPys]; exact rfl⟩
      · cases this
    · refine .inr fun d hd => ?_
      obtain ⟨b, hb, rfl⟩ := List.mem_map.mp hd
      have hp := fair_plain (h1 b hb)
      have := h3 b hb
      cases b <;> simp_all [toPy, plain]
theorem Rps.keys {K : PySem.W.Frag} {w : World} {F : Hp} : ∀ kvs : List (Key × V), Rps K w F (kvs.map fun p => kV p.1) (kvs.map fun p => kD p.1)
  | [] => .nil
  | (.inl i, _) :: r => .cons (.int i) (Rps.keys r)
  | (.inr i, _) :: r => .cons (.str i) (Rps.keys r)
theorem each_keys_read {h : Heap} {a : Addr} : ∀ {kvs : List (Key × V)} {us : List Value}, Vals (kvs.map fun p => kV p.1) us → PySem.W.EachIs (fun v b => ∃ as, Reads h v (toPy b) as ∧ a ∉ as) us (kvs.map fun p => kD p.1)
  | [], _, r => by cases r; exact .nil
  | (.inl i, _) :: _, _, r => by
    cases r with
    | cons r1 r2 => obtain ⟨t, rfl⟩ := r1; exact .cons ⟨[], by simp only [kD, toPy]; exact .int i t, by simp⟩ (each_keys_read r2)
  | (.inr i, _) :: _, _, r => by
    cases r with
    | cons r1 r2 => obtain ⟨t, rfl⟩ := r1; exact .cons ⟨[], by simp only [kD, toPy]; exact .str i t, by simp⟩ (each_keys_read r2)
theorem ok_sorted (hc : X.calm = true) (hu : X.A.units + 64 < cLine) : OkB X .sorted := by
  intro pins s σ H xs us Q I r ⟨F, ds, res, sm, as, hg, q⟩
  unfold bltD at hg
  split at hg <;> (first | contradiction | cases hg | skip)
  · split at hg <;> cases hg
    rename_i ds hs
    rw [Bool.and_eq_true] at hs
    obtain ⟨hs, hl⟩ := hs
    obtain ⟨v, rfl, a⟩ := as.one
    obtain ⟨p, zs, rfl, h1, h2⟩ := a.lst sm
    obtain ⟨u, rfl, rx⟩ := vals1 r
    cases rx
    obtain ⟨its, rv, pl, hz⟩ := I.list (SqL.of h1)
    obtain ⟨s1, s2, s3⟩ := sortable_fair hs
    have e1 := each_of rv h2
    refine PySem.W.sorted_data (enc := toPy) (R := RD X.K X.w F) pl.isList e1 (each_reads I sm (fun d hd => fair_plain (s1 d hd)) e1) s2 s3 (okLen_le hl) (fun d hd => by have := fair_depth (s1 d hd); omega) fun out ol oe => ?_
    obtain ⟨zs', v1, v2⟩ := of_each oe
    obtain ⟨e, he⟩ := sortedAll_at s.heap its out.toArray
    have hf := I.hok.fresh (Nat.le_succ s.heap.objs.size)
    refine ⟨.ref (s.heap.objs.size + 1), upd H (s.heap.objs.size + 1) (.lst zs'), I.laid (t' := s.toks) (fun b u e => sortedAll_old e) (Nat.le_succ _)
      (show ObjOk X.prog X.w _ _ _ (.lst zs') from ⟨by rw [v1.length, ol]; exact okLen_le hl, out, e, v1, he⟩), rfl, ?_⟩
    have := out_lst sm hf v2
    exact q _ _ _ this.1 this.2
  · split at hg <;> cases hg
    rename_i ks vs hs
    rw [Bool.and_eq_true, Bool.and_eq_true] at hs
    obtain ⟨⟨hs, hlf⟩, hl⟩ := hs
    obtain ⟨v, rfl, a⟩ := as.one
    obtain ⟨p, rfl, ow⟩ := a.dct sm
    obtain ⟨u, rfl, rx⟩ := vals1 r
    cases rx
    rcases ow with ⟨kvs, e, nd, rfl, rv⟩ | ⟨es, e, kn, rk, rv⟩
    rotate_left
    · exact (kn.leaf hlf).elim
    obtain ⟨s1, s2, s3⟩ := sortable_fair hs
    obtain ⟨z, lo, vs, rel, dd⟩ := dk_of I.hok e
    obtain ⟨ep, hat⟩ := dd.dictAt
    have hkeys : vs.map (·.1) = kvs.map (·.1) := rel.keys.symm
    have hl2 : vs.length = kvs.length := by
      have e := congrArg List.length hkeys
      rw [List.length_map, List.length_map] at e
      exact e
    refine Calls.call_function_entry PyProof.Rows.kind_sorted PyProof.Rows.plain_sorted PyProof.Rows.entry_sorted (PyProof.Rows.args_sorted1 _) ?_
    unfold Builtin.«sorted»
    refine wpAny_bind (m := checkCount "sorted" 1 1 _) (wpAny_pure ?_)
    refine wpAny_bind (PySem.W.kdu_collect (A := X.A.in1) (PySem.W.kdl_dict (knd := mixKind X.prog X.w) (kvs := vs) (ep := ep) lo) (I.ok.hd hc) hat (by rw [hl2]; exact z) fun h' tk acc hk hacc => ?_)
    have hal : acc.toList.length = kvs.length := by rw [Array.length_toList, hacc.1, hl2]
    have hS : Vals (kvs.map fun p => kV p.1) acc.toList := by
      have := keys_at (us := acc.toList) (vs := vs) (by rw [hal, hl2]) fun j v e => hacc.2 j v (by rw [← Array.getElem?_toList]; exact e)
      have e2 : (vs.map fun p => kV p.1) = kvs.map fun p => kV p.1 := by
        have := congrArg (List.map kV) hkeys
        rwa [List.map_map, List.map_map] at this
      rwa [e2] at this
    have I1 : Inv X pins σ H { s with heap := h', toks := tk } := I.kept hk
    have hlen : kvs.length < 1000000 := by have := okLen_lt hl; rwa [List.length_map] at this
    refine wpAny_bind (wpAny_newList ?_ (by rw [hal, sizeLine_eq]; omega))
    have hoL : (h'.push (seqObj "list" acc.toList.toArray 0)).get? h'.objs.size = some (seqObj "list" acc.toList.toArray 0) := Heap.get?_push_size _ rfl
    have rk : Rps X.K X.w F (kvs.map fun p => kV p.1) (kvs.map fun p => kD p.1) := Rps.keys kvs
    have e1 := each_of hS rk
    have er : PySem.W.EachIs (fun v b => ∃ as, Reads (h'.push (seqObj "list" acc.toList.toArray 0)) v (toPy b) as ∧ h'.objs.size ∉ as) acc.toList (kvs.map fun p => kD p.1) := each_keys_read hS
    show wpAny _ _ _ _ _ { s with heap := h'.push (seqObj "list" acc.toList.toArray 0), toks := tk }
    refine wpAny_bind (wpAny_holding (PySem.W.list_sort_data (enc := toPy) (R := RD X.K X.w F) (s := { s with heap := h'.push (seqObj "list" acc.toList.toArray 0), toks := tk }) hoL e1 er s2 s3 (okLen_le hl) (fun d hd => by have := fair_depth (s1 d hd); show X.A.units + 1 + 1 + _ < _; omega) fun out ol oe => ?_))
    obtain ⟨zs', v1, v2⟩ := of_each oe
    obtain ⟨e', he'⟩ := PyProof.Rows.sortedHeap_at (vs := acc.toList) (out := out.toArray) hoL
    have hf := I1.hok.fresh (Nat.le_refl h'.objs.size)
    refine wpAny_pure ⟨_, rfl, .ref h'.objs.size, upd H h'.objs.size (.lst zs'), I1.laid (t' := tk) (fun b u e => ?_) (Nat.le_refl _)
      (show ObjOk X.prog X.w _ _ _ (.lst zs') from ⟨by rw [v1.length, ol, List.length_map]; rw [sizeLine_eq]; omega, out, e', v1, he'⟩), rfl, ?_⟩
    · have hb : b < h'.objs.size := Heap.lt_size e
      rw [PyProof.Rows.sortedHeap_old (Nat.ne_of_lt hb) (by rw [size_push']; exact Nat.lt_succ_of_lt hb)]
      exact Heap.get?_push_of_some _ e
    · have := out_lst sm hf v2
      exact q _ _ _ this.1 this.2
theorem ok_int : OkB X .int := by
  intro pins s σ H xs us Q I r ⟨F, ds, res, sm, as, hg, q⟩
  unfold bltD at hg
  split at hg <;> (first | contradiction | cases hg | skip)
  · obtain ⟨v, rfl, a⟩ := as.one
    cases a.int
    exact call_int1 pins s σ H _ us Q I r (.inl ⟨_, rfl, Grow.fz sm q (.int _)⟩)
  · obtain ⟨v, rfl, a⟩ := as.one
    cases a.bl
    exact call_int1 pins s σ H _ us Q I r (.inr ⟨_, rfl, Grow.fz sm q (.int _)⟩)
theorem ok_abs : OkB X .abs := by
  intro pins s σ H xs us Q I r ⟨F, ds, res, sm, as, hg, q⟩
  unfold bltD at hg
  split at hg <;> (first | contradiction | cases hg | skip)
  obtain ⟨v, rfl, a⟩ := as.one
  cases a.int
  exact call_abs pins s σ H _ us Q I r ⟨_, rfl, Grow.fz sm q (.int _)⟩
theorem ok_max2 (hc : X.calm = true) : OkB X .max2 := by
  intro pins s σ H xs us Q I r ⟨F, ds, res, sm, as, hg, q⟩
  unfold bltD at hg
  split at hg <;> (first | contradiction | cases hg | skip)
  obtain ⟨v, u, rfl, a, b⟩ := as.two
  cases a.int; cases b.int
  exact call_max2 hc pins s σ H _ us Q I r ⟨_, _, rfl, Grow.fz sm q (.int _)⟩
theorem ok_min2 (hc : X.calm = true) : OkB X .min2 := by
  intro pins s σ H xs us Q I r ⟨F, ds, res, sm, as, hg, q⟩
  unfold bltD at hg
  split at hg <;> (first | contradiction | cases hg | skip)
  obtain ⟨v, u, rfl, a, b⟩ := as.two
  cases a.int; cases b.int
  exact call_min2 hc pins s σ H _ us Q I r ⟨_, _, rfl, Grow.fz sm q (.int _)⟩
theorem ok_max1 (hc : X.calm = true) : OkB X .max1 := by
  intro pins s σ H xs us Q I r ⟨F, ds, res, sm, as, hg, q⟩
  unfold bltD at hg
  split at hg <;> (first | contradiction | cases hg | skip)
  obtain ⟨v, rfl, a⟩ := as.one
  obtain ⟨ns, e1, e2⟩ := Option.bind_eq_some_iff.mp hg
  have e3 := allInt_eq e1
  subst e3
  obtain ⟨p, zs, rfl, h1, h2⟩ := a.lst sm
  have e4 := h2.intsV
  subst e4
  split at e2 <;> cases e2
  rename_i n rr
  refine cr_max hc pins s σ H _ us Q I r ⟨p, n :: rr, rfl, SqL.of h1, Nat.succ_pos _, fun m hm hall => ?_⟩
  obtain ⟨k1, k2, k3⟩ := maxL_spec rr n
  have : m = maxL n rr := by
    refine Int.le_antisymm ?_ ?_
    · rcases List.mem_cons.mp hm with rfl | hm
      · exact k2
      · exact k3 _ hm
    · rcases k1 with e | e
      · rw [e]; exact hall n List.mem_cons_self
      · exact hall _ (List.mem_cons_of_mem _ e)
  rw [this]
  exact Grow.fz sm q (.int _)
theorem ok_min1 (hc : X.calm = true) : OkB X .min1 := by
  intro pins s σ H xs us Q I r ⟨F, ds, res, sm, as, hg, q⟩
  unfold bltD at hg
  split at hg <;> (first | contradiction | cases hg | skip)
  obtain ⟨v, rfl, a⟩ := as.one
  obtain ⟨ns, e1, e2⟩ := Option.bind_eq_some_iff.mp hg
  have e3 := allInt_eq e1
  subst e3
  obtain ⟨p, zs, rfl, h1, h2⟩ := a.lst sm
  have e4 := h2.intsV
  subst e4
  split at e2 <;> cases e2
  rename_i n rr
  refine cr_min hc pins s σ H _ us Q I r ⟨p, n :: rr, rfl, SqL.of h1, Nat.succ_pos _, fun m hm hall => ?_⟩
  obtain ⟨k1, k2, k3⟩ := minL_spec rr n
  have : m = minL n rr := by
    refine Int.le_antisymm ?_ ?_
    · rcases k1 with e | e
      · rw [e]; exact hall n List.mem_cons_self
      · exact hall _ (List.mem_cons_of_mem _ e)
    · rcases List.mem_cons.mp hm with rfl | hm
      · exact k2
      · exact k3 _ hm
  rw [this]
  exact Grow.fz sm q (.int _)
theorem ok_sum (hc : X.calm = true) : OkB X .sum := by
  intro pins s σ H xs us Q I r ⟨F, ds, res, sm, as, hg, q⟩
  unfold bltD at hg
  split at hg <;> (first | contradiction | cases hg | skip)
  obtain ⟨v, rfl, a⟩ := as.one
  obtain ⟨ns, e1, e2⟩ := Option.map_eq_some_iff.mp hg
  subst e2
  have e3 := allInt_eq e1
  subst e3
  obtain ⟨p, zs, rfl, h1, h2⟩ := a.lst sm
  have e4 := h2.intsV
  subst e4
  exact cr_sum hc pins s σ H _ us Q I r ⟨p, ns, rfl, SqL.of h1, Grow.fz sm q (.int _)⟩
theorem ok_all (hc : X.calm = true) : OkB X .all := by
  intro pins s σ H xs us Q I r ⟨F, ds, res, sm, as, hg, q⟩
  unfold bltD at hg
  split at hg <;> (first | contradiction | cases hg | skip)
  obtain ⟨v, rfl, a⟩ := as.one
  obtain ⟨ns, e1, e2⟩ := Option.map_eq_some_iff.mp hg
  subst e2
  have e3 := allBl_eq e1
  subst e3
  obtain ⟨p, zs, rfl, h1, h2⟩ := a.lst sm
  have e4 := h2.bls
  subst e4
  exact cr_all hc pins s σ H _ us Q I r ⟨p, ns, rfl, SqL.of h1, Grow.fz sm q (.bl _)⟩
theorem ok_any (hc : X.calm = true) : OkB X .any := by
  intro pins s σ H xs us Q I r ⟨F, ds, res, sm, as, hg, q⟩
  unfold bltD at hg
  split at hg <;> (first | contradiction | cases hg | skip)
  obtain ⟨v, rfl, a⟩ := as.one
  obtain ⟨ns, e1, e2⟩ := Option.map_eq_some_iff.mp hg
  subst e2
  have e3 := allBl_eq e1
  subst e3
  obtain ⟨p, zs, rfl, h1, h2⟩ := a.lst sm
  have e4 := h2.bls
  subst e4
  exact cr_any hc pins s σ H _ us Q I r ⟨p, ns, rfl, SqL.of h1, Grow.fz sm q (.bl _)⟩
theorem ok_list : OkB X .list := by
  intro pins s σ H xs us Q I r ⟨F, ds, res, sm, as, hg, q⟩
  unfold bltD at hg
  split at hg <;> (first | contradiction | cases hg | skip)
  · obtain ⟨v, rfl, a⟩ := as.one
    obtain ⟨p, zs, rfl, h1, h2⟩ := a.lst sm
    refine call_list_of pins s σ H _ us Q I r ⟨p, zs, rfl, .inl (SqL.of h1), fun l hl => ?_⟩
    have := out_lst sm hl h2
    exact q _ _ _ this.1 this.2
  · obtain ⟨v, rfl, a⟩ := as.one
    obtain ⟨p, zs, rfl, h1, h2⟩ := a.tup sm
    refine call_list_of pins s σ H _ us Q I r ⟨p, zs, rfl, .inr h1, fun l hl => ?_⟩
    have := out_lst sm hl h2
    exact q _ _ _ this.1 this.2
theorem ok_tuple : OkB X .tuple := by
  intro pins s σ H xs us Q I r ⟨F, ds, res, sm, as, hg, q⟩
  unfold bltD at hg
  split at hg <;> (first | contradiction | cases hg | skip)
  · obtain ⟨v, rfl, a⟩ := as.one
    obtain ⟨p, zs, rfl, h1, h2⟩ := a.lst sm
    refine call_tuple_of pins s σ H _ us Q I r ⟨p, zs, rfl, .inl ⟨SqL.of h1, fun l hl => ?_⟩⟩
    have := out_tup sm hl h2
    exact q _ _ _ this.1 this.2
  · obtain ⟨v, rfl, a⟩ := as.one
    cases a with
    | fz h =>
      obtain ⟨p, rfl⟩ := rp_ref h
      obtain ⟨p', zs, e, h1, h2⟩ := (Ar.fz (H := H) h).tup sm
      cases e
      exact call_tuple_of pins s σ H _ us Q I r ⟨p, zs, rfl, .inr ⟨h1, Grow.fz sm q h⟩⟩
    | ow _ h => exact h.elim
theorem few_log {n : Nat} (h1 : n < 10 ^ 30) : n.log2 < 1920 := by
  by_cases e : n = 0
  · rw [e]; decide
  · exact Nat.lt_of_lt_of_le ((Nat.log2_lt e).mpr (Nat.lt_of_lt_of_le h1 (show (10 : Nat) ^ 30 ≤ 2 ^ 100 by decide))) (by decide)
theorem ok_str : OkB X .str := by
  intro pins s σ H xs us Q I r ⟨F, ds, res, sm, as, hg, q⟩
  unfold bltD at hg
  split at hg <;> (first | contradiction | cases hg | skip)
  · split at hg <;> cases hg
    rename_i hl
    obtain ⟨v, rfl, a⟩ := as.one
    cases a.int
    refine call_str_int pins s σ H _ us Q I r ⟨_, rfl, ?_, Grow.fz sm q (.str _)⟩
    exact few_log (of_decide_eq_true hl)
  · obtain ⟨v, rfl, a⟩ := as.one
    cases a.str
    exact SkE.call_str_str pins s σ H _ us Q I r ⟨_, rfl, Grow.fz sm q (.str _)⟩
theorem ok_divmod : OkB X .divmod := by
  intro pins s σ H xs us Q I r ⟨F, ds, res, sm, as, hg, q⟩
  unfold bltD at hg
  split at hg <;> (first | contradiction | cases hg | skip)
  split at hg <;> cases hg
  rename_i hl
  rw [Bool.and_eq_true, decide_eq_true_eq, decide_eq_true_eq] at hl
  obtain ⟨v, u, rfl, a, b⟩ := as.two
  have e1 := a.int
  have e2 := b.int
  subst e1 e2
  rename_i i j _
  refine call_divmod pins s σ H _ us Q I r ⟨_, _, rfl, hl, fun p hp => ?_⟩
  have := out_tup (K := X.K) (w := X.w) sm hp (.cons (.int (i / j)) (.cons (.int (i % j)) .nil))
  exact q _ _ _ this.1 this.2
mutual
theorem few_show : ∀ d : D, plain d = true → fewDigits d = true → (toPy d).showable = true
  | .non, _, _ => by simp [toPy, PyData.showable]
  | .bl _, _, _ => by simp [toPy, PyData.showable]
  | .int i, _, h => by
    simp only [toPy, PyData.showable, decide_eq_true_eq]
    simp only [fewDigits, decide_eq_true_eq] at h
    exact few_log h
  | .str _, _, _ => by simp [toPy, PyData.showable]
  | .lst ds, p, h => by
    simp only [toPy, PyData.showable]
    exact few_shows ds (by simpa [plain] using p) (by simpa [fewDigits] using h)
  | .tup ds, p, h => by
    simp only [toPy, PyData.showable]
    exact few_shows ds (by simpa [plain] using p) (by simpa [fewDigits] using h)
  | .dct _ _, p, _ => by simp [plain] at p
  | .set _, p, _ => by simp [plain] at p
  | .obj _ _ _, p, _ => by simp [plain] at p
  | .fn _, p, _ => by simp [plain] at p
  | .scr _, p, _ => by simp [plain] at p
theorem few_shows : ∀ ds : List D, plains ds = true → fewDigitss ds = true → PyData.showableAll (toPys ds) = true
  | [], _, _ => by simp [toPys, PyData.showableAll]
  | d :: ds, p, h => by
    simp only [plains, Bool.and_eq_true] at p
    simp only [fewDigitss, Bool.and_eq_true] at h
    simp only [toPys, PyData.showableAll, Bool.and_eq_true]
    exact ⟨few_show d p.1 h.1, few_shows ds p.2 h.2⟩
end
mutual
theorem plain_noDict : ∀ d : D, plain d = true → (toPy d).hasDict = false
  | .non, _ => by simp [toPy, PyData.hasDict]
  | .bl _, _ => by simp [toPy, PyData.hasDict]
  | .int i, _ => by simp [toPy, PyData.hasDict]
  | .str _, _ => by simp [toPy, PyData.hasDict]
  | .lst ds, p => by
    simp only [toPy, PyData.hasDict]
    exact plain_noDicts ds (by simpa [plain] using p)
  | .tup ds, p => by
    simp only [toPy, PyData.hasDict]
    exact plain_noDicts ds (by simpa [plain] using p)
  | .dct _ _, p => by simp [plain] at p
  | .set _, p => by simp [plain] at p
  | .obj _ _ _, p => by simp [plain] at p
  | .fn _, p => by simp [plain] at p
  | .scr _, p => by simp [plain] at p
theorem plain_noDicts : ∀ ds : List D, plains ds = true → PyData.hasDictAll (toPys ds) = false
  | [], _ => by simp [toPys, PyData.hasDictAll]
  | d :: ds, p => by
    simp only [plains, Bool.and_eq_true] at p
    simp only [toPys, PyData.hasDictAll, Bool.or_eq_false_iff]
    exact ⟨plain_noDict d p.1, plain_noDicts ds p.2⟩
end
theorem ok_repr (hg0 : X.A.guards = some []) (hu : X.A.units + 64 < cLine) : OkB X .repr := by
  intro pins s σ H xs us Q I r ⟨F, ds, res, sm, as, hg, q⟩
  unfold bltD at hg
  split at hg <;> (first | contradiction | cases hg | skip)
  split at hg <;> cases hg
  rename_i d _ hs
  rw [Bool.and_eq_true, Bool.and_eq_true] at hs
  obtain ⟨⟨hf, hd⟩, hl⟩ := hs
  obtain ⟨v, rfl, a⟩ := as.one
  obtain ⟨u, rfl, rx⟩ := vals1 r
  have hz : (PyData.shown (toPy d)).length ≤ sizeLine := okLen_le hl
  have hsh := few_show d (fair_plain hf) hd
  have fin : ∀ tk u, EP X pins σ Q (.str (PyData.shown (toPy d)) u) { s with toks := tk } := fun tk u => ⟨.str (PyData.shown (toPy d)), H, I.tok _, ⟨_, rfl⟩, Grow.fz sm q (.str _)⟩
  obtain ⟨as, rd⟩ := a.reads I sm (fair_plain hf) rx
  have hdp := fair_depth hf
  show wpAny (model X.prog X.w) X.A (call (.builtin "repr") [u]) (EP X pins σ Q) X.xe s
  generalize hpd : toPy d = pd at *
  cases rd with
  | none =>
    refine PySem.P.repr_of_none ?_
    have := fin (s.toks + 1) s.toks
    simpa only [PyData.shown] using this
  | bool b =>
    refine PySem.P.repr_of_bool ?_
    have := fin (s.toks + 1) s.toks
    cases b <;> simpa only [PyData.shown] using this
  | int i t =>
    refine PySem.P.repr_of_int (by simpa [PyData.showable] using hsh) ?_
    have := fin (s.toks + 1) s.toks
    simpa only [PyData.shown] using this
  | str x t =>
    have e : PyData.shown (.str x) = reprText x := by simp only [PyData.shown]
    refine PySem.P.repr_of_str ?_ (by rw [← e]; exact hz)
    have := fin (s.toks + 1) s.toks
    rw [e] at this
    exact this
  | list h1 h2 h3 h4 =>
    refine repr_of_reads' (.list h1 h2 h3 h4) hsh (PyData.noDict_hsm ?_) hg0 (by omega) (fun _ _ e => e) (fun h' u tk k => ?_) hz
    · rw [← hpd]; exact plain_noDict d (fair_plain hf)
    · exact ⟨.str _, H, I.kept k, ⟨_, rfl⟩, Grow.fz sm q (.str _)⟩
  | tuple h1 h2 h3 h4 =>
    refine repr_of_reads' (.tuple h1 h2 h3 h4) hsh (PyData.noDict_hsm ?_) hg0 (by omega) (fun _ _ e => e) (fun h' u tk k => ?_) hz
    · rw [← hpd]; exact plain_noDict d (fair_plain hf)
    · exact ⟨.str _, H, I.kept k, ⟨_, rfl⟩, Grow.fz sm q (.str _)⟩
  | dict h1 h2 h3 h4 h5 =>
    have := plain_noDict d (fair_plain hf)
    rw [hpd] at this
    simp [PyData.hasDict] at this
end
end Mp

set_option maxRecDepth 100000
set_option maxHeartbeats 4000000
/-! What the names hold, and what an expression may do to it. -/
namespace Mp
open PySem PySem.Spec PyProof.Rows L2

def wpR {α : Type} (r : Res α) (Q : α → Ev → Prop) : Prop := match r with
  | .ok a ρ => Q a ρ
  | .exc _ _ _ => False
  | .bad => False
theorem wpR_bind {α β : Type} {r : Res α} {f : α → Ev → Res β} {Q : β → Ev → Prop} : wpR (r.bind f) Q ↔ wpR r fun a ρ => wpR (f a ρ) Q := by cases r <;> exact Iff.rfl
theorem wpR_mono {α : Type} {r : Res α} {Q Q' : α → Ev → Prop} (h : wpR r Q) (q : ∀ a ρ, Q a ρ → Q' a ρ) : wpR r Q' := by
  cases r with
  | ok a ρ => exact q a ρ h
  | exc _ _ _ => exact h
  | bad => exact h
theorem wpR_ofO {α β : Type} {o : Option α} {f : α → Res β} {Q : β → Ev → Prop} : wpR (ofO o f) Q ↔ ∃ a, o = some a ∧ wpR (f a) Q := by
  cases o with
  | none => exact ⟨fun h => h.elim, fun ⟨_, h, _⟩ => nomatch h⟩
  | some a => exact ⟨fun h => ⟨a, rfl, h⟩, fun ⟨_, e, h⟩ => by cases e; exact h⟩
theorem wpR_ok {α : Type} {a : α} {ρ : Ev} {Q : α → Ev → Prop} : wpR (.ok a ρ) Q ↔ Q a ρ := Iff.rfl
theorem wpR_bad {α : Type} {Q : α → Ev → Prop} : ¬ wpR (.bad : Res α) Q := fun h => h

section
variable (K : PySem.W.Frag) (w : World)
def CellR (F H : Hp) (v : V) : Cell → Prop
  | .fz d => Rp K w F v d
  | .ow d => ∃ a, v = .ref a ∧ F a = none ∧ OwnAt K w F H a d
structure SR (F H : Hp) (σ : L2.St) (ρ : Ev) : Prop where
  sm : Same F H
  len : σ.length = ρ.length
  cell : ∀ (i : Nat) (c : Cell), ρ[i]? = some (some c) → ∃ v, σ[i]? = some (some v) ∧ CellR K w F H v c
  dis : ∀ (i j : Nat) (a : Addr) (d e : D), ρ[i]? = some (some (.ow d)) → ρ[j]? = some (some (.ow e)) → σ[i]? = some (some (.ref a)) → σ[j]? = some (some (.ref a)) → i = j
def RR (F H : Hp) (σ : L2.St) (O : Addr → Prop) (v : V) : RV → Prop
  | .fz d => Rp K w F v d
  | .tmp d => ∃ a, v = .ref a ∧ F a = none ∧ OwnAt K w F H a d ∧ ¬ O a
  | .var i => σ[i]? = some (some v)
end
def Own (σ : L2.St) (ρ : Ev) (a : Addr) : Prop := ∃ (i : Nat) (d : D), ρ[i]? = some (some (.ow d)) ∧ σ[i]? = some (some (.ref a))
structure Step (F H F' H' : Hp) (O O' : Addr → Prop) : Prop where
  fr : Same F F'
  kp : ∀ a, ¬ O a → H a ≠ none → H' a = H a ∧ (F a = none → F' a = none)
  ow : ∀ a, O' a → O a ∨ H a = none
  al : ∀ a, H a ≠ none → H' a ≠ none
def Fresh (H : Hp) (v : V) (x : RV) : Prop := ∀ d a, x = .tmp d → v = .ref a → H a = none
def Sep (v : V) (x : RV) (vs : List V) (xs : List RV) : Prop := ∀ a d, x = .tmp d → v = .ref a → ∀ (j : Nat) e, xs[j]? = some (.tmp e) → vs[j]? ≠ some (.ref a)
def Freshs (H : Hp) (vs : List V) (xs : List RV) : Prop := ∀ (j : Nat) d a, xs[j]? = some (.tmp d) → vs[j]? = some (.ref a) → H a = none
inductive RRs (K : PySem.W.Frag) (w : World) (F H : Hp) (σ : L2.St) (O : Addr → Prop) : List V → List RV → Prop
  | nil : RRs K w F H σ O [] []
  | cons {v : V} {x : RV} {vs : List V} {xs : List RV} : RR K w F H σ O v x → Sep v x vs xs → RRs K w F H σ O vs xs → RRs K w F H σ O (v :: vs) (x :: xs)
structure Gd (K : PySem.W.Frag) (w : World) (F H F' H' : Hp) (σ : L2.St) (ρ ρ' : Ev) (v : V) (x : RV) : Prop where
  sr : SR K w F' H' σ ρ'
  st : Step F H F' H' (Own σ ρ) (Own σ ρ')
  rr : RR K w F' H' σ (Own σ ρ') v x
  fh : Fresh H v x
structure Gds (K : PySem.W.Frag) (w : World) (F H F' H' : Hp) (σ : L2.St) (ρ ρ' : Ev) (vs : List V) (xs : List RV) : Prop where
  sr : SR K w F' H' σ ρ'
  st : Step F H F' H' (Own σ ρ) (Own σ ρ')
  rr : RRs K w F' H' σ (Own σ ρ') vs xs
  fh : Freshs H vs xs

section
variable {K : PySem.W.Frag} {w : World} {F F' F1 F2 H H' H1 H2 : Hp} {σ : L2.St} {ρ ρ' ρ1 ρ2 : Ev} {O O' O1 O2 : Addr → Prop} {v : V} {x : RV} {vs : List V} {xs : List RV} {rf : List Bool}
theorem ne_of_some {H : Hp} {a : Addr} {o : HO} (h : H a = some o) : H a ≠ none := by rw [h]; exact Option.some_ne_none o
theorem Same.ne {F H : Hp} {a : Addr} (s : Same F H) (h : F a ≠ none) : H a ≠ none := by
  cases q : F a with
  | none => exact absurd q h
  | some o => exact ne_of_some (s _ _ q)
theorem OwnAt.ne {a : Addr} {d : D} (h : OwnAt K w F H a d) : H a ≠ none := let ⟨_, e⟩ := h.some; ne_of_some e
theorem SR.own_ne (S : SR K w F H σ ρ) {a : Addr} (h : Own σ ρ a) : H a ≠ none ∧ F a = none := by
  obtain ⟨i, d, e1, e2⟩ := h
  obtain ⟨v, e3, b, e4, e5, e6⟩ := S.cell i _ e1
  rw [e2] at e3
  cases e3
  cases e4
  exact ⟨e6.ne, e5⟩
theorem Step.refl : Step F H F H O O := ⟨Same.refl F, fun _ _ _ => ⟨rfl, id⟩, fun _ h => .inl h, fun _ h => h⟩
theorem Step.trans (s1 : Step F H F1 H1 O O1) (s2 : Step F1 H1 F2 H2 O1 O2) : Step F H F2 H2 O O2 := by
  refine ⟨s1.fr.trans s2.fr, fun a no h => ?_, fun a o2 => ?_, fun a h => s2.al a (s1.al a h)⟩
  · obtain ⟨e1, e2⟩ := s1.kp a no h
    have no1 : ¬ O1 a := fun z => (s1.ow a z).elim no h
    obtain ⟨e3, e4⟩ := s2.kp a no1 (by rw [e1]; exact h)
    exact ⟨e3.trans e1, fun z => e4 (e2 z)⟩
  · rcases s2.ow a o2 with z | z
    · exact s1.ow a z
    · by_cases c : O a
      · exact .inl c
      · refine .inr ?_
        by_cases h : H a = none
        · exact h
        · exact absurd z (s1.al a h)
theorem RR.step (r : RR K w F H σ O v x) (s : Step F H F' H' O O') : RR K w F' H' σ O' v x := by
  cases x with
  | fz d => exact Rp.up r s.fr
  | tmp d =>
    obtain ⟨a, e1, e2, e3, e4⟩ := r
    obtain ⟨k1, k2⟩ := s.kp a e4 e3.ne
    exact ⟨a, e1, k2 e2, e3.up s.fr k1, fun z => (s.ow a z).elim e4 e3.ne⟩
  | var i => exact r
theorem RRs.step (r : RRs K w F H σ O vs xs) (s : Step F H F' H' O O') : RRs K w F' H' σ O' vs xs := by
  induction r with
  | nil => exact .nil
  | cons h1 h2 _ ih => exact .cons (h1.step s) h2 ih
theorem RRs.length (r : RRs K w F H σ O vs xs) : vs.length = xs.length := by
  induction r with
  | nil => rfl
  | cons _ _ _ ih => simp [ih]
theorem Fresh.back {H0 : Hp} (h : Fresh H v x) (s : ∀ a, H0 a ≠ none → H a ≠ none) : Fresh H0 v x := fun d a e1 e2 => by
  by_cases z : H0 a = none
  · exact z
  · exact absurd (h d a e1 e2) (s a z)
theorem Freshs.back {H0 : Hp} (h : Freshs H vs xs) (s : ∀ a, H0 a ≠ none → H a ≠ none) : Freshs H0 vs xs := fun j d a e1 e2 => by
  by_cases z : H0 a = none
  · exact z
  · exact absurd (h j d a e1 e2) (s a z)
/-- one more step behind -/
theorem Gd.from {F0 H0 : Hp} {ρ0 : Ev} (g : Gd K w F H F' H' σ ρ ρ' v x) (s : Step F0 H0 F H (Own σ ρ0) (Own σ ρ)) : Gd K w F0 H0 F' H' σ ρ0 ρ' v x :=
  ⟨g.sr, s.trans g.st, g.rr, g.fh.back s.al⟩
theorem Gds.from {F0 H0 : Hp} {ρ0 : Ev} (g : Gds K w F H F' H' σ ρ ρ' vs xs) (s : Step F0 H0 F H (Own σ ρ0) (Own σ ρ)) : Gds K w F0 H0 F' H' σ ρ0 ρ' vs xs :=
  ⟨g.sr, s.trans g.st, g.rr, g.fh.back s.al⟩
theorem Gds.nil (S : SR K w F H σ ρ) : Gds K w F H F H σ ρ ρ [] [] := ⟨S, Step.refl, .nil, fun j d a e => by simp at e⟩
theorem Gds.cons (g : Gd K w F H F1 H1 σ ρ ρ1 v x) (t : Gds K w F1 H1 F2 H2 σ ρ1 ρ2 vs xs) : Gds K w F H F2 H2 σ ρ ρ2 (v :: vs) (x :: xs) := by
  refine ⟨t.sr, g.st.trans t.st, .cons (g.rr.step t.st) (fun a d e1 e2 j e e3 e4 => ?_) t.rr, fun j d a e1 e2 => ?_⟩
  · subst e1
    obtain ⟨b, h1, _, h3, _⟩ := g.rr
    rw [e2] at h1
    cases h1
    exact h3.ne (t.fh j e a e3 e4)
  · cases j with
    | zero =>
      simp only [List.getElem?_cons_zero, Option.some.injEq] at e1 e2
      exact g.fh d a e1 e2
    | succ j =>
      simp only [List.getElem?_cons_succ] at e1 e2
      exact t.fh.back g.st.al j d a e1 e2

/-! ### what is looked at -/
theorem RR.deref (S : SR K w F H σ ρ) (r : RR K w F H σ O v x) {d : D} (h : deref ρ x = some d) : Ar K w F H v d := by
  cases x with
  | fz e => cases h; exact .fz r
  | tmp e => cases h; obtain ⟨a, e1, e2, e3, _⟩ := r; subst e1; exact .ow e2 e3
  | var i =>
    simp only [Mp.deref] at h
    split at h <;> cases h
    · rename_i q
      obtain ⟨v', e1, a, e2, e3, e4⟩ := S.cell i _ q
      rw [show σ[i]? = some (some v) from r] at e1
      cases e1
      subst e2
      exact .ow e3 e4
    · rename_i q
      obtain ⟨v', e1, e2⟩ := S.cell i _ q
      rw [show σ[i]? = some (some v) from r] at e1
      cases e1
      exact .fz e2
theorem RRs.derefs (S : SR K w F H σ ρ) (r : RRs K w F H σ O vs xs) {ds : List D} (h : derefs ρ xs = some ds) : Ars K w F H vs ds := by
  induction r generalizing ds with
  | nil => cases h; exact .nil
  | cons h1 h2 _ ih =>
    simp only [Mp.derefs] at h
    split at h <;> try contradiction
    rename_i d q1
    split at h <;> try contradiction
    rename_i ds' q2
    cases h
    exact .cons (h1.deref S q1) (ih q2)
/-- an operation's outcome -/
theorem Gd.of (S : SR K w F H σ ρ) (g : Grow F H F' H') (o : Out1 K w H F' H' v x) : Gd K w F H F' H' σ ρ ρ v x := by
  have keep : ∀ a, H a ≠ none → H' a = H a ∧ (F a = none → F' a = none) := fun a h => by
    obtain ⟨u, e⟩ := Option.ne_none_iff_exists'.mp h
    refine ⟨(g.hh _ _ e).trans e.symm, fun z => ?_⟩
    cases q : F' a with
    | none => rfl
    | some o =>
      rcases g.new a o q with ⟨u', z'⟩ | z'
      · rw [z] at z'; cases z'
      · exact absurd z' h
  refine ⟨⟨g.inn, S.len, fun i c e => ?_, S.dis⟩, ⟨g.fr, fun a _ h => keep a h, fun a h => .inl h, fun a h => by rw [(keep a h).1]; exact h⟩, ?_, fun d a e1 e2 => ?_⟩
  · obtain ⟨v, e1, e2⟩ := S.cell i c e
    refine ⟨v, e1, ?_⟩
    cases c with
    | fz d => exact Rp.up e2 g.fr
    | ow d =>
      obtain ⟨a, h1, h2, h3⟩ := e2
      obtain ⟨k1, k2⟩ := keep a h3.ne
      exact ⟨a, h1, k2 h2, h3.up g.fr k1⟩
  · cases x with
    | fz d => exact o
    | tmp d =>
      obtain ⟨a, h1, h2, h3, h4⟩ := o
      exact ⟨a, h1, h3, h4, fun z => (S.own_ne z).1 h2⟩
    | var i => exact o.elim
  · subst e1
    obtain ⟨b, h1, h2, _⟩ := o
    rw [e2] at h1
    cases h1
    exact h2

/-! ### things that are not changed any more -/
theorem set_get {α : Type} {ρ : List α} {i j : Nat} {c u : α} (h : (ρ.set i c)[j]? = some u) : (i = j ∧ u = c) ∨ (i ≠ j ∧ ρ[j]? = some u) := by
  by_cases e : i = j
  · subst e
    rw [List.getElem?_set] at h
    split at h
    · split at h
      · cases h; exact .inl ⟨rfl, rfl⟩
      · cases h
    · exact absurd rfl ‹_›
  · rw [List.getElem?_set_ne e] at h
    exact .inr ⟨e, h⟩
structure Frz (K : PySem.W.Frag) (w : World) (F F' H : Hp) (σ : L2.St) (ρ ρ' : Ev) (v : V) (x : RV) (d : D) : Prop where
  sr : SR K w F' H σ ρ'
  fr : Same F F'
  rp : Rp K w F' v d
  ow : ∀ a, Own σ ρ' a → Own σ ρ a
  no : ∀ b, F b = none → F' b = none ∨ (v = .ref b ∧ (Own σ ρ b ∨ ∃ e, x = .tmp e))
theorem freeze_ok (S : SR K w F H σ ρ) (r : RR K w F H σ (Own σ ρ) v x) {d : D} (h : freeze rf ρ x = some (d, ρ')) : ∃ F', Frz K w F F' H σ ρ ρ' v x d := by
  cases x with
  | fz e => cases h; exact ⟨F, S, Same.refl F, r, fun _ h => h, fun b z => .inl z⟩
  | tmp e =>
    cases h
    obtain ⟨a, h1, h2, h3, h4⟩ := r
    subst h1
    refine ⟨put F H a, ⟨put_in S.sm, S.len, fun i c e => ?_, S.dis⟩, put_same h2, h3.rp (put_same h2) put_at, fun _ h => h, fun b z => ?_⟩
    · obtain ⟨v, e1, e2⟩ := S.cell i c e
      refine ⟨v, e1, ?_⟩
      cases c with
      | fz d => exact Rp.up e2 (put_same h2)
      | ow d =>
        obtain ⟨b, k1, k2, k3⟩ := e2
        subst k1
        have : b ≠ a := fun z => h4 (z ▸ ⟨i, d, e, e1⟩)
        exact ⟨b, rfl, by rw [put_ne this]; exact k2, k3.up (put_same h2) rfl⟩
    · by_cases q : b = a
      · subst q; exact .inr ⟨rfl, .inr ⟨_, rfl⟩⟩
      · exact .inl (by rw [put_ne q]; exact z)
  | var i =>
    have r' : σ[i]? = some (some v) := r
    simp only [freeze] at h
    split at h
    · rename_i q
      split at h <;> cases h
      obtain ⟨v', e1, a, e2, e3, e4⟩ := S.cell i _ q
      rw [r'] at e1
      cases e1
      subst e2
      have sub : ∀ b, Own σ (ρ.set i (some (.fz d))) b → Own σ ρ b := fun b ⟨j, e, k1, k2⟩ => by
        rcases set_get k1 with ⟨_, z⟩ | ⟨_, z⟩
        · cases z
        · exact ⟨j, e, z, k2⟩
      refine ⟨put F H a, ⟨put_in S.sm, by rw [List.length_set]; exact S.len, fun j c e => ?_, fun j k b x y k1 k2 k3 k4 => ?_⟩, put_same e3, e4.rp (put_same e3) put_at, sub, fun b z => ?_⟩
      · rcases set_get e with ⟨rfl, z⟩ | ⟨ne, z⟩
        · cases z; exact ⟨.ref a, r', e4.rp (put_same e3) put_at⟩
        · obtain ⟨u, u1, u2⟩ := S.cell j c z
          refine ⟨u, u1, ?_⟩
          cases c with
          | fz d => exact Rp.up u2 (put_same e3)
          | ow d =>
            obtain ⟨b, k1, k2, k3⟩ := u2
            subst k1
            have : b ≠ a := fun y => ne (S.dis i j a _ _ q z r' (y ▸ u1))
            exact ⟨b, rfl, by rw [put_ne this]; exact k2, k3.up (put_same e3) rfl⟩
      · rcases set_get k1 with ⟨_, z⟩ | ⟨_, z1⟩
        · cases z
        · rcases set_get k2 with ⟨_, z⟩ | ⟨_, z2⟩
          · cases z
          · exact S.dis j k b x y z1 z2 k3 k4
      · by_cases y : b = a
        · subst y; exact .inr ⟨rfl, .inl ⟨i, _, q, r'⟩⟩
        · exact .inl (by rw [put_ne y]; exact z)
    · cases h
      rename_i q
      obtain ⟨v', e1, e2⟩ := S.cell i _ q
      rw [r'] at e1
      cases e1
      exact ⟨F, S, Same.refl F, e2, fun _ h => h, fun b z => .inl z⟩
    · cases h
/-- behind a step -/
theorem Frz.step {F0 H0 : Hp} {O0 : Addr → Prop} {d : D} (f : Frz K w F F' H σ ρ ρ' v x d) (s : Step F0 H0 F H O0 (Own σ ρ)) (h : Fresh H0 v x) : Step F0 H0 F' H O0 (Own σ ρ') := by
  refine ⟨s.fr.trans f.fr, fun a no hn => ?_, fun a z => s.ow a (f.ow a z), s.al⟩
  obtain ⟨e1, e2⟩ := s.kp a no hn
  refine ⟨e1, fun z => ?_⟩
  rcases f.no a (e2 z) with q | ⟨q1, q2 | ⟨e, q2⟩⟩
  · exact q
  · exact ((s.ow a q2).elim no hn).elim
  · exact (hn (h e a q2 q1)).elim
/-- what waits -/
theorem Frz.rr {d : D} {v' : V} {x' : RV} (f : Frz K w F F' H σ ρ ρ' v x d) (r : RR K w F H σ (Own σ ρ) v' x') (h : ∀ a e e', x = .tmp e → x' = .tmp e' → v = .ref a → v' ≠ .ref a) : RR K w F' H σ (Own σ ρ') v' x' := by
  cases x' with
  | fz d => exact Rp.up r f.fr
  | tmp d =>
    obtain ⟨a, e1, e2, e3, e4⟩ := r
    subst e1
    refine ⟨a, rfl, ?_, e3.up f.fr rfl, fun z => e4 (f.ow a z)⟩
    rcases f.no a e2 with q | ⟨q1, q2 | ⟨e, q2⟩⟩
    · exact q
    · exact (e4 q2).elim
    · exact (h a e d q2 rfl q1 rfl).elim
  | var i => exact r
theorem Frz.rrs {d : D} {vs : List V} {xs : List RV} (f : Frz K w F F' H σ ρ ρ' v x d) (r : RRs K w F H σ (Own σ ρ) vs xs) (h : Sep v x vs xs) : RRs K w F' H σ (Own σ ρ') vs xs := by
  induction r with
  | nil => exact .nil
  | cons h1 h2 _ ih =>
    refine .cons (f.rr h1 fun a e e' k1 k2 k3 k4 => ?_) h2 (ih fun a d k1 k2 j e k3 => ?_)
    · exact h a e k1 k3 0 e' (by rw [k2]; rfl) (by rw [k4]; rfl)
    · exact h a d k1 k2 (j + 1) e (by simpa using k3)
/-- all of them -/
theorem freezes_ok {F0 H0 : Hp} {O0 : Addr → Prop} (S : SR K w F H σ ρ) (r : RRs K w F H σ (Own σ ρ) vs xs) (s : Step F0 H0 F H O0 (Own σ ρ)) (fh : Freshs H0 vs xs) {ds : List D} (h : freezes rf xs ρ = some (ds, ρ')) :
    ∃ F', SR K w F' H σ ρ' ∧ Step F0 H0 F' H O0 (Own σ ρ') ∧ Rps K w F' vs ds ∧ Same F F' := by
  induction xs generalizing F ρ vs ds with
  | nil =>
    cases r
    cases h
    exact ⟨F, S, s, .nil, Same.refl F⟩
  | cons x xs ih =>
    cases r with
    | @cons v _ vs _ h1 h2 h3 =>
      simp only [freezes] at h
      split at h <;> try contradiction
      rename_i d ρa q1
      split at h <;> try contradiction
      rename_i ds' ρb q2
      cases h
      obtain ⟨F', f⟩ := freeze_ok S h1 q1
      have fx : Fresh H0 v x := fun d a e1 e2 => fh 0 d a (by rw [e1]; rfl) (by rw [e2]; rfl)
      obtain ⟨F'', g1, g2, g3, g4⟩ := ih f.sr (f.rrs h3 h2) (f.step s fx) (fun j d a e1 e2 => fh (j + 1) d a (by simpa using e1) (by simpa using e2)) q2
      exact ⟨F'', g1, g2, .cons (f.rp.up g4) g3, f.fr.trans g4⟩
end
end Mp

set_option maxRecDepth 100000
set_option maxHeartbeats 4000000
/-! Expressions: what their terms say holds of them. -/
namespace Mp
open PySem PySem.Spec PyProof.Rows L2

theorem PE.imp {X : Cx} {e : Expr} {t u : TE} (h : PE X e t) (i : ∀ σ H Q, u σ H Q → t σ H Q) : PE X e u := ⟨fun pins s σ H Q I q => h.run pins s σ H Q I (i σ H Q q)⟩
theorem PT.imp {X : Cx} {e : Expr} {t u : TT} (h : PT X e t) (i : ∀ σ H Q, u σ H Q → t σ H Q) : PT X e u := ⟨fun pins s σ H Q I q => h.run pins s σ H Q I (i σ H Q q)⟩
theorem PW.imp {X : Cx} {e : Expr} {t u : TT} (h : PW X e t) (i : ∀ σ H Q, u σ H Q → t σ H Q) : PW X e u := ⟨fun wh pins s σ H Q I q => h.run wh pins s σ H Q I (i σ H Q q)⟩
theorem PA.imp {X : Cx} {e : List Expr} {t u : TA} (h : PA X e t) (i : ∀ σ H Q, u σ H Q → t σ H Q) : PA X e u := ⟨fun pos pins s σ H Q I q => h.run pos pins s σ H Q I (i σ H Q q)⟩

/-! ### looks at the text -/
def unstar : Expr → Bool
  | .Starred _ _ => false
  | _ => true
theorem star_cons {e : Expr} {es : List Expr} {env : Env} (h : unstar e = true) : starEach (e :: es) env = (false, eval e env) :: starEach es env := by cases e <;> first | rfl | cases h
theorem star_plain {pos : Pos} {env : Env} : ∀ {es : List Expr}, es.all unstar = true → (backTo pos (starEach es env)).any (·.1) = false
  | [], _ => rfl
  | e :: es, h => by
    rw [List.all_cons, Bool.and_eq_true] at h
    rw [star_cons h.1]
    show (false || (backTo pos (starEach es env)).any (·.1)) = false
    rw [star_plain h.2]
    rfl
def unset : Expr → Bool
  | .Set _ _ _ => false
  | _ => true
theorem unset_marks {op : CmpOp} {e : Expr} (h : unset e = true) : behindInMarks op e = false := by cases e <;> first | rfl | cases h
theorem unset_last {op op' : CmpOp} {b e : Expr} (h : unset e = true) : lastMarks [op, op'] [b, e] = false := unset_marks (op := op') h
def plainTest : Expr → Bool
  | .UnaryOp _ _ _ => false
  | .BoolOp _ _ _ => false
  | .IfExp _ _ _ _ => false
  | .Compare _ _ _ _ => false
  | _ => true
theorem plain_test {e : Expr} {env : Env} (h : plainTest e = true) : ∀ whole, isTrue e env whole = (do let v ← whole; standAt e.pos; holding [v] (truthy v)) := by
  intro whole
  cases e <;> first | rfl | cases h
def unslice : Expr → Bool
  | .Slice _ _ _ _ => false
  | _ => true
theorem unslice_ix {e : Expr} (h : unslice e = true) : PlainIx e := by
  intro o i
  cases e <;> first | rfl | cases h

section
variable (K : PySem.W.Frag) (w : World) (C : Cl) (rf : List Bool)
def rdE (t : E) : TE := fun σ H Q => ∃ F ρ, SR K w F H σ ρ ∧ wpR (ev C rf t ρ) fun x ρ' => ∀ v F' H', Gd K w F H F' H' σ ρ ρ' v x → Q v H'
def rdT (t : E) : TT := fun σ H Q => ∃ F ρ, SR K w F H σ ρ ∧ wpR (evT C rf t ρ) fun b ρ' => ∀ F' H', SR K w F' H' σ ρ' → Step F H F' H' (Own σ ρ) (Own σ ρ') → Q b H'
def rdA (t : Es) : TA := fun σ H Q => ∃ F ρ, SR K w F H σ ρ ∧ wpR (evs C rf t ρ) fun xs ρ' => ∀ vs F' H', Gds K w F H F' H' σ ρ ρ' vs xs → Q vs H'
end
/-- a slice's bound -/
def rdP (K : PySem.W.Frag) (w : World) (C : Cl) (rf : List Bool) (t : E) : TO := fun σ H Q => ∃ F ρ, SR K w F H σ ρ ∧ wpR (ev C rf t ρ) fun y ρ' => ∃ o, partE t y = some o ∧ ∀ F' H', SR K w F' H' σ ρ' → Step F H F' H' (Own σ ρ) (Own σ ρ') → Q o H'
def Part (X : Cx) (C : Cl) (rf : List Bool) : Option Expr → E → Prop
  | none, t => t = .const .non
  | some e, t => PE X e (rdE X.K X.w C rf t) ∧ ∀ y, partE t y = match y with
    | .fz (.int i) => some (some i)
    | _ => none
theorem wpR_iff {α : Type} {r : Res α} {Q : α → Ev → Prop} : wpR r Q ↔ ∃ a ρ, r = .ok a ρ ∧ Q a ρ := by
  cases r with
  | ok a ρ => exact ⟨fun h => ⟨a, ρ, rfl, h⟩, fun ⟨_, _, e, h⟩ => by cases e; exact h⟩
  | exc _ _ _ => exact ⟨fun h => h.elim, fun ⟨_, _, e, _⟩ => nomatch e⟩
  | bad => exact ⟨fun h => h.elim, fun ⟨_, _, e, _⟩ => nomatch e⟩
section
variable {X : Cx} {C : Cl} {rf : List Bool} {a b c : Expr} {ta tb tc : E} {pos : Pos}

/-- a value that is there at once -/
theorem rd_now {F H : Hp} {σ : L2.St} {ρ : Ev} {v : V} {d : D} {Q : VK} (S : SR X.K X.w F H σ ρ) (r : Rp X.K X.w F v d) (q : ∀ v F' H', Gd X.K X.w F H F' H' σ ρ ρ v (.fz d) → Q v H') : Q v H :=
  q v F H (Gd.of S (Grow.refl S.sm) r)
def constD : Const → Option D
  | .none => some .non
  | .bool b => some (.bl b)
  | .int i => some (.int i)
  | .str s => some (.str s)
  | _ => none
theorem e_const {k : Const} {n : Nat} {d : D} (h : constD k = some d) : PE X (.Constant k n pos) (rdE X.K X.w C rf (.const d)) := by
  cases k <;> cases h
  · exact PE.imp pe_non fun σ H Q ⟨F, ρ, S, h⟩ => by simp only [ev_eqs, wpR_ok] at h; exact rd_now S .non h
  · exact PE.imp pe_bl fun σ H Q ⟨F, ρ, S, h⟩ => by simp only [ev_eqs, wpR_ok] at h; exact rd_now S (.bl _) h
  · exact PE.imp pe_int fun σ H Q ⟨F, ρ, S, h⟩ => by simp only [ev_eqs, wpR_ok] at h; exact rd_now S (.int _) h
  · exact PE.imp pe_str fun σ H Q ⟨F, ρ, S, h⟩ => by simp only [ev_eqs, wpR_ok] at h; exact rd_now S (.str _) h
theorem e_var {i : Nat} {x : Str} (hN : X.N[i]? = some x) (hv : Vis X.env.scope x) (hd : (x == ("__debug__" : Str)) = false) (hcd : (x == ("__classdict__" : Str)) = false) : PE X (.Name x pos) (rdE X.K X.w C rf (.var i)) :=
  PE.imp (pe_var hN hv hd hcd) fun σ H Q ⟨F, ρ, S, h⟩ => by
    simp only [ev_eqs] at h
    split at h
    · rename_i q
      obtain ⟨v, e1, e2⟩ := S.cell i _ q
      exact ⟨v, e1, rd_now S e2 h⟩
    · rename_i q
      obtain ⟨v, e1, e2⟩ := S.cell i _ q
      exact ⟨v, e1, h v F H ⟨S, Step.refl, e1, fun d a z => nomatch z⟩⟩
    · exact h.elim
theorem e_glob {x : Str} {d : D} {v : V} {u : Value} (hg : Gl X x) (hm : X.mg x = some u) (r : RelV v u) (hr : ∀ F, Rp X.K X.w F v d) (hc : C.glob x = some d) (hd : (x == ("__debug__" : Str)) = false) : PE X (.Name x pos) (rdE X.K X.w C rf (.glob x)) :=
  PE.imp (pe_glob hg hm r hd) fun σ H Q ⟨F, ρ, S, h⟩ => by
    simp only [ev_eqs, hc, ofO_some, wpR_ok] at h
    exact rd_now S (hr F) h
theorem e_bin {op : Operator} (ha : PE X a (rdE X.K X.w C rf ta)) (hb : PE X b (rdE X.K X.w C rf tb)) : PE X (.BinOp a op b pos) (rdE X.K X.w C rf (.bin op ta tb)) :=
  PE.imp (pe_op (op_bin op) ha hb) fun σ H Q ⟨F, ρ, S, h⟩ => by
    simp only [ev_eqs, wpR_bind, wpR_ofO, wpR_ok] at h
    refine ⟨F, ρ, S, wpR_mono h fun x ρ1 h v1 F1 H1 g1 => ⟨F1, ρ1, g1.sr, wpR_mono h fun y ρ2 h v2 F2 H2 g2 => ?_⟩⟩
    obtain ⟨d, e1, e, e2, r, e3, q⟩ := h
    exact ⟨F2, d, e, r, g2.sr.sm, (g1.rr.step g2.st).deref g2.sr e1, g2.rr.deref g2.sr e2, e3, fun v F' H' gr o => q v F' H' (((Gd.of g2.sr gr o).from g2.st).from g1.st)⟩
theorem e_neg (ha : PE X a (rdE X.K X.w C rf ta)) : PE X (.UnaryOp .USub a pos) (rdE X.K X.w C rf (.neg ta)) :=
  PE.imp (pe_un un_neg ha) fun σ H Q ⟨F, ρ, S, h⟩ => by
    simp only [ev_eqs, wpR_bind] at h
    refine ⟨F, ρ, S, wpR_mono h fun x ρ1 h v1 F1 H1 g1 => ?_⟩
    split at h
    · cases (show Rp _ _ _ _ _ from g1.rr)
      exact ⟨_, rfl, rd_now g1.sr (.int _) fun v F' H' g => h v F' H' (g.from g1.st)⟩
    · exact h.elim
theorem e_not (hu : X.A.units + 64 < cLine) (ha : PE X a (rdE X.K X.w C rf ta)) : PE X (.UnaryOp .Not a pos) (rdE X.K X.w C rf (.not ta)) := by
  refine ⟨fun pins s σ H Q I ⟨F, ρ, S, h⟩ => ?_⟩
  simp only [ev_eqs, wpR_bind, wpR_ofO, wpR_ok] at h
  refine UnaryOp_ (thn (ha.run pins s σ H (fun v1 H1 => ∃ x ρ1 F1, Gd X.K X.w F H F1 H1 σ ρ ρ1 v1 x ∧ ∃ d, deref ρ1 x = some d ∧ ∃ b, truD d = some b ∧ ∀ v F' H', Gd X.K X.w F H F' H' σ ρ ρ1 v (.fz (.bl !b)) → Q v H') I
    ⟨F, ρ, S, wpR_mono h fun x ρ1 h v1 F1 H1 g1 => ⟨x, ρ1, F1, g1, h⟩⟩) fun v s1 ⟨v1, H1, I1, r1, q1⟩ => ?_)
  obtain ⟨x, ρ1, F1, g1, d, e1, b, e2, q⟩ := q1
  refine not_of (thn (tru_val hu pins s1 σ H1 v1 v (fun k H2 => H2 = H1 ∧ k = b) I1 r1 ⟨F1, d, b, g1.sr.sm, g1.rr.deref g1.sr e1, e2, rfl, rfl⟩) fun k s2 ⟨H2, I2, e3, e4⟩ => ?_)
  subst e3 e4
  exact ⟨.bl (!k), H2, I2, rfl, rd_now g1.sr (.bl _) fun v F' H' g => q v F' H' (g.from g1.st)⟩
theorem e_and {rest : List Expr} (ha : PE X a (rdE X.K X.w C rf ta)) (hb : PE X (.BoolOp .And (b :: rest) pos) (rdE X.K X.w C rf tb)) : PE X (.BoolOp .And (a :: b :: rest) pos) (rdE X.K X.w C rf (.and ta tb)) :=
  PE.imp (pe_and ha hb) fun σ H Q ⟨F, ρ, S, h⟩ => by
    simp only [ev_eqs, wpR_bind] at h
    refine ⟨F, ρ, S, wpR_mono h fun x ρ1 h v1 F1 H1 g1 => ?_⟩
    split at h
    · rename_i c
      cases (show Rp _ _ _ _ _ from g1.rr)
      refine ⟨_, rfl, ?_⟩
      cases c with
      | true => exact ⟨F1, ρ1, g1.sr, wpR_mono h fun x ρ2 h v F' H' g => h v F' H' (g.from g1.st)⟩
      | false => exact rd_now g1.sr (.bl _) fun v F' H' g => h v F' H' (g.from g1.st)
    · exact h.elim
theorem e_or {rest : List Expr} (ha : PE X a (rdE X.K X.w C rf ta)) (hb : PE X (.BoolOp .Or (b :: rest) pos) (rdE X.K X.w C rf tb)) : PE X (.BoolOp .Or (a :: b :: rest) pos) (rdE X.K X.w C rf (.or ta tb)) :=
  PE.imp (pe_or ha hb) fun σ H Q ⟨F, ρ, S, h⟩ => by
    simp only [ev_eqs, wpR_bind] at h
    refine ⟨F, ρ, S, wpR_mono h fun x ρ1 h v1 F1 H1 g1 => ?_⟩
    split at h
    · rename_i c
      cases (show Rp _ _ _ _ _ from g1.rr)
      refine ⟨_, rfl, ?_⟩
      cases c with
      | false => exact ⟨F1, ρ1, g1.sr, wpR_mono h fun x ρ2 h v F' H' g => h v F' H' (g.from g1.st)⟩
      | true => exact rd_now g1.sr (.bl _) fun v F' H' g => h v F' H' (g.from g1.st)
    · exact h.elim
/-- a comparison's reading -/
theorem rd_cmp {op : CmpOp} {σ : L2.St} {F H F2 : Hp} {H2 : Hp} {ρ ρ2 : Ev} {v1 v2 : V} {x y : RV} {d e : D} {k : Bool} {Q : VK} (S : SR X.K X.w F2 H2 σ ρ2) (g1 : RR X.K X.w F2 H2 σ (Own σ ρ2) v1 x) (g2 : RR X.K X.w F2 H2 σ (Own σ ρ2) v2 y)
    (e1 : deref ρ2 x = some d) (e2 : deref ρ2 y = some e) (e3 : cmpD op d e = some k) (q : ∀ F' H', Grow F2 H2 F' H' → Q (.bl k) H') : rB X.K X.w (bD (cmpD op)) v1 v2 H2 Q :=
  ⟨F2, d, e, .fz (.bl k), S.sm, g1.deref S e1, g2.deref S e2, by unfold bD; rw [e3]; rfl, fun v F' H' gr o => by
    cases (show Rp _ _ _ _ _ from o)
    exact q F' H' gr⟩
theorem rd_cmp1 {op : CmpOp} {σ : L2.St} {H : Hp} {Q : VK} : (rdE X.K X.w C rf (.cmp op ta tb)) σ H Q → tOp (rB X.K X.w (bD (cmpD op))) (rdE X.K X.w C rf ta) (rdE X.K X.w C rf tb) σ H Q := fun ⟨F, ρ, S, h⟩ => by
  simp only [ev_eqs, wpR_bind, wpR_ofO, wpR_ok] at h
  refine ⟨F, ρ, S, wpR_mono h fun x ρ1 h v1 F1 H1 g1 => ⟨F1, ρ1, g1.sr, wpR_mono h fun y ρ2 h v2 F2 H2 g2 => ?_⟩⟩
  obtain ⟨d, e1, e, e2, r, e3, q⟩ := h
  exact rd_cmp (F := F) (H := H) (ρ := ρ) g2.sr (g1.rr.step g2.st) g2.rr e1 e2 e3 fun F' H' gr => q _ F' H' (((Gd.of g2.sr gr (x := .fz (.bl r)) (Rp.bl r)).from g2.st).from g1.st)
theorem e_cmp {op : CmpOp} (hu : X.A.units + 64 < cLine) (hb' : unset b = true) (ha : PE X a (rdE X.K X.w C rf ta)) (hb : PE X b (rdE X.K X.w C rf tb)) : PE X (.Compare a [op] [b] pos) (rdE X.K X.w C rf (.cmp op ta tb)) :=
  PE.imp (pe_cmpR (op_cmp hu op) ha hb (unset_marks hb')) fun σ H Q h => rd_cmp1 h
theorem rd_chain1 {op op' : CmpOp} {σ : L2.St} {H : Hp} {Q : VK} : (rdE X.K X.w C rf (.chain op op' ta tb tc)) σ H Q → tChain (rB X.K X.w (bD (cmpD op))) (rB X.K X.w (bD (cmpD op'))) (rdE X.K X.w C rf ta) (rdE X.K X.w C rf tb) (rdE X.K X.w C rf tc) σ H Q := fun ⟨F, ρ, S, h⟩ => by
  simp only [ev_eqs, wpR_bind, wpR_ofO] at h
  refine ⟨F, ρ, S, wpR_mono h fun x ρ1 h v1 F1 H1 g1 => ⟨F1, ρ1, g1.sr, wpR_mono h fun y ρ2 h v2 F2 H2 g2 => ?_⟩⟩
  obtain ⟨d, e1, e, e2, r, e3, h⟩ := h
  have s12 := g1.st.trans g2.st
  refine rd_cmp (F := F) (H := H) (ρ := ρ) g2.sr (g1.rr.step g2.st) g2.rr e1 e2 e3 fun F' H' gr => ⟨r, rfl, ?_⟩
  have g3 := Gd.of g2.sr gr (v := .bl r) (x := .fz (.bl r)) (Rp.bl r)
  cases r with
  | false =>
    simp only [Bool.false_eq_true, if_false, wpR_ok] at h ⊢
    exact h _ F' H' ((g3.from g2.st).from g1.st)
  | true =>
    simp only [if_true, wpR_bind, wpR_ofO, wpR_ok] at h ⊢
    refine ⟨F', ρ2, g3.sr, wpR_mono h fun z ρ3 h v3 F3 H3 g4 => ?_⟩
    obtain ⟨e', e4, g, e5, r', e6, q⟩ := h
    exact rd_cmp (F := F) (H := H) (ρ := ρ) g4.sr ((g2.rr.step g3.st).step g4.st) g4.rr e4 e5 e6 fun F4 H4 gr4 => q _ F4 H4 ((((Gd.of g4.sr gr4 (x := .fz (.bl r')) (Rp.bl r')).from g4.st).from g3.st).from s12)
theorem e_chain {op op' : CmpOp} (hu : X.A.units + 64 < cLine) (hc' : unset c = true) (ha : PE X a (rdE X.K X.w C rf ta)) (hb : PE X b (rdE X.K X.w C rf tb)) (hc : PE X c (rdE X.K X.w C rf tc)) : PE X (.Compare a [op, op'] [b, c] pos) (rdE X.K X.w C rf (.chain op op' ta tb tc)) :=
  PE.imp (pe_chain (op_cmp hu op) (op_cmp hu op') ha hb hc (unset_last hc')) fun σ H Q h => rd_chain1 h
theorem e_ite (hc : PT X c (rdT X.K X.w C rf tc)) (ha : PE X a (rdE X.K X.w C rf ta)) (hb : PE X b (rdE X.K X.w C rf tb)) : PE X (.IfExp c a b pos) (rdE X.K X.w C rf (.ite tc ta tb)) :=
  PE.imp (pe_ifExp hc ha hb) fun σ H Q ⟨F, ρ, S, h⟩ => by
    simp only [ev_eqs, wpR_bind] at h
    refine ⟨F, ρ, S, wpR_mono h fun k ρ1 h F1 H1 S1 s1 => ?_⟩
    cases k with
    | true => exact ⟨F1, ρ1, S1, wpR_mono h fun x ρ2 h v F' H' g => h v F' H' (g.from s1)⟩
    | false => exact ⟨F1, ρ1, S1, wpR_mono h fun x ρ2 h v F' H' g => h v F' H' (g.from s1)⟩

/-! ### arguments -/
theorem a_nil : PA X [] (rdA X.K X.w C rf .nil) := PA.imp pa_nil fun σ H Q ⟨F, ρ, S, h⟩ => by
  simp only [evs_eqs, wpR_ok] at h
  exact h [] F H (Gds.nil S)
theorem a_cons {es : List Expr} {te : E} {ts : Es} {e : Expr} (he : unstar e = true) (ha : PE X e (rdE X.K X.w C rf te)) (hr : PA X es (rdA X.K X.w C rf ts)) : PA X (e :: es) (rdA X.K X.w C rf (.cons te ts)) :=
  PA.imp (pa_cons ha hr (star_cons he)) fun σ H Q ⟨F, ρ, S, h⟩ => by
    simp only [evs_eqs, wpR_bind, wpR_ok] at h
    exact ⟨F, ρ, S, wpR_mono h fun x ρ1 h v1 F1 H1 g1 => ⟨F1, ρ1, g1.sr, wpR_mono h fun xs ρ2 h vs F2 H2 g2 => h _ F2 H2 (Gds.cons g1 g2)⟩⟩
theorem e_tup {es : List Expr} {ts : Es} {n : Nat} (ha : PA X es (rdA X.K X.w C rf ts)) : PE X (.Tuple es n pos) (rdE X.K X.w C rf (.tup ts)) :=
  PE.imp (pe_tup ha) fun σ H Q ⟨F, ρ, S, h⟩ => by
    simp only [ev_eqs, wpR_bind, wpR_ofO] at h
    refine ⟨F, ρ, S, wpR_mono h fun xs ρ1 h vs F1 H1 g1 => ?_⟩
    obtain ⟨p, e1, h⟩ := h
    split at h
    · rename_i hl
      obtain ⟨ds, ρ2⟩ := p
      obtain ⟨F2, S2, st, rp, _⟩ := freezes_ok g1.sr g1.rr g1.st g1.fh e1
      refine ⟨by rw [rp.length]; exact okLen_le hl, fun p hp => ?_⟩
      obtain ⟨gr, o⟩ := out_tup S2.sm hp rp
      exact h _ _ _ ((Gd.of S2 gr o).from st)
    · exact h.elim
theorem e_lst {es : List Expr} {ts : Es} (ha : PA X es (rdA X.K X.w C rf ts)) : PE X (.List es pos) (rdE X.K X.w C rf (.lst ts)) :=
  PE.imp (pe_lst ha) fun σ H Q ⟨F, ρ, S, h⟩ => by
    simp only [ev_eqs, wpR_bind, wpR_ofO] at h
    refine ⟨F, ρ, S, wpR_mono h fun xs ρ1 h vs F1 H1 g1 => ?_⟩
    obtain ⟨p, e1, h⟩ := h
    split at h
    · rename_i hl
      obtain ⟨ds, ρ2⟩ := p
      obtain ⟨F2, S2, st, rp, _⟩ := freezes_ok g1.sr g1.rr g1.st g1.fh e1
      refine ⟨by rw [rp.length]; exact okLen_le hl, fun p hp => ?_⟩
      obtain ⟨gr, o⟩ := out_lst S2.sm hp rp
      exact h _ _ _ ((Gd.of S2 gr o).from st)
    · exact h.elim
/-- a new empty dict -/
theorem out_dct {K : PySem.W.Frag} {w : World} {F H : Hp} {p : Addr} (s : Same F H) (hp : H p = none) : Grow F H F (upd H p (.dK [])) ∧ Out1 K w H F (upd H p (.dK [])) (.ref p) (.tmp (.dct [] [])) :=
  ⟨⟨Same.refl F, same_upd hp, same_of s hp, fun a o e => .inl ⟨o, e⟩⟩, p, rfl, hp, s.free hp, .inl ⟨[], upd_same, List.nodup_nil, rfl, .nil⟩⟩
theorem e_dct0 : PE X (.Dict [] [] pos) (rdE X.K X.w C rf (.dct .nil .nil)) :=
  PE.imp pe_dnewK fun σ H Q ⟨F, ρ, S, h⟩ => by
    simp only [ev_eqs, evs_eqs, wpR_bind, wpR_ok] at h
    intro p hp
    obtain ⟨gr, o⟩ := out_dct (K := X.K) (w := X.w) S.sm hp
    exact h _ _ _ (Gd.of S gr o)
theorem e_idx (hb' : unslice b = true) (hr : IxR X (rB X.K X.w (fzD idxD))) (ha : PE X a (rdE X.K X.w C rf ta)) (hb : PE X b (rdE X.K X.w C rf tb)) : PE X (.Subscript a b pos) (rdE X.K X.w C rf (.idx ta tb)) :=
  PE.imp (pe_ix hr ha hb (unslice_ix hb')) fun σ H Q ⟨F, ρ, S, h⟩ => by
    simp only [ev_eqs, wpR_bind, wpR_ofO, wpR_ok] at h
    refine ⟨F, ρ, S, wpR_mono h fun x ρ1 h v1 F1 H1 g1 => ⟨F1, ρ1, g1.sr, wpR_mono h fun y ρ2 h v2 F2 H2 g2 => ?_⟩⟩
    obtain ⟨d, e1, e, e2, r, e3, q⟩ := h
    exact ⟨F2, d, e, .fz r, g2.sr.sm, (g1.rr.step g2.st).deref g2.sr e1, g2.rr.deref g2.sr e2, by unfold fzD; rw [e3]; rfl, fun v F' H' gr o => q v F' H' (((Gd.of g2.sr gr o).from g2.st).from g1.st)⟩
theorem PO.imp {X : Cx} {e : Option Expr} {t u : TO} (h : PO X e t) (i : ∀ σ H Q, u σ H Q → t σ H Q) : PO X e u := ⟨fun pins s σ H Q I q => h.run pins s σ H Q I (i σ H Q q)⟩
theorem Part.po {e : Option Expr} {t : E} (h : Part X C rf e t) : PO X e (rdP X.K X.w C rf t) := by
  cases e with
  | none =>
    have h' : t = .const .non := h
    subst h'
    refine PO.imp po_none fun σ H Q ⟨F, ρ, S, h⟩ => ?_
    simp only [ev_eqs, wpR_ok, partE] at h
    obtain ⟨o, e, h⟩ := h
    cases e
    exact h F H S Step.refl
  | some e =>
    obtain ⟨he, hp⟩ := h
    refine PO.imp (po_some he) fun σ H Q ⟨F, ρ, S, h⟩ => ⟨F, ρ, S, wpR_mono h fun y ρ1 h v F' H' g => ?_⟩
    obtain ⟨o, e, q⟩ := h
    rw [hp] at e
    split at e
    · cases e
      cases (show Rp _ _ _ _ _ from g.rr)
      exact ⟨_, rfl, q F' H' g.sr g.st⟩
    · cases e
theorem e_slc {lo hi : Option Expr} {tl th : E} {p2 : Pos} (ha : PE X a (rdE X.K X.w C rf ta)) (hl : Part X C rf lo tl) (hh : Part X C rf hi th) : PE X (.Subscript a (.Slice lo hi none p2) pos) (rdE X.K X.w C rf (.slc ta tl th)) :=
  PE.imp (pe_slice sl_all ha hl.po hh.po) fun σ H Q ⟨F, ρ, S, h⟩ => by
    simp only [ev_eqs, wpR_bind, wpR_ofO, wpR_ok] at h
    refine ⟨F, ρ, S, wpR_mono h fun x ρ1 h v1 F1 H1 g1 => ⟨F1, ρ1, g1.sr, wpR_mono h fun y ρ2 h => ?_⟩⟩
    obtain ⟨z, ρ3, e0, d, e1, l, e2, u, e3, r, e4, q⟩ := wpR_iff.mp h
    refine ⟨l, e2, fun F2 H2 S2 s2 => ⟨F2, ρ2, S2, wpR_iff.mpr ⟨z, ρ3, e0, u, e3, fun F3 H3 S3 s3 => ?_⟩⟩⟩
    exact ⟨F3, d, r, S3.sm, ((g1.rr.step s2).step s3).deref S3 e1, e4, fun v F' H' gr o => q v F' H' ((((Gd.of S3 gr o).from s3).from s2).from g1.st)⟩
theorem e_rev {k : Nat} {p1 p2 p3 : Pos} (ha : PE X a (rdE X.K X.w C rf ta)) : PE X (.Subscript a (.Slice none none (some (.UnaryOp .USub (.Constant (.int 1) k p1) p2)) p3) pos) (rdE X.K X.w C rf (.rev ta)) :=
  PE.imp (pe_revL ha) fun σ H Q ⟨F, ρ, S, h⟩ => by
    simp only [ev_eqs, wpR_bind, wpR_ofO, wpR_ok] at h
    refine ⟨F, ρ, S, wpR_mono h fun x ρ1 h v1 F1 H1 g1 => ?_⟩
    obtain ⟨d, e1, r, e2, q⟩ := h
    have ar := g1.rr.deref g1.sr e1
    unfold revD at e2
    split at e2 <;> cases e2
    obtain ⟨p, zs, rfl, h1, h2⟩ := ar.lst g1.sr.sm
    refine ⟨p, zs, rfl, SqL.of h1, fun p hp => ?_⟩
    obtain ⟨gr, o⟩ := out_lst (K := X.K) (w := X.w) g1.sr.sm hp h2.reverse
    exact q _ _ _ ((Gd.of g1.sr gr o).from g1.st)

/-! ### calls of built-ins -/
/-- f(..) by its values' rule -/
theorem rd_blt {f : Blt} {es : List Expr} {ts : Es} (ha : PA X es (rdA X.K X.w C rf ts)) : ∀ σ H Q, (rdE X.K X.w C rf (.blt f ts)) σ H Q → tCB (rC X.K X.w (bltD f)) (rdA X.K X.w C rf ts) σ H Q := fun σ H Q ⟨F, ρ, S, h⟩ => by
  simp only [ev_eqs, wpR_bind, wpR_ofO, wpR_ok] at h
  refine ⟨F, ρ, S, wpR_mono h fun xs ρ1 h vs F1 H1 g1 => ?_⟩
  obtain ⟨ds, e1, r, e2, q⟩ := h
  exact ⟨F1, ds, r, g1.sr.sm, g1.rr.derefs g1.sr e1, e2, fun v F' H' gr o => q v F' H' ((Gd.of g1.sr gr o).from g1.st)⟩
theorem e_bltB {f : Blt} {id : String} {x : Str} {p : Pos} {e : Expr} {es : List Expr} {ts : Es} (hf : bltV f = .builtin id) (ho : OkB X f) (hg : Gl X x) (hm : X.mg x = none) (hv : bootBuiltins x = some (.builtin id)) (hn : x ≠ "__name__") (hdb : (x == ("__debug__" : Str)) = false)
    (he : (e :: es).all unstar = true) (ha : PA X (e :: es) (rdA X.K X.w C rf ts)) : PE X (.Call (.Name x p) (e :: es) [] pos) (rdE X.K X.w C rf (.blt f ts)) := by
  rw [List.all_cons, Bool.and_eq_true] at he
  refine PE.imp (pe_callB (r := rC X.K X.w (bltD f)) (hf ▸ ho : CallR X (.builtin id) _) hg hm hv ha hn hdb (star_cons he.1) (star_plain he.2)) (rd_blt ha)
theorem e_bltT {f : Blt} {id : String} {x : Str} {p : Pos} {e : Expr} {es : List Expr} {ts : Es} (hf : bltV f = .type id) (ho : OkB X f) (hg : Gl X x) (hm : X.mg x = none) (hv : bootBuiltins x = some (.type id)) (hn : x ≠ "__name__") (hdb : (x == ("__debug__" : Str)) = false)
    (he : (e :: es).all unstar = true) (ha : PA X (e :: es) (rdA X.K X.w C rf ts)) : PE X (.Call (.Name x p) (e :: es) [] pos) (rdE X.K X.w C rf (.blt f ts)) := by
  rw [List.all_cons, Bool.and_eq_true] at he
  refine PE.imp (pe_callTy (r := rC X.K X.w (bltD f)) (hf ▸ ho : CallR X (.type id) _) hg hm hv ha hn hdb (star_cons he.1) (star_plain he.2)) (rd_blt ha)

/-! ### tests -/
theorem t_val (hu : X.A.units + 64 < cLine) (he : plainTest a = true) (ht : ∀ ρ, evT C rf ta ρ = (ev C rf ta ρ).bind fun x ρ1 => ofO (deref ρ1 x) fun d => ofO (truD d) fun b => .ok b ρ1) (ha : PE X a (rdE X.K X.w C rf ta)) : PT X a (rdT X.K X.w C rf ta) := by
  refine ⟨fun pins s σ H Q I ⟨F, ρ, S, h⟩ => ?_⟩
  rw [ht] at h
  simp only [wpR_bind, wpR_ofO, wpR_ok] at h
  refine isTrue_plain (thn (ha.run pins s σ H (fun v1 H1 => ∃ x ρ1 F1, Gd X.K X.w F H F1 H1 σ ρ ρ1 v1 x ∧ ∃ d, deref ρ1 x = some d ∧ ∃ b, truD d = some b ∧ ∀ F' H', SR X.K X.w F' H' σ ρ1 → Step F H F' H' (Own σ ρ) (Own σ ρ1) → Q b H') I
    ⟨F, ρ, S, wpR_mono h fun x ρ1 h v1 F1 H1 g1 => ⟨x, ρ1, F1, g1, h⟩⟩) fun v s1 ⟨v1, H1, I1, r1, q1⟩ => ?_) (plain_test he _)
  obtain ⟨x, ρ1, F1, g1, d, e1, b, e2, q⟩ := q1
  exact tru_val hu pins s1 σ H1 v1 v Q I1 r1 ⟨F1, d, b, g1.sr.sm, g1.rr.deref g1.sr e1, e2, q F1 H1 g1.sr g1.st⟩
theorem t_bool (ht : ∀ ρ, evT C rf ta ρ = (ev C rf ta ρ).bind fun x ρ1 => ofO (deref ρ1 x) fun d => ofO (truD d) fun b => .ok b ρ1) {σ : L2.St} {H : Hp} {Q : Bool → Hp → Prop} (hb : ∀ ρ, wpR (ev C rf ta ρ) (fun _ _ => True) → wpR (ev C rf ta ρ) fun x _ => ∃ b, x = .fz (.bl b)) (h : (rdT X.K X.w C rf ta) σ H Q) :
    (rdE X.K X.w C rf ta) σ H fun v H' => ∃ k, v = .bl k ∧ Q k H' := by
  obtain ⟨F, ρ, S, h⟩ := h
  rw [ht] at h
  simp only [wpR_bind, wpR_ofO, wpR_ok] at h
  refine ⟨F, ρ, S, ?_⟩
  obtain ⟨x, ρ1, e, h⟩ := wpR_iff.mp h
  have := hb ρ (wpR_iff.mpr ⟨x, ρ1, e, trivial⟩)
  rw [e] at this
  obtain ⟨k, rfl⟩ := (this : ∃ b, x = .fz (.bl b))
  rw [e]
  obtain ⟨d, e1, b, e2, q⟩ := h
  cases e1
  cases e2
  intro v F' H' g
  cases (show Rp _ _ _ _ _ from g.rr)
  exact ⟨_, rfl, q F' H' g.sr g.st⟩
theorem t_cmp {op : CmpOp} (hu : X.A.units + 64 < cLine) (hb' : unset b = true) (ha : PE X a (rdE X.K X.w C rf ta)) (hb : PE X b (rdE X.K X.w C rf tb)) : PT X (.Compare a [op] [b] pos) (rdT X.K X.w C rf (.cmp op ta tb)) :=
  PT.imp (pt_cmpR (op_cmp hu op) ha hb (unset_marks hb')) fun σ H Q h => rd_cmp1 (t_bool (fun ρ => by simp only [evT_eqs]) (fun ρ h => by
    simp only [ev_eqs, wpR_bind, wpR_ofO, wpR_ok] at h ⊢
    exact wpR_mono h fun x ρ1 h => wpR_mono h fun y ρ2 ⟨d, e1, e, e2, r, e3, _⟩ => ⟨d, e1, e, e2, r, e3, r, rfl⟩) h)
theorem t_chain {op op' : CmpOp} (hu : X.A.units + 64 < cLine) (hc' : unset c = true) (ha : PE X a (rdE X.K X.w C rf ta)) (hb : PE X b (rdE X.K X.w C rf tb)) (hc : PE X c (rdE X.K X.w C rf tc)) : PT X (.Compare a [op, op'] [b, c] pos) (rdT X.K X.w C rf (.chain op op' ta tb tc)) :=
  PT.imp (pt_chain (op_cmp hu op) (op_cmp hu op') ha hb hc (unset_last hc')) fun σ H Q h => rd_chain1 (t_bool (fun ρ => by simp only [evT_eqs]) (fun ρ h => by
    simp only [ev_eqs, wpR_bind, wpR_ofO] at h ⊢
    refine wpR_mono h fun x ρ1 h => wpR_mono h fun y ρ2 ⟨d, e1, e, e2, r, e3, h⟩ => ⟨d, e1, e, e2, r, e3, ?_⟩
    cases r with
    | false =>
      simp only [Bool.false_eq_true, if_false, wpR_ok]
      exact ⟨_, rfl⟩
    | true =>
      simp only [if_true, wpR_bind, wpR_ofO, wpR_ok] at h ⊢
      exact wpR_mono h fun z ρ3 ⟨d, e1, e, e2, r, e3, _⟩ => ⟨d, e1, e, e2, r, e3, r, rfl⟩) h)
theorem t_not (ha : PT X a (rdT X.K X.w C rf ta)) : PT X (.UnaryOp .Not a pos) (rdT X.K X.w C rf (.not ta)) :=
  PT.imp (pt_not ha) fun σ H Q ⟨F, ρ, S, h⟩ => by
    simp only [evT_eqs, wpR_bind, wpR_ok] at h
    exact ⟨F, ρ, S, wpR_mono h fun b ρ1 h F' H' S' s' => h F' H' S' s'⟩
/-- and, or as tests -/
theorem w_and1 (ha : PT X a (rdT X.K X.w C rf ta)) : PW X (.BoolOp .And [a] pos) (rdT X.K X.w C rf ta) := pw_and1 ha
theorem w_or1 (ha : PT X a (rdT X.K X.w C rf ta)) : PW X (.BoolOp .Or [a] pos) (rdT X.K X.w C rf ta) := pw_or1 ha
theorem w_and {rest : List Expr} (ha : PT X a (rdT X.K X.w C rf ta)) (hb : PW X (.BoolOp .And (b :: rest) pos) (rdT X.K X.w C rf tb)) : PW X (.BoolOp .And (a :: b :: rest) pos) (rdT X.K X.w C rf (.and ta tb)) :=
  PW.imp (pw_and ha hb) fun σ H Q ⟨F, ρ, S, h⟩ => by
    simp only [evT_eqs, wpR_bind] at h
    refine ⟨F, ρ, S, wpR_mono h fun k ρ1 h F1 H1 S1 s1 => ?_⟩
    cases k with
    | true =>
      simp only [if_true] at h ⊢
      exact ⟨F1, ρ1, S1, wpR_mono h fun k ρ2 h F' H' S' s' => h F' H' S' (s1.trans s')⟩
    | false =>
      simp only [Bool.false_eq_true, if_false, wpR_ok] at h ⊢
      exact h F1 H1 S1 s1
theorem w_or {rest : List Expr} (ha : PT X a (rdT X.K X.w C rf ta)) (hb : PW X (.BoolOp .Or (b :: rest) pos) (rdT X.K X.w C rf tb)) : PW X (.BoolOp .Or (a :: b :: rest) pos) (rdT X.K X.w C rf (.or ta tb)) :=
  PW.imp (pw_or ha hb) fun σ H Q ⟨F, ρ, S, h⟩ => by
    simp only [evT_eqs, wpR_bind] at h
    refine ⟨F, ρ, S, wpR_mono h fun k ρ1 h F1 H1 S1 s1 => ?_⟩
    cases k with
    | false =>
      simp only [Bool.false_eq_true, if_false] at h ⊢
      exact ⟨F1, ρ1, S1, wpR_mono h fun k ρ2 h F' H' S' s' => h F' H' S' (s1.trans s')⟩
    | true =>
      simp only [if_true, wpR_ok] at h ⊢
      exact h F1 H1 S1 s1
end
end Mp

set_option maxRecDepth 100000
set_option maxHeartbeats 4000000
/-! isinstance, methods, items stored. -/
namespace Mp
open PySem PySem.Spec PyProof.Rows L2

/-! ### isinstance -/
def tyNm : D → String
  | .non => "NoneType"
  | .bl _ => "bool"
  | .int _ => "int"
  | .str _ => "str"
  | .lst _ => "list"
  | .tup _ => "tuple"
  | .dct _ _ => "dict"
  | _ => ""
def nmT : Ty → String
  | .int => "int" | .bool => "bool" | .str => "str" | .list => "list" | .tuple => "tuple" | .dict => "dict"
def isTyN : Ty → String → Bool
  | .int, n => n == "int" || n == "bool"
  | .bool, n => n == "bool"
  | .str, n => n == "str"
  | .list, n => n == "list"
  | .tuple, n => n == "tuple"
  | .dict, n => n == "dict"
theorem kit_tab (t : Ty) : ∀ n ∈ ["NoneType", "bool", "int", "str", "list", "tuple", "dict"], kitB n (nmT t) = some (isTyN t n) := by
  cases t <;> decide +kernel
theorem isTy_N {d : D} {t : Ty} (h : isiD d [] ≠ none) : isTy t d = isTyN t (tyNm d) ∧ tyNm d ∈ ["NoneType", "bool", "int", "str", "list", "tuple", "dict"] := by
  cases d <;> first | exact absurd rfl h | (refine ⟨?_, by simp [tyNm]⟩; cases t <;> first | rfl | simp [isTy, isTyN, tyNm])
theorem kit_val {K : PySem.W.Frag} {d : D} {t : Ty} (h : isiD d [] ≠ none) : PySem.W.kitOne K (.type (tyNm d)) (.type (nmT t)) = some (isTy t d) := by
  obtain ⟨e1, e2⟩ := isTy_N (t := t) h
  rw [e1]
  exact kit_ty (kit_tab t _ e2)
theorem kit_any {K : PySem.W.Frag} {d : D} (h : isiD d [] ≠ none) : ∀ ts : List Ty, PySem.W.kitAny K (.type (tyNm d)) (ts.map fun t => .type (nmT t)) = some (ts.any fun t => isTy t d)
  | [] => kitAny_nil
  | t :: ts => by
    rw [List.map_cons, List.any_cons]
    refine kitAny_cons (kit_val h (t := t)) (fun e => ?_) (fun e => ?_)
    · rw [kit_any h ts, e, Bool.false_or]
    · rw [e, Bool.true_or]
section
variable {X : Cx} {pins : List (Addr × Obj)} {σ : L2.St} {H F : Hp} {s : Shared}
theorem kit_ar {x : V} {u : Value} {d : D} (I : Inv X pins σ H s) (sm : Same F H) (a : Ar X.K X.w F H x d) (rx : RelV x u) (h : isiD d [] ≠ none) :
    ∃ P : Heap → Prop, PySem.W.KitX X.K u (.type (tyNm d)) P ∧ P s.heap ∧ u ≠ .builtin "__main__.__loader__#opaque" := by
  cases d with
  | non => cases a.non; exact kit_of I rx (.base .non)
  | bl b => cases a.bl; exact kit_of I rx (.base (.bl b))
  | int i => cases a.int; exact kit_of I rx (.base (.int i))
  | str y => cases a.str; exact kit_of I rx (.base (.str y))
  | lst ds =>
    obtain ⟨p, xs, rfl, h1, _⟩ := a.lst sm
    exact kit_of I rx (.base (.lst h1))
  | tup ds =>
    obtain ⟨p, xs, rfl, h1, _⟩ := a.tup sm
    rcases h1 with (h1 | ⟨o, h1⟩) | ⟨o, its, n, h1, h2, _⟩
    · exact kit_of I rx (.base (.tup h1))
    · exact kit_of I rx (.fTuple h1)
    · exact kit_of I rx (.kTuple h1 h2)
  | dct ks vs =>
    obtain ⟨p, rfl, ow⟩ := a.dct sm
    rcases ow with ⟨kvs, e, _⟩ | ⟨es, e, _⟩
    · exact kit_of I rx (.base (.dK e))
    · cases (show u = Value.ref p from rx)
      obtain ⟨⟨_, o, _, _, ho, hx, _⟩, _⟩ := I.hok p _ e
      exact ⟨_, PySem.W.kitx_dict, ⟨o, ho, hx.1⟩, fun z => nomatch z⟩
  | set _ => exact absurd rfl h
  | obj _ _ _ => exact absurd rfl h
  | fn _ => exact absurd rfl h
  | scr _ => exact absurd rfl h
end
theorem isiD_nil {d : D} {ts : List Ty} {b : Bool} (h : isiD d ts = some b) : isiD d [] ≠ none ∧ b = ts.any fun t => isTy t d := by
  cases d <;> simp_all [isiD]
section
variable {X : Cx} {C : Cl} {rf : List Bool} {a b c : Expr} {ta tb tc : E} {pos : Pos}
theorem vals_tys : ∀ {ts : List Ty} {its : List Value}, Vals (ts.map fun t => .ty (nmT t)) its → its = ts.map fun t => .type (nmT t)
  | [], _, h => by cases h; rfl
  | t :: ts, _, h => by
    rw [List.map_cons] at h
    cases h with
    | cons k1 k2 => rw [vals_tys k2]; exact congrArg (· :: _) k1
/-- isinstance(x, T) and isinstance(x, (T1, ..)), by values -/
theorem cr_isi (ts : List Ty) : CallR X (.builtin "isinstance") (fun xs H Q => ∃ F x y d b, xs = [x, y] ∧ ((∃ t, ts = [t] ∧ y = .ty (nmT t)) ∨ ∃ p, y = .ref p ∧ H p = some (.tup (ts.map fun t => .ty (nmT t)))) ∧ Same F H ∧ Ar X.K X.w F H x d ∧ isiD d ts = some b ∧ Q (.bl b) H) := by
  intro pins s σ H xs us Q I r ⟨F, x, y, d, b, ex, hy, sm, ar, e, q⟩
  subst ex
  obtain ⟨u1, u2, rfl, r1, r2⟩ := vals2 r
  obtain ⟨h0, eb⟩ := isiD_nil e
  subst eb
  obtain ⟨P, Z, p, hx⟩ := kit_ar I sm ar r1 h0
  rcases hy with ⟨t, rfl, rfl⟩ | ⟨tp, rfl, hT⟩
  · cases (show u2 = Value.type (nmT t) from r2)
    have k := kit_any (K := X.K) h0 [t]
    refine PySem.W.kia_one Z I.kIn p (kit_val h0) hx fun tk => ⟨.bl (isTy t d), H, I.tok tk, rfl, ?_⟩
    simpa using q
  · cases (show u2 = Value.ref tp from r2)
    obtain ⟨_, its, rv, o, h1, h2, n, h3⟩ := (show ObjOk X.prog X.w H s.heap tp (.tup (ts.map fun t => .ty (nmT t))) from I.hok tp _ hT)
    have e3 := vals_tys rv
    subst e3
    obtain ⟨oc, od, dt, sl⟩ := o
    simp only at h2 h3
    subst h2 h3
    exact PySem.W.kia_tup Z I.kIn p h1 (kit_any h0 ts) hx fun tk => ⟨.bl _, H, I.tok tk, rfl, q⟩
/-- the class, or classes, as written: names of built-in types -/
inductive ClsE (X : Cx) : Expr → List Ty → Prop
  | one {x : Str} {p : Pos} {t : Ty} : Gl X x → X.mg x = none → bootBuiltins x = some (.type (nmT t)) → x ≠ "__name__" → (x == ("__debug__" : Str)) = false → ClsE X (.Name x p) [t]
def ClsEs (X : Cx) : List Expr → List Ty → Prop
  | [], [] => True
  | e :: es, t :: ts => ClsE X e [t] ∧ ClsEs X es ts
  | _, _ => False
theorem ClsE.pe {e : Expr} {t : Ty} (h : ClsE X e [t]) : PE X e (tC (.ty (nmT t))) ∧ unstar e = true := by
  cases h with
  | one h1 h2 h3 h4 h5 => exact ⟨pe_bltn h1 h2 h3 rfl h4 h5, rfl⟩
def tTys : List Ty → TA
  | [] => tNil
  | t :: ts => tCons (tC (.ty (nmT t))) (tTys ts)
theorem ClsEs.pa : ∀ {es : List Expr} {ts : List Ty}, ClsEs X es ts → PA X es (tTys ts)
  | [], [], _ => pa_nil
  | e :: es, t :: ts, ⟨h1, h2⟩ => pa_cons h1.pe.1 (ClsEs.pa h2) (star_cons h1.pe.2)
theorem tTys_at : ∀ (ts : List Ty) {σ : L2.St} {H : Hp} {Q : List V → Hp → Prop}, Q (ts.map fun t => .ty (nmT t)) H → tTys ts σ H Q
  | [], _, _, _, h => h
  | t :: ts, _, _, _, h => tTys_at ts h
theorem e_isi1 {p : Pos} {t : Ty} {e : Expr} (hg : Gl X "isinstance") (hm : X.mg "isinstance" = none) (hs : unstar a = true) (ha : PE X a (rdE X.K X.w C rf ta)) (hc : ClsE X e [t]) : PE X (.Call (.Name "isinstance" p) [a, e] [] pos) (rdE X.K X.w C rf (.isi ta [t])) :=
  PE.imp (pe_callB (cr_isi [t]) hg hm boot_isinstance (pa_cons ha (pa_cons hc.pe.1 pa_nil (star_cons hc.pe.2)) (star_cons hs)) (by decide) (by decide) (star_cons hs) (star_plain (by simp [hc.pe.2]))) fun σ H Q ⟨F, ρ, S, h⟩ => by
    simp only [ev_eqs, wpR_bind, wpR_ofO, wpR_ok] at h
    refine ⟨F, ρ, S, wpR_mono h fun x ρ1 h v1 F1 H1 g1 => ?_⟩
    obtain ⟨d, e1, b, e2, q⟩ := h
    exact ⟨F1, v1, _, d, b, rfl, .inl ⟨t, rfl, rfl⟩, g1.sr.sm, g1.rr.deref g1.sr e1, e2, rd_now g1.sr (.bl b) fun v F' H' g => q v F' H' (g.from g1.st)⟩
theorem e_isiT {p p2 : Pos} {n : Nat} {ts : List Ty} {es : List Expr} (hg : Gl X "isinstance") (hm : X.mg "isinstance" = none) (hs : unstar a = true) (ha : PE X a (rdE X.K X.w C rf ta)) (hc : ClsEs X es ts) (hl : ts.length ≤ sizeLine) : PE X (.Call (.Name "isinstance" p) [a, .Tuple es n p2] [] pos) (rdE X.K X.w C rf (.isi ta ts)) :=
  PE.imp (pe_callB (cr_isi ts) hg hm boot_isinstance (pa_cons ha (pa_cons (pe_tup hc.pa) pa_nil (star_cons rfl)) (star_cons hs)) (by decide) (by decide) (star_cons hs) (star_plain rfl)) fun σ H Q ⟨F, ρ, S, h⟩ => by
    simp only [ev_eqs, wpR_bind, wpR_ofO, wpR_ok] at h
    refine ⟨F, ρ, S, wpR_mono h fun x ρ1 h v1 F1 H1 g1 => tTys_at ts ⟨by rw [List.length_map]; exact hl, fun tp hp => ?_⟩⟩
    obtain ⟨d, e1, b, e2, q⟩ := h
    have gr : Grow F1 H1 F1 (upd H1 tp (.tup (ts.map fun t => .ty (nmT t)))) := ⟨Same.refl F1, same_upd hp, same_of g1.sr.sm hp, fun a o e => .inl ⟨o, e⟩⟩
    have g2 := Gd.of g1.sr gr (v := .bl b) (x := .fz (.bl b)) (Rp.bl b)
    exact ⟨F1, v1, _, d, b, rfl, .inr ⟨tp, rfl, upd_same⟩, g2.sr.sm, (g1.rr.step g2.st).deref g2.sr e1, e2, q _ _ _ (g2.from g1.st)⟩

/-! ### a thing of a name's own is changed -/
theorem mut_ok {K : PySem.W.Frag} {w : World} {F H : Hp} {σ : L2.St} {ρ : Ev} {i : Nat} {q : Addr} {d d' : D} {o : HO} (S : SR K w F H σ ρ) (hi : ρ[i]? = some (some (.ow d))) (hs : σ[i]? = some (some (.ref q))) (hd : OwnAt K w F (upd H q o) q d') :
    SR K w F (upd H q o) σ (ρ.set i (some (.ow d'))) ∧ Step F H F (upd H q o) (Own σ ρ) (Own σ (ρ.set i (some (.ow d')))) := by
  have oq : Own σ ρ q := ⟨i, d, hi, hs⟩
  obtain ⟨nq, fq⟩ := S.own_ne oq
  have sub : ∀ b, Own σ (ρ.set i (some (.ow d'))) b → Own σ ρ b := fun b ⟨j, e, k1, k2⟩ => by
    rcases set_get k1 with ⟨rfl, _⟩ | ⟨_, z⟩
    · rw [hs] at k2; cases k2; exact oq
    · exact ⟨j, e, z, k2⟩
  refine ⟨⟨fun b u e => ?_, by rw [List.length_set]; exact S.len, fun j c e => ?_, fun j k b x y k1 k2 k3 k4 => ?_⟩, Same.refl F, fun b no h => ?_, fun b h => .inl (sub b h), fun b h => ?_⟩
  · rw [upd_ne (ne_of_none e fq)]
    exact S.sm _ _ e
  · rcases set_get e with ⟨rfl, z⟩ | ⟨ne, z⟩
    · cases z; exact ⟨.ref q, hs, q, rfl, fq, hd⟩
    · obtain ⟨u, u1, u2⟩ := S.cell j c z
      refine ⟨u, u1, ?_⟩
      cases c with
      | fz d => exact u2
      | ow d =>
        obtain ⟨b, k1, k2, k3⟩ := u2
        subst k1
        have : b ≠ q := fun y => ne (S.dis i j q _ _ hi z hs (y ▸ u1))
        exact ⟨b, rfl, k2, k3.up (Same.refl F) (upd_ne this)⟩
  · rcases set_get k1 with ⟨rfl, _⟩ | ⟨n1, z1⟩
    · rcases set_get k2 with ⟨rfl, _⟩ | ⟨_, z2⟩
      · rfl
      · exact S.dis i k b d y hi z2 k3 k4
    · rcases set_get k2 with ⟨rfl, _⟩ | ⟨_, z2⟩
      · exact S.dis j i b x d z1 hi k3 k4
      · exact S.dis j k b x y z1 z2 k3 k4
  · have : b ≠ q := fun y => no (y ▸ oq)
    exact ⟨upd_ne this, id⟩
  · by_cases y : b = q
    · subst y; rw [upd_same]; exact Option.some_ne_none _
    · rw [upd_ne y]; exact h

/-! ### methods -/
def rM (K : PySem.W.Frag) (w : World) (m : Mth) : V → List V → Hp → VK → Prop := fun x vs H Q => ∃ F a d ds r d', x = .ref a ∧ Same F H ∧ F a = none ∧ OwnAt K w F H a d ∧ Ars K w F H vs ds ∧ (m ≠ .extend → Rps K w F vs ds) ∧ mutD m d ds = some (r, d') ∧ ∀ v o, OwnAt K w F (upd H a o) a d' → Rp K w F v r → Q v (upd H a o)
theorem m_append : MtR X "list.append" (rM X.K X.w .append) := by
  intro pins s σ H x vs v us Q I rx rv ⟨F, p, d, ds, r, d', ex, sm, fp, ow, as, rp, e, q⟩
  unfold mutD at e
  split at e <;> (first | contradiction | skip)
  split at e <;> cases e
  rename_i xs y hl
  obtain ⟨zs, h1, h2⟩ := ow
  have rp := rp (by decide)
  cases rp with
  | cons r1 r2 =>
    cases r2
    exact mt_append pins s σ H x _ v us Q I rx rv ⟨p, zs, _, ex, rfl, h1, by rw [h2.length]; exact okLen_ls hl, q _ _ ⟨_, upd_same, h2.append (.cons r1 .nil)⟩ .non⟩
theorem m_extend : MtR X "list.extend" (rM X.K X.w .extend) := by
  intro pins s σ H x vs v us Q I rx rv ⟨F, p, d, ds, r, d', ex, sm, fp, ow, as, rp, e, q⟩
  unfold mutD at e
  split at e <;> (first | contradiction | skip)
  split at e <;> cases e
  rename_i xs ys hl
  obtain ⟨zs, h1, h2⟩ := ow
  obtain ⟨v1, e1, ar⟩ := as.one
  subst e1
  obtain ⟨b, ws, rfl, k1, k2⟩ := ar.lst sm
  exact mt_extend pins s σ H x _ v us Q I rx rv ⟨p, b, zs, ws, ex, rfl, h1, k1, by rw [h2.length, k2.length]; exact okLen_le hl, q _ _ ⟨_, upd_same, h2.append k2⟩ .non⟩
theorem m_pop : MtR X "list.pop" (rM X.K X.w .pop) := by
  intro pins s σ H x vs v us Q I rx rv ⟨F, p, d, ds, r, d', ex, sm, fp, ow, as, rp, e, q⟩
  unfold mutD at e
  split at e <;> (first | contradiction | skip)
  rename_i xs
  obtain ⟨y, e1, e2⟩ := Option.map_eq_some_iff.mp e
  cases e2
  obtain ⟨zs, h1, h2⟩ := ow
  cases as
  obtain ⟨z, k1, k2⟩ := h2.get e1
  exact mt_pop pins s σ H x _ v us Q I rx rv ⟨p, zs, z, ex, rfl, h1, by rw [h2.length]; exact k1, q _ _ ⟨_, upd_same, h2.dropLast⟩ k2⟩
theorem m_popAt : MtR X "list.pop" (rM X.K X.w .popAt) := by
  intro pins s σ H x vs v us Q I rx rv ⟨F, p, d, ds, r, d', ex, sm, fp, ow, as, rp, e, q⟩
  unfold mutD at e
  split at e <;> (first | contradiction | skip)
  split at e <;> (first | contradiction | skip)
  rename_i xs i _ hl
  rw [Bool.and_eq_true, decide_eq_true_eq, decide_eq_true_eq] at hl
  obtain ⟨k, e1, e2⟩ := Option.bind_eq_some_iff.mp e
  obtain ⟨y, e3, e4⟩ := Option.map_eq_some_iff.mp e2
  cases e4
  obtain ⟨zs, h1, h2⟩ := ow
  obtain ⟨v1, rfl, ar⟩ := as.one
  cases ar.int
  obtain ⟨z, k1, k2⟩ := h2.get e3
  exact mt_popAt pins s σ H x _ v us Q I rx rv ⟨p, zs, i, k, z, ex, rfl, h1, hl.1, hl.2, by rw [h2.length]; exact e1, k1, q _ _ ⟨_, upd_same, h2.eraseIdx k⟩ k2⟩
/-- a method that changes nothing -/
def rN (K : PySem.W.Frag) (w : World) (m : Mth) : V → List V → Hp → VK → Prop := fun x vs H Q => ∃ F d ds r, Same F H ∧ Ar K w F H x d ∧ Ars K w F H vs ds ∧ mthD m d ds = some r ∧ ∀ v F' H', Grow F H F' H' → Out1 K w H F' H' v r → Q v H'
theorem m_index (hu : X.A.units + 65 < cLine) : MtR X "list.index" (rN X.K X.w .index) := by
  intro pins s σ H x vs v us Q I rx rv ⟨F, d, ds, r, sm, ar, as, e, q⟩
  unfold mthD at e
  split at e <;> (first | contradiction | skip)
  split at e <;> (first | contradiction | skip)
  rename_i xs y _ hl
  simp only [Bool.and_eq_true] at hl
  obtain ⟨⟨⟨p1, p2⟩, p3⟩, p4⟩ := hl
  obtain ⟨j, e1, rfl⟩ := Option.map_eq_some_iff.mp e
  obtain ⟨v1, rfl, ay⟩ := as.one
  have rx' := ar.rp sm
  obtain ⟨a, zs, rfl, _, _⟩ := ar.lst sm
  obtain ⟨hj, f1, f2⟩ := List.findIdx?_eq_some_iff_getElem.mp e1
  have et : toPy (.lst xs) = .list (xs.map toPy) := by simp only [toPy, toPys_map]
  have k1 := Rp.dp (.lst xs) _ p2 rx'
  rw [et] at k1 p4
  refine mt_indexD hu pins s σ H _ _ v us Q I rx rv ⟨a, v1, toPy y, xs.map toPy, j, toPy xs[j], rfl, rfl, k1, Rp.dp y _ p1 (ay.rp sm), p4, p3, by simp [List.getElem?_eq_getElem hj], f1, fun m z' hm hz => ?_, Grow.fz sm q (.int _)⟩
  have hm' : m < xs.length := by omega
  rw [List.getElem?_map, List.getElem?_eq_getElem hm'] at hz
  cases hz
  exact Bool.eq_false_iff.mpr (f2 m hm)
def unsuper : Expr → Bool
  | .Call _ [] [] _ => false
  | _ => true
theorem unsuper_base {o : Expr} {m : Str} {env : Env} (h : unsuper o = true) : attributeBase o m env (eval o env) = eval o env := by
  cases o with
  | Call f as ks p =>
    cases as with
    | nil =>
      cases ks with
      | nil => cases h
      | cons _ _ => cases f <;> rfl
    | cons _ _ => cases f <;> rfl
  | _ => rfl
/-- what a method is looked up at -/
def kindT : Mth → String
  | .join => "str"
  | .get => "dict"
  | .setdefault => "dict"
  | .update => "dict"
  | _ => "list"
theorem kind_is {pins : List (Addr × Obj)} {σ : L2.St} {F H : Hp} {s : Shared} {m : Mth} {d : D} {x : V} {v : Value} (I : Inv X pins σ H s) (sm : Same F H) (ar : Ar X.K X.w F H x d) (r : RelV x v) (h : kindOk m d = true) :
    s.TypeIs v (kindT m) ∧ ∀ a, v = .ref a → ∃ ob, s.heap.get? a = some ob ∧ ob.dict = none := by
  have lst : ∀ xs, d = .lst xs → s.TypeIs v "list" ∧ ∀ a, v = .ref a → ∃ ob, s.heap.get? a = some ob ∧ ob.dict = none := fun xs e => by
    subst e
    obtain ⟨p, zs, rfl, h1, _⟩ := ar.lst sm
    exact tyV_is I r (.inl ⟨rfl, zs, SqL.of h1⟩)
  have dct : ∀ ks vs, d = .dct ks vs → s.TypeIs v "dict" ∧ ∀ a, v = .ref a → ∃ ob, s.heap.get? a = some ob ∧ ob.dict = none := fun ks vs e => by
    subst e
    obtain ⟨p, rfl, ow⟩ := ar.dct sm
    rcases ow with ⟨kvs, e, _⟩ | ⟨es, e, _⟩
    · exact tyV_is I r (.inr (.inr (.inl ⟨rfl, .inl ⟨_, e⟩⟩)))
    · cases (show v = Value.ref p from r)
      obtain ⟨⟨_, o, _, _, ho, hx, _⟩, _⟩ := I.hok p _ e
      refine ⟨⟨o, ho, hx.1⟩, fun a z => ?_⟩
      cases z
      exact ⟨o, ho, hx.2.1⟩
  unfold kindOk at h
  split at h <;> first | contradiction | exact lst _ rfl | exact dct _ _ rfl | skip
  cases ar.str
  exact tyV_is I r rfl
theorem Ars.of {K : PySem.W.Frag} {w : World} {F H : Hp} : ∀ {vs : List V} {ds : List D}, Rps K w F vs ds → Ars K w F H vs ds
  | _, [], h => by cases h; exact .nil
  | _, _ :: _, h => by cases h with | cons h1 h2 => exact .cons (.fz h1) (Ars.of h2)
theorem mArgs_ok {K : PySem.W.Frag} {w : World} {m : Mth} {F H F0 H0 : Hp} {σ : L2.St} {ρ ρ0 ρ' : Ev} {vs : List V} {ys : List RV} {ds : List D} (S : SR K w F H σ ρ) (r : RRs K w F H σ (Own σ ρ) vs ys) (s : Step F0 H0 F H (Own σ ρ0) (Own σ ρ)) (fh : Freshs H0 vs ys) (h : mArgs rf m ys ρ = some (ds, ρ')) :
    ∃ F', SR K w F' H σ ρ' ∧ Step F0 H0 F' H (Own σ ρ0) (Own σ ρ') ∧ Ars K w F' H vs ds ∧ (m ≠ .extend → m ≠ .update → Rps K w F' vs ds) := by
  have no : freezes rf ys ρ = some (ds, ρ') → ∃ F', SR K w F' H σ ρ' ∧ Step F0 H0 F' H (Own σ ρ0) (Own σ ρ') ∧ Ars K w F' H vs ds ∧ (m ≠ .extend → m ≠ .update → Rps K w F' vs ds) := fun h => by
    obtain ⟨F', a, b, c, _⟩ := freezes_ok S r s fh h
    exact ⟨F', a, b, .of c, fun _ _ => c⟩
  unfold mArgs at h
  split at h
  · obtain ⟨d, e1, e2⟩ := Option.map_eq_some_iff.mp h
    cases e2
    exact ⟨F, S, s, r.derefs S e1, fun z => absurd rfl z⟩
  · obtain ⟨d, e1, e2⟩ := Option.map_eq_some_iff.mp h
    cases e2
    exact ⟨F, S, s, r.derefs S e1, fun _ z => absurd rfl z⟩
  · exact no h
/-- behind the arguments of a method that changes its thing -/
theorem mut_rd {m : Mth} {F H F1 H1 F2 H2 : Hp} {σ : L2.St} {ρ ρ1 ρ2 : Ev} {x : RV} {v1 : V} {vs : List V} {ys : List RV} {Q : VK} (hup : m ≠ .update) (g1 : Gd X.K X.w F H F1 H1 σ ρ ρ1 v1 x) (g2 : Gds X.K X.w F1 H1 F2 H2 σ ρ1 ρ2 vs ys)
    (h : wpR (match x with
        | .var i => ofO (mArgs rf m ys ρ2) fun p => match p.2[i]? with
          | some (some (.ow d)) => ofO (mutD m d p.1) fun q => .ok (.fz q.1) (p.2.set i (some (.ow q.2)))
          | _ => .bad
        | _ => (.bad : Res RV)) fun x ρ' => ∀ v F' H', Gd X.K X.w F H F' H' σ ρ ρ' v x → Q v H') : rM X.K X.w m v1 vs H2 Q := by
  split at h
  · rename_i i
    rw [wpR_ofO] at h
    obtain ⟨⟨ds, ρ3⟩, e1, h⟩ := h
    obtain ⟨F3, S3, s3, as, rp⟩ := mArgs_ok g2.sr g2.rr g2.st g2.fh e1
    split at h
    · rename_i d q
      rw [wpR_ofO] at h
      obtain ⟨⟨r, d'⟩, e2, h⟩ := h
      have hs : σ[i]? = some (some v1) := g1.rr
      obtain ⟨u, k1, a, k2, k3, k4⟩ := S3.cell i _ q
      rw [hs] at k1
      cases k1
      subst k2
      refine ⟨F3, a, d, ds, r, d', rfl, S3.sm, k3, k4, as, fun z => rp z hup, e2, fun v o ow rv => ?_⟩
      obtain ⟨S4, s4⟩ := mut_ok S3 q hs ow
      exact h v F3 _ ⟨S4, (g1.st.trans s3).trans s4, rv, fun d a z => nomatch z⟩
    · exact h.elim
  · exact h.elim
theorem few_ok {cpos : Pos} {env : Env} {es : List Expr} (h : es.all unstar = true) (hl : es.length < 30) : ((backTo cpos (starEach es env)).all (fun x => !x.1) && (backToKw cpos (keywordEach [] env)).all (fun x => x.1.isSome)
      && decide (es.length + ([] : List Keyword).length + (if ([] : List Keyword).isEmpty then 0 else 1) < 30)) = true := by
  have e : (backTo cpos (starEach es env)).all (fun x => !x.1) = true := by
    have := star_plain (pos := cpos) (env := env) h
    rw [List.any_eq_false] at this
    rw [List.all_eq_true]
    intro x hx
    have := this x hx
    cases q : x.1
    · rfl
    · exact absurd q this
  rw [e]
  simpa [keywordEach, backToKw] using hl
theorem e_mut1 {m : Mth} {id : String} {name : Str} {apos cpos : Pos} {o e : Expr} {es : List Expr} {to : E} {ts : Es} (hmut : isMut m = true) (hup : m ≠ .update) (pa : PlainAttrs (kindT m)) (slot : Slot (kindT m) name id) (hty : typeOf (.builtin id) = pure (.type "method_descriptor")) (hm : MtR X id (rM X.K X.w m))
    (hob : unsuper o = true) (he : (e :: es).all unstar = true) (hn : (e :: es).length < 30) (hline : (apos.endLine == cpos.line) = true) (ho : PE X o (rdE X.K X.w C rf to)) (ha : PA X (e :: es) (rdA X.K X.w C rf ts)) : PE X (.Call (.Attribute o name apos) (e :: es) [] cpos) (rdE X.K X.w C rf (.mth m to ts)) := by
  refine ⟨fun pins s σ H Q I ⟨F, ρ, S, h⟩ => ?_⟩
  simp only [ev_eqs, hmut, if_true, wpR_bind, wpR_ofO] at h
  refine wpAny_Call_method_late (unsuper_base hob) (few_ok he hn) hline rfl (thn (ho.run pins s σ H (fun v1 H1 => ∃ x ρ1 F1, Gd X.K X.w F H F1 H1 σ ρ ρ1 v1 x ∧ _) I ⟨F, ρ, S, wpR_mono h fun x ρ1 h v1 F1 H1 g1 => ⟨x, ρ1, F1, g1, h⟩⟩) fun v s1 ⟨v1, H1, I1, r1, q1⟩ => ?_)
  obtain ⟨x, ρ1, F1, g1, d0, e1, h⟩ := q1
  split at h
  · rename_i hk
    obtain ⟨h1, h2⟩ := kind_is I1 g1.sr.sm (g1.rr.deref g1.sr e1) r1 hk
    refine ⟨kindT m, id, pa, slot, hty, h1, h2, ?_⟩
    rw [wpR_bind] at h
    have hA := ha.run cpos pins s1 σ H1 (fun vs H2 => rM X.K X.w m v1 vs H2 Q) I1 ⟨F1, ρ1, g1.sr, wpR_mono h fun ys ρ2 h vs F2 H2 g2 => mut_rd hup g1 g2 h⟩
    have he' := he
    rw [List.all_cons, Bool.and_eq_true] at he'
    rw [star_cons he'.1] at hA ⊢
    refine Calls.callWith_builtin (by show (false || (backTo cpos (starEach es X.env)).any (·.1)) = false; rw [star_plain he'.2]; rfl) (Calls.evalArgs_plain ?_)
    exact thn hA fun us s2 ⟨vs, H2, I2, r2, q2⟩ => hm pins s2 σ H2 v1 vs v us Q I2 r1 r2 q2
  · exact h.elim
theorem e_mut0 {m : Mth} {id : String} {name : Str} {apos cpos : Pos} {o : Expr} {to : E} (hmut : isMut m = true) (hup : m ≠ .update) (pa : PlainAttrs (kindT m)) (slot : Slot (kindT m) name id) (hty : typeOf (.builtin id) = pure (.type "method_descriptor")) (hm : MtR X id (rM X.K X.w m))
    (hob : unsuper o = true) (hline : (apos.endLine == cpos.line) = true) (ho : PE X o (rdE X.K X.w C rf to)) : PE X (.Call (.Attribute o name apos) [] [] cpos) (rdE X.K X.w C rf (.mth m to .nil)) := by
  refine ⟨fun pins s σ H Q I ⟨F, ρ, S, h⟩ => ?_⟩
  simp only [ev_eqs, hmut, if_true, wpR_bind, wpR_ofO] at h
  refine wpAny_Call_method0_late (unsuper_base hob) hline (thn (ho.run pins s σ H (fun v1 H1 => ∃ x ρ1 F1, Gd X.K X.w F H F1 H1 σ ρ ρ1 v1 x ∧ _) I ⟨F, ρ, S, wpR_mono h fun x ρ1 h v1 F1 H1 g1 => ⟨x, ρ1, F1, g1, h⟩⟩) fun v s1 ⟨v1, H1, I1, r1, q1⟩ => ?_)
  obtain ⟨x, ρ1, F1, g1, d0, e1, h⟩ := q1
  split at h
  · rename_i hk
    obtain ⟨h1, h2⟩ := kind_is I1 g1.sr.sm (g1.rr.deref g1.sr e1) r1 hk
    simp only [evs_eqs, wpR_bind, wpR_ok] at h
    exact ⟨kindT m, id, pa, slot, hty, h1, h2, Calls.callWith_builtin rfl (PySem.evalArgs_none (hm pins s1 σ H1 v1 [] v [] Q I1 r1 .nil (mut_rd hup g1 (Gds.nil g1.sr) h)))⟩
  · exact h.elim
theorem e_mth1 {m : Mth} {id : String} {name : Str} {apos cpos : Pos} {o e : Expr} {es : List Expr} {to : E} {ts : Es} (hmut : isMut m = false) (pa : PlainAttrs (kindT m)) (slot : Slot (kindT m) name id) (hty : typeOf (.builtin id) = pure (.type "method_descriptor")) (hm : MtR X id (rN X.K X.w m))
    (hob : unsuper o = true) (he : (e :: es).all unstar = true) (hn : (e :: es).length < 30) (hline : (apos.endLine == cpos.line) = true) (ho : PE X o (rdE X.K X.w C rf to)) (ha : PA X (e :: es) (rdA X.K X.w C rf ts)) : PE X (.Call (.Attribute o name apos) (e :: es) [] cpos) (rdE X.K X.w C rf (.mth m to ts)) := by
  refine ⟨fun pins s σ H Q I ⟨F, ρ, S, h⟩ => ?_⟩
  simp only [ev_eqs, hmut, Bool.false_eq_true, if_false, wpR_bind, wpR_ofO] at h
  refine wpAny_Call_method_late (unsuper_base hob) (few_ok he hn) hline rfl (thn (ho.run pins s σ H (fun v1 H1 => ∃ x ρ1 F1, Gd X.K X.w F H F1 H1 σ ρ ρ1 v1 x ∧ _) I ⟨F, ρ, S, wpR_mono h fun x ρ1 h v1 F1 H1 g1 => ⟨x, ρ1, F1, g1, h⟩⟩) fun v s1 ⟨v1, H1, I1, r1, q1⟩ => ?_)
  obtain ⟨x, ρ1, F1, g1, d0, e1, h⟩ := q1
  split at h
  · rename_i hk
    obtain ⟨h1, h2⟩ := kind_is I1 g1.sr.sm (g1.rr.deref g1.sr e1) r1 hk
    refine ⟨kindT m, id, pa, slot, hty, h1, h2, ?_⟩
    simp only [wpR_bind, wpR_ofO, wpR_ok] at h
    have hA := ha.run cpos pins s1 σ H1 (fun vs H2 => rN X.K X.w m v1 vs H2 Q) I1 ⟨F1, ρ1, g1.sr, wpR_mono h fun ys ρ2 h vs F2 H2 g2 => by
      obtain ⟨d, k1, ds, k2, r, k3, q⟩ := h
      exact ⟨F2, d, ds, r, g2.sr.sm, (g1.rr.step g2.st).deref g2.sr k1, g2.rr.derefs g2.sr k2, k3, fun v F' H' gr o => q v F' H' (((Gd.of g2.sr gr o).from g2.st).from g1.st)⟩⟩
    have he' := he
    rw [List.all_cons, Bool.and_eq_true] at he'
    rw [star_cons he'.1] at hA ⊢
    refine Calls.callWith_builtin (by show (false || (backTo cpos (starEach es X.env)).any (·.1)) = false; rw [star_plain he'.2]; rfl) (Calls.evalArgs_plain ?_)
    exact thn hA fun us s2 ⟨vs, H2, I2, r2, q2⟩ => hm pins s2 σ H2 v1 vs v us Q I2 r1 r2 q2
  · exact h.elim
end
end Mp

set_option maxRecDepth 100000
set_option maxHeartbeats 4000000
/-! Targets, iterables. -/
namespace Mp
open PySem PySem.Spec PyProof.Rows L2

/-! ### what changes among the slots -/
structure Chg (is : List Nat) (σ σ' : L2.St) : Prop where
  len : σ'.length = σ.length
  eq : ∀ i, i ∉ is → σ'[i]? = σ[i]?
theorem Chg.refl (is : List Nat) (σ : L2.St) : Chg is σ σ := ⟨rfl, fun _ _ => rfl⟩
theorem Chg.trans {is js : List Nat} {σ σ' σ'' : L2.St} (h : Chg is σ σ') (g : Chg js σ' σ'') : Chg (is ++ js) σ σ'' :=
  ⟨g.len.trans h.len, fun i hi => by
    rw [List.mem_append, not_or] at hi
    exact (g.eq i hi.2).trans (h.eq i hi.1)⟩
theorem Chg.mono {is js : List Nat} {σ σ' : L2.St} (h : Chg is σ σ') (s : ∀ i ∈ is, i ∈ js) : Chg js σ σ' := ⟨h.len, fun i hi => h.eq i fun z => hi (s i z)⟩
theorem Chg.set (i : Nat) (σ : L2.St) (v : Option V) : Chg [i] σ (σ.set i v) := ⟨List.length_set, fun j hj => List.getElem?_set_ne fun e => hj (by simp [e])⟩
def RefK (rf : List Bool) (σ σ' : L2.St) : Prop := ∀ i, isRef rf i = true → σ'[i]? = σ[i]?
theorem RefK.refl (rf : List Bool) (σ : L2.St) : RefK rf σ σ := fun _ _ => rfl
theorem RefK.trans {rf : List Bool} {σ σ' σ'' : L2.St} (h : RefK rf σ σ') (g : RefK rf σ' σ'') : RefK rf σ σ'' := fun i hi => (g i hi).trans (h i hi)
mutual
/-- the slots of a target -/
def slotsT : Tg → List Nat
  | .name i => [i]
  | .sub _ _ => []
  | .tup ts => slotsTs ts
def slotsTs : Tgs → List Nat
  | .nil => []
  | .cons t ts => slotsT t ++ slotsTs ts
end

section
variable {K : PySem.W.Frag} {w : World} {F F' F0 H H0 : Hp} {σ : L2.St} {ρ ρ' ρ0 : Ev} {O0 : Addr → Prop} {v : V} {x : RV} {rf : List Bool} {i : Nat}
theorem set_get' {α : Type} {σ : List α} {i j : Nat} {c : α} (h : i ≠ j) : (σ.set i c)[j]? = σ[j]? := List.getElem?_set_ne h
theorem Step.sub {F0 H0 F H : Hp} {O0 O O' : Addr → Prop} (s : Step F0 H0 F H O0 O) (h : ∀ a, O' a → O a ∨ O0 a ∨ H0 a = none) : Step F0 H0 F H O0 O' := ⟨s.fr, s.kp, fun a z => (h a z).elim (s.ow a) id, s.al⟩
/-- a value that is not changed any more goes to slot i -/
theorem store_fz (S : SR K w F H σ ρ) {d : D} (r : Rp K w F v d) (hi : i < σ.length) : SR K w F H (σ.set i (some v)) (ρ.set i (some (.fz d))) ∧ ∀ a, Own (σ.set i (some v)) (ρ.set i (some (.fz d))) a → Own σ ρ a := by
  have sub : ∀ (j : Nat) (e : D), (ρ.set i (some (Cell.fz d)))[j]? = some (some (.ow e)) → i ≠ j ∧ ρ[j]? = some (some (.ow e)) := fun j e h => by
    rcases set_get h with ⟨_, z⟩ | z
    · cases z
    · exact z
  refine ⟨⟨S.sm, by rw [List.length_set, List.length_set]; exact S.len, fun j c e => ?_, fun j k a x y k1 k2 k3 k4 => ?_⟩, fun a ⟨j, e, k1, k2⟩ => ?_⟩
  · rcases set_get e with ⟨rfl, z⟩ | ⟨ne, z⟩
    · cases z; exact ⟨v, by rw [List.getElem?_set_self hi], r⟩
    · obtain ⟨u, u1, u2⟩ := S.cell j c z
      exact ⟨u, by rw [set_get' ne]; exact u1, u2⟩
  · obtain ⟨n1, z1⟩ := sub j x k1
    obtain ⟨n2, z2⟩ := sub k y k2
    rw [set_get' n1] at k3
    rw [set_get' n2] at k4
    exact S.dis j k a x y z1 z2 k3 k4
  · obtain ⟨n1, z1⟩ := sub j e k1
    rw [set_get' n1] at k2
    exact ⟨j, e, z1, k2⟩
theorem store_ok (S : SR K w F H σ ρ) (r : RR K w F H σ (Own σ ρ) v x) (s : Step F0 H0 F H O0 (Own σ ρ)) (fh : Fresh H0 v x) (hi : i < σ.length) (h : store rf i x ρ = some ρ') :
    isRef rf i = false ∧ ∃ F', SR K w F' H (σ.set i (some v)) ρ' ∧ Step F0 H0 F' H O0 (Own (σ.set i (some v)) ρ') ∧ (∀ b, F b = none → F' b = none ∨ (v = .ref b ∧ Own σ ρ b)) ∧ (∀ b, Own (σ.set i (some v)) ρ' b → Own σ ρ b ∨ (v = .ref b ∧ ∃ d, x = .tmp d)) ∧ Same F F' := by
  unfold store at h
  split at h
  · cases h
  rename_i hr
  refine ⟨Bool.eq_false_iff.mpr hr, ?_⟩
  split at h
  · rename_i d
    cases h
    obtain ⟨S', o⟩ := store_fz S r hi
    exact ⟨F, S', s.sub fun a z => .inl (o a z), fun b z => .inl z, fun b z => .inl (o b z), Same.refl F⟩
  · rename_i d
    cases h
    obtain ⟨a, e1, e2, e3, e4⟩ := r
    subst e1
    have hl := S.len
    have sub : ∀ (j : Nat) (e : D), (ρ.set i (some (Cell.ow d)))[j]? = some (some (.ow e)) → (i = j ∧ e = d) ∨ (i ≠ j ∧ ρ[j]? = some (some (.ow e))) := fun j e h => by
      rcases set_get h with ⟨z1, z⟩ | z
      · cases z; exact .inl ⟨z1, rfl⟩
      · exact .inr z
    have nw : ∀ b, Own (σ.set i (some (V.ref a))) (ρ.set i (some (.ow d))) b → Own σ ρ b ∨ a = b := fun b ⟨j, e, k1, k2⟩ => by
      rcases sub j e k1 with ⟨rfl, _⟩ | ⟨n1, z1⟩
      · rw [List.getElem?_set_self hi] at k2; cases k2; exact .inr rfl
      · rw [set_get' n1] at k2; exact .inl ⟨j, e, z1, k2⟩
    refine ⟨F, ⟨S.sm, by rw [List.length_set, List.length_set]; exact S.len, fun j c e => ?_, fun j k b x y k1 k2 k3 k4 => ?_⟩, s.sub fun b z => ?_, fun b z => .inl z, fun b z => ?_, Same.refl F⟩
    · rcases set_get e with ⟨rfl, z⟩ | ⟨ne, z⟩
      · cases z; exact ⟨.ref a, by rw [List.getElem?_set_self hi], a, rfl, e2, e3⟩
      · obtain ⟨u, u1, u2⟩ := S.cell j c z
        exact ⟨u, by rw [set_get' ne]; exact u1, u2⟩
    · rcases sub j x k1 with ⟨rfl, _⟩ | ⟨n1, z1⟩
      · rcases sub k y k2 with ⟨rfl, _⟩ | ⟨n2, z2⟩
        · rfl
        · rw [List.getElem?_set_self hi] at k3
          rw [set_get' n2] at k4
          cases k3
          exact (e4 ⟨k, y, z2, k4⟩).elim
      · rw [set_get' n1] at k3
        rcases sub k y k2 with ⟨rfl, _⟩ | ⟨n2, z2⟩
        · rw [List.getElem?_set_self hi] at k4
          cases k4
          exact (e4 ⟨j, x, z1, k3⟩).elim
        · rw [set_get' n2] at k4
          exact S.dis j k b x y z1 z2 k3 k4
    · rcases nw b z with q | rfl
      · exact .inl q
      · exact .inr (.inr (fh d a rfl rfl))
    · rcases nw b z with q | rfl
      · exact .inl q
      · exact .inr ⟨rfl, d, rfl⟩
  · rename_i j
    split at h
    · rename_i d ρ1 q
      cases h
      obtain ⟨F', f⟩ := freeze_ok S r q
      obtain ⟨S', o⟩ := store_fz f.sr f.rp hi
      refine ⟨F', S', (f.step s fh).sub fun a z => .inl (o a z), fun b z => ?_, fun b z => .inl (f.ow b (o b z)), f.fr⟩
      rcases f.no b z with k | ⟨k1, k2 | ⟨e, k2⟩⟩
      · exact .inl k
      · exact .inr ⟨k1, k2⟩
      · cases k2
    · cases h
end

/-! ### targets -/
def rdG (K : PySem.W.Frag) (w : World) (n : Nat) (C : Cl) (rf : List Bool) (t : Tg) : TG := fun v σ H Q => ∃ F0 H0 O0 F ρ x, σ.length = n ∧ SR K w F H σ ρ ∧ RR K w F H σ (Own σ ρ) v x ∧ Step F0 H0 F H O0 (Own σ ρ) ∧ Fresh H0 v x ∧
  wpR (tgA C rf t x ρ) fun _ ρ' => ∀ σ' F' H', SR K w F' H' σ' ρ' → Step F0 H0 F' H' O0 (Own σ' ρ') → RefK rf σ σ' → Chg (slotsT t) σ σ' → Same F F' → Q σ' H'
def rdGs (K : PySem.W.Frag) (w : World) (n : Nat) (C : Cl) (rf : List Bool) (t : Tgs) : TGs := fun vs σ H Q => ∃ F0 H0 O0 F ρ ds, σ.length = n ∧ SR K w F H σ ρ ∧ Rps K w F vs ds ∧ Step F0 H0 F H O0 (Own σ ρ) ∧
  wpR (tgAs C rf t ds ρ) fun _ ρ' => ∀ σ' F' H', SR K w F' H' σ' ρ' → Step F0 H0 F' H' O0 (Own σ' ρ') → RefK rf σ σ' → Chg (slotsTs t) σ σ' → Same F F' → Q σ' H'
theorem PG.imp {X : Cx} {e : Expr} {t u : TG} (h : PG X e t) (i : ∀ v σ H Q, u v σ H Q → t v σ H Q) : PG X e u := ⟨fun pins s σ H v uu Q I r q => h.run pins s σ H v uu Q I r (i v σ H Q q)⟩
theorem PGs.imp {X : Cx} {e : List Expr} {t u : TGs} (h : PGs X e t) (i : ∀ v σ H Q, u v σ H Q → t v σ H Q) : PGs X e u := ⟨fun pins s σ H v uu Q I r q => h.run pins s σ H v uu Q I r (i v σ H Q q)⟩
/-- o[i] = v by values -/
def rSet (K : PySem.W.Frag) (w : World) : TSet := fun o i v H Q => ∃ F a d k e d', o = .ref a ∧ Same F H ∧ F a = none ∧ OwnAt K w F H a d ∧ Rp K w F i k ∧ Rp K w F v e ∧ setD d k e = some d' ∧ ∀ u, OwnAt K w F (upd H a u) a d' → Q (upd H a u)

theorem map_other {k : Key} {v : V} : ∀ {r : List (Key × V)}, k ∉ r.map (·.1) → r.map (fun kv => if kv.1 = k then (kv.1, v) else kv) = r
  | [], _ => rfl
  | p :: r, h => by
    rw [List.map_cons, List.mem_cons, not_or] at h
    rw [List.map_cons, map_other h.2, if_neg (fun z => h.1 z.symm)]
theorem map_snd {k : Key} {v : V} : ∀ {kvs : List (Key × V)} {i : Nat}, (kvs.map (·.1)).Nodup → (kvs.findIdx? fun p => decide (p.1 = k)) = some i → (kvs.map fun kv => if kv.1 = k then (kv.1, v) else kv).map (·.2) = (kvs.map (·.2)).set i v
  | [], _, _, h => by simp at h
  | p :: r, i, nd, h => by
    rw [List.map_cons, List.nodup_cons] at nd
    rw [List.findIdx?_cons] at h
    by_cases e : p.1 = k
    · rw [decide_eq_true e] at h
      simp only [if_true, Option.some.injEq] at h
      subst h
      have : k ∉ r.map (·.1) := e ▸ nd.1
      rw [List.map_cons, map_other this, if_pos e]
      rfl
    · rw [decide_eq_false e] at h
      simp only [Bool.false_eq_true, if_false, Option.map_eq_some_iff] at h
      obtain ⟨j, h1, h2⟩ := h
      subst h2
      rw [List.map_cons, if_neg e, List.map_cons, map_snd nd.2 h1]
      rfl
theorem map_fst {k : Key} {v : V} (f : Key → D) : ∀ kvs : List (Key × V), (kvs.map fun kv => if kv.1 = k then (kv.1, v) else kv).map (fun p => f p.1) = kvs.map fun p => f p.1
  | [] => rfl
  | p :: r => by
    rw [List.map_cons, List.map_cons, map_fst f r, List.map_cons]
    congr 1
    split <;> rfl
theorem map_fst' {k : Key} {v : V} : ∀ kvs : List (Key × V), (kvs.map fun kv => if kv.1 = k then (kv.1, v) else kv).map (·.1) = kvs.map (·.1)
  | [] => rfl
  | p :: r => by
    rw [List.map_cons, List.map_cons, map_fst' r, List.map_cons]
    congr 1
    split <;> rfl
/-- a dict with a key more, or another value under it -/
theorem Rps.putL {K : PySem.W.Frag} {w : World} {F : Hp} {kvs : List (Key × V)} {vs : List D} (k : Key) {v : V} {e : D} (h : Rps K w F (kvs.map (·.2)) vs) (r : Rp K w F v e) (nd : (kvs.map (·.1)).Nodup) :
    (putK (kvs.map fun p => kD p.1) vs (kD k) e).1 = (L2.putK kvs k v).map (fun p => kD p.1) ∧ Rps K w F ((L2.putK kvs k v).map (·.2)) (putK (kvs.map fun p => kD p.1) vs (kD k) e).2 ∧ ((L2.putK kvs k v).map (·.1)).Nodup := by
  unfold Mp.putK
  rw [toKey_kD, Option.bind_some, keyAt_kD]
  cases q : (kvs.findIdx? fun p => decide (p.1 = k)) with
  | none =>
    have hn : (kvs.any fun kv => decide (kv.1 = k)) = false := by
      rw [List.findIdx?_eq_none_iff] at q
      rw [List.any_eq_false]
      intro x hx
      rw [q x hx]
      exact Bool.false_ne_true
    have e1 : L2.putK kvs k v = kvs ++ [(k, v)] := by unfold L2.putK; rw [if_neg (by rw [hn]; exact Bool.false_ne_true)]
    rw [e1]
    refine ⟨by rw [List.map_append]; rfl, ?_, ?_⟩
    · rw [List.map_append]
      exact h.append (.cons r .nil)
    · rw [List.map_append, List.nodup_append]
      refine ⟨nd, by simp, fun a ha b hb e => ?_⟩
      obtain ⟨x, hx, rfl⟩ := List.mem_map.mp ha
      have hb' : b = k := by simpa using hb
      subst hb'
      rw [List.any_eq_false] at hn
      exact hn x hx (decide_eq_true e)
  | some i =>
    have ht : (kvs.any fun kv => decide (kv.1 = k)) = true := by
      obtain ⟨hi, h1, _⟩ := List.findIdx?_eq_some_iff_getElem.mp q
      exact List.any_eq_true.mpr ⟨_, List.getElem_mem hi, h1⟩
    have e1 : L2.putK kvs k v = kvs.map (fun kv => if kv.1 = k then (kv.1, v) else kv) := by unfold L2.putK; rw [if_pos ht]
    rw [e1]
    refine ⟨(map_fst kD kvs).symm, ?_, by rw [map_fst']; exact nd⟩
    rw [map_snd nd q]
    exact h.set r i
theorem set_all {X : Cx} (hu : X.A.units + 64 < cLine) : PSet X (rSet X.K X.w) := by
  intro pins s σ H o i v ov iv u Q I ro ri rv ⟨F, a, d, k, e, d', eo, sm, fa, ow, rk, re, hd, q⟩
  unfold setD at hd
  split at hd
  · rename_i xs n
    obtain ⟨j, e1, e2⟩ := Option.map_eq_some_iff.mp hd
    subst e2
    obtain ⟨zs, h1, h2⟩ := ow
    cases rk
    exact set_list pins s σ H o _ v ov iv u Q I ro ri rv ⟨a, zs, n, j, eo, rfl, h1, by rw [h2.length]; exact e1, q _ ⟨_, upd_same, h2.set re j⟩⟩
  · rename_i ks vs
    split at hd <;> cases hd
    rename_i hs
    rw [Bool.and_eq_true, Bool.and_eq_true] at hs
    obtain ⟨⟨hl, hl2⟩, hn⟩ := hs
    obtain ⟨kk, rfl⟩ := leaf_kD hl
    cases rk.kV
    rcases ow with ⟨kvs, e1, nd, rfl, rp⟩ | ⟨es, e1, kn, _⟩
    · obtain ⟨g1, g2, g3⟩ := rp.putL kk re nd
      have hn' := okLen_lt hn
      rw [List.length_map] at hn'
      exact set_dict (by omega) pins s σ H o _ v ov iv u Q I ro ri rv ⟨a, _, eo, .k e1 (by rw [sizeLine_eq]; omega), q _ (.inl ⟨_, upd_same, g3, g1, g2⟩)⟩
    · exact (kn.leaf hl2).elim
  · cases hd
section
variable {X : Cx} {C : Cl} {rf : List Bool} {a b c : Expr} {ta tb tc : E} {pos : Pos}
theorem SR.up {K : PySem.W.Frag} {w : World} {F H : Hp} {σ : L2.St} {ρ : Ev} (S : SR K w F H σ ρ) : SR K w F H σ ρ := S
theorem g_name {i : Nat} {x : Str} (hN : X.N.Nodup) (hi : X.N[i]? = some x) (hx : Loc X.env.scope x) (hf : X.fn x = true ∨ X.env.scope.names.lookup x = some .local) : PG X (.Name x pos) (rdG X.K X.w X.N.length C rf (.name i)) :=
  PG.imp (pg_name hN hi hx hf) fun v σ H Q ⟨F0, H0, O0, F, ρ, x, hl, S, r, s, fh, h⟩ => by
    simp only [tgA_eqs, wpR_ofO, wpR_ok] at h
    obtain ⟨ρ', e, q⟩ := h
    have hi' : i < σ.length := by rw [hl]; exact (List.getElem?_eq_some_iff.mp hi).1
    obtain ⟨nr, F', S', s', _, _, fr⟩ := store_ok S r s fh hi' e
    refine q _ F' H S' s' (fun j hj => ?_) (Chg.set i σ _) fr
    exact set_get' fun z => by rw [← z, nr] at hj; cases hj
theorem assign_item (h : unslice b = true) : ∀ v, assign (.Subscript a b pos) X.env v = (do let ov ← holding [v] (eval a X.env); let iv ← holding [v, ov] (eval b X.env); standAt pos; holding [v, ov, iv] (setItem ov iv v); release [v, ov, iv] []) := by
  intro v
  cases b <;> first | rfl | cases h
theorem g_sub (hu : X.A.units + 64 < cLine) (hb' : unslice b = true) (ha : PE X a (rdE X.K X.w C rf ta)) (hb : PE X b (rdE X.K X.w C rf tb)) : PG X (.Subscript a b pos) (rdG X.K X.w X.N.length C rf (.sub ta tb)) :=
  PG.imp (pg_sub ha hb (set_all hu) (assign_item hb')) fun v σ H Q ⟨F0, H0, O0, F, ρ, x, hl, S, r, s, fh, h⟩ => by
    simp only [tgA_eqs, wpR_bind, wpR_ofO] at h
    obtain ⟨⟨e, ρ1⟩, e1, h⟩ := h
    obtain ⟨F1, f⟩ := freeze_ok S r e1
    have s1 := f.step s fh
    refine ⟨F1, ρ1, f.sr, wpR_mono h fun y ρ2 h v1 F2 H2 g1 => ⟨F2, ρ2, g1.sr, wpR_mono h fun z ρ3 h v2 F3 H3 g2 => ?_⟩⟩
    obtain ⟨⟨k, ρ4⟩, e2, h⟩ := h
    cases y with
    | var i =>
      obtain ⟨F4, f2⟩ := freeze_ok g2.sr g2.rr e2
      have hs : σ[i]? = some (some v1) := g1.rr
      dsimp only at h
      split at h
      · rename_i d q
        rw [wpR_ofO] at h
        obtain ⟨d', e3, h⟩ := h
        obtain ⟨u, k1, a, k2, k3, k4⟩ := f2.sr.cell i _ q
        rw [hs] at k1
        cases k1
        subst k2
        have s2 := (s1.trans g1.st)
        have s4 : Step F0 H0 F4 H3 O0 (Own σ ρ4) := f2.step (s2.trans g2.st) (g2.fh.back s2.al)
        refine ⟨F4, a, d, k, e, d', rfl, f2.sr.sm, k3, k4, f2.rp, f.rp.up (g1.st.fr.trans (g2.st.fr.trans f2.fr)), e3, fun o ow => ?_⟩
        obtain ⟨S5, s5⟩ := mut_ok f2.sr q hs ow
        exact h σ F4 _ S5 (s4.trans s5) (RefK.refl rf σ) (Chg.refl _ σ) (f.fr.trans (g1.st.fr.trans (g2.st.fr.trans f2.fr)))
      · exact h.elim
    | fz _ => exact h.elim
    | tmp _ => exact h.elim
theorem gs_nil : PGs X [] (rdGs X.K X.w X.N.length C rf .nil) := PGs.imp pgs_nil fun v σ H Q ⟨F0, H0, O0, F, ρ, ds, hl, S, r, s, h⟩ => by
  cases ds with
  | nil =>
    cases r
    simp only [tgAs_eqs, wpR_ok] at h
    exact ⟨rfl, h σ F H S s (RefK.refl rf σ) (Chg.refl _ σ) (Same.refl F)⟩
  | cons _ _ =>
    simp only [tgAs_eqs] at h
    exact h.elim
theorem assign_cons {e : Expr} {es : List Expr} {env : Env} (h : unstar e = true) : assignEach (e :: es) env = (false, assign e env) :: assignEach es env := by cases e <;> first | rfl | cases h
theorem assign_plain {env : Env} : ∀ {es : List Expr}, es.all unstar = true → (assignEach es env).length = es.length ∧ (assignEach es env).findIdx? (·.1) = none
  | [], _ => ⟨rfl, rfl⟩
  | e :: es, h => by
    rw [List.all_cons, Bool.and_eq_true] at h
    obtain ⟨h1, h2⟩ := assign_plain (env := env) h.2
    rw [assign_cons h.1]
    exact ⟨by simp [h1], by rw [List.findIdx?_cons]; simp [h2]⟩
theorem gs_cons {e : Expr} {es : List Expr} {t : Tg} {ts : Tgs} (hs : unstar e = true) (h1 : PG X e (rdG X.K X.w X.N.length C rf t)) (h2 : PGs X es (rdGs X.K X.w X.N.length C rf ts)) : PGs X (e :: es) (rdGs X.K X.w X.N.length C rf (.cons t ts)) :=
  PGs.imp (pgs_cons h1 h2 (by rw [assign_cons hs]; rfl)) fun v σ H Q ⟨F0, H0, O0, F, ρ, ds, hl, S, r, s, h⟩ => by
    cases ds with
    | nil =>
      simp only [tgAs_eqs] at h
      exact h.elim
    | cons d ds =>
      cases r with
      | cons r1 r2 =>
        simp only [tgAs_eqs, wpR_bind] at h
        refine ⟨_, _, rfl, F0, H0, O0, F, ρ, .fz d, hl, S, r1, s, (fun _ _ z => nomatch z), wpR_mono h fun _ ρ1 h σ1 F1 H1 S1 s1 k1 c1 fr => ?_⟩
        exact ⟨F0, H0, O0, F1, ρ1, ds, c1.len.trans hl, S1, r2.up fr, s1, wpR_mono h fun _ ρ2 h σ2 F2 H2 S2 s2 k2 c2 fr2 => h σ2 F2 H2 S2 s2 (k1.trans k2) (c1.trans c2) (fr.trans fr2)⟩
theorem g_tup {es : List Expr} {k : Nat} {ts : Tgs} (hc : X.calm = true) (hs : es.all unstar = true) (hn : ∀ ds ρ, wpR (tgAs C rf ts ds ρ) (fun _ _ => True) → ds.length = es.length) (h : PGs X es (rdGs X.K X.w X.N.length C rf ts)) : PG X (.Tuple es k pos) (rdG X.K X.w X.N.length C rf (.tup ts)) :=
  PG.imp (pg_tup (n := es.length) hc h (assign_plain hs).1 (assign_plain hs).2) fun v σ H Q ⟨F0, H0, O0, F, ρ, x, hl, S, r, s, fh, h⟩ => by
    simp only [tgA_eqs, wpR_ofO] at h
    obtain ⟨⟨d, ρ1⟩, e1, h⟩ := h
    obtain ⟨F1, f⟩ := freeze_ok S r e1
    dsimp only at h
    split at h
    · rename_i ds
      have hn' := hn ds ρ1 (wpR_mono h fun _ _ _ => trivial)
      cases f.rp with
      | @tup a xs _ h1 h2 =>
        exact ⟨a, xs, rfl, Same.sqT f.sr.sm h1, by rw [h2.length]; exact hn', F0, H0, O0, F1, ρ1, ds, hl, f.sr, h2, f.step s fh, wpR_mono h fun _ ρ2 h σ2 F2 H2 S2 s2 k2 c2 fr => h σ2 F2 H2 S2 s2 k2 c2 (f.fr.trans fr)⟩
    · exact h.elim

/-! ### iterables -/
/-- J hands out ds -/
def Yl (K : PySem.W.Frag) (w : World) (F : Hp) (J : It) (ds : List D) : Prop := ∀ (i : Nat) F1 H1, Same F F1 → Same F1 H1 → (i = ds.length → J.stop i H1) ∧ ∀ d, ds[i]? = some d → J.go i H1 ∧ ∀ x H2, J.yld i H1 x H2 → ∃ F2, Grow F1 H1 F2 H2 ∧ Rp K w F2 x d
def rdI (K : PySem.W.Frag) (w : World) (C : Cl) (rf : List Bool) (t : I) : TI := fun σ H R => ∃ F ρ, SR K w F H σ ρ ∧ wpR (evI C rf t ρ) fun ds ρ' => ∀ J F' H', SR K w F' H' σ ρ' → Step F H F' H' (Own σ ρ) (Own σ ρ') → Yl K w F' J ds → R J H'
theorem yl_list' {K : PySem.W.Frag} {w : World} {F : Hp} {p : Addr} {xs : List V} {ds : List D} (h : F p = some (.lst xs)) (r : Rps K w F xs ds) : Yl K w F (Itl K p) ds := fun i F1 H1 s1 s2 => by
  have e : H1 p = some (.lst xs) := s2 _ _ (s1 _ _ h)
  refine ⟨fun z => ⟨xs, SqL.of e, by rw [r.length, z]; exact Nat.le_refl _⟩, fun d hd => ?_⟩
  obtain ⟨v, k1, k2⟩ := r.get hd
  refine ⟨⟨xs, v, SqL.of e, k1⟩, fun x H2 ⟨q1, q2⟩ => ?_⟩
  subst q1
  have := q2 xs (SqL.of e)
  rw [k1] at this
  cases this
  exact ⟨F1, Grow.refl s2, k2.up s1⟩
theorem yl_scr {K : PySem.W.Frag} {w : World} {F : Hp} {p : Addr} {ns : List Int} (h : SqL K F p (ns.map V.int)) : Yl K w F (Itl K p) (ns.map .int) := fun i F1 H1 s1 s2 => by
  have e : SqL K H1 p (ns.map V.int) := s2.seq (s1.seq h)
  refine ⟨fun z => ⟨_, e, by rw [List.length_map, z, List.length_map]; exact Nat.le_refl _⟩, fun d hd => ?_⟩
  rw [List.getElem?_map] at hd
  cases q : ns[i]? with
  | none => rw [q] at hd; cases hd
  | some n =>
    rw [q] at hd
    cases hd
    have k1 : (ns.map V.int)[i]? = some (.int n) := by rw [List.getElem?_map, q]; rfl
    refine ⟨⟨_, _, e, k1⟩, fun x H2 ⟨q1, q2⟩ => ?_⟩
    subst q1
    have := q2 _ e
    rw [k1] at this
    cases this
    exact ⟨F1, Grow.refl s2, .int n⟩
theorem yl_tup {K : PySem.W.Frag} {w : World} {F : Hp} {p : Addr} {xs : List V} {ds : List D} (h : SqT K F p xs) (r : Rps K w F xs ds) : Yl K w F (Itt K p) ds := fun i F1 H1 s1 s2 => by
  have e : SqT K H1 p xs := Same.sqT s2 (Same.sqT s1 h)
  refine ⟨fun z => ⟨xs, e, by rw [r.length, z]; exact Nat.le_refl _⟩, fun d hd => ?_⟩
  obtain ⟨v, k1, k2⟩ := r.get hd
  refine ⟨⟨xs, v, e, k1⟩, fun x H2 ⟨q1, q2⟩ => ?_⟩
  subst q1
  have := q2 xs e
  rw [k1] at this
  cases this
  exact ⟨F1, Grow.refl s2, k2.up s1⟩
theorem yl_str {K : PySem.W.Frag} {w : World} {F : Hp} (x : Str) : Yl K w F (Its x) (x.cps.toList.map fun c => .str ⟨#[c]⟩) := fun i F1 H1 s1 s2 => by
  refine ⟨fun z => ?_, fun d hd => ?_⟩
  · show x.cps.size ≤ i
    rw [z, List.length_map, Array.length_toList]
    exact Nat.le_refl _
  · rw [List.getElem?_map, Array.getElem?_toList] at hd
    cases q : x.cps[i]? with
    | none => rw [q] at hd; cases hd
    | some c =>
      rw [q] at hd
      cases hd
      refine ⟨(Array.getElem?_eq_some_iff.mp q).1, fun v H2 ⟨q1, c', q2, q3⟩ => ?_⟩
      subst q1
      rw [q] at q2
      cases q2
      subst q3
      exact ⟨F1, Grow.refl s2, .str _⟩
theorem i_val {tg : Expr} (ha : PE X a (rdE X.K X.w C rf ta)) : PI X tg a (rdI X.K X.w C rf (.val ta)) := by
  refine ⟨fun pins s σ H R I ⟨F, ρ, S, h⟩ => ?_⟩
  simp only [evI_eqs, wpR_bind, wpR_ofO, wpR_ok] at h
  obtain ⟨x, ρ1, e0, ⟨d, ρ2⟩, e1, xs, e2, q⟩ := wpR_iff.mp h
  unfold itemsD at e2
  split at e2
  · rename_i ds hd
    cases e2
    refine (pi_list ha).run pins s σ H R I ⟨F, ρ, S, wpR_iff.mpr ⟨x, ρ1, e0, fun v F1 H1 g => ?_⟩⟩
    obtain ⟨F2, f⟩ := freeze_ok g.sr g.rr e1
    have rp := f.rp
    rw [show d = .lst xs from hd] at rp
    cases rp with
    | @lst p zs _ h1 h2 => exact ⟨p, rfl, ⟨zs, SqL.of (f.sr.sm _ _ h1)⟩, q _ F2 H1 f.sr (f.step g.st g.fh) (yl_list' h1 h2)⟩
  · rename_i ds hd
    cases e2
    refine (pi_tup ha).run pins s σ H R I ⟨F, ρ, S, wpR_iff.mpr ⟨x, ρ1, e0, fun v F1 H1 g => ?_⟩⟩
    obtain ⟨F2, f⟩ := freeze_ok g.sr g.rr e1
    have rp := f.rp
    rw [show d = .tup xs from hd] at rp
    cases rp with
    | @tup p zs _ h1 h2 => exact ⟨p, rfl, ⟨zs, Same.sqT f.sr.sm h1⟩, q _ F2 H1 f.sr (f.step g.st g.fh) (yl_tup h1 h2)⟩
  · rename_i ns hd
    cases e2
    refine (pi_list ha).run pins s σ H R I ⟨F, ρ, S, wpR_iff.mpr ⟨x, ρ1, e0, fun v F1 H1 g => ?_⟩⟩
    obtain ⟨F2, f⟩ := freeze_ok g.sr g.rr e1
    have rp := f.rp
    rw [show d = .scr ns from hd] at rp
    cases rp with
    | @scr p _ h1 => exact ⟨p, rfl, ⟨_, f.sr.sm.seq h1⟩, q _ F2 H1 f.sr (f.step g.st g.fh) (yl_scr h1)⟩
  · rename_i y hd
    split at e2 <;> cases e2
    refine (pi_str ha).run pins s σ H R I ⟨F, ρ, S, wpR_iff.mpr ⟨x, ρ1, e0, fun v F1 H1 g => ?_⟩⟩
    obtain ⟨F2, f⟩ := freeze_ok g.sr g.rr e1
    have rp := f.rp
    rw [show d = .str y from hd] at rp
    cases rp
    exact ⟨y, rfl, q _ F2 H1 f.sr (f.step g.st g.fh) (yl_str y)⟩
  · cases e2
theorem yl_rng {K : PySem.W.Frag} {w : World} {F : Hp} (lo hi : Int) : Yl K w F (Itr lo (hi - lo).toNat) (rangeD lo hi) := fun i F1 H1 s1 s2 => by
  unfold rangeD
  refine ⟨fun z => ?_, fun d hd => ?_⟩
  · show (hi - lo).toNat ≤ i
    rw [z, List.length_map, List.length_range]
    exact Nat.le_refl _
  · rw [List.getElem?_map] at hd
    cases q : (List.range (hi - lo).toNat)[i]? with
    | none => rw [q] at hd; cases hd
    | some c =>
      rw [q] at hd
      cases hd
      obtain ⟨h1, h2⟩ := List.getElem?_eq_some_iff.mp q
      rw [List.length_range] at h1
      rw [List.getElem_range] at h2
      subst h2
      refine ⟨h1, fun v H2 ⟨q1, q2⟩ => ?_⟩
      subst q1 q2
      exact ⟨F1, Grow.refl s2, .int _⟩
theorem inR_of {i : Int} (h : inR i = true) : -1000000 ≤ i ∧ i ≤ 1000000 := by
  unfold inR at h
  rw [Bool.and_eq_true, decide_eq_true_eq, decide_eq_true_eq] at h
  exact h
theorem i_rng1 {tg : Expr} {p : Pos} (hg : Gl X "range") (hm : X.mg "range" = none) (hs : unstar a = true) (ha : PE X a (rdE X.K X.w C rf ta)) : PI X tg (.Call (.Name "range" p) [a] [] pos) (rdI X.K X.w C rf (.range1 ta)) := by
  refine ⟨fun pins s σ H R I ⟨F, ρ, S, h⟩ => ?_⟩
  simp only [evI_eqs, wpR_bind] at h
  refine (pi_range1 (ta := tCons (rdE X.K X.w C rf ta) tNil) hg hm (pa_cons ha pa_nil (star_cons hs)) (star_cons hs)).run pins s σ H R I ⟨F, ρ, S, wpR_mono h fun x ρ1 h v F1 H1 g => ?_⟩
  split at h
  · rename_i n
    split at h
    · rename_i hr
      have := inR_of hr
      cases (show Rp _ _ _ _ _ from g.rr)
      refine ⟨n, rfl, by omega, by omega, h _ F1 H1 g.sr g.st ?_⟩
      have e := yl_rng (K := X.K) (w := X.w) (F := F1) 0 n
      rwa [Int.sub_zero] at e
    · exact h.elim
  · exact h.elim
theorem i_rng2 {tg : Expr} {p : Pos} (hg : Gl X "range") (hm : X.mg "range" = none) (hs : unstar a = true) (hs2 : unstar b = true) (ha : PE X a (rdE X.K X.w C rf ta)) (hb : PE X b (rdE X.K X.w C rf tb)) : PI X tg (.Call (.Name "range" p) [a, b] [] pos) (rdI X.K X.w C rf (.range2 ta tb)) := by
  refine ⟨fun pins s σ H R I ⟨F, ρ, S, h⟩ => ?_⟩
  simp only [evI_eqs, wpR_bind] at h
  refine (pi_range2 (ta := tCons (rdE X.K X.w C rf ta) (tCons (rdE X.K X.w C rf tb) tNil)) hg hm (pa_cons ha (pa_cons hb pa_nil (star_cons hs2)) (star_cons hs)) (by rw [star_cons hs, star_cons hs2]; rfl) (star_cons hs2)).run pins s σ H R I ⟨F, ρ, S, wpR_mono h fun x ρ1 h v F1 H1 g => ⟨F1, ρ1, g.sr, wpR_mono h fun y ρ2 h v2 F2 H2 g2 => ?_⟩⟩
  split at h
  · rename_i m _ n
    split at h
    · rename_i hr
      rw [Bool.and_eq_true] at hr
      have h1 := inR_of hr.1
      have h2 := inR_of hr.2
      cases (show Rp _ _ _ _ _ from g.rr)
      cases (show Rp _ _ _ _ _ from g2.rr)
      exact ⟨_, _, rfl, by omega, h _ F2 H2 g2.sr (g.st.trans g2.st) (yl_rng _ _)⟩
    · exact h.elim
  · exact h.elim
theorem yl_down {K : PySem.W.Frag} {w : World} {F : Hp} (lo hi : Int) : Yl K w F (Itc lo (-1) (lo - hi).toNat) (downD lo hi) := fun i F1 H1 s1 s2 => by
  unfold downD
  refine ⟨fun z => ?_, fun d hd => ?_⟩
  · show (lo - hi).toNat ≤ i
    rw [z, List.length_map, List.length_range]
    exact Nat.le_refl _
  · rw [List.getElem?_map] at hd
    cases q : (List.range (lo - hi).toNat)[i]? with
    | none => rw [q] at hd; cases hd
    | some c =>
      rw [q] at hd
      cases hd
      obtain ⟨h1, h2⟩ := List.getElem?_eq_some_iff.mp q
      rw [List.length_range] at h1
      rw [List.getElem_range] at h2
      subst h2
      refine ⟨h1, fun v H2 ⟨q1, q2⟩ => ?_⟩
      subst q1 q2
      refine ⟨F1, Grow.refl s2, ?_⟩
      have : lo + (i : Int) * -1 = lo - i := by omega
      rw [this]
      exact .int _
theorem i_rng3 {tg : Expr} {p : Pos} (hg : Gl X "range") (hm : X.mg "range" = none) (hs : unstar a = true) (hs2 : unstar b = true) (hs3 : unstar c = true) (ha : PE X a (rdE X.K X.w C rf ta)) (hb : PE X b (rdE X.K X.w C rf tb)) (hc : PE X c (rdE X.K X.w C rf tc)) : PI X tg (.Call (.Name "range" p) [a, b, c] [] pos) (rdI X.K X.w C rf (.range3 ta tb tc)) := by
  refine ⟨fun pins s σ H R I ⟨F, ρ, S, h⟩ => ?_⟩
  simp only [evI_eqs, wpR_bind] at h
  refine (pi_range3 (ta := tCons (rdE X.K X.w C rf ta) (tCons (rdE X.K X.w C rf tb) (tCons (rdE X.K X.w C rf tc) tNil))) hg hm (pa_cons ha (pa_cons hb (pa_cons hc pa_nil (star_cons hs3)) (star_cons hs2)) (star_cons hs)) (star_cons hs) (star_plain (by simp [hs2, hs3]))).run pins s σ H R I
    ⟨F, ρ, S, wpR_mono h fun x ρ1 h v F1 H1 g => ⟨F1, ρ1, g.sr, wpR_mono h fun y ρ2 h v2 F2 H2 g2 => ⟨F2, ρ2, g2.sr, wpR_mono h fun z ρ3 h v3 F3 H3 g3 => ?_⟩⟩⟩
  split at h
  · rename_i m _ n _
    split at h
    · rename_i hr
      rw [Bool.and_eq_true] at hr
      have h1 := inR_of hr.1
      have h2 := inR_of hr.2
      cases (show Rp _ _ _ _ _ from g.rr)
      cases (show Rp _ _ _ _ _ from g2.rr)
      cases (show Rp _ _ _ _ _ from g3.rr)
      exact ⟨_, _, -1, _, rfl, RgC.neg (by omega) (by omega) (by omega) (by omega), h _ F3 H3 g3.sr ((g.st.trans g2.st).trans g3.st) (yl_down _ _)⟩
    · exact h.elim
  · exact h.elim
end
end Mp

set_option maxRecDepth 100000
set_option maxHeartbeats 4000000
/-! enumerate(tuple). -/
namespace Mp
open PySem PySem.Spec PyProof.Rows L2
open Sem (wp)
open AutoSeq1 (wpAny_loadPart')
theorem meets_enumerate_newT (l : Addr) (items : Array Value) :
    Meets (Builtin.«enumerate.__new__» ⟨[.type "enumerate", .ref l], []⟩) (fun _ R s => s.heap.IsTuple l items ∧
      R (.ok (.ret (.ref (s.heap.push { cls := .type "tuple_iterator", data := .fields #[.ref l, .int 0 0] }).objs.size)))
        { s with heap := (s.heap.push { cls := .type "tuple_iterator", data := .fields #[.ref l, .int 0 0] }).push { cls := .type "enumerate", data := .fields #[.none, .bool false, .ref s.heap.objs.size, rawInt 0, .none, .none] } }) :=
  .of_wp fun prog w A R s h => by
    obtain ⟨hp, g, d, tk, os⟩ := s; obtain ⟨hL, h⟩ := h
    have hsub := sub_enumerate
    obtain ⟨⟨c, dct, dt, sl⟩, hl, hc, n, hd⟩ := id hL
    replace hc : c = .type "tuple" := hc
    replace hd : dt = .seq items n := hd
    subst hc hd
    wp_walk using wpAny_loadPart' hl
    refine wpAny_stack_any fun st => wpAny_pure ?_
    split
    · rename_i c _ _ _ _ _
      cases (c == Value.type "enumerate")
      · wp_walk using wpAny_loadPart' hl, wpAny_pyIter_tuple hL
        exact ⟨_, rfl, h⟩
      · wp_walk using wpAny_loadPart' hl, wpAny_pyIter_tuple hL
        exact ⟨_, rfl, h⟩
    · wp_walk using wpAny_loadPart' hl, wpAny_pyIter_tuple hL
      exact ⟨_, rfl, h⟩
section
variable {prog : Program} {w : World} {A : Around} {E : Value → Shared → Prop} {s : Shared}
theorem call_enumerate_tuple {l : Addr} {items : Array Value} {Q : Value → Shared → Prop} (hL : s.heap.IsTuple l items)
    (h : ∀ h', IsEnum h' (s.heap.objs.size + 1) s.heap.objs.size 0 .none → h'.IsTupleIter s.heap.objs.size l 0 → h'.objs.size = s.heap.objs.size + 2 →
      (∀ b o, s.heap.get? b = some o → h'.get? b = some o) → Q (.ref (s.heap.objs.size + 1)) { s with heap := h' }) :
    wpAny (model prog w) A (call (.type "enumerate") [.ref l]) Q E s := by
  refine callType_new F.called_enumerate (by decide) (F.typeCall_enumerate_1 _) (F.newCall_enumerate_1 _) (fun obj => F.args_object_init_2 obj _) F.entry_enumerate_new
    (meets_enumerate_newT l items) ⟨hL, ?_⟩
  have hz : (s.heap.push { cls := .type "tuple_iterator", data := .fields #[.ref l, .int 0 0] }).objs.size = s.heap.objs.size + 1 := Heap.size_push ..
  show _ ∧ _
  rw [hz]
  have he : IsEnum ((s.heap.push { cls := .type "tuple_iterator", data := .fields #[.ref l, .int 0 0] }).push
      { cls := .type "enumerate", data := .fields #[.none, .bool false, .ref s.heap.objs.size, rawInt 0, .none, .none] }) (s.heap.objs.size + 1) s.heap.objs.size 0 .none := by
    have := Heap.get?_push_size (s.heap.push { cls := .type "tuple_iterator", data := .fields #[.ref l, .int 0 0] })
      (o := { cls := .type "enumerate", data := .fields #[.none, .bool false, .ref s.heap.objs.size, rawInt 0, .none, .none] }) rfl
    rw [hz] at this; exact this
  refine ⟨⟨_, he, rfl⟩, h _ he ⟨_, Heap.get?_push_of_some _ (Heap.get?_push_size _ rfl), rfl, rfl⟩ (by rw [Heap.size_push, hz]) fun b o x => Heap.get?_push_of_some _ (Heap.get?_push_of_some _ x)⟩
end
/-- the tuple at a, each item in a new pair -/
def IteT (K : PySem.W.Frag) (a : Addr) : It :=
  ⟨fun i H => ∃ (xs : List V) (x : V), SqT K H a xs ∧ xs[i]? = some x, fun i H v H' => ∃ T x, v = .ref T ∧ H T = none ∧ H' = upd H T (.tup [.int (i : Nat), x]) ∧ ∀ xs, SqT K H a xs → xs[i]? = some x, fun i H => ∃ xs : List V, SqT K H a xs ∧ xs.length ≤ i⟩
theorem turn_enumT {P : Program} {w : World} {K : PySem.W.Frag} {elts : List Expr} {kk : Nat} {tpos : Pos} (a e it : Addr) (hai : a ≠ it) (hea : e ≠ a) :
    Turn P w K (.Tuple elts kk tpos) (IteT K a) [e, it] e (fun i h => (∃ old, IsEnum h e it ((i : Nat) : Int) old) ∧ h.IsTupleIter it a i ∧ e ≠ it) where
  mem := by simp
  obj := fun i h st b hb => by
    obtain ⟨⟨old, he⟩, ⟨o, ho, hc, hd⟩, _⟩ := st
    have e' : b = e ∨ b = it := by simpa using hb
    rcases e' with z | z
    · rw [z]; exact ⟨_, he, fun v q => nomatch q⟩
    · rw [z]; exact ⟨o, ho, fun v q => by rw [hd] at q; cases q⟩
  keep := fun i h h' st k => let ⟨⟨old, he⟩, hi, hne⟩ := st; ⟨⟨old, k e (by simp) _ he⟩, hi.at fun o q => k it (by simp) o q, hne⟩
  item := by
    intro X hP hw hK hc i pins s σ H E I hf st hg
    subst hP hw hK
    obtain ⟨⟨old, he⟩, hit, hne⟩ := st
    obtain ⟨xs, x, hq, hx⟩ := hg
    obtain ⟨its, rv, p, hz⟩ := I.tuple hq
    obtain ⟨u, hu, ru⟩ := rv.get hx
    have hel : e < s.heap.objs.size := Heap.lt_size he
    have hil : it < s.heap.objs.size := by obtain ⟨_, q, _⟩ := hit; exact Heap.lt_size q
    have D := Draws.tuple (prog := X.prog) (w := X.w) (A := X.A.in1) (I.ok.hd hc) it a hai its.toArray
    have hlt : i < its.toArray.size := by
      have := rv.length
      have h2 := (List.getElem?_eq_some_iff.1 hx).1
      simp; omega
    refine wpAny_pyNext_enum_itemD D he ⟨hit, p⟩ hlt hne (by simp [hne, hea]) fun y h' tk hy ho hst' hT hsz hk => ?_
    have ey : y = u := by
      rw [List.getElem?_toArray, hu] at hy
      exact (Option.some.inj hy).symm
    subst ey
    refine ⟨_, rfl, wpAny_letOwnedTupleGo_enum (s := { s with heap := h', toks := tk + 1 }) ho fun h'' he' sb => ?_⟩
    have hT2 : h''.get? s.heap.objs.size = some { cls := .type "tuple", data := .seq #[.int i tk, y] } := (sb.2 _ (Nat.ne_of_gt hel)).trans hT
    have new : ObjOk X.prog X.w (upd H s.heap.objs.size (.tup [.int (i : Nat), x])) h'' s.heap.objs.size (.tup [.int (i : Nat), x]) :=
      ⟨by show 2 ≤ sizeLine; decide, [.int i tk, y], .cons ⟨_, rfl⟩ (.cons ru .nil), ⟨_, hT2, rfl, _, rfl⟩⟩
    have I1 : Inv X pins σ (upd H s.heap.objs.size (.tup [.int (i : Nat), x])) { s with heap := h'', toks := tk + 1 } :=
      I.turnedNew (ch := [e, it]) (fun b ob hb q => (sb.2 b (fun z => hb (by simp [z]))).trans (hk b ob (fun z => hb (by simp [z])) (fun z => hb (by simp [z])) q)) hf (Nat.le_refl _) new
    refine ⟨.ref s.heap.objs.size, _, I1, rfl, ⟨_, x, rfl, I.hok.fresh (Nat.le_refl _), rfl, fun ys hy => by rw [I.tuple_inj hy hq]; exact hx⟩, ⟨⟨y, ?_⟩, hst'.1.at fun o q => (sb.2 it (Ne.symm hne)).trans q, hne⟩, fun b hb => ?_⟩
    · have e1 : ((i + 1 : Nat) : Int) = (i : Int) + 1 := by omega
      rw [e1]; exact he'
    · have hb' : b < s.heap.objs.size := by
        have e' : b = e ∨ b = it := by simpa using hb
        rcases e' with z | z
        · rw [z]; exact hel
        · rw [z]; exact hil
      rw [upd_ne (Nat.ne_of_lt hb')]
      exact (hf b hb).1
  done := by
    intro X hP hw hK hc i pins s σ H E I hf st hg
    subst hP hw hK
    obtain ⟨⟨old, he⟩, hit, hne⟩ := st
    obtain ⟨xs, hq, hx⟩ := hg
    obtain ⟨its, rv, p, hz⟩ := I.tuple hq
    obtain ⟨f0, f1, f2, f3, f4, f5⟩ := hf it (by simp)
    have hl := rv.length
    have hT : s.TypeIs (.ref e) "enumerate" := ⟨_, he, rfl⟩
    unfold pyNext
    refine wpAny_bind (wpAny_attempt (wpAny_callSpecial?_slot (name := Str.ofString "__next__") hT F.slot_enumerate_next
      (wpAny_call_entry F.slot_enumerate_next hT F.entry_enumerate_next ?_ (F.args_enumerate_next_1 _))))
    show wpAny _ _ (field (.ref e) 2 >>= _) _ _ _
    refine wpAny_bind (wpAny_field he rfl (x := .ref it) rfl ?_)
    refine wpAny_bind (wpAny_nextOf_tuple_end (A := X.A.in1) (I.ok.hd hc) hit p (by simp; omega) fun h' x he' hx' => ?_)
    obtain ⟨o, ho, hc⟩ := hx'
    refine wpAny_bind (wpAny_isInstance (T := "StopIteration") (b := true) ⟨o, ho, hc⟩ isSubtype_stop ?_)
    exact wpAny_pure ⟨rfl, I.turned (t' := s.toks) (fun b o hb q => he' b o hb q) f0 f1 f3 f4 f5⟩
  self := fun A i s Q E st h => let ⟨⟨_, he⟩, _⟩ := st; wpAny_pyIter_enum he h
def iEnumA (K : PySem.W.Frag) (ta : TA) : TI := fun σ H R => ta σ H fun vs H1 => ∃ a xs, vs = [.ref a] ∧ ((SqL K H1 a xs ∧ R (Ite K a) H1) ∨ (SqT K H1 a xs ∧ R (IteT K a) H1))
theorem pi_enumA {X : Cx} {e : Expr} {ta : TA} {p pos tpos : Pos} {elts : List Expr} {kk : Nat} (hg : Gl X "enumerate") (hm : X.mg "enumerate" = none) (ha : PA X [e] ta) (hs : starEach [e] X.env = [(false, eval e X.env)] := by rfl) :
    PI X (.Tuple elts kk tpos) (.Call (.Name "enumerate" p) [e] [] pos) (iEnumA X.K ta) := by
  refine ⟨fun pins s σ H R I h => ?_⟩
  refine Call_ (ld_blt I hg hm boot_enumerate (PyProof.Rows.callWith_type1 (thn (ha.run pos pins s σ H _ I h) fun us s1 ⟨vs, H1, I1, r1, q1⟩ => ?_) hs rfl))
  obtain ⟨a, xs, ex, q1⟩ := q1
  subst ex
  cases r1 with
  | cons r rr =>
    cases rr
    cases r
    have fp : ∀ b, b ∈ [s1.heap.objs.size + 1, s1.heap.objs.size] → FpOk X pins H1 b := fun b hb => by
      have e' : b = s1.heap.objs.size + 1 ∨ b = s1.heap.objs.size := by simpa using hb
      have hle : s1.heap.objs.size ≤ b := by
        rcases e' with z | z
        · rw [z]; exact Nat.le_add_right _ _
        · rw [z]; exact Nat.le_refl _
      exact I1.fpOk hle (I1.hok.fresh hle)
    rcases q1 with ⟨hq, q⟩ | ⟨hq, q⟩
    · obtain ⟨its, rv, p', hz⟩ := I1.list hq
      refine call_enumerate_list p'.isList fun h' he hit hsz hk => wpAny_pyIter_enum he ?_
      have I2 : Inv X pins σ H1 { s1 with heap := h' } := I1.kept (t' := s1.toks) hk
      exact ⟨s1.heap.objs.size + 1, [s1.heap.objs.size + 1, s1.heap.objs.size], _, _, H1, rfl, I2, turn_enum a (s1.heap.objs.size + 1) s1.heap.objs.size, ⟨⟨.none, he⟩, hit, Nat.succ_ne_self _⟩, fp, q⟩
    · obtain ⟨its, rv, p', hz⟩ := I1.tuple hq
      obtain ⟨o1, ho1, _⟩ := id p'
      have hal : a < s1.heap.objs.size := Heap.lt_size ho1
      refine call_enumerate_tuple (show s1.heap.IsTuple a its.toArray from p') fun h' he hit hsz hk => wpAny_pyIter_enum he ?_
      have I2 : Inv X pins σ H1 { s1 with heap := h' } := I1.kept (t' := s1.toks) hk
      exact ⟨s1.heap.objs.size + 1, [s1.heap.objs.size + 1, s1.heap.objs.size], _, _, H1, rfl, I2, turn_enumT a (s1.heap.objs.size + 1) s1.heap.objs.size (Nat.ne_of_lt hal) (Nat.ne_of_gt (Nat.lt_succ_of_lt hal)), ⟨⟨.none, he⟩, hit, Nat.succ_ne_self _⟩, fp, q⟩
end Mp

set_option maxRecDepth 100000
set_option maxHeartbeats 4000000
/-! Comprehensions; pairs handed out. -/
namespace Mp
open PySem PySem.Spec PyProof.Rows L2

section
variable {X : Cx} {C : Cl} {rf : List Bool} {a b c : Expr} {ta tb tc : E} {pos : Pos}
theorem enumD_get : ∀ {ds : List D} {k i : Nat} {d : D}, (enumD k ds)[i]? = some d → ∃ e, ds[i]? = some e ∧ d = .tup [.int ((k + i : Nat) : Int), e]
  | [], k, i, d, h => by simp [enumD] at h
  | x :: r, k, 0, d, h => by
    simp only [enumD, List.getElem?_cons_zero, Option.some.injEq] at h
    exact ⟨x, rfl, by rw [← h]; rfl⟩
  | x :: r, k, i + 1, d, h => by
    simp only [enumD, List.getElem?_cons_succ] at h
    obtain ⟨e, h1, h2⟩ := enumD_get h
    refine ⟨e, by simpa using h1, ?_⟩
    rw [h2]
    have : k + 1 + i = k + (i + 1) := by omega
    rw [this]
theorem enumD_len : ∀ (ds : List D) (k : Nat), (enumD k ds).length = ds.length
  | [], _ => rfl
  | _ :: r, k => by simp [enumD, enumD_len r]
theorem zipD_get : ∀ {xs ys : List D} {i : Nat} {d : D}, (zipD xs ys)[i]? = some d → ∃ x y, xs[i]? = some x ∧ ys[i]? = some y ∧ d = .tup [x, y]
  | [], _, i, d, h => by simp [zipD] at h
  | _ :: _, [], i, d, h => by simp [zipD] at h
  | x :: r, y :: s, 0, d, h => by
    simp only [zipD, List.getElem?_cons_zero, Option.some.injEq] at h
    exact ⟨x, y, rfl, rfl, h.symm⟩
  | x :: r, y :: s, i + 1, d, h => by
    simp only [zipD, List.getElem?_cons_succ] at h
    obtain ⟨e, f, h1, h2, h3⟩ := zipD_get h
    exact ⟨e, f, by simpa using h1, by simpa using h2, h3⟩
theorem zipD_len : ∀ (xs ys : List D), (zipD xs ys).length = min xs.length ys.length
  | [], _ => by simp [zipD]
  | _ :: _, [] => by simp [zipD]
  | _ :: r, _ :: s => by simp only [zipD, List.length_cons, zipD_len r s]; omega
theorem grow_tup {K : PySem.W.Frag} {w : World} {F H : Hp} {T : Addr} {xs : List V} {ds : List D} (s : Same F H) (h : H T = none) (r : Rps K w F xs ds) : ∃ F2, Grow F H F2 (upd H T (.tup xs)) ∧ Rp K w F2 (.ref T) (.tup ds) :=
  let ⟨g, o⟩ := out_tup (K := K) (w := w) s h r
  ⟨_, g, o⟩
theorem yl_enum {K : PySem.W.Frag} {w : World} {F : Hp} {p : Addr} {xs : List V} {ds : List D} (h : F p = some (.lst xs)) (r : Rps K w F xs ds) : Yl K w F (Ite K p) (enumD 0 ds) := fun i F1 H1 s1 s2 => by
  have e : H1 p = some (.lst xs) := s2 _ _ (s1 _ _ h)
  refine ⟨fun z => ⟨xs, SqL.of e, by rw [r.length, z, enumD_len]; exact Nat.le_refl _⟩, fun d hd => ?_⟩
  obtain ⟨y, hy, rfl⟩ := enumD_get hd
  obtain ⟨v, k1, k2⟩ := r.get hy
  refine ⟨⟨xs, v, SqL.of e, k1⟩, fun x H2 ⟨T, x', q1, q2, q3, q4⟩ => ?_⟩
  subst q1 q3
  have := q4 xs (SqL.of e)
  rw [k1] at this
  cases this
  rw [Nat.zero_add]
  exact grow_tup s2 q2 (.cons (.int _) (.cons (k2.up s1) .nil))
theorem yl_enumT {K : PySem.W.Frag} {w : World} {F : Hp} {p : Addr} {xs : List V} {ds : List D} (h : SqT K F p xs) (r : Rps K w F xs ds) : Yl K w F (IteT K p) (enumD 0 ds) := fun i F1 H1 s1 s2 => by
  have e : SqT K H1 p xs := Same.sqT s2 (Same.sqT s1 h)
  refine ⟨fun z => ⟨xs, e, by rw [r.length, z, enumD_len]; exact Nat.le_refl _⟩, fun d hd => ?_⟩
  obtain ⟨y, hy, rfl⟩ := enumD_get hd
  obtain ⟨v, k1, k2⟩ := r.get hy
  refine ⟨⟨xs, v, e, k1⟩, fun x H2 ⟨T, x', q1, q2, q3, q4⟩ => ?_⟩
  subst q1 q3
  have := q4 xs e
  rw [k1] at this
  cases this
  rw [Nat.zero_add]
  exact grow_tup s2 q2 (.cons (.int _) (.cons (k2.up s1) .nil))
theorem yl_zip {K : PySem.W.Frag} {w : World} {F : Hp} {p p' : Addr} {xs ys : List V} {ds es : List D} (h : F p = some (.lst xs)) (h' : F p' = some (.lst ys)) (r : Rps K w F xs ds) (r' : Rps K w F ys es) : Yl K w F (Itz K p p') (zipD ds es) := fun i F1 H1 s1 s2 => by
  have e : H1 p = some (.lst xs) := s2 _ _ (s1 _ _ h)
  have e' : H1 p' = some (.lst ys) := s2 _ _ (s1 _ _ h')
  refine ⟨fun z => ⟨xs, ys, SqL.of e, SqL.of e', by rw [r.length, r'.length, z, zipD_len]; omega⟩, fun d hd => ?_⟩
  obtain ⟨y, y', hy, hy', rfl⟩ := zipD_get hd
  obtain ⟨v, k1, k2⟩ := r.get hy
  obtain ⟨v', k1', k2'⟩ := r'.get hy'
  refine ⟨⟨xs, ys, v, v', SqL.of e, SqL.of e', k1, k1'⟩, fun x H2 ⟨T, x', x'', q1, q2, q3, q4, q5⟩ => ?_⟩
  subst q1 q3
  have z1 := q4 xs (SqL.of e)
  have z2 := q5 ys (SqL.of e')
  rw [k1] at z1
  rw [k1'] at z2
  cases z1
  cases z2
  exact grow_tup s2 q2 (.cons (k2.up s1) (.cons (k2'.up s1) .nil))
theorem yl_zipT {K : PySem.W.Frag} {w : World} {F : Hp} {p p' : Addr} {xs ys : List V} {ds es : List D} (h : SqT K F p xs) (h' : SqT K F p' ys) (r : Rps K w F xs ds) (r' : Rps K w F ys es) : Yl K w F (RZ.ItzT K p p') (zipD ds es) := fun i F1 H1 s1 s2 => by
  have e : SqT K H1 p xs := Same.sqT s2 (Same.sqT s1 h)
  have e' : SqT K H1 p' ys := Same.sqT s2 (Same.sqT s1 h')
  refine ⟨fun z => ⟨xs, ys, e, e', by rw [r.length, r'.length, z, zipD_len]; omega⟩, fun d hd => ?_⟩
  obtain ⟨y, y', hy, hy', rfl⟩ := zipD_get hd
  obtain ⟨v, k1, k2⟩ := r.get hy
  obtain ⟨v', k1', k2'⟩ := r'.get hy'
  refine ⟨⟨xs, ys, v, v', e, e', k1, k1'⟩, fun x H2 ⟨T, x', x'', q1, q2, q3, q4, q5⟩ => ?_⟩
  subst q1 q3
  have z1 := q4 xs e
  have z2 := q5 ys e'
  rw [k1] at z1
  rw [k1'] at z2
  cases z1
  cases z2
  exact grow_tup s2 q2 (.cons (k2.up s1) (.cons (k2'.up s1) .nil))
theorem i_enum {elts : List Expr} {kk : Nat} {tpos p : Pos} (hg : Gl X "enumerate") (hm : X.mg "enumerate" = none) (hs : unstar a = true) (ha : PE X a (rdE X.K X.w C rf ta)) : PI X (.Tuple elts kk tpos) (.Call (.Name "enumerate" p) [a] [] pos) (rdI X.K X.w C rf (.enum ta)) := by
  refine ⟨fun pins s σ H R I ⟨F, ρ, S, h⟩ => ?_⟩
  simp only [evI_eqs, wpR_bind, wpR_ofO] at h
  refine (pi_enumA (ta := tCons (rdE X.K X.w C rf ta) tNil) hg hm (pa_cons ha pa_nil (star_cons hs)) (star_cons hs)).run pins s σ H R I ⟨F, ρ, S, wpR_mono h fun x ρ1 h v F1 H1 g => ?_⟩
  obtain ⟨⟨d, ρ2⟩, e1, h⟩ := h
  obtain ⟨F2, f⟩ := freeze_ok g.sr g.rr e1
  dsimp only at h
  split at h
  · cases f.rp with
    | @lst p zs _ h1 h2 => exact ⟨p, zs, rfl, .inl ⟨SqL.of (f.sr.sm _ _ h1), h _ F2 H1 f.sr (f.step g.st g.fh) (yl_enum h1 h2)⟩⟩
  · cases f.rp with
    | @tup p zs _ h1 h2 => exact ⟨p, zs, rfl, .inr ⟨Same.sqT f.sr.sm h1, h _ F2 H1 f.sr (f.step g.st g.fh) (yl_enumT h1 h2)⟩⟩
  · exact h.elim
theorem rps_rg {K : PySem.W.Frag} {w : World} {F : Hp} (a b : Int) : Rps K w F (rgV a b) (rangeD a b) := by
  unfold rgV rangeD
  induction List.range (b - a).toNat with
  | nil => exact .nil
  | cons x l ih => exact .cons (.int _) ih
theorem e_lof1 {p p2 pos2 : Pos} (hc : X.calm = true) (hg : Gl X "list") (hm : X.mg "list" = none) (hg2 : Gl X "range") (hm2 : X.mg "range" = none) (hs : unstar a = true) (ha : PE X a (rdE X.K X.w C rf ta)) :
    PE X (.Call (.Name "list" p) [.Call (.Name "range" p2) [a] [] pos2] [] pos) (rdE X.K X.w C rf (.lof (.range1 ta))) := by
  refine PE.imp (pe_listRg hc hg hm (prg_1 hg2 hm2 ha (star_cons hs)) rfl) fun σ H Q ⟨F, ρ, S, h⟩ => ?_
  simp only [ev_eqs, evI_eqs, wpR_bind] at h
  refine ⟨F, ρ, S, wpR_mono h fun x ρ1 h v F1 H1 g => ?_⟩
  split at h
  · rename_i n
    split at h
    · rename_i hr
      have := inR_of hr
      cases (show Rp _ _ _ _ _ from g.rr)
      rw [wpR_ok] at h
      split at h
      · refine ⟨n, rfl, ⟨by omega, by omega, by omega, by omega, by omega⟩, fun q hq => ?_⟩
        obtain ⟨gr, o⟩ := out_lst g.sr.sm hq (rps_rg (K := X.K) (w := X.w) (F := F1) 0 n)
        exact h _ _ _ ((Gd.of g.sr gr o).from g.st)
      · exact h.elim
    · exact h.elim
  · exact h.elim
theorem e_lof2 {p p2 pos2 : Pos} (hc : X.calm = true) (hg : Gl X "list") (hm : X.mg "list" = none) (hg2 : Gl X "range") (hm2 : X.mg "range" = none) (hs : unstar a = true) (hs2 : unstar b = true) (ha : PE X a (rdE X.K X.w C rf ta)) (hb : PE X b (rdE X.K X.w C rf tb)) :
    PE X (.Call (.Name "list" p) [.Call (.Name "range" p2) [a, b] [] pos2] [] pos) (rdE X.K X.w C rf (.lof (.range2 ta tb))) := by
  refine PE.imp (pe_listRg hc hg hm (prg_2 hg2 hm2 ha hb (by rw [star_cons hs, star_cons hs2]) (star_cons hs2) (star_plain (by simp [hs2]))) rfl) fun σ H Q ⟨F, ρ, S, h⟩ => ?_
  simp only [ev_eqs, evI_eqs, wpR_bind] at h
  refine ⟨F, ρ, S, wpR_mono h fun x ρ1 h v F1 H1 g => ⟨F1, ρ1, g.sr, wpR_mono h fun y ρ2 h v2 F2 H2 g2 => ?_⟩⟩
  split at h
  · rename_i m _ n
    split at h
    · rename_i hr
      rw [Bool.and_eq_true] at hr
      have h1 := inR_of hr.1
      have h2 := inR_of hr.2
      cases (show Rp _ _ _ _ _ from g.rr)
      cases (show Rp _ _ _ _ _ from g2.rr)
      rw [wpR_ok] at h
      split at h
      · refine ⟨_, _, rfl, rfl, ⟨by omega, by omega, by omega, by omega, by omega⟩, fun q hq => ?_⟩
        obtain ⟨gr, o⟩ := out_lst g2.sr.sm hq (rps_rg (K := X.K) (w := X.w) (F := F2) _ _)
        exact h _ _ _ (((Gd.of g2.sr gr o).from g2.st).from g.st)
      · exact h.elim
    · exact h.elim
  · exact h.elim
theorem i_zip {elts : List Expr} {kk : Nat} {tpos p : Pos} (hg : Gl X "zip") (hm : X.mg "zip" = none) (hs : unstar a = true) (hs2 : unstar b = true) (ha : PE X a (rdE X.K X.w C rf ta)) (hb : PE X b (rdE X.K X.w C rf tb)) : PI X (.Tuple elts kk tpos) (.Call (.Name "zip" p) [a, b] [] pos) (rdI X.K X.w C rf (.zip ta tb)) := by
  refine ⟨fun pins s σ H R I ⟨F, ρ, S, h⟩ => ?_⟩
  simp only [evI_eqs, wpR_bind, wpR_ofO] at h
  refine (RZ.pi_zipA (ta := tCons (rdE X.K X.w C rf ta) (tCons (rdE X.K X.w C rf tb) tNil)) hg hm (pa_cons ha (pa_cons hb pa_nil (star_cons hs2)) (star_cons hs)) (star_cons hs) (star_plain (by simp [hs2]))).run pins s σ H R I ⟨F, ρ, S, wpR_mono h fun x ρ1 h v F1 H1 g => ⟨F1, ρ1, g.sr, wpR_mono h fun y ρ2 h v2 F2 H2 g2 => ?_⟩⟩
  obtain ⟨⟨d, ρ3⟩, e1, ⟨e, ρ4⟩, e2, h⟩ := h
  have r1 := g.rr.step g2.st
  have s0 := g.st.trans g2.st
  have sp : Sep v x [v2] [y] := fun a d k1 k2 j e k3 k4 => by
    subst k1 k2
    cases j with
    | zero =>
      simp only [List.getElem?_cons_zero, Option.some.injEq] at k3 k4
      obtain ⟨b, h1, h2, h3, h4⟩ := g.rr
      cases h1
      exact h3.ne (g2.fh e a k3 k4)
    | succ j => simp at k3
  obtain ⟨F3, f⟩ := freeze_ok g2.sr r1 e1
  have r2 := f.rr g2.rr fun a e e' k1 k2 k3 k4 => sp a e k1 k3 0 e' (by rw [k2]; rfl) (by rw [k4]; rfl)
  obtain ⟨F4, f4⟩ := freeze_ok f.sr r2 e2
  have s3 := f4.step (f.step s0 g.fh) (g2.fh.back g.st.al)
  dsimp only at h
  split at h
  · rename_i q1 q2
    have p1 := f.rp.up f4.fr
    have p2 := f4.rp
    cases p1 with
    | @lst p zs _ h1 h2 =>
      cases p2 with
      | @lst p' zs' _ h1' h2' => exact ⟨p, p', zs, zs', rfl, .inl ⟨SqL.of (f4.sr.sm _ _ h1), SqL.of (f4.sr.sm _ _ h1'), h _ F4 H2 f4.sr s3 (yl_zip h1 h1' h2 h2')⟩⟩
  · have p1 := f.rp.up f4.fr
    have p2 := f4.rp
    cases p1 with
    | @tup p zs _ h1 h2 =>
      cases p2 with
      | @tup p' zs' _ h1' h2' => exact ⟨p, p', zs, zs', rfl, .inr ⟨Same.sqT f4.sr.sm h1, Same.sqT f4.sr.sm h1', h _ F4 H2 f4.sr s3 (yl_zipT h1 h1' h2 h2')⟩⟩
  · exact h.elim
end
end Mp

set_option maxRecDepth 100000
set_option maxHeartbeats 4000000
/-! List comprehensions. -/
namespace Mp
open PySem PySem.Spec PyProof.Rows L2

theorem wipeE_len (ρ : Ev) : ∀ is : List Nat, (wipeE ρ is).length = ρ.length
  | [] => rfl
  | i :: is => by show ((wipeE ρ is).set i none).length = _; rw [List.length_set, wipeE_len ρ is]
theorem wipeE_out {ρ : Ev} {i : Nat} : ∀ {is : List Nat}, i ∉ is → (wipeE ρ is)[i]? = ρ[i]?
  | [], _ => rfl
  | j :: is, h => by
    rw [List.mem_cons, not_or] at h
    show ((wipeE ρ is).set j none)[i]? = _
    rw [List.getElem?_set_ne (fun e => h.1 e.symm), wipeE_out h.2]
theorem wipeE_some {ρ : Ev} {i : Nat} {c : Cell} : ∀ {is : List Nat}, (wipeE ρ is)[i]? = some (some c) → i ∉ is ∧ ρ[i]? = some (some c)
  | [], h => ⟨List.not_mem_nil, h⟩
  | j :: is, h => by
    have h' : ((wipeE ρ is).set j none)[i]? = some (some c) := h
    rcases set_get h' with ⟨_, z⟩ | ⟨ne, z⟩
    · cases z
    · obtain ⟨h1, h2⟩ := wipeE_some z
      exact ⟨by rw [List.mem_cons, not_or]; exact ⟨fun e => ne e.symm, h1⟩, h2⟩
theorem wipe_out {σ : L2.St} {i : Nat} : ∀ {is : List Nat}, i ∉ is → (L2.wipe σ is)[i]? = σ[i]?
  | [], _ => rfl
  | j :: is, h => by
    rw [List.mem_cons, not_or] at h
    show ((L2.wipe σ is).set j none)[i]? = _
    rw [List.getElem?_set_ne (fun e => h.1 e.symm), wipe_out h.2]
theorem wipe_in {σ : L2.St} {i : Nat} : ∀ {is : List Nat}, i ∈ is → (L2.wipe σ is)[i]? = (σ[i]?).map fun _ => none
  | [], h => by cases h
  | j :: is, h => by
    show ((L2.wipe σ is).set j none)[i]? = _
    by_cases e : j = i
    · subst e
      rw [List.getElem?_set]
      rw [if_pos rfl, wipe_length]
      by_cases hl : j < σ.length
      · rw [if_pos hl, List.getElem?_eq_getElem hl]; rfl
      · rw [if_neg hl, List.getElem?_eq_none (by omega)]; rfl
    · rw [List.getElem?_set_ne e]
      rcases List.mem_cons.mp h with z | z
      · exact absurd z.symm e
      · exact wipe_in z
theorem wipe_chg {σ σ' : L2.St} {is vs : List Nat} (c : Chg is σ σ') (h : ∀ i ∈ is, i ∈ vs) : L2.wipe σ' vs = L2.wipe σ vs := by
  apply List.ext_getElem?
  intro i
  by_cases hi : i ∈ vs
  · rw [wipe_in hi, wipe_in hi]
    by_cases hl : i < σ.length
    · rw [List.getElem?_eq_getElem hl, List.getElem?_eq_getElem (by rw [c.len]; exact hl)]; rfl
    · have hl' := c.len
      rw [List.getElem?_eq_none (by omega : σ'.length ≤ i), List.getElem?_eq_none (by omega : σ.length ≤ i)]
  · rw [wipe_out hi, wipe_out hi]
    exact c.eq i fun z => hi (h i z)
theorem wipe_wipe {σ : L2.St} {vs : List Nat} : L2.wipe (L2.wipe σ vs) vs = L2.wipe σ vs :=
  wipe_chg (is := vs) ⟨wipe_length σ vs, fun i hi => wipe_out hi⟩ fun i h => h
theorem backE_len {old ρ : Ev} : ∀ is : List Nat, (backE old ρ is).length = ρ.length
  | [] => rfl
  | i :: is => by
    unfold backE
    split
    · rw [List.length_set, backE_len is]
    · exact backE_len is
theorem backE_out {old ρ : Ev} {i : Nat} : ∀ {is : List Nat}, i ∉ is → (backE old ρ is)[i]? = ρ[i]?
  | [], _ => rfl
  | j :: is, h => by
    rw [List.mem_cons, not_or] at h
    unfold backE
    split
    · rw [List.getElem?_set_ne (fun e => h.1 e.symm), backE_out h.2]
    · exact backE_out h.2
theorem backE_in {old ρ : Ev} {i : Nat} (hl : old.length = ρ.length) : ∀ {is : List Nat}, i ∈ is → (backE old ρ is)[i]? = old[i]?
  | [], h => by cases h
  | j :: is, h => by
    unfold backE
    by_cases e : j = i
    · subst e
      split
      · rename_i c q
        have : j < (backE old ρ is).length := by rw [backE_len, ← hl]; exact (List.getElem?_eq_some_iff.mp q).1
        rw [List.getElem?_set_self this, q]
      · rename_i q
        rw [q]
        apply List.getElem?_eq_none
        rw [backE_len, ← hl]
        exact List.getElem?_eq_none_iff.mp q
    · rcases List.mem_cons.mp h with z | z
      · exact absurd z.symm e
      · split
        · rw [List.getElem?_set_ne e]; exact backE_in hl z
        · exact backE_in hl z

section
variable {K : PySem.W.Frag} {w : World} {F F' F1 F2 H H' H1 H2 : Hp} {σ σ' : L2.St} {ρ ρ' ρ1 ρ2 : Ev} {O O' : Addr → Prop} {vs : List Nat} {D0 : Addr}
theorem SR.wipe (S : SR K w F H σ ρ) (vs : List Nat) : SR K w F H (L2.wipe σ vs) (wipeE ρ vs) ∧ ∀ a, Own (L2.wipe σ vs) (wipeE ρ vs) a → Own σ ρ a := by
  refine ⟨⟨S.sm, by rw [wipe_length, wipeE_len]; exact S.len, fun i c e => ?_, fun i j a d e k1 k2 k3 k4 => ?_⟩, fun a ⟨i, d, k1, k2⟩ => ?_⟩
  · obtain ⟨h1, h2⟩ := wipeE_some e
    obtain ⟨v, h3, h4⟩ := S.cell i c h2
    exact ⟨v, by rw [wipe_out h1]; exact h3, h4⟩
  · obtain ⟨h1, h2⟩ := wipeE_some k1
    obtain ⟨h3, h4⟩ := wipeE_some k2
    rw [wipe_out h1] at k3
    rw [wipe_out h3] at k4
    exact S.dis i j a d e h2 h4 k3 k4
  · obtain ⟨h1, h2⟩ := wipeE_some k1
    rw [wipe_out h1] at k2
    exact ⟨i, d, h2, k2⟩
/-- the new list counts as owned -/
def With (O : Addr → Prop) (D0 : Addr) (a : Addr) : Prop := O a ∨ a = D0
theorem Step.with (s : Step F H F' H' O O') : Step F H F' H' (With O D0) (With O' D0) :=
  ⟨s.fr, fun a no h => s.kp a (fun z => no (.inl z)) h, fun a z => z.elim (fun z => (s.ow a z).imp .inl id) fun z => .inl (.inr z), s.al⟩
theorem Step.add {o : HO} (h : H D0 ≠ none) : Step F H F (upd H D0 o) (With O D0) (With O D0) :=
  ⟨Same.refl F, fun a no hn => ⟨upd_ne fun e => no (.inr e), id⟩, fun a z => .inl z, fun a hn => by
    by_cases e : a = D0
    · subst e; rw [upd_same]; exact Option.some_ne_none _
    · rw [upd_ne e]; exact hn⟩
/-- writing the new list does nothing to the names -/
theorem SR.list (S : SR K w F H σ ρ) {o : HO} (hF : F D0 = none) (hO : ¬ Own σ ρ D0) : SR K w F (upd H D0 o) σ ρ := by
  refine ⟨fun b u e => by rw [upd_ne (ne_of_none e hF)]; exact S.sm _ _ e, S.len, fun i c e => ?_, S.dis⟩
  obtain ⟨v, h1, h2⟩ := S.cell i c e
  refine ⟨v, h1, ?_⟩
  cases c with
  | fz d => exact h2
  | ow d =>
    obtain ⟨a, k1, k2, k3⟩ := h2
    subst k1
    have : a ≠ D0 := fun z => hO (z ▸ ⟨i, d, e, h1⟩)
    exact ⟨a, rfl, k2, k3.up (Same.refl F) (upd_ne this)⟩
theorem bind_ok {α β : Type} {r : Res α} {f : α → Ev → Res β} {b : β} {ρ : Ev} (h : r.bind f = .ok b ρ) : ∃ a ρ1, r = .ok a ρ1 ∧ f a ρ1 = .ok b ρ := by
  cases r with
  | ok a ρ1 => exact ⟨a, ρ1, rfl, h⟩
  | exc _ _ _ => cases h
  | bad => cases h
theorem ofO_ok {α β : Type} {o : Option α} {f : α → Res β} {b : β} {ρ : Ev} (h : ofO o f = .ok b ρ) : ∃ a, o = some a ∧ f a = .ok b ρ := by
  cases o with
  | none => cases h
  | some a => exact ⟨a, rfl, h⟩
theorem compLoop_len {vs : List Nat} {step : D → Ev → Res (Option D)} : ∀ {xs acc : List D} {ρ : Ev} {ds : List D} {ρ2 : Ev}, compLoop vs step xs acc ρ = .ok ds ρ2 → acc.length ≤ ds.length
  | [], acc, ρ, ds, ρ2, h => by cases h; exact Nat.le_refl _
  | x :: r, acc, ρ, ds, ρ2, h => by
    obtain ⟨o, ρ1, _, h⟩ := bind_ok (show (step x ρ).bind _ = .ok ds ρ2 from h)
    have := compLoop_len h
    cases o with
    | none => exact this
    | some d => simp only [List.length_append, List.length_singleton] at this; omega
/-- behind the loop: the names have what they had -/
theorem back_ok {acc : List D} {accV : List V} (S1 : SR K w F1 H1 σ ρ1) (S2 : SR K w F2 H2 (L2.wipe σ vs) ρ2) (hD : H1 D0 = none) (nD : ¬ Own (L2.wipe σ vs) ρ2 D0)
    (s : Step F1 (upd H1 D0 (.lst [])) F2 H2 (With (Own (L2.wipe σ vs) (wipeE ρ1 vs)) D0) (With (Own (L2.wipe σ vs) ρ2) D0)) (hl : ρ1.length = ρ2.length) :
    SR K w F2 H2 σ (backE ρ1 ρ2 vs) ∧ Step F1 H1 F2 H2 (Own σ ρ1) (Own σ (backE ρ1 ρ2 vs)) ∧ ¬ Own σ (backE ρ1 ρ2 vs) D0 := by
  have w1 := (S1.wipe vs).2
  -- a thing that the loop's names did not own stays
  have kp : ∀ a, ¬ Own (L2.wipe σ vs) (wipeE ρ1 vs) a → H1 a ≠ none → H2 a = H1 a ∧ (F1 a = none → F2 a = none) := fun a no h => by
    have na : a ≠ D0 := fun e => h (e ▸ hD)
    have := s.kp a (fun z => z.elim no na) (by rw [upd_ne na]; exact h)
    rw [upd_ne na] at this
    exact this
  have cell : ∀ (i : Nat) (c : Cell), (backE ρ1 ρ2 vs)[i]? = some (some c) → (i ∈ vs ∧ ρ1[i]? = some (some c)) ∨ (i ∉ vs ∧ ρ2[i]? = some (some c)) := fun i c e => by
    by_cases hi : i ∈ vs
    · rw [backE_in hl hi] at e; exact .inl ⟨hi, e⟩
    · rw [backE_out hi] at e; exact .inr ⟨hi, e⟩
  have inner : ∀ (i : Nat) (d : D) (a : Addr), i ∈ vs → ρ1[i]? = some (some (.ow d)) → σ[i]? = some (some (.ref a)) → ¬ Own (L2.wipe σ vs) (wipeE ρ1 vs) a := fun i d a hi h1 h2 ⟨j, e, k1, k2⟩ => by
    obtain ⟨hj, k3⟩ := wipeE_some k1
    rw [wipe_out hj] at k2
    exact hj (S1.dis i j a d e h1 k3 h2 k2 ▸ hi)
  have two : ∀ (i j : Nat) (a : Addr) (d e : D), i ∈ vs → j ∉ vs → ρ1[i]? = some (some (.ow d)) → ρ2[j]? = some (some (.ow e)) → σ[i]? = some (some (.ref a)) → σ[j]? = some (some (.ref a)) → False := fun i j a d e hi hj h1 h2 h3 h4 => by
    have na := inner i d a hi h1 h3
    have o1 : Own σ ρ1 a := ⟨i, d, h1, h3⟩
    have ne := (S1.own_ne o1).1
    have nd : a ≠ D0 := fun z => ne (z ▸ hD)
    rcases s.ow a (.inl ⟨j, e, h2, by rw [wipe_out hj]; exact h4⟩) with (z | z) | z
    · exact na z
    · exact nd z
    · rw [upd_ne nd] at z; exact ne z
  refine ⟨⟨S2.sm, by rw [backE_len, ← hl]; exact S1.len, fun i c e => ?_, fun i j a d e k1 k2 k3 k4 => ?_⟩, ⟨s.fr, fun a no h => kp a (fun z => no (w1 a z)) h, fun a ⟨i, d, k1, k2⟩ => ?_, fun a h => ?_⟩, fun ⟨i, d, k1, k2⟩ => ?_⟩
  · rcases cell i c e with ⟨hi, z⟩ | ⟨hi, z⟩
    · obtain ⟨v, h1, h2⟩ := S1.cell i c z
      refine ⟨v, h1, ?_⟩
      cases c with
      | fz d => exact Rp.up h2 s.fr
      | ow d =>
        obtain ⟨a, k1, k2, k3⟩ := h2
        subst k1
        obtain ⟨e1, e2⟩ := kp a (inner i d a hi z h1) k3.ne
        exact ⟨a, rfl, e2 k2, k3.up s.fr e1⟩
    · obtain ⟨v, h1, h2⟩ := S2.cell i c z
      rw [wipe_out hi] at h1
      exact ⟨v, h1, h2⟩
  · rcases cell i _ k1 with ⟨hi, z1⟩ | ⟨hi, z1⟩
    · rcases cell j _ k2 with ⟨hj, z2⟩ | ⟨hj, z2⟩
      · exact S1.dis i j a d e z1 z2 k3 k4
      · exact (two i j a d e hi hj z1 z2 k3 k4).elim
    · rcases cell j _ k2 with ⟨hj, z2⟩ | ⟨hj, z2⟩
      · exact (two j i a e d hj hi z2 z1 k4 k3).elim
      · exact S2.dis i j a d e z1 z2 (by rw [wipe_out hi]; exact k3) (by rw [wipe_out hj]; exact k4)
  · rcases cell i _ k1 with ⟨hi, z1⟩ | ⟨hi, z1⟩
    · exact .inl ⟨i, d, z1, k2⟩
    · have o2 : Own (L2.wipe σ vs) ρ2 a := ⟨i, d, z1, by rw [wipe_out hi]; exact k2⟩
      have nd : a ≠ D0 := fun z => nD (z ▸ o2)
      rcases s.ow a (.inl o2) with (z | z) | z
      · exact .inl (w1 a z)
      · exact absurd z nd
      · rw [upd_ne nd] at z; exact .inr z
  · refine s.al a ?_
    by_cases e : a = D0
    · subst e; rw [upd_same]; exact Option.some_ne_none _
    · rw [upd_ne e]; exact h
  · rcases cell i _ k1 with ⟨hi, z1⟩ | ⟨hi, z1⟩
    · exact (S1.own_ne ⟨i, d, z1, k2⟩).1 hD
    · exact nD ⟨i, d, z1, by rw [wipe_out hi]; exact k2⟩
end

theorem lc_rd {K : PySem.W.Frag} {w : World} {C : Cl} {rf : List Bool} {σ : L2.St} {H : Hp} {Q : VK} {n : Nat} {vs : List Nat} {t : Tg} {it : I} {tc te : E} (hn : σ.length = n) (hsub : ∀ i ∈ slotsT t, i ∈ vs) :
    rdE K w C rf (.comp vs t it tc te) σ H Q → tLc (rdI K w C rf it) (rdG K w n C rf t) (rdT K w C rf tc) (rdE K w C rf te) vs σ H Q := by
  intro ⟨F, ρ, S, h⟩
  simp only [ev_eqs] at h
  split at h
  · exact h.elim
  rw [wpR_bind] at h
  refine ⟨F, ρ, S, wpR_mono h fun xs ρ1 h J F1 H1 S1 s1 yl => fun D0 hD => ?_⟩
  generalize hst : (fun (x : D) (ρ : Ev) => (tgA C rf t (.fz x) ρ).bind fun _ ρ2 => (evT C rf tc ρ2).bind fun k ρ3 => if k = true then (ev C rf te ρ3).bind fun y ρ4 => ofO (freeze rf ρ4 y) fun p => Res.ok (some p.1) p.2 else Res.ok none ρ3) = step at h
  split at h
  rotate_left
  · exact h.elim
  rename_i dsF ρ2 hloop
  split at h
  rotate_left
  · exact h.elim
  rename_i hlen
  rw [wpR_ok] at h
  have hzz := okLen_lt hlen
  have f1D : F1 D0 = none := S1.sm.free hD
  have n1D : ¬ Own (L2.wipe σ vs) (wipeE ρ1 vs) D0 := fun z => (S1.own_ne ((S1.wipe vs).2 _ z)).1 hD
  have hl1 := S1.len
  refine ⟨fun i m Hi => m = xs.length - i ∧ i ≤ xs.length ∧ ∃ Fi ρi acc accV, SR K w Fi Hi (L2.wipe σ vs) ρi ∧ Hi D0 = some (.lst accV) ∧ Fi D0 = none ∧ Rps K w Fi accV acc ∧ ¬ Own (L2.wipe σ vs) ρi D0 ∧
    Step F1 (upd H1 D0 (.lst [])) Fi Hi (With (Own (L2.wipe σ vs) (wipeE ρ1 vs)) D0) (With (Own (L2.wipe σ vs) ρi) D0) ∧ compLoop vs step (xs.drop i) acc ρi = .ok dsF ρ2, ⟨_, rfl, Nat.zero_le _, F1, wipeE ρ1 vs, [], [], (S1.wipe vs).1.list f1D n1D, upd_same, f1D, .nil, n1D, Step.refl, hloop⟩, ?_⟩
  intro i m Hi ⟨hm, hi, Fi, ρi, acc, accV, Si, dD, fD, ra, nD, si, hl⟩
  subst hm
  by_cases hlt : i < xs.length
  rotate_left
  · -- the end
    have e : i = xs.length := by omega
    rw [List.drop_eq_nil_of_le (by omega)] at hl
    cases hl
    obtain ⟨b1, b2, b3⟩ := back_ok (acc := dsF) (accV := accV) S1 Si hD nD si (by rw [← hl1, ← Si.len, wipe_length])
    refine .inl ⟨(yl i Fi Hi si.fr Si.sm).1 e, h _ Fi Hi ⟨b1, s1.trans b2, ⟨D0, rfl, fD, ⟨accV, dD, ra⟩, b3⟩, fun d a k1 k2 => ?_⟩⟩
    cases k2
    by_cases z : H D0 = none
    · exact z
    · exact absurd hD (s1.al _ z)
  obtain ⟨g, yy⟩ := (yl i Fi Hi si.fr Si.sm).2 xs[i] (List.getElem?_eq_getElem hlt)
  refine .inr ⟨g, fun H' => xs.length - (i + 1) = xs.length - (i + 1) ∧ i + 1 ≤ xs.length ∧ ∃ Fi ρi acc accV, SR K w Fi H' (L2.wipe σ vs) ρi ∧ H' D0 = some (.lst accV) ∧ Fi D0 = none ∧ Rps K w Fi accV acc ∧ ¬ Own (L2.wipe σ vs) ρi D0 ∧
    Step F1 (upd H1 D0 (.lst [])) Fi H' (With (Own (L2.wipe σ vs) (wipeE ρ1 vs)) D0) (With (Own (L2.wipe σ vs) ρi) D0) ∧ compLoop vs step (xs.drop (i + 1)) acc ρi = .ok dsF ρ2, fun H' h => ⟨_, by omega, h⟩, fun x H2 hy => ?_⟩
  obtain ⟨F2, gr, rp⟩ := yy x H2 hy
  have g0 := Gd.of Si gr (v := x) (x := .fz xs[i]) rp
  rw [List.drop_eq_getElem_cons hlt] at hl
  obtain ⟨o, ρa, e1, hl⟩ := bind_ok (show (step xs[i] ρi).bind _ = .ok dsF ρ2 from hl)
  rw [← hst] at e1
  obtain ⟨_, ρb, e2, e1⟩ := bind_ok e1
  obtain ⟨k, ρc, e3, e1⟩ := bind_ok e1
  refine ⟨Fi, Hi, Own (L2.wipe σ vs) ρi, F2, ρi, .fz xs[i], by rw [wipe_length]; exact hn, g0.sr, rp, g0.st, (fun _ _ z => nomatch z), wpR_iff.mpr ⟨_, ρb, e2, fun σ2 F3 H3 S3 s3 k3 c3 fr3 => ?_⟩⟩
  have ew : L2.wipe σ2 vs = L2.wipe σ vs := (wipe_chg c3 hsub).trans wipe_wipe
  refine ⟨ew, F3, ρb, S3, wpR_iff.mpr ⟨k, ρc, e3, fun F4 H4 S4 s4 => ?_⟩⟩
  have st4 := s3.trans s4
  have hne : Hi D0 ≠ none := ne_of_some dD
  -- one turn's end, from a state that keeps the list
  have done : ∀ {F6 H6 ρa acc' accV'}, SR K w F6 H6 σ2 ρa → Step Fi Hi F6 H6 (Own (L2.wipe σ vs) ρi) (Own σ2 ρa) → Rps K w F6 accV' acc' → compLoop vs step (xs.drop (i + 1)) acc' (wipeE ρa vs) = .ok dsF ρ2 →
      ∃ Fi ρi acc accV, SR K w Fi (upd H6 D0 (.lst accV')) (L2.wipe σ vs) ρi ∧ (upd H6 D0 (.lst accV')) D0 = some (.lst accV) ∧ Fi D0 = none ∧ Rps K w Fi accV acc ∧ ¬ Own (L2.wipe σ vs) ρi D0 ∧
    Step F1 (upd H1 D0 (.lst [])) Fi (upd H6 D0 (.lst accV')) (With (Own (L2.wipe σ vs) (wipeE ρ1 vs)) D0) (With (Own (L2.wipe σ vs) ρi) D0) ∧ compLoop vs step (xs.drop (i + 1)) acc ρi = .ok dsF ρ2 := fun {F6 H6 ρa acc' accV'} S6 st6 r6 hl6 => by
    obtain ⟨w1, w2⟩ := S6.wipe vs
    rw [ew] at w1 w2
    obtain ⟨z1, z2⟩ := st6.kp D0 nD hne
    have no : ¬ Own (L2.wipe σ vs) (wipeE ρa vs) D0 := fun z => (st6.ow D0 (w2 _ z)).elim nD hne
    refine ⟨F6, wipeE ρa vs, acc', accV', w1.list (z2 fD) no, upd_same, z2 fD, r6, no, ?_, hl6⟩
    have s6 : Step F1 (upd H1 D0 (.lst [])) F6 H6 (With (Own (L2.wipe σ vs) (wipeE ρ1 vs)) D0) (With (Own (L2.wipe σ vs) (wipeE ρa vs)) D0) :=
      (si.trans st6.with).sub fun a z => z.elim (fun z => .inl (.inl (w2 a z))) fun z => .inl (.inr z)
    exact s6.trans (Step.add (by rw [z1]; exact hne))
  cases k with
  | false =>
    cases e1
    obtain ⟨z1, z2⟩ := st4.kp D0 nD hne
    have e5 : upd H4 D0 (.lst accV) = H4 := by
      funext b
      by_cases eb : b = D0
      · subst eb; rw [upd_same, z1, dD]
      · rw [upd_ne eb]
    have := done S4 st4 (ra.up st4.fr) hl
    rw [e5] at this
    exact ⟨rfl, by omega, this⟩
  | true =>
    obtain ⟨y, ρd, e4, e1⟩ := bind_ok e1
    obtain ⟨⟨d, ρe⟩, e5, e1⟩ := ofO_ok e1
    cases e1
    refine ⟨F4, ρc, S4, wpR_iff.mpr ⟨y, ρd, e4, fun v F5 H5 g5 => ?_⟩⟩
    obtain ⟨F6, f⟩ := freeze_ok g5.sr g5.rr e5
    have st6 := f.step (st4.trans g5.st) (g5.fh.back st4.al)
    obtain ⟨z1, z2⟩ := st6.kp D0 nD hne
    have hacc := compLoop_len hl
    simp only [List.length_append, List.length_singleton] at hacc
    refine ⟨accV, by rw [z1, dD], by rw [ra.length, sizeLine_eq]; omega, rfl, by omega, done f.sr st6 ((ra.up st6.fr).append (.cons f.rp .nil)) hl⟩
end Mp

set_option maxRecDepth 100000
set_option maxHeartbeats 4000000
/-! Statements. -/
namespace Mp
open PySem PySem.Spec PyProof.Rows L2

theorem PS.imp {X : Cx} {e : Stmt} {t u : TS} (h : PS X e t) (i : ∀ D σ H, u D σ H → t D σ H) : PS X e u := ⟨fun pins s σ H D I q => h.run pins s σ H D I (i D σ H q)⟩
theorem PSs.imp {X : Cx} {e : List Stmt} {t u : TS} (h : PSs X e t) (i : ∀ D σ H, u D σ H → t D σ H) : PSs X e u := ⟨fun pins s σ H D I q => h.run pins s σ H D I (i D σ H q)⟩
theorem PTs.imp {X : Cx} {e : List Expr} {t u : TT} (h : PTs X e t) (i : ∀ σ H Q, u σ H Q → t σ H Q) : PTs X e u := ⟨fun pins s σ H Q I q => h.run pins s σ H Q I (i σ H Q q)⟩

/-- what is wanted behind a statement that began at H -/
def Fin (K : PySem.W.Frag) (w : World) (D : Ends) (H : Hp) (F' H' : Hp) (σ' : L2.St) (ρ' : Ev) : Fl → Prop
  | .next => D.nx σ' H'
  | .brk => D.bk σ' H'
  | .cont => D.ct σ' H'
  | .ret x => ∀ v, RR K w F' H' σ' (Own σ' ρ') v x → Fresh H v x → D.rt v H'
def Aft (K : PySem.W.Frag) (w : World) (rf : List Bool) (D : Ends) (F H : Hp) (σ : L2.St) (ρ : Ev) (fl : Fl) (ρ' : Ev) : Prop :=
  ∀ σ' F' H', σ'.length = σ.length → SR K w F' H' σ' ρ' → Step F H F' H' (Own σ ρ) (Own σ' ρ') → RefK rf σ σ' → Fin K w D H F' H' σ' ρ' fl
def rdS (K : PySem.W.Frag) (w : World) (n : Nat) (C : Cl) (rf : List Bool) (t : S) : TS := fun D σ H => ∃ F ρ, σ.length = n ∧ SR K w F H σ ρ ∧ wpR (ex C rf t ρ) (Aft K w rf D F H σ ρ)
def rdSs (K : PySem.W.Frag) (w : World) (n : Nat) (C : Cl) (rf : List Bool) (t : Ss) : TS := fun D σ H => ∃ F ρ, σ.length = n ∧ SR K w F H σ ρ ∧ wpR (exs C rf t ρ) (Aft K w rf D F H σ ρ)
theorem Fin.from {K : PySem.W.Frag} {w : World} {D : Ends} {H H1 F' H' : Hp} {σ' : L2.St} {ρ' : Ev} {fl : Fl} (h : Fin K w D H F' H' σ' ρ' fl) (al : ∀ a, H a ≠ none → H1 a ≠ none) : Fin K w D H1 F' H' σ' ρ' fl := by
  cases fl with
  | ret x => exact fun v r f => h v r (f.back al)
  | next => exact h
  | brk => exact h
  | cont => exact h
/-- one more step ahead -/
theorem Aft.from {K : PySem.W.Frag} {w : World} {rf : List Bool} {D : Ends} {F H F1 H1 : Hp} {σ σ1 : L2.St} {ρ ρ1 : Ev} {fl : Fl} {ρ' : Ev} (h : Aft K w rf D F H σ ρ fl ρ') (s : Step F H F1 H1 (Own σ ρ) (Own σ1 ρ1)) (k : RefK rf σ σ1) (hl : σ1.length = σ.length) : Aft K w rf D F1 H1 σ1 ρ1 fl ρ' :=
  fun σ' F' H' l S' s' k' => (h σ' F' H' (l.trans hl) S' (s.trans s') (k.trans k')).from s.al

section
variable {X : Cx} {C : Cl} {rf : List Bool} {a b c : Expr} {ta tb tc : E} {pos : Pos}

theorem ts_nil : PTs X [] (rdT X.K X.w C rf (.const (.bl true))) := PTs.imp pts_nil fun σ H Q ⟨F, ρ, S, h⟩ => by
  simp only [evT_eqs, ev_eqs, Res.bind, deref, ofO_some, truD, wpR_ok] at h
  exact h F H S Step.refl
theorem e_comp {elt tg iter : Expr} {ifs : List Expr} {scope : Scope} {own : List (Str × Nat)} {it : I} {t : Tg} (hc : X.calm = true) (hN : X.N.Nodup) (hi : PI X tg iter (rdI X.K X.w C rf it)) (ok : BlkOk X.N X.env.scope scope own) (hsub : ∀ i ∈ slotsT t, i ∈ own.map (·.2))
    (hg : ∀ (s : Shared) (H : Hp) (Cd : Addr) (cl : List (Str × Addr)) (fp : List Addr), PG (X.blk s H scope (compEnvC scope cl Cd X.env) fp) tg (rdG X.K X.w X.N.length C rf t))
    (ht : ∀ (s : Shared) (H : Hp) (Cd : Addr) (cl : List (Str × Addr)) (fp : List Addr), PTs (X.blk s H scope (compEnvC scope cl Cd X.env) fp) ifs (rdT X.K X.w C rf tc))
    (he : ∀ (s : Shared) (H : Hp) (Cd : Addr) (cl : List (Str × Addr)) (fp : List Addr), PE (X.blk s H scope (compEnvC scope cl Cd X.env) fp) elt (rdE X.K X.w C rf ta)) (hs : ∀ x, foldedSetIterable iter X.env x = pure x) :
    PE X (.ListComp elt [⟨tg, iter, ifs, 0⟩] scope pos) (rdE X.K X.w C rf (.comp (own.map (·.2)) t it tc ta)) :=
  ⟨fun pins s σ H Q I h => (pe_lc hc hN hi ok hg ht he hs).run pins s σ H Q I (lc_rd I.len hsub h)⟩

/-! ### assignments -/
/-- not a comprehension -/
def unlc : Expr → Bool
  | .ListComp _ _ _ _ => false
  | .SetComp _ _ _ _ => false
  | .DictComp _ _ _ _ _ => false
  | _ => true
theorem unlc_swaps {e : Expr} {t : Option Expr} {l : Nat} {env : Env} (h : unlc e = true) : swapsWith e t l env = pure false := by
  cases e <;> first | rfl | cases h
def untup : Expr → Bool
  | .Tuple _ _ _ => false
  | .List _ _ => false
  | _ => true
theorem untup_stores {t e : Expr} {env : Env} (h : untup t = true) : swappedStores [t] e env = pure none := by
  cases t <;> first | rfl | cases h
theorem untup_stores' {t e : Expr} {env : Env} (h : untup e = true) : swappedStores [t] e env = pure none := by
  cases e <;> first | (cases t <;> rfl) | cases h
theorem asg_rd {t : Tg} {te : E} {D : Ends} {σ : L2.St} {H : Hp} : (rdS X.K X.w X.N.length C rf (.asg t te)) D σ H → tAsg (rdE X.K X.w C rf te) (rdG X.K X.w X.N.length C rf t) D σ H := fun ⟨F, ρ, hn, S, h⟩ => by
  simp only [ex, wpR_bind, wpR_ok] at h
  exact ⟨F, ρ, S, wpR_mono h fun x ρ1 h v F1 H1 g => ⟨F, H, Own σ ρ, F1, ρ1, x, hn, g.sr, g.rr, g.st, g.fh, wpR_mono h fun _ ρ2 h σ2 F2 H2 S2 s2 k2 c2 fr2 => h σ2 F2 H2 c2.len S2 s2 k2⟩⟩
theorem s_asg {tg e : Expr} {t : Tg} {te : E} (hs : swapsWithSole [tg] e pos.line X.env = pure false) (hw : swappedStores [tg] e X.env = pure none) (hu : unstar tg = true) (he : PE X e (rdE X.K X.w C rf te)) (hg : PG X tg (rdG X.K X.w X.N.length C rf t)) : PS X (.Assign [tg] e pos) (rdS X.K X.w X.N.length C rf (.asg t te)) :=
  PS.imp (ps_asg he hg hs hw (by rw [assign_cons hu]; rfl)) fun D σ H => asg_rd
theorem s_expr {e : Expr} {te : E} (hs : unlc e = true) (he : PE X e (rdE X.K X.w C rf te)) : PS X (.Expr e pos) (rdS X.K X.w X.N.length C rf (.expr te)) :=
  PS.imp (ps_expr he (unlc_swaps hs)) fun D σ H ⟨F, ρ, hn, S, h⟩ => by
    simp only [ex, wpR_bind, wpR_ok] at h
    exact ⟨F, ρ, S, wpR_mono h fun x ρ1 h v F1 H1 g => h σ F1 H1 rfl g.sr g.st (RefK.refl rf σ)⟩
theorem s_doc {x : Str} {j : Nat} {p : Pos} : PS X (.Expr (.Constant (.str x) j p) pos) (rdS X.K X.w X.N.length C rf .pass) :=
  PS.imp ps_doc fun D σ H ⟨F, ρ, hn, S, h⟩ => by
    simp only [ex, wpR_ok] at h
    exact h σ F H rfl S Step.refl (RefK.refl rf σ)
theorem s_ret {e : Expr} {te : E} (he : PE X e (rdE X.K X.w C rf te)) : PS X (.Return (some e) pos) (rdS X.K X.w X.N.length C rf (.ret te)) :=
  PS.imp (ps_ret he) fun D σ H ⟨F, ρ, hn, S, h⟩ => by
    simp only [ex, wpR_bind, wpR_ok] at h
    exact ⟨F, ρ, S, wpR_mono h fun x ρ1 h v F1 H1 g => h σ F1 H1 rfl g.sr g.st (RefK.refl rf σ) v g.rr g.fh⟩
theorem s_retN : PS X (.Return none pos) (rdS X.K X.w X.N.length C rf (.ret (.const .non))) :=
  PS.imp ps_retN fun D σ H ⟨F, ρ, hn, S, h⟩ => by
    simp only [ex, ev_eqs, wpR_bind, wpR_ok] at h
    exact h σ F H rfl S Step.refl (RefK.refl rf σ) .non .non fun d a z => nomatch z
theorem s_pass : PS X (.Pass pos) (rdS X.K X.w X.N.length C rf .pass) :=
  PS.imp ps_pass fun D σ H ⟨F, ρ, hn, S, h⟩ => by
    simp only [ex, wpR_ok] at h
    exact h σ F H rfl S Step.refl (RefK.refl rf σ)
theorem s_brk : PS X (.Break pos) (rdS X.K X.w X.N.length C rf .brk) :=
  PS.imp ps_break fun D σ H ⟨F, ρ, hn, S, h⟩ => by
    simp only [ex, wpR_ok] at h
    exact h σ F H rfl S Step.refl (RefK.refl rf σ)
theorem s_cont : PS X (.Continue pos) (rdS X.K X.w X.N.length C rf .cont) :=
  PS.imp ps_continue fun D σ H ⟨F, ρ, hn, S, h⟩ => by
    simp only [ex, wpR_ok] at h
    exact h σ F H rfl S Step.refl (RefK.refl rf σ)
/-- a raise is never come to -/
theorem s_raise {st : Stmt} {x : Str} {es : Es} : PS X st (rdS X.K X.w X.N.length C rf (.raise x es)) :=
  PS.imp ps_never fun D σ H ⟨F, ρ, hn, S, h⟩ => by
    simp only [ex, wpR_bind, wpR_ofO] at h
    obtain ⟨_, _, _, _, _, h⟩ := wpR_iff.mp h
    exact h.elim
theorem ss_nil : PSs X [] (rdSs X.K X.w X.N.length C rf .nil) :=
  PSs.imp pss_nil fun D σ H ⟨F, ρ, hn, S, h⟩ => by
    simp only [exs, wpR_ok] at h
    exact h σ F H rfl S Step.refl (RefK.refl rf σ)
theorem ss_cons {st : Stmt} {sts : List Stmt} {t : S} {ts : Ss} (h1 : PS X st (rdS X.K X.w X.N.length C rf t)) (h2 : PSs X sts (rdSs X.K X.w X.N.length C rf ts)) : PSs X (st :: sts) (rdSs X.K X.w X.N.length C rf (.cons t ts)) :=
  PSs.imp (pss_cons h1 h2) fun D σ H ⟨F, ρ, hn, S, h⟩ => by
    simp only [exs, wpR_bind] at h
    refine ⟨F, ρ, hn, S, wpR_mono h fun fl ρ1 h σ1 F1 H1 l1 S1 s1 k1 => ?_⟩
    cases fl with
    | next => exact ⟨F1, ρ1, l1.trans hn, S1, wpR_mono h fun fl ρ2 h => h.from s1 k1 l1⟩
    | brk => exact h σ1 F1 H1 l1 S1 s1 k1
    | cont => exact h σ1 F1 H1 l1 S1 s1 k1
    | ret x => exact h σ1 F1 H1 l1 S1 s1 k1
theorem s_ite {p q : List Stmt} {t u : Ss} (hc : PT X c (rdT X.K X.w C rf tc)) (ha : PSs X p (rdSs X.K X.w X.N.length C rf t)) (hb : PSs X q (rdSs X.K X.w X.N.length C rf u)) : PS X (.If c p q pos) (rdS X.K X.w X.N.length C rf (.ite tc t u)) :=
  PS.imp (ps_if hc ha hb) fun D σ H ⟨F, ρ, hn, S, h⟩ => by
    simp only [ex, wpR_bind] at h
    refine ⟨F, ρ, S, wpR_mono h fun k ρ1 h F1 H1 S1 s1 => ?_⟩
    cases k with
    | true =>
      simp only [if_true] at h ⊢
      exact ⟨F1, ρ1, hn, S1, wpR_mono h fun fl ρ2 h => h.from s1 (RefK.refl rf σ) rfl⟩
    | false =>
      simp only [Bool.false_eq_true, if_false] at h ⊢
      exact ⟨F1, ρ1, hn, S1, wpR_mono h fun fl ρ2 h => h.from s1 (RefK.refl rf σ) rfl⟩
theorem s_while {body : List Stmt} {t : Ss} (hp : PassesOwn (model X.prog X.w) X.A X.env X.xe) (hc : PT X c (rdT X.K X.w C rf tc)) (hb : PSs X body (rdSs X.K X.w X.N.length C rf t)) : PS X (.While c body [] pos) (rdS X.K X.w X.N.length C rf (.while tc t)) :=
  PS.imp (ps_while hp hc hb) fun D σ H ⟨F, ρ, hn, S, h⟩ => by
    simp only [ex] at h
    refine ⟨fun m σi Hi => ∃ Fi ρi, σi.length = σ.length ∧ SR X.K X.w Fi Hi σi ρi ∧ Step F H Fi Hi (Own σ ρ) (Own σi ρi) ∧ RefK rf σ σi ∧ wpR (whLoop (evT C rf tc) (exs C rf t) m ρi) (Aft X.K X.w rf D F H σ ρ), ⟨_, F, ρ, rfl, S, Step.refl, RefK.refl rf σ, h⟩, ?_⟩
    intro m σi Hi ⟨Fi, ρi, li, Si, si, ki, hl⟩
    cases m with
    | zero => exact hl.elim
    | succ m =>
      simp only [whLoop, wpR_bind] at hl
      refine ⟨Fi, ρi, Si, wpR_mono hl fun k ρ1 hl F1 H1 S1 s1 => ?_⟩
      have s01 := si.trans s1
      cases k with
      | false =>
        simp only [Bool.false_eq_true, if_false, wpR_ok] at hl ⊢
        exact hl σi F1 H1 li S1 s01 ki
      | true =>
        simp only [if_true, wpR_bind] at hl ⊢
        refine ⟨fun σ' H' => ∃ Fi ρi, σ'.length = σ.length ∧ SR X.K X.w Fi H' σ' ρi ∧ Step F H Fi H' (Own σ ρ) (Own σ' ρi) ∧ RefK rf σ σ' ∧ wpR (whLoop (evT C rf tc) (exs C rf t) m ρi) (Aft X.K X.w rf D F H σ ρ), fun σ' H' h => ⟨m, Nat.lt_succ_self m, h⟩, F1, ρ1, li.trans hn, S1, wpR_mono hl fun fl ρ2 hl σ2 F2 H2 l2 S2 s2 k2 => ?_⟩
        cases fl with
        | next => exact ⟨F2, ρ2, l2.trans li, S2, s01.trans s2, ki.trans k2, hl⟩
        | cont => exact ⟨F2, ρ2, l2.trans li, S2, s01.trans s2, ki.trans k2, hl⟩
        | brk => exact hl σ2 F2 H2 (l2.trans li) S2 (s01.trans s2) (ki.trans k2)
        | ret x => exact fun v r f => hl σ2 F2 H2 (l2.trans li) S2 (s01.trans s2) (ki.trans k2) v r (f.back s01.al)
theorem s_for {tg iter : Expr} {body : List Stmt} {t : Tg} {it : I} {ts : Ss} (hp : PassesOwn (model X.prog X.w) X.A X.env X.xe) (hc : X.calm = true) (hi : PI X tg iter (rdI X.K X.w C rf it)) (hg : PG X tg (rdG X.K X.w X.N.length C rf t)) (hb : PSs X body (rdSs X.K X.w X.N.length C rf ts)) (hs : ∀ x, foldedSetIterable iter X.env x = pure x) :
    PS X (.For tg iter body [] pos) (rdS X.K X.w X.N.length C rf (.for t it ts)) :=
  PS.imp (ps_for hp hc hi hg hb hs) fun DD σ H ⟨F, ρ, hn, S, h⟩ => by
    simp only [ex, wpR_bind] at h
    refine ⟨F, ρ, S, wpR_mono h fun xs ρ1 h J F1 H1 S1 s1 yl => ?_⟩
    generalize hst : (fun (x : D) (ρ : Ev) => (tgA C rf t (.fz x) ρ).bind fun _ ρ2 => exs C rf ts ρ2) = step at h
    refine ⟨fun i m σi Hi => m = xs.length - i ∧ i ≤ xs.length ∧ ∃ Fi ρi, σi.length = σ.length ∧ SR X.K X.w Fi Hi σi ρi ∧ Step F H Fi Hi (Own σ ρ) (Own σi ρi) ∧ RefK rf σ σi ∧ Same F1 Fi ∧ wpR (forLoop step (xs.drop i) ρi) (Aft X.K X.w rf DD F H σ ρ), ⟨_, rfl, Nat.zero_le _, F1, ρ1, rfl, S1, s1, RefK.refl rf σ, Same.refl F1, h⟩, ?_⟩
    intro i m σi Hi ⟨hm, hi', Fi, ρi, li, Si, si, ki, fi, hl⟩
    subst hm
    by_cases hlt : i < xs.length
    rotate_left
    · have e : i = xs.length := by omega
      rw [List.drop_eq_nil_of_le (by omega)] at hl
      exact .inl ⟨(yl i Fi Hi fi Si.sm).1 e, hl σi Fi Hi li Si si ki⟩
    obtain ⟨g, yy⟩ := (yl i Fi Hi fi Si.sm).2 xs[i] (List.getElem?_eq_getElem hlt)
    refine .inr ⟨g, fun σ' H' => xs.length - (i + 1) = xs.length - (i + 1) ∧ i + 1 ≤ xs.length ∧ ∃ Fi ρi, σ'.length = σ.length ∧ SR X.K X.w Fi H' σ' ρi ∧ Step F H Fi H' (Own σ ρ) (Own σ' ρi) ∧ RefK rf σ σ' ∧ Same F1 Fi ∧ wpR (forLoop step (xs.drop (i + 1)) ρi) (Aft X.K X.w rf DD F H σ ρ), fun σ' H' h => ⟨_, by omega, h⟩, fun x H2 hy => ?_⟩
    obtain ⟨F2, gr, rp⟩ := yy x H2 hy
    have g0 := Gd.of Si gr (v := x) (x := .fz xs[i]) rp
    rw [List.drop_eq_getElem_cons hlt] at hl
    simp only [forLoop, wpR_bind] at hl
    rw [← hst] at hl
    simp only [wpR_bind] at hl
    rw [hst] at hl
    refine ⟨F, H, Own σ ρ, F2, ρi, .fz xs[i], li.trans hn, g0.sr, rp, si.trans g0.st, (fun _ _ z => nomatch z), wpR_mono hl fun _ ρb hl σ2 F3 H3 S3 s3 k3 c3 fr3 => ?_⟩
    refine ⟨F3, ρb, (c3.len.trans li).trans hn, S3, wpR_mono hl fun fl ρc hl σ3 F4 H4 l4 S4 s4 k4 => ?_⟩
    have l34 := (l4.trans c3.len).trans li
    have k34 := ki.trans (k3.trans k4)
    have f34 := fi.trans (gr.fr.trans (fr3.trans s4.fr))
    cases fl with
    | next => exact ⟨rfl, by omega, F4, ρc, l34, S4, s3.trans s4, k34, f34, hl⟩
    | cont => exact ⟨rfl, by omega, F4, ρc, l34, S4, s3.trans s4, k34, f34, hl⟩
    | brk => exact hl σ3 F4 H4 l34 S4 (s3.trans s4) k34
    | ret y => exact fun v r f => hl σ3 F4 H4 l34 S4 (s3.trans s4) k34 v r (f.back s3.al)
end
end Mp

set_option maxRecDepth 100000
set_option maxHeartbeats 4000000
/-! Several names at once. -/
namespace Mp
open PySem PySem.Spec PyProof.Rows L2

section
variable {K : PySem.W.Frag} {w : World} {F F' F0 H H0 : Hp} {σ : L2.St} {ρ ρ' : Ev} {O0 : Addr → Prop} {vs : List V} {xs xs' : List RV} {rf : List Bool}
def unvar : RV → Bool
  | .var _ => false
  | _ => true
theorem settle_ok (S : SR K w F H σ ρ) (r : RRs K w F H σ (Own σ ρ) vs xs) (s : Step F0 H0 F H O0 (Own σ ρ)) (fh : Freshs H0 vs xs) (h : settle rf xs ρ = some (xs', ρ')) :
    ∃ F', SR K w F' H σ ρ' ∧ Step F0 H0 F' H O0 (Own σ ρ') ∧ RRs K w F' H σ (Own σ ρ') vs xs' ∧ Freshs H0 vs xs' ∧ xs'.all unvar = true ∧ (∀ v x, unvar x = true → RR K w F H σ (Own σ ρ) v x → RR K w F' H σ (Own σ ρ') v x) ∧ ∀ (j : Nat) e, xs'[j]? = some (.tmp e) → xs[j]? = some (.tmp e) := by
  induction xs generalizing F ρ vs xs' ρ' with
  | nil =>
    cases r
    cases h
    exact ⟨F, S, s, .nil, fh, rfl, fun _ _ _ r => r, fun j e z => z⟩
  | cons x xs ih =>
    cases r with
    | @cons v _ vs _ h1 h2 h3 =>
      have fh' : Freshs H0 vs xs := fun j d a e1 e2 => fh (j + 1) d a (by simpa using e1) (by simpa using e2)
      have fx : Fresh H0 v x := fun d a e1 e2 => fh 0 d a (by rw [e1]; rfl) (by rw [e2]; rfl)
      -- a head that is no name's
      have keep : unvar x = true → ∀ xs2 ρ2, settle rf xs ρ = some (xs2, ρ2) → ∃ F', SR K w F' H σ ρ2 ∧ Step F0 H0 F' H O0 (Own σ ρ2) ∧ RRs K w F' H σ (Own σ ρ2) (v :: vs) (x :: xs2) ∧ Freshs H0 (v :: vs) (x :: xs2) ∧ (x :: xs2).all unvar = true ∧ (∀ v x, unvar x = true → RR K w F H σ (Own σ ρ) v x → RR K w F' H σ (Own σ ρ2) v x) ∧ ∀ (j : Nat) e, (x :: xs2)[j]? = some (.tmp e) → (x :: xs)[j]? = some (.tmp e) := fun hx xs2 ρ2 e => by
        obtain ⟨F', g1, g2, g3, g4, g5, g6, g7⟩ := ih S h3 s fh' e
        refine ⟨F', g1, g2, .cons (g6 v x hx h1) (fun a d k1 k2 j e k3 => h2 a d k1 k2 j e (g7 j e k3)) g3, fun j d a k1 k2 => ?_, by rw [List.all_cons, hx, g5]; rfl, g6, fun j e k => ?_⟩
        · cases j with
          | zero => exact fh 0 d a (by simpa using k1) (by simpa using k2)
          | succ j => exact g4 j d a (by simpa using k1) (by simpa using k2)
        · cases j with
          | zero => simpa using k
          | succ j => simpa using g7 j e (by simpa using k)
      cases x with
      | var i =>
        simp only [settle] at h
        split at h <;> try contradiction
        rename_i d ρ1 q1
        split at h <;> try contradiction
        rename_i xs2 ρ2 q2
        cases h
        obtain ⟨F1, f⟩ := freeze_ok S h1 q1
        obtain ⟨F', g1, g2, g3, g4, g5, g6, g7⟩ := ih f.sr (f.rrs h3 h2) (f.step s fx) fh' q2
        have up : ∀ v x, unvar x = true → RR K w F H σ (Own σ ρ) v x → RR K w F' H σ (Own σ ρ') v x := fun v x hx r => g6 v x hx (f.rr r fun a e e' z => nomatch z)
        refine ⟨F', g1, g2, .cons (g6 v (.fz d) rfl f.rp) (fun a d k1 => nomatch k1) g3, fun j d a k1 k2 => ?_, by rw [List.all_cons, g5]; rfl, up, fun j e k => ?_⟩
        · cases j with
          | zero => simp at k1
          | succ j => exact g4 j d a (by simpa using k1) (by simpa using k2)
        · cases j with
          | zero => simp at k
          | succ j => simpa using g7 j e (by simpa using k)
      | fz d =>
        simp only [settle] at h
        split at h <;> try contradiction
        rename_i xs2 ρ2 q2
        cases h
        exact keep rfl _ _ q2
      | tmp d =>
        simp only [settle] at h
        split at h <;> try contradiction
        rename_i xs2 ρ2 q2
        cases h
        exact keep rfl _ _ q2
def setAll (σ : L2.St) : List Nat → List V → L2.St
  | i :: is, v :: vs => setAll (σ.set i (some v)) is vs
  | _, _ => σ
theorem stores_ok {is : List Nat} (S : SR K w F H σ ρ) (r : RRs K w F H σ (Own σ ρ) vs xs) (hv : xs.all unvar = true) (s : Step F0 H0 F H O0 (Own σ ρ)) (fh : Freshs H0 vs xs) (hi : ∀ i ∈ is, i < σ.length) (h : stores rf is xs ρ = some ρ') :
    ∃ F', SR K w F' H (setAll σ is vs) ρ' ∧ Step F0 H0 F' H O0 (Own (setAll σ is vs) ρ') ∧ RefK rf σ (setAll σ is vs) ∧ (setAll σ is vs).length = σ.length ∧ vs.length = is.length := by
  induction is generalizing F σ ρ vs xs with
  | nil =>
    cases xs with
    | nil => cases r; cases h; exact ⟨F, S, s, RefK.refl rf σ, rfl, rfl⟩
    | cons _ _ => cases h
  | cons i is ih =>
    cases xs with
    | nil => cases h
    | cons x xs =>
      cases r with
      | @cons v _ vs _ h1 h2 h3 =>
        rw [List.all_cons, Bool.and_eq_true] at hv
        simp only [stores] at h
        split at h <;> try contradiction
        rename_i ρ1 q1
        have fx : Fresh H0 v x := fun d a e1 e2 => fh 0 d a (by rw [e1]; rfl) (by rw [e2]; rfl)
        obtain ⟨nr, F1, S1, s1, n1, o1, fr⟩ := store_ok S h1 s fx (hi i List.mem_cons_self) q1
        have r1 : RRs K w F1 H (σ.set i (some v)) (Own (σ.set i (some v)) ρ1) vs xs := by
          have hv2 := hv.2
          clear ih h fh
          induction h3 with
          | nil => exact .nil
          | @cons v' x' vs xs k1 k2 k3 ih2 =>
            rw [List.all_cons, Bool.and_eq_true] at hv2
            refine .cons ?_ k2 (ih2 ⟨hv.1, hv2.2⟩ (fun a d e1 e2 j e e3 e4 => h2 a d e1 e2 (j + 1) e (by simpa using e3) (by simpa using e4)) hv2.2)
            cases x' with
            | fz d => exact Rp.up k1 fr
            | tmp d =>
              obtain ⟨a, e1, e2, e3, e4⟩ := k1
              subst e1
              refine ⟨a, rfl, ?_, e3.up fr rfl, fun z => ?_⟩
              · rcases n1 a e2 with q | ⟨_, q⟩
                · exact q
                · exact (e4 q).elim
              · rcases o1 a z with q | ⟨q, e, q2⟩
                · exact e4 q
                · exact h2 a e q2 q 0 d rfl rfl
            | var j => cases hv2.1
        obtain ⟨F', g1, g2, g3, g4, g5⟩ := ih S1 r1 hv.2 s1 (fun j d a e1 e2 => fh (j + 1) d a (by simpa using e1) (by simpa using e2)) (fun j hj => by rw [List.length_set]; exact hi j (List.mem_cons_of_mem _ hj)) h
        refine ⟨F', g1, g2, RefK.trans (fun j hj => set_get' fun z => by rw [z] at nr; rw [nr] at hj; cases hj) g3, g4.trans List.length_set, by simp [g5]⟩
end

section
variable {X : Cx} {C : Cl} {rf : List Bool} {pos : Pos}
theorem par_rd {is : List Nat} {ts : Es} {DD : Ends} {σ : L2.St} {H : Hp} (hi : ∀ i ∈ is, i < X.N.length) : (rdS X.K X.w X.N.length C rf (.par is ts)) DD σ H → (rdA X.K X.w C rf ts) σ H fun vs H1 => vs.length = is.length ∧ DD.nx (setAll σ is vs) H1 := fun ⟨F, ρ, hn, S, h⟩ => by
  simp only [ex, wpR_bind, wpR_ofO, wpR_ok] at h
  refine ⟨F, ρ, S, wpR_mono h fun xs ρ1 h vs F1 H1 g => ?_⟩
  obtain ⟨⟨xs', ρ2⟩, e1, ρ3, e2, h⟩ := h
  obtain ⟨F2, g1, g2, g3, g4, g5, _⟩ := settle_ok g.sr g.rr g.st g.fh e1
  obtain ⟨F3, k1, k2, k3, k4, k5⟩ := stores_ok g1 g3 g5 g2 g4 (fun i h => by rw [hn]; exact hi i h) e2
  exact ⟨k5, h _ F3 H1 k4 k1 k2 k3⟩
/-- the look at a, b = e, f -/
def parNames (sc : Scope) (ts : List Expr) : List Str := ts.filterMap fun
  | .Name id pos => if sc.names.lookup id == some .local && pos.line == (ts.head?.map (·.pos.line)).getD 0 then some id else none
  | _ => none
def parOk (sc : Scope) (ts vs : List Expr) : Bool :=
  (ts.length == 2 || ts.length == 3) && !(vs.length != ts.length) && vs.all unstar && !((parNames sc ts).length != ts.length || (parNames sc ts).eraseDups.length != (parNames sc ts).length) && !(vs.all (foldedForSure 8)) && !(vs.all (constantsAlone 8))
/-- .. of constants: stored in turn -/
def parNo (sc : Scope) (ts vs : List Expr) : Bool :=
  !(ts.length == 2 || ts.length == 3) || vs.length != ts.length || (vs.all unstar && ((parNames sc ts).length != ts.length || (parNames sc ts).eraseDups.length != (parNames sc ts).length || vs.all (foldedForSure 8)))
theorem any_star {vs : List Expr} (h : vs.all unstar = true) : (vs.any fun | .Starred .. => true | _ => false) = false := by
  rw [List.any_eq_false]
  intro x hx
  have := List.all_eq_true.mp h x hx
  cases x <;> first | exact Bool.false_ne_true | cases this
theorem swapped_is {ts vs : List Expr} {k k2 : Nat} {pt pt2 : Pos} {env : Env} : swappedStores [.Tuple ts k pt] (.Tuple vs k2 pt2) env =
    (if (!(ts.length == 2 || ts.length == 3) || vs.length != ts.length || env.blockKind != .function) = true then pure none
     else if (vs.any fun | .Starred .. => true | _ => false) = true then pure none
     else if ((parNames env.scope ts).length != ts.length || (parNames env.scope ts).eraseDups.length != (parNames env.scope ts).length) = true then pure none
     else if vs.all (foldedForSure 8) = true then pure none
     else if vs.all (constantsAlone 8) = true then (do unsupported "assign.tuple-of-constant-expressions:order-of-the-stores"; pure (some (parNames env.scope ts)))
     else pure (some (parNames env.scope ts))) := rfl
theorem parOk_stores {ts vs : List Expr} {k k2 : Nat} {pt pt2 : Pos} {env : Env} (hk : env.scope.kind = .function) (h : parOk env.scope ts vs = true) : swappedStores [.Tuple ts k pt] (.Tuple vs k2 pt2) env = pure (some (parNames env.scope ts)) := by
  unfold parOk at h
  simp only [Bool.and_eq_true, Bool.not_eq_true'] at h
  obtain ⟨⟨⟨⟨⟨c1, c2⟩, c3⟩, c4⟩, c6⟩, c7⟩ := h
  have hb : env.blockKind = .function := by unfold Env.blockKind; rw [hk]; rfl
  rw [swapped_is, if_neg (by rw [c1, c2, hb]; decide), if_neg (by rw [any_star c3]; decide), if_neg (by rw [c4]; decide), if_neg (by rw [c6]; decide), if_neg (by rw [c7]; decide)]
theorem parNo_stores {ts vs : List Expr} {k k2 : Nat} {pt pt2 : Pos} {env : Env} (h : parNo env.scope ts vs = true) : swappedStores [.Tuple ts k pt] (.Tuple vs k2 pt2) env = pure none := by
  unfold parNo at h
  rw [swapped_is]
  by_cases c1 : (!(ts.length == 2 || ts.length == 3) || vs.length != ts.length || env.blockKind != .function) = true
  · rw [if_pos c1]
  rw [if_neg c1]
  simp only [Bool.or_eq_true, Bool.not_eq_true', not_or] at c1
  simp only [Bool.or_eq_true, Bool.and_eq_true, Bool.not_eq_true'] at h
  rcases h with (h | h) | ⟨h1, h2⟩
  · exact absurd h (by simpa using c1.1.1)
  · exact absurd h c1.1.2
  rw [if_neg (by rw [any_star h1]; decide)]
  rcases h2 with h2 | h2
  · rw [if_pos (by simpa using h2)]
  · by_cases c : ((parNames env.scope ts).length != ts.length || (parNames env.scope ts).eraseDups.length != (parNames env.scope ts).length) = true
    · rw [if_pos c]
    · rw [if_neg c, if_pos h2]
theorem s_par2 {i j : Nat} {x y : Str} {a b : Expr} {ts : Es} {px py pt pt2 : Pos} {kt k2 : Nat} (hc : X.calm = true) (hN : X.N.Nodup) (hi : X.N[i]? = some x) (hj : X.N[j]? = some y) (hij : i ≠ j) (hx : X.env.scope.names.lookup x = some .local) (hy : X.env.scope.names.lookup y = some .local)
    (hk : X.env.scope.kind = .function) (ho : parOk X.env.scope [.Name x px, .Name y py] [a, b] = true) (hp : parNames X.env.scope [.Name x px, .Name y py] = [x, y]) (ha : PA X [a, b] (rdA X.K X.w C rf ts)) : PS X (.Assign [.Tuple [.Name x px, .Name y py] kt pt] (.Tuple [a, b] k2 pt2) pos) (rdS X.K X.w X.N.length C rf (.par [i, j] ts)) :=
  PS.imp (ps_par hc hN hi hj hij hx hy ha (by rw [parOk_stores hk ho, hp])) fun DD σ H h => by
    have := par_rd (fun k hk => by
      simp only [List.mem_cons, List.not_mem_nil, or_false] at hk
      rcases hk with rfl | rfl
      · exact (List.getElem?_eq_some_iff.mp hi).1
      · exact (List.getElem?_eq_some_iff.mp hj).1) h
    obtain ⟨F, ρ, S, h⟩ := this
    refine ⟨F, ρ, S, wpR_mono h fun xs ρ1 h vs F1 H1 g => ?_⟩
    obtain ⟨e, q⟩ := h vs F1 H1 g
    match vs, e, q with
    | [v, w], _, q => exact ⟨v, w, rfl, q⟩
theorem s_par3 {i j l : Nat} {x y z : Str} {a b c : Expr} {ts : Es} {px py pz pt pt2 : Pos} {kt k2 : Nat} (hc : X.calm = true) (hN : X.N.Nodup) (hi : X.N[i]? = some x) (hj : X.N[j]? = some y) (hl : X.N[l]? = some z) (hij : i ≠ j) (hil : i ≠ l) (hjl : j ≠ l)
    (hx : X.env.scope.names.lookup x = some .local) (hy : X.env.scope.names.lookup y = some .local) (hz : X.env.scope.names.lookup z = some .local) (hk : X.env.scope.kind = .function) (ho : parOk X.env.scope [.Name x px, .Name y py, .Name z pz] [a, b, c] = true) (hp : parNames X.env.scope [.Name x px, .Name y py, .Name z pz] = [x, y, z]) (ha : PA X [a, b, c] (rdA X.K X.w C rf ts)) :
    PS X (.Assign [.Tuple [.Name x px, .Name y py, .Name z pz] kt pt] (.Tuple [a, b, c] k2 pt2) pos) (rdS X.K X.w X.N.length C rf (.par [i, j, l] ts)) :=
  PS.imp (ps_par3 hc hN hi hj hl hij hil hjl hx hy hz ha (by rw [parOk_stores hk ho, hp])) fun DD σ H h => by
    have := par_rd (fun k hk => by
      simp only [List.mem_cons, List.not_mem_nil, or_false] at hk
      rcases hk with rfl | rfl | rfl
      · exact (List.getElem?_eq_some_iff.mp hi).1
      · exact (List.getElem?_eq_some_iff.mp hj).1
      · exact (List.getElem?_eq_some_iff.mp hl).1) h
    obtain ⟨F, ρ, S, h⟩ := this
    refine ⟨F, ρ, S, wpR_mono h fun xs ρ1 h vs F1 H1 g => ?_⟩
    obtain ⟨e, q⟩ := h vs F1 H1 g
    match vs, e, q with
    | [u, v, w], _, q => exact ⟨u, v, w, rfl, q⟩
/-- x = [..], both names of this def -/
theorem s_setLc {i : Nat} {y : Str} {py p : Pos} {elt tg iter : Expr} {ifs : List Expr} {scope : Scope} {own : List (Str × Nat)} {it : I} {t : Tg} {tc ta : E} (hc : X.calm = true) (hN : X.N.Nodup) (hy : X.N[i]? = some y) (hyl : X.env.scope.names.lookup y = some .local) (hk : X.env.scope.kind = .function)
    (hl : (py.line == p.line) = true) (hq : (scope.names.any fun (n, k) => n == y && (k == .local || k == .cell)) = false) (hi : PI X tg iter (rdI X.K X.w C rf it)) (ok : BlkOk X.N X.env.scope scope own) (hsub : ∀ i ∈ slotsT t, i ∈ own.map (·.2))
    (hg : ∀ (s : Shared) (H : Hp) (Cd : Addr) (cl : List (Str × Addr)) (fp : List Addr), PG (X.blk s H scope (compEnvC scope cl Cd X.env) fp) tg (rdG X.K X.w X.N.length C rf t))
    (ht : ∀ (s : Shared) (H : Hp) (Cd : Addr) (cl : List (Str × Addr)) (fp : List Addr), PTs (X.blk s H scope (compEnvC scope cl Cd X.env) fp) ifs (rdT X.K X.w C rf tc))
    (he : ∀ (s : Shared) (H : Hp) (Cd : Addr) (cl : List (Str × Addr)) (fp : List Addr), PE (X.blk s H scope (compEnvC scope cl Cd X.env) fp) elt (rdE X.K X.w C rf ta)) (hs : ∀ x, foldedSetIterable iter X.env x = pure x) :
    PS X (.Assign [.Name y py] (.ListComp elt [⟨tg, iter, ifs, 0⟩] scope p) pos) (rdS X.K X.w X.N.length C rf (.asg (.name i) (.comp (own.map (·.2)) t it tc ta))) := by
  refine ⟨fun pins s σ H DD I h => (ps_setLc hc hN hy hyl (sw_true hk hyl hl hq) hi ok hg ht he hs).run pins s σ H DD I ?_⟩
  have h1 := asg_rd h
  have h2 : rdE X.K X.w C rf (.comp (own.map (·.2)) t it tc ta) σ H fun x H1 => gName i x σ H1 DD.nx := by
    obtain ⟨F, ρ, S, h1⟩ := h1
    refine ⟨F, ρ, S, wpR_mono h1 fun x ρ1 h v F1 H1 g => ?_⟩
    obtain ⟨F0, H0, O0, F2, ρ2, x2, hl, S2, r, st, fh, h⟩ := h v F1 H1 g
    simp only [tgA_eqs, wpR_ofO, wpR_ok] at h
    obtain ⟨ρ', e, q⟩ := h
    have hi' : i < σ.length := by rw [hl]; exact (List.getElem?_eq_some_iff.mp hy).1
    obtain ⟨nr, F', S', s', _, _, fr⟩ := store_ok S2 r st fh hi' e
    exact q _ F' H1 S' s' (fun j hj => set_get' fun z => by rw [← z, nr] at hj; cases hj) (Chg.set i σ _) fr
  exact lc_rd I.len hsub h2
end
end Mp

set_option maxRecDepth 100000
set_option maxHeartbeats 4000000
/-! Calls of the program's own functions: what is handed in, what comes back. -/
namespace Mp
open PySem PySem.Spec PyProof.Rows L2

section
variable {K : PySem.W.Frag} {w : World} {F F' F0 F2 H H2 H0 : Hp} {σ : L2.St} {ρ ρ' ρ2 : Ev} {O0 : Addr → Prop} {vs : List V} {xs xs' : List RV} {rf : List Bool} {refs : List Bool} {ds outs : List D} {bs : List (Option Nat)}
theorem RRs.ix (r : RRs K w F H σ O0 vs xs) : ∀ {j k : Nat} {d e : D} {a : Addr}, xs[j]? = some (.tmp d) → xs[k]? = some (.tmp e) → vs[j]? = some (.ref a) → vs[k]? = some (.ref a) → j = k := by
  induction r with
  | nil => intro j k d e a h; simp at h
  | @cons v x vs xs h1 h2 _ ih =>
    intro j k d e a h3 h4 h5 h6
    cases j with
    | zero =>
      cases k with
      | zero => rfl
      | succ k =>
        simp only [List.getElem?_cons_zero, List.getElem?_cons_succ, Option.some.injEq] at h3 h4 h5 h6
        exact (h2 a d h3 h5 k e h4 h6).elim
    | succ j =>
      cases k with
      | zero =>
        simp only [List.getElem?_cons_zero, List.getElem?_cons_succ, Option.some.injEq] at h3 h4 h5 h6
        exact (h2 a e h4 h6 j d h3 h5).elim
      | succ k =>
        simp only [List.getElem?_cons_succ] at h3 h4 h5 h6
        rw [ih h3 h4 h5 h6]
/-- one argument -/
def ArgAt (K : PySem.W.Frag) (w : World) (F H : Hp) (σ : L2.St) (ρ : Ev) (ref : Bool) (v : V) (x : RV) (d : D) (b : Option Nat) : Prop :=
  if ref = true then ∃ a, v = .ref a ∧ ((∃ i, b = some i ∧ σ[i]? = some (some (.ref a)) ∧ ∀ e, ρ[i]? = some (some (.ow e)) → e = d) ∨ (b = none ∧ (∃ e, x = .tmp e) ∧ F a = none ∧ OwnAt K w F H a d ∧ ¬ Own σ ρ a))
  else Rp K w F v d ∧ b = none
inductive ArgsR (K : PySem.W.Frag) (w : World) (F H : Hp) (σ : L2.St) (ρ : Ev) : List Bool → List V → List RV → List D → List (Option Nat) → Prop
  | nil : ArgsR K w F H σ ρ [] [] [] [] []
  | cons {r : Bool} {v : V} {x : RV} {d : D} {b : Option Nat} {rs : List Bool} {vs : List V} {xs : List RV} {ds : List D} {bs : List (Option Nat)} : ArgAt K w F H σ ρ r v x d b → ArgsR K w F H σ ρ rs vs xs ds bs → ArgsR K w F H σ ρ (r :: rs) (v :: vs) (x :: xs) (d :: ds) (b :: bs)
theorem freeze_mono {x : RV} {d : D} (h : freeze rf ρ x = some (d, ρ')) : ∀ (i : Nat) e, ρ'[i]? = some (some (.ow e)) → ρ[i]? = some (some (.ow e)) := by
  intro i e q
  cases x with
  | fz _ => cases h; exact q
  | tmp _ => cases h; exact q
  | var j =>
    simp only [freeze] at h
    split at h
    · split at h <;> cases h
      rcases set_get q with ⟨_, z⟩ | ⟨_, z⟩
      · cases z
      · exact z
    · cases h; exact q
    · cases h
theorem passAll_ok (S : SR K w F H σ ρ) (r : RRs K w F H σ (Own σ ρ) vs xs) (s : Step F0 H0 F H O0 (Own σ ρ)) (fh : Freshs H0 vs xs) (h : passAll rf refs xs ρ = some (ds, bs, ρ2)) :
    ∃ F', SR K w F' H σ ρ2 ∧ Step F0 H0 F' H O0 (Own σ ρ2) ∧ Same F F' ∧ (∀ (i : Nat) e, ρ2[i]? = some (some (.ow e)) → ρ[i]? = some (some (.ow e))) ∧ (∀ v x, RR K w F H σ (Own σ ρ) v x → Sep v x vs xs → RR K w F' H σ (Own σ ρ2) v x) ∧ ArgsR K w F' H σ ρ2 refs vs xs ds bs := by
  induction refs generalizing F ρ vs xs ds bs with
  | nil =>
    cases xs with
    | nil => cases r; cases h; exact ⟨F, S, s, Same.refl F, fun _ _ z => z, fun v x r _ => r, .nil⟩
    | cons _ _ => cases h
  | cons ref refs ih =>
    cases xs with
    | nil => cases h
    | cons x xs =>
      cases r with
      | @cons v _ vs _ h1 h2 h3 =>
        have fh' : Freshs H0 vs xs := fun j d a e1 e2 => fh (j + 1) d a (by simpa using e1) (by simpa using e2)
        have fx : Fresh H0 v x := fun d a e1 e2 => fh 0 d a (by rw [e1]; rfl) (by rw [e2]; rfl)
        have tail : ∀ {v0 x0}, Sep v0 x0 (v :: vs) (x :: xs) → Sep v0 x0 vs xs := fun sp a d k1 k2 j e k3 k4 => sp a d k1 k2 (j + 1) e (by simpa using k3) (by simpa using k4)
        simp only [passAll] at h
        split at h <;> try contradiction
        rename_i d b ρ1 q1
        split at h <;> try contradiction
        rename_i ds' bs' ρ3 q2
        cases h
        unfold passOne at q1
        cases ref with
        | true =>
          simp only [if_true] at q1
          have same : ρ1 = ρ := by
            split at q1
            · split at q1 <;> cases q1; rfl
            · cases q1; rfl
            · cases q1
          subst same
          obtain ⟨F', g1, g2, g3, g4, g5, g6⟩ := ih S h3 s fh' q2
          refine ⟨F', g1, g2, g3, g4, fun v0 x0 r0 sp => g5 v0 x0 r0 (tail sp), .cons ?_ g6⟩
          unfold ArgAt
          rw [if_pos rfl]
          split at q1
          · rename_i i
            split at q1 <;> cases q1
            rename_i q
            obtain ⟨u, k1, a, k2, k3, k4⟩ := S.cell i _ q
            have hv : σ[i]? = some (some v) := h1
            rw [hv] at k1
            cases k1
            subst k2
            refine ⟨a, rfl, .inl ⟨i, rfl, hv, fun e he => ?_⟩⟩
            have := g4 i e he
            rw [q] at this
            cases this
            rfl
          · rename_i e
            cases q1
            have r2 := g5 v (.tmp d) h1 h2
            obtain ⟨a, k1, k2, k3, k4⟩ := r2
            exact ⟨a, k1, .inr ⟨rfl, ⟨d, rfl⟩, k2, k3, k4⟩⟩
          · cases q1
        | false =>
          simp only [Bool.false_eq_true, if_false] at q1
          split at q1 <;> cases q1
          rename_i q
          obtain ⟨F1, f⟩ := freeze_ok S h1 q
          obtain ⟨F', g1, g2, g3, g4, g5, g6⟩ := ih f.sr (f.rrs h3 h2) (f.step s fx) fh' q2
          refine ⟨F', g1, g2, f.fr.trans g3, fun i e z => freeze_mono q i e (g4 i e z), fun v0 x0 r0 sp => g5 v0 x0 (f.rr r0 fun a e e' k1 k2 k3 k4 => ?_) (tail sp), .cons ?_ g6⟩
          · exact sp a e' k2 k4 0 e (by rw [k1]; rfl) (by rw [k3]; rfl)
          · unfold ArgAt
            rw [if_neg Bool.false_ne_true]
            exact ⟨f.rp.up g3, rfl⟩
theorem ArgsR.len (r : ArgsR K w F H σ ρ refs vs xs ds bs) : vs.length = refs.length ∧ ds.length = refs.length ∧ bs.length = refs.length := by
  induction r with
  | nil => exact ⟨rfl, rfl, rfl⟩
  | cons _ _ ih => obtain ⟨a, b, c⟩ := ih; exact ⟨by simp [a], by simp [b], by simp [c]⟩
theorem ArgsR.at (r : ArgsR K w F H σ ρ refs vs xs ds bs) : ∀ {k : Nat} {ref : Bool}, refs[k]? = some ref → ∃ v x d b, vs[k]? = some v ∧ xs[k]? = some x ∧ ds[k]? = some d ∧ bs[k]? = some b ∧ ArgAt K w F H σ ρ ref v x d b := by
  induction r with
  | nil => intro k ref h; simp at h
  | @cons r v x d b rs vs xs ds bs h1 _ ih =>
    intro k ref h
    cases k with
    | zero =>
      simp only [List.getElem?_cons_zero, Option.some.injEq] at h
      subst h
      exact ⟨v, x, d, b, rfl, rfl, rfl, rfl, h1⟩
    | succ k =>
      simp only [List.getElem?_cons_succ] at h ⊢
      exact ih h
theorem startE_get : ∀ {refs : List Bool} {ds : List D} {k : Nat} {c : Cell}, (startE refs ds)[k]? = some (some c) → (refs[k]? = some true ∧ ∃ d, ds[k]? = some d ∧ c = .ow d) ∨ (refs[k]? = some false ∧ ∃ d, ds[k]? = some d ∧ c = .fz d)
  | [], ds, k, c, h => by simp [startE] at h
  | true :: rs, [], k, c, h => by simp [startE] at h
  | false :: rs, [], k, c, h => by simp [startE] at h
  | true :: rs, d :: ds, 0, c, h => by simp only [startE, List.getElem?_cons_zero, Option.some.injEq] at h; exact .inl ⟨rfl, d, rfl, h.symm⟩
  | false :: rs, d :: ds, 0, c, h => by simp only [startE, List.getElem?_cons_zero, Option.some.injEq] at h; exact .inr ⟨rfl, d, rfl, h.symm⟩
  | true :: rs, d :: ds, k + 1, c, h => by simp only [startE, List.getElem?_cons_succ] at h ⊢; exact startE_get h
  | false :: rs, d :: ds, k + 1, c, h => by simp only [startE, List.getElem?_cons_succ] at h ⊢; exact startE_get h
theorem startE_len : ∀ {refs : List Bool} {ds : List D}, ds.length = refs.length → (startE refs ds).length = refs.length
  | [], ds, h => by cases ds <;> first | rfl | cases h
  | true :: rs, [], h => by cases h
  | false :: rs, [], h => by cases h
  | true :: rs, d :: ds, h => by simp only [startE, List.length_cons] at h ⊢; rw [startE_len (by omega)]
  | false :: rs, d :: ds, h => by simp only [startE, List.length_cons] at h ⊢; rw [startE_len (by omega)]
theorem startE_set : ∀ {refs : List Bool} {ds : List D} {k : Nat} {d : D}, refs[k]? = some true → ds[k]? = some d → (startE refs ds)[k]? = some (some (.ow d)) := by
  intro refs
  induction refs with
  | nil => intro ds k d h; simp at h
  | cons r rs ih =>
    intro ds k d h1 h2
    cases ds with
    | nil => simp at h2
    | cons e ds =>
      cases k with
      | zero =>
        simp only [List.getElem?_cons_zero, Option.some.injEq] at h1 h2
        subst h1 h2
        rfl
      | succ k =>
        simp only [List.getElem?_cons_succ] at h1 h2
        cases r <;> (simp only [startE, List.getElem?_cons_succ]; exact ih h1 h2)
theorem distinct_ix : ∀ {bs : List (Option Nat)} {k j i : Nat}, distinct bs = true → bs[k]? = some (some i) → bs[j]? = some (some i) → k = j
  | [], k, j, i, _, h, _ => by simp at h
  | none :: r, k, j, i, d, h1, h2 => by
    cases k with
    | zero => simp at h1
    | succ k =>
      cases j with
      | zero => simp at h2
      | succ j =>
        simp only [List.getElem?_cons_succ] at h1 h2
        rw [distinct_ix (bs := r) d h1 h2]
  | some b :: r, k, j, i, d, h1, h2 => by
    have d' : (!r.contains (some b) && distinct r) = true := d
    rw [Bool.and_eq_true, Bool.not_eq_true'] at d'
    have no : ∀ m : Nat, r[m]? = some (some b) → False := fun m e => by
      have : r.contains (some b) = true := List.contains_iff_mem.mpr (List.mem_of_getElem? e)
      rw [this] at d'
      cases d'.1
    cases k with
    | zero =>
      simp only [List.getElem?_cons_zero, Option.some.injEq] at h1
      subst h1
      cases j with
      | zero => rfl
      | succ j => exact (no j (by simpa using h2)).elim
    | succ k =>
      simp only [List.getElem?_cons_succ] at h1
      cases j with
      | zero =>
        simp only [List.getElem?_cons_zero, Option.some.injEq] at h2
        subst h2
        exact (no k h1).elim
      | succ j =>
        simp only [List.getElem?_cons_succ] at h2
        rw [distinct_ix d'.2 h1 h2]
theorem still_at (h : stillOw bs ρ = true) {k i : Nat} (hk : bs[k]? = some (some i)) : ∃ d, ρ[i]? = some (some (.ow d)) := by
  unfold stillOw at h
  have := List.all_eq_true.mp h (some i) (List.mem_of_getElem? hk)
  simp only at this
  split at this
  · exact ⟨_, by assumption⟩
  · cases this
/-- a changed parameter: where its thing stands -/
theorem ArgsR.ow (S : SR K w F H σ ρ) (r : ArgsR K w F H σ ρ refs vs xs ds bs) (hs : stillOw bs ρ = true) {k : Nat} (hk : refs[k]? = some true) :
    ∃ a d, vs[k]? = some (.ref a) ∧ ds[k]? = some d ∧ F a = none ∧ OwnAt K w F H a d ∧ ((∃ i, bs[k]? = some (some i) ∧ σ[i]? = some (some (.ref a)) ∧ ρ[i]? = some (some (.ow d))) ∨ (bs[k]? = some none ∧ (∃ e, xs[k]? = some (.tmp e)) ∧ ¬ Own σ ρ a)) := by
  obtain ⟨v, x, d, b, h1, h2, h3, h4, h5⟩ := r.at hk
  unfold ArgAt at h5
  rw [if_pos rfl] at h5
  obtain ⟨a, rfl, ⟨i, rfl, h6, h7⟩ | ⟨rfl, ⟨e, rfl⟩, h6, h7, h8⟩⟩ := h5
  · obtain ⟨d', e⟩ := still_at hs h4
    have := h7 d' e
    subst this
    obtain ⟨u, k1, a', k2, k3, k4⟩ := S.cell i _ e
    rw [h6] at k1
    cases k1
    cases k2
    exact ⟨a, _, h1, h3, k3, k4, .inl ⟨i, h4, h6, e⟩⟩
  · exact ⟨a, d, h1, h3, h6, h7, .inr ⟨h4, ⟨e, h2⟩, h8⟩⟩
/-- what the callee begins with -/
theorem ArgsR.start (S : SR K w F H σ ρ) (r : ArgsR K w F H σ ρ refs vs xs ds bs) (rr : ∀ {j k : Nat} {d e : D} {a : Addr}, xs[j]? = some (.tmp d) → xs[k]? = some (.tmp e) → vs[j]? = some (.ref a) → vs[k]? = some (.ref a) → j = k) (hd : distinct bs = true) (hs : stillOw bs ρ = true) :
    SR K w F H (vs.map some) (startE refs ds) := by
  obtain ⟨l1, l2, l3⟩ := r.len
  refine ⟨S.sm, by rw [List.length_map, startE_len l2, l1], fun k c e => ?_, fun j k a d e k1 k2 k3 k4 => ?_⟩
  · rcases startE_get e with ⟨h1, d, h2, rfl⟩ | ⟨h1, d, h2, rfl⟩
    · obtain ⟨a, d', g1, g2, g3, g4, _⟩ := r.ow S hs h1
      rw [h2] at g2
      cases g2
      exact ⟨.ref a, by rw [List.getElem?_map, g1]; rfl, a, rfl, g3, g4⟩
    · obtain ⟨v, x, d', b, g1, g2, g3, g4, g5⟩ := r.at h1
      rw [h2] at g3
      cases g3
      unfold ArgAt at g5
      rw [if_neg Bool.false_ne_true] at g5
      exact ⟨v, by rw [List.getElem?_map, g1]; rfl, g5.1⟩
  · have ref : ∀ {m d}, (startE refs ds)[m]? = some (some (Cell.ow d)) → refs[m]? = some true := fun {m d} z => by
      rcases startE_get z with ⟨h1, _⟩ | ⟨_, _, _, z⟩
      · exact h1
      · cases z
    obtain ⟨a1, d1, p1, p2, p3, p4, p5⟩ := r.ow S hs (ref k1)
    obtain ⟨a2, d2, q1, q2, q3, q4, q5⟩ := r.ow S hs (ref k2)
    rw [List.getElem?_map, p1] at k3
    rw [List.getElem?_map, q1] at k4
    cases k3
    cases k4
    rcases p5 with ⟨i, p5, p6, p7⟩ | ⟨p5, ⟨e1, p6⟩, p7⟩
    · rcases q5 with ⟨i', q5, q6, q7⟩ | ⟨q5, _, q7⟩
      · have := S.dis i i' a _ _ p7 q7 p6 q6
        subst this
        exact distinct_ix hd p5 q5
      · exact (q7 ⟨i, _, p7, p6⟩).elim
    · rcases q5 with ⟨i', q5, q6, q7⟩ | ⟨q5, ⟨e2, q6⟩, q7⟩
      · exact (p7 ⟨i', _, q7, q6⟩).elim
      · exact rr p6 q6 p1 q1
/-- how a call ends -/
structure FEnd (K : PySem.W.Frag) (w : World) (F H F' H' : Hp) (refs : List Bool) (vs : List V) (ds outs : List D) (v : V) (r : D) (own : Bool) : Prop where
  fr : Same F F'
  inn : Same F' H'
  kp : ∀ a, ¬ Own (vs.map some) (startE refs ds) a → H a ≠ none → H' a = H a ∧ (F a = none → F' a = none)
  al : ∀ a, H a ≠ none → H' a ≠ none
  len : outs.length = refs.length
  out : ∀ (k : Nat) a, refs[k]? = some true → vs[k]? = some (.ref a) → ∃ d, outs[k]? = some d ∧ F' a = none ∧ OwnAt K w F' H' a d
  res : if own = true then ∃ a, v = .ref a ∧ H a = none ∧ F' a = none ∧ OwnAt K w F' H' a r else Rp K w F' v r
theorem wb_get : ∀ {bs : List (Option Nat)} {outs : List D} {ρ : Ev} {j : Nat} {c : Option Cell}, distinct bs = true → bs.length ≤ outs.length → (writeBack bs outs ρ)[j]? = some c → (∃ (k : Nat) (d : D), bs[k]? = some (some j) ∧ outs[k]? = some d ∧ c = some (.ow d)) ∨ ((∀ k : Nat, bs[k]? ≠ some (some j)) ∧ ρ[j]? = some c)
  | [], outs, ρ, j, c, _, _, h => by
    refine .inr ⟨fun k => by simp, ?_⟩
    cases outs <;> exact h
  | none :: bs, [], ρ, j, c, _, l, h => by cases l
  | some i :: bs, [], ρ, j, c, _, l, h => by cases l
  | none :: bs, d :: outs, ρ, j, c, dd, l, h => by
    have h' : (writeBack bs outs ρ)[j]? = some c := h
    rcases wb_get (bs := bs) dd (by simpa using l) h' with ⟨k, e, h1, h2, h3⟩ | ⟨h1, h2⟩
    · exact .inl ⟨k + 1, e, by simpa using h1, by simpa using h2, h3⟩
    · refine .inr ⟨fun k => ?_, h2⟩
      cases k with
      | zero => simp
      | succ k => simpa using h1 k
  | some i :: bs, d :: outs, ρ, j, c, dd, l, h => by
    have h' : (writeBack bs outs (ρ.set i (some (.ow d))))[j]? = some c := h
    have d' : (!bs.contains (some i) && distinct bs) = true := dd
    rw [Bool.and_eq_true] at d'
    rcases wb_get (bs := bs) d'.2 (by simpa using l) h' with ⟨k, e, h1, h2, h3⟩ | ⟨h1, h2⟩
    · exact .inl ⟨k + 1, e, by simpa using h1, by simpa using h2, h3⟩
    · rcases set_get h2 with ⟨rfl, rfl⟩ | ⟨ne, z⟩
      · exact .inl ⟨0, d, rfl, rfl, rfl⟩
      · refine .inr ⟨fun k => ?_, z⟩
        cases k with
        | zero =>
          simp only [List.getElem?_cons_zero]
          exact fun z => ne (by injection z with z; injection z)
        | succ k => simpa using h1 k
theorem wb_len : ∀ {bs : List (Option Nat)} {outs : List D} {ρ : Ev}, (writeBack bs outs ρ).length = ρ.length
  | [], outs, ρ => by cases outs <;> rfl
  | none :: bs, [], ρ => rfl
  | some i :: bs, [], ρ => rfl
  | none :: bs, d :: outs, ρ => by show (writeBack bs outs ρ).length = _; exact wb_len
  | some i :: bs, d :: outs, ρ => by show (writeBack bs outs (ρ.set i _)).length = _; rw [wb_len, List.length_set]
/-- behind a call -/
theorem call_end {F' H' : Hp} {v : V} {d : D} {own : Bool} (S : SR K w F H σ ρ) (r : ArgsR K w F H σ ρ refs vs xs ds bs) (s : Step F0 H0 F H O0 (Own σ ρ)) (fh : Freshs H0 vs xs) (hd : distinct bs = true) (hs : stillOw bs ρ = true) (e : FEnd K w F H F' H' refs vs ds outs v d own) :
    SR K w F' H' σ (writeBack bs outs ρ) ∧ Step F0 H0 F' H' O0 (Own σ (writeBack bs outs ρ)) ∧ RR K w F' H' σ (Own σ (writeBack bs outs ρ)) v (if own = true then .tmp d else .fz d) ∧ Fresh H v (if own = true then .tmp d else .fz d) := by
  obtain ⟨l1, l2, l3⟩ := r.len
  have hbl : bs.length ≤ outs.length := by rw [l3, e.len]; exact Nat.le_refl _
  -- what the callee owned
  have cown : ∀ a, Own (vs.map some) (startE refs ds) a → Own σ ρ a ∨ ∃ (k : Nat) (e : D), xs[k]? = some (.tmp e) ∧ vs[k]? = some (.ref a) := fun a ⟨k, e, k1, k2⟩ => by
    rcases startE_get k1 with ⟨h1, d, h2, _⟩ | ⟨_, _, _, z⟩
    · obtain ⟨a', d', g1, g2, g3, g4, g5⟩ := r.ow S hs h1
      rw [List.getElem?_map, g1] at k2
      cases k2
      rcases g5 with ⟨i, _, h6, h7⟩ | ⟨_, ⟨e, h6⟩, _⟩
      · exact .inl ⟨i, _, h7, h6⟩
      · exact .inr ⟨k, e, h6, g1⟩
    · cases z
  have ref_of : ∀ {k i : Nat}, bs[k]? = some (some i) → refs[k]? = some true := fun {k i} h => by
    have hk : k < refs.length := by rw [← l3]; exact (List.getElem?_eq_some_iff.mp h).1
    cases q : refs[k] with
    | true => rw [List.getElem?_eq_getElem hk, q]
    | false =>
      obtain ⟨v, x, d, b, g1, g2, g3, g4, g5⟩ := r.at (show refs[k]? = some false by rw [List.getElem?_eq_getElem hk, q])
      unfold ArgAt at g5
      rw [if_neg Bool.false_ne_true] at g5
      rw [h] at g4
      cases g4
      cases g5.2
  -- a cell behind the call
  have cell : ∀ (i : Nat) (c : Cell), (writeBack bs outs ρ)[i]? = some (some c) → (∃ a d d', c = .ow d ∧ σ[i]? = some (some (.ref a)) ∧ ρ[i]? = some (some (.ow d')) ∧ F' a = none ∧ OwnAt K w F' H' a d) ∨ ((∀ k : Nat, bs[k]? ≠ some (some i)) ∧ ρ[i]? = some (some c)) := fun i c z => by
    rcases wb_get hd hbl z with ⟨k, d, h1, h2, h3⟩ | z
    · cases h3
      have hr := ref_of h1
      obtain ⟨a, d', g1, g2, g3, g4, g5⟩ := r.ow S hs hr
      obtain ⟨d2, o1, o2, o3⟩ := e.out k a hr g1
      rw [h2] at o1
      cases o1
      rcases g5 with ⟨i', g5, g6, g7⟩ | ⟨g5, _⟩
      · rw [h1] at g5
        cases g5
        exact .inl ⟨a, d, _, rfl, g6, g7, o2, o3⟩
      · rw [h1] at g5; cases g5
    · exact .inr z
  have old : ∀ (i : Nat) (d : D), (writeBack bs outs ρ)[i]? = some (some (.ow d)) → ∃ d', ρ[i]? = some (some (.ow d')) := fun i d z => by
    rcases cell i _ z with ⟨_, _, d', _, _, h, _⟩ | ⟨_, h⟩
    · exact ⟨d', h⟩
    · exact ⟨d, h⟩
  have sub : ∀ a, Own σ (writeBack bs outs ρ) a → Own σ ρ a := fun a ⟨i, d, k1, k2⟩ => let ⟨d', h⟩ := old i d k1; ⟨i, d', h, k2⟩
  have st : Step F0 H0 F' H' O0 (Own σ (writeBack bs outs ρ)) := by
    refine ⟨s.fr.trans e.fr, fun a no hn => ?_, fun a z => s.ow a (sub a z), fun a hn => e.al a (s.al a hn)⟩
    obtain ⟨k1, k2⟩ := s.kp a no hn
    obtain ⟨k3, k4⟩ := e.kp a (fun z => by
      rcases cown a z with z | ⟨k, d, z1, z2⟩
      · exact (s.ow a z).elim no hn
      · exact hn (fh k d a z1 z2)) (by rw [k1]; exact hn)
    exact ⟨k3.trans k1, fun z => k4 (k2 z)⟩
  refine ⟨⟨e.inn, by rw [wb_len]; exact S.len, fun i c z => ?_, fun i j a d d' k1 k2 k3 k4 => ?_⟩, st, ?_, ?_⟩
  · rcases cell i c z with ⟨a, d, d', rfl, h1, h2, h3, h4⟩ | ⟨hno, z⟩
    · exact ⟨.ref a, h1, a, rfl, h3, h4⟩
    · obtain ⟨v, h1, h2⟩ := S.cell i c z
      refine ⟨v, h1, ?_⟩
      cases c with
      | fz d => exact Rp.up h2 e.fr
      | ow d =>
        obtain ⟨a, k1, k2, k3⟩ := h2
        subst k1
        have no : ¬ Own (vs.map some) (startE refs ds) a := fun ⟨k, d2, m1, m2⟩ => by
          rcases startE_get m1 with ⟨n1, _⟩ | ⟨_, _, _, q⟩
          · obtain ⟨a', d', g1, g2, g3, g4, g5⟩ := r.ow S hs n1
            rw [List.getElem?_map, g1] at m2
            cases m2
            rcases g5 with ⟨i', g5, g6, g7⟩ | ⟨_, _, g7⟩
            · have := S.dis i i' a _ _ z g7 h1 g6
              subst this
              exact hno k g5
            · exact g7 ⟨i, d, z, h1⟩
          · cases q
        obtain ⟨k4, k5⟩ := e.kp a no k3.ne
        exact ⟨a, rfl, k5 k2, k3.up e.fr k4⟩
  · obtain ⟨d1, h1⟩ := old i d k1
    obtain ⟨d2, h2⟩ := old j d' k2
    exact S.dis i j a d1 d2 h1 h2 k3 k4
  · have hr := e.res
    cases own with
    | true =>
      simp only [if_true] at hr ⊢
      obtain ⟨a, q1, q2, q3, q4⟩ := hr
      exact ⟨a, q1, q3, q4, fun z => (S.own_ne (sub a z)).1 q2⟩
    | false =>
      simp only [Bool.false_eq_true, if_false] at hr ⊢
      exact hr
  · intro d' a k1 k2
    have hr := e.res
    cases own with
    | true =>
      simp only [if_true] at hr k1
      obtain ⟨b, q1, q2, _⟩ := hr
      rw [k2] at q1
      cases q1
      exact q2
    | false => simp at k1
end
end Mp

set_option maxRecDepth 100000
set_option maxHeartbeats 4000000
/-! A def keeps what its term says; a call of it. -/
namespace Mp
open PySem PySem.Spec PyProof.Rows L2

/-- what a def promises: R is what it comes to -/
def spD (K : PySem.W.Frag) (w : World) (R : List D → CR) (refs : List Bool) : List V → Hp → VK → Prop := fun vs H Q => ∃ F ds r own outs, vs.length = refs.length ∧ ds.length = refs.length ∧ SR K w F H (vs.map some) (startE refs ds) ∧ R ds = .ok r own outs ∧ ∀ v F' H', FEnd K w F H F' H' refs vs ds outs v r own → Q v H'
/-- .. where repr is at hand -/
structure GOk (P : Program) (w : World) (K : PySem.W.Frag) (mg : Str → Option Value) (base : Heap) (n : Nat) (f : Addr) (fd : FuncData) (ps : List Str) (sp : List V → Hp → VK → Prop) : Prop where
  len : ∀ vs H Q, sp vs H Q → vs.length = ps.length
  run : ∀ (A : Around) (around : List Env) (s : Shared) (H : Hp) (given : Args) (us : List Value) (vs : List V) (Q : VK), Room n A → A.guards = some [] → Env0 P w K mg base A around s H → BindsTo s fd given (ps.zip us) → Vals vs us → sp vs H Q →
    codeAny (model P w) A (.call (.ref f) given) (L2.CR CX0 around P w H s Q E0) s

theorem outsOf_len : ∀ {refs : List Bool} {ρ : Ev} {outs : List D}, outsOf refs ρ = some outs → outs.length = refs.length
  | [], ρ, outs, h => by cases ρ <;> (cases h; rfl)
  | true :: rs, [], outs, h => by cases h
  | false :: rs, [], outs, h => by cases h
  | true :: rs, c :: ρ, outs, h => by
    match c, h with
    | some (.ow d), h =>
      obtain ⟨r, h1, h2⟩ := Option.map_eq_some_iff.mp (show (outsOf rs ρ).map (d :: ·) = some outs from h)
      subst h2
      simp [outsOf_len h1]
    | some (.fz d), h => cases h
    | none, h => cases h
  | false :: rs, c :: ρ, outs, h => by
    obtain ⟨r, h1, h2⟩ := Option.map_eq_some_iff.mp (show (outsOf rs ρ).map (.non :: ·) = some outs from h)
    subst h2
    simp [outsOf_len h1]
theorem outsOf_at : ∀ {refs : List Bool} {ρ : Ev} {outs : List D} {k : Nat}, outsOf refs ρ = some outs → refs[k]? = some true → ∃ d, outs[k]? = some d ∧ ρ[k]? = some (some (.ow d))
  | [], ρ, outs, k, _, h => by simp at h
  | true :: rs, [], outs, k, h, _ => by cases h
  | false :: rs, [], outs, k, h, _ => by cases h
  | true :: rs, c :: ρ, outs, k, h, hk => by
    match c, h with
    | some (.ow d), h =>
      obtain ⟨r, h1, h2⟩ := Option.map_eq_some_iff.mp (show (outsOf rs ρ).map (d :: ·) = some outs from h)
      subst h2
      cases k with
      | zero => exact ⟨d, rfl, rfl⟩
      | succ k =>
        obtain ⟨e, g1, g2⟩ := outsOf_at h1 (by simpa using hk)
        exact ⟨e, by simpa using g1, by simpa using g2⟩
    | some (.fz d), h => cases h
    | none, h => cases h
  | false :: rs, c :: ρ, outs, k, h, hk => by
    obtain ⟨r, h1, h2⟩ := Option.map_eq_some_iff.mp (show (outsOf rs ρ).map (.non :: ·) = some outs from h)
    subst h2
    cases k with
    | zero => simp at hk
    | succ k =>
      obtain ⟨e, g1, g2⟩ := outsOf_at h1 (by simpa using hk)
      exact ⟨e, by simpa using g1, by simpa using g2⟩
theorem isRef_at {rf : List Bool} {i : Nat} (h : rf[i]? = some true) : isRef rf i = true := by
  unfold isRef
  rw [List.getD_eq_getElem?_getD, h]
  rfl

section
variable {K : PySem.W.Frag} {w : World} {F H : Hp}
/-- the names at a def's entry -/
theorem start_ok {N : List Str} {refs : List Bool} {vs : List V} {ds : List D} (S : SR K w F H (vs.map some) (startE refs ds)) (l1 : vs.length = refs.length) (l2 : ds.length = refs.length) :
    SR K w F H (start N vs) (startE refs ds ++ List.replicate (N.length - ds.length) none) ∧ (∀ a, Own (start N vs) (startE refs ds ++ List.replicate (N.length - ds.length) none) a → Own (vs.map some) (startE refs ds) a) := by
  have ls := startE_len l2
  have cell : ∀ (i : Nat) (c : Cell), (startE refs ds ++ List.replicate (N.length - ds.length) none)[i]? = some (some c) → (startE refs ds)[i]? = some (some c) ∧ (start N vs)[i]? = (vs.map some)[i]? := fun i c h => by
    by_cases hi : i < (startE refs ds).length
    · rw [List.getElem?_append_left hi] at h
      refine ⟨h, ?_⟩
      unfold L2.start
      rw [List.getElem?_append_left (by rw [List.length_map, l1, ← ls]; exact hi)]
    · rw [List.getElem?_append_right (by omega), List.getElem?_replicate] at h
      split at h <;> cases h
  refine ⟨⟨S.sm, ?_, fun i c e => ?_, fun i j a d e k1 k2 k3 k4 => ?_⟩, fun a ⟨i, d, k1, k2⟩ => ?_⟩
  · unfold L2.start
    rw [List.length_append, List.length_append, List.length_map, List.length_replicate, List.length_replicate, ls, l1, l2]
  · obtain ⟨h1, h2⟩ := cell i c e
    obtain ⟨v, g1, g2⟩ := S.cell i c h1
    exact ⟨v, h2.trans g1, g2⟩
  · obtain ⟨h1, h2⟩ := cell i _ k1
    obtain ⟨h3, h4⟩ := cell j _ k2
    exact S.dis i j a d e h1 h3 (h2.symm.trans k3) (h4.symm.trans k4)
  · obtain ⟨h1, h2⟩ := cell i _ k1
    exact ⟨i, d, h1, h2.symm.trans k2⟩
theorem body_ok {C : Cl} {fn : Fn} {N : List Str} {vs : List V} {Q : VK} (hN : N.length = fn.slots) (h : spD K w (runFn C fn) fn.refs vs H Q) (hp : vs.length ≤ N.length) : rdSs K w N.length C fn.refs fn.body { nx := fun _ H' => Q .non H', rt := Q } (start N vs) H := by
  obtain ⟨F, ds, r, own, outs, l1, l2, S, e, q⟩ := h
  obtain ⟨S0, o0⟩ := start_ok (N := N) S l1 l2
  unfold runFn at e
  rw [if_pos l2, ← hN] at e
  refine ⟨F, _, by unfold L2.start; rw [List.length_append, List.length_map, List.length_replicate]; omega, S0, ?_⟩
  split at e
  rotate_left
  · split at e <;> cases e
  · cases e
  rename_i fl ρ' he
  split at e
  · cases e
  rename_i outs' ho
  refine wpR_iff.mpr ⟨fl, ρ', he, fun σ' F' H' l' S' s' k' => ?_⟩
  -- the end, once the value's place is known
  have fin : ∀ {v : V} {r : D} {own : Bool}, (∀ v F' H', FEnd K w F H F' H' fn.refs vs ds outs' v r own → Q v H') → (if own = true then ∃ a, v = .ref a ∧ H a = none ∧ F' a = none ∧ OwnAt K w F' H' a r else Rp K w F' v r) → Q v H' := fun {v r own} q res => by
    refine q v F' H' ⟨s'.fr, S'.sm, fun a no hn => s'.kp a (fun z => no (o0 a z)) hn, s'.al, outsOf_len ho, fun k a hk hv => ?_, res⟩
    obtain ⟨d, g1, g2⟩ := outsOf_at ho hk
    have hs : σ'[k]? = some (some (.ref a)) := by
      rw [k' k (isRef_at hk)]
      unfold L2.start
      rw [List.getElem?_append_left (by rw [List.length_map]; exact (List.getElem?_eq_some_iff.mp hv).1), List.getElem?_map, hv]
      rfl
    obtain ⟨u, h1, b, h2, h3, h4⟩ := S'.cell k _ g2
    rw [hs] at h1
    cases h1
    cases h2
    exact ⟨d, g1, h3, h4⟩
  cases fl with
  | next => cases e; exact fin q (by rw [if_neg Bool.false_ne_true]; exact .non)
  | brk => cases e
  | cont => cases e
  | ret x =>
    intro v rr fh
    cases x with
    | fz d => cases e; exact fin q (by rw [if_neg Bool.false_ne_true]; exact rr)
    | tmp d =>
      cases e
      obtain ⟨a, h1, h2, h3, h4⟩ := rr
      exact fin q (by rw [if_pos rfl]; exact ⟨a, h1, fh _ a rfl h1, h2, h3⟩)
    | var i =>
      have hs : σ'[i]? = some (some v) := rr
      dsimp only at e
      split at e
      · cases e
      rename_i hr
      split at e
      · rename_i d g2
        cases e
        obtain ⟨u, h1, a, h2, h3, h4⟩ := S'.cell i _ g2
        rw [hs] at h1
        cases h1
        subst h2
        have hn : H a = none := ?_
        · exact fin q (by rw [if_pos rfl]; exact ⟨a, rfl, hn, h3, h4⟩)
        rcases s'.ow a ⟨i, _, g2, hs⟩ with z | z
        · obtain ⟨k, e, m1, m2⟩ := o0 a z
          rcases startE_get m1 with ⟨n1, _⟩ | ⟨_, _, _, n3⟩
          · obtain ⟨d2, g3, g4⟩ := outsOf_at ho n1
            have hs2 : σ'[k]? = some (some (.ref a)) := by
              rw [k' k (isRef_at n1)]
              unfold L2.start
              rw [List.getElem?_append_left (List.getElem?_eq_some_iff.mp m2).1, m2]
            have := S'.dis i k a _ _ g2 g4 hs hs2
            subst this
            exact absurd (isRef_at n1) hr
          · cases n3
        · exact z
      · rename_i d g2
        cases e
        obtain ⟨u, h1, h2⟩ := S'.cell i _ g2
        rw [hs] at h1
        cases h1
        exact fin q (by rw [if_neg Bool.false_ne_true]; exact h2)
      · cases e
end

/-- a def, by its body -/
theorem def_ok {P : Program} {w : World} {K : PySem.W.Frag} {mg : Str → Option Value} {base : Heap} {n : Nat} {f : Addr} {name qual : Str} {params : Arguments} {body : List Stmt} {sc : Scope} {v1 v2 v3 v4 v5 v6 v7 : Value} {a1 a2 : Option Addr} {sl : Array (Option Value)} {N ps : List Str} {C : Cl} {fn : Fn}
    (look : K.lookup f = some ⟨v1, a1, .func (PySem.W.fnOf name qual params body sc v2 v3 v4 v5 a2 v6 v7), sl⟩) (code : PySem.W.codeIn K v6 qual = true) (SC : FnScope N ps sc) (hN : N.length = fn.slots) (hps : ps.length = fn.refs.length)
    (hb : ∀ (A : Around) (around : List Env) (s : Shared) (H : Hp), Room n (A.deeper (envOfC qual sc s.heap.objs.size f v6)) → A.guards = some [] → PSs (cxOf CX0 P w K mg base N qual sc f v6 A around s H E0).nox body (rdSs K w N.length C fn.refs fn.body)) :
    GOk P w K mg base (n + 1) f (PySem.W.fnOf name qual params body sc v2 v3 v4 v5 a2 v6 v7) ps (spD K w (runFn C fn) fn.refs) := by
  have hlen : ∀ vs H Q, spD K w (runFn C fn) fn.refs vs H Q → vs.length = ps.length := fun vs H Q ⟨_, _, _, _, _, l, _⟩ => l.trans hps.symm
  refine ⟨hlen, fun A around s H given us vs Q room gd en hbind rv hsp => ?_⟩
  have hl := hlen _ _ _ hsp
  have inK : K.In s.heap := en.mod.kin.keeps fun b o e => (en.bs b o e).1
  have lim : s.heap.NoLimit := en.mod.nolimit.keeps fun b o e => (en.bs b o e).1
  have kinds : ∀ y ∈ ps.zip us, sc.names.lookup y.1 = some .local ∨ (sc.names.lookup y.1 = some .cell ∧ ((cellsFrom (s.heap.objs.size + 1) sc.names []).lookup y.1).isSome = true) := by
    rintro ⟨x, v⟩ hy
    rcases SC.par x (List.of_mem_zip hy).1 with q | q
    · exact .inl q
    · exact .inr ⟨q, PySem.W.cellsFrom_some _ _ _ (.inl q)⟩
  apply codeAny_call_function room.depth (inK _ _ look) rfl SC.co SC.gen rfl (PySem.W.codeRec_of inK code)
  apply hbind
  apply wpAny_newFunctionEnv_cells SC.kind kinds
  intro env he s1 x
  subst he
  refine ⟨lim.keeps x.toInCall.keep, codeAny_func ?_⟩
  have I0 := inv_start (CX := CX0) (P := P) (w := w) (K := K) (mg := mg) (base := base) (outer := around) (H := H) (E := E0) (A := A) SC room.hd en hl rv x
  have hNp : vs.length ≤ N.length := by
    have := congrArg List.length SC.pre
    rw [List.length_take] at this
    omega
  have runs := (hb A around s H (room.deeper _) gd).nox.run [] s1 (start N vs) H _ I0 (body_ok hN hsp hNp)
  refine wpAny_mono runs (fun fl s2 h2 => ?_) fun _ _ h2 => h2
  cases fl with
  | next =>
    obtain ⟨σ2, H2, I2, q2⟩ := h2
    exact ⟨.non, H2, I2.os, I2.bare, I2.base, I2.hok, rfl, q2⟩
  | ret u =>
    obtain ⟨v, σ2, H2, I2, r2, q2⟩ := h2
    exact ⟨v, H2, I2.os, I2.bare, I2.base, I2.hok, r2, q2⟩
  | brk => exact h2.elim fun _ h => h.elim fun _ h => h.2.elim
  | cont => exact h2.elim fun _ h => h.elim fun _ h => h.2.elim

/-! ### calls -/
def lenEs : Es → Nat
  | .nil => 0
  | .cons _ es => lenEs es + 1
theorem evs_len {C : Cl} {rf : List Bool} : ∀ {ts : Es} {ρ ρ' : Ev} {xs : List RV}, evs C rf ts ρ = .ok xs ρ' → xs.length = lenEs ts
  | .nil, ρ, ρ', xs, h => by simp only [evs_eqs] at h; cases h; rfl
  | .cons t ts, ρ, ρ', xs, h => by
    simp only [evs_eqs] at h
    obtain ⟨x, ρ1, _, h⟩ := bind_ok h
    obtain ⟨xs', ρ2, h1, h⟩ := bind_ok h
    cases h
    simp [lenEs, evs_len h1]
section
variable {K : PySem.W.Frag} {w : World} {F H F0 H0 : Hp} {σ : L2.St} {ρ : Ev} {O : Addr → Prop}
theorem RRs.fzs : ∀ {dvs : List V} {ds : List D}, Rps K w F dvs ds → RRs K w F H σ O dvs (ds.map .fz)
  | _, [], h => by cases h; exact .nil
  | _, _ :: _, h => by cases h with | cons h1 h2 => exact .cons h1 (fun a d e => nomatch e) (RRs.fzs h2)
theorem RRs.of_ix : ∀ {vs : List V} {xs : List RV}, vs.length = xs.length → (∀ (j : Nat) v x, vs[j]? = some v → xs[j]? = some x → RR K w F H σ O v x) → (∀ (j k : Nat) d e a, xs[j]? = some (.tmp d) → xs[k]? = some (.tmp e) → vs[j]? = some (.ref a) → vs[k]? = some (.ref a) → j = k) → RRs K w F H σ O vs xs
  | [], [], _, _, _ => .nil
  | [], _ :: _, h, _, _ => by cases h
  | _ :: _, [], h, _, _ => by cases h
  | v :: vs, x :: xs, l, h, u => by
    refine .cons (h 0 v x rfl rfl) (fun a d e1 e2 j e e3 e4 => ?_) (RRs.of_ix (by simpa using l) (fun j v x e1 e2 => h (j + 1) v x (by simpa using e1) (by simpa using e2)) fun j k d e a e1 e2 e3 e4 => ?_)
    · have := u 0 (j + 1) d e a (by rw [e1]; rfl) (by simpa using e3) (by rw [e2]; rfl) (by simpa using e4)
      cases this
    · have := u (j + 1) (k + 1) d e a (by simpa using e1) (by simpa using e2) (by simpa using e3) (by simpa using e4)
      omega
theorem RRs.get : ∀ {vs : List V} {xs : List RV}, RRs K w F H σ O vs xs → ∀ {j : Nat} {v : V} {x : RV}, vs[j]? = some v → xs[j]? = some x → RR K w F H σ O v x
  | _, _, .nil, j, v, x, h, _ => by simp at h
  | _, _, .cons h1 _ h3, 0, v, x, e1, e2 => by
    simp only [List.getElem?_cons_zero, Option.some.injEq] at e1 e2
    subst e1 e2
    exact h1
  | _, _, .cons _ _ h3, j + 1, v, x, e1, e2 => RRs.get h3 (by simpa using e1) (by simpa using e2)
theorem RRs.app {vs us : List V} {xs ys : List RV} (h : RRs K w F H σ O vs xs) (g : RRs K w F H σ O us ys) (sep : ∀ (j k : Nat) d e a, xs[j]? = some (.tmp d) → ys[k]? = some (.tmp e) → vs[j]? = some (.ref a) → us[k]? = some (.ref a) → False) : RRs K w F H σ O (vs ++ us) (xs ++ ys) := by
  have l1 := h.length
  have l2 := g.length
  refine RRs.of_ix (by simp [l1, l2]) (fun j v x e1 e2 => ?_) fun j k d e a e1 e2 e3 e4 => ?_
  · by_cases hj : j < vs.length
    · rw [List.getElem?_append_left hj] at e1
      rw [List.getElem?_append_left (by omega)] at e2
      exact h.get e1 e2
    · rw [List.getElem?_append_right (by omega)] at e1
      rw [List.getElem?_append_right (by omega)] at e2
      rw [l1] at e1
      exact g.get e1 e2
  · by_cases hj : j < vs.length
    · rw [List.getElem?_append_left (by omega)] at e1
      rw [List.getElem?_append_left hj] at e3
      by_cases hk : k < vs.length
      · rw [List.getElem?_append_left (by omega)] at e2
        rw [List.getElem?_append_left hk] at e4
        exact h.ix e1 e2 e3 e4
      · rw [List.getElem?_append_right (by omega)] at e2
        rw [List.getElem?_append_right (by omega)] at e4
        rw [l1] at e4
        exact (sep j _ d e a e1 e2 e3 e4).elim
    · rw [List.getElem?_append_right (by omega)] at e1
      rw [List.getElem?_append_right (by omega)] at e3
      rw [l1] at e3
      by_cases hk : k < vs.length
      · rw [List.getElem?_append_left (by omega)] at e2
        rw [List.getElem?_append_left hk] at e4
        exact (sep k _ e d a e2 e1 e4 e3).elim
      · rw [List.getElem?_append_right (by omega)] at e2
        rw [List.getElem?_append_right (by omega)] at e4
        rw [l1] at e4
        have := g.ix e1 e2 e3 e4
        omega
end
/-- what a call asks of the def's promise, and what is behind it -/
theorem do_call {K : PySem.W.Frag} {w : World} {C : Cl} {rf : List Bool} {f : Str} {fn : Fn} {F0 H0 F H : Hp} {σ : L2.St} {ρ0 ρ : Ev} {vs dvs : List V} {xs : List RV} {Q : VK} (hf : C.fn f = some fn) (S : SR K w F H σ ρ) (r : RRs K w F H σ (Own σ ρ) vs xs) (s : Step F0 H0 F H (Own σ ρ0) (Own σ ρ)) (fh : Freshs H0 vs xs)
    (hd : Rps K w F dvs (fn.dfl.drop (fn.dfl.length - (fn.refs.length - xs.length)))) (h : wpR (doCall C rf f xs ρ) fun x ρ' => ∀ v F' H', Gd K w F0 H0 F' H' σ ρ0 ρ' v x → Q v H') : spD K w (C.run f) fn.refs (vs ++ dvs) H Q := by
  unfold doCall at h
  simp only [wpR_ofO] at h
  obtain ⟨fn', e0, ⟨ds, bs, ρ1⟩, e1, h⟩ := h
  rw [hf] at e0
  cases e0
  have rr : RRs K w F H σ (Own σ ρ) (vs ++ dvs) (xs ++ (fn.dfl.drop (fn.dfl.length - (fn.refs.length - xs.length))).map .fz) := r.app (RRs.fzs hd) fun j k d e a _ e2 _ _ => by
    rw [List.getElem?_map] at e2
    cases q : (fn.dfl.drop (fn.dfl.length - (fn.refs.length - xs.length)))[k]? with
    | none => rw [q] at e2; cases e2
    | some y => rw [q] at e2; cases e2
  have fh' : Freshs H0 (vs ++ dvs) (xs ++ (fn.dfl.drop (fn.dfl.length - (fn.refs.length - xs.length))).map .fz) := fun j d a k1 k2 => by
    by_cases hj : j < xs.length
    · rw [List.getElem?_append_left hj] at k1
      rw [List.getElem?_append_left (by rw [r.length]; exact hj)] at k2
      exact fh j d a k1 k2
    · rw [List.getElem?_append_right (by omega), List.getElem?_map] at k1
      cases q : (fn.dfl.drop (fn.dfl.length - (fn.refs.length - xs.length)))[j - xs.length]? with
      | none => rw [q] at k1; cases k1
      | some y => rw [q] at k1; cases k1
  obtain ⟨F1, S1, s1, fr, _, _, ar⟩ := passAll_ok S rr s fh' e1
  split at h
  rotate_left
  · exact h.elim
  rename_i hc
  rw [Bool.and_eq_true] at hc
  obtain ⟨l1, l2, _⟩ := ar.len
  dsimp only at h hc
  split at h
  · rename_i res own outs he
    refine ⟨F1, ds, res, own, outs, l1, l2, ar.start S1 rr.ix hc.1 hc.2, he, fun v F' H' fe => ?_⟩
    obtain ⟨k1, k2, k3, k4⟩ := call_end S1 ar s1 fh' hc.1 hc.2 fe
    exact h v F' H' ⟨k1, k2, k3, k4.back fun a z => s1.al a z⟩
  · exact h.elim
  · exact h.elim

section
variable {X : Cx} {C : Cl} {rf : List Bool} {pos p : Pos} {n : Nat} {x : Str} {f : Addr} {fd : FuncData} {fn : Fn}
theorem GOk.call {pins : List (Addr × Obj)} {s : Shared} {σ : L2.St} {H : Hp} {us : List Value} {kw : List (Str × Value)} {all : List Value} {vs : List V} {Q : VK} {ps : List Str} {sp : List V → Hp → VK → Prop} (G : GOk X.prog X.w X.K X.mg X.base n f fd ps sp) (hr : Room n X.A) (hgd : X.A.guards = some []) (I : Inv X pins σ H s)
    (hb : BindsTo s fd ⟨us, kw⟩ (ps.zip all)) (r : Vals vs all) (h : sp vs H Q) : wpAny (model X.prog X.w) X.A (call (.ref f) us kw) (EP X pins σ Q) X.xe s := by
  refine wpAny_call (codeAny_mono (G.run X.A X.stack s H ⟨us, kw⟩ all vs Q hr hgd I.env0 hb r h) fun res s' hq => ?_)
  match res, hq with
  | .ok (.ret u), hq => exact I.after hq
  | .ok .next, hq => exact hq.elim
  | .ok .brk, hq => exact hq.elim
  | .ok .cont, hq => exact hq.elim
  | .error e, hq => exact hq.elim
theorem Freshs.step {H0 H : Hp} {vs : List V} {xs : List RV} (h : Freshs H vs xs) (al : ∀ a, H0 a ≠ none → H a ≠ none) : Freshs H0 vs xs := h.back al
/-- f(a, ..) -/
theorem e_call {e : Expr} {es : List Expr} {ts : Es} {dsv : List Value} {dvs : List V} (hf : C.fn x = some fn) (G : GOk X.prog X.w X.K X.mg X.base n f fd fn.ps (spD X.K X.w (C.run x) fn.refs)) (hr : Room n X.A) (hgd : X.A.guards = some []) (hg : Gl X x) (hm : X.mg x = some (.ref f)) (hk : PySem.W.keepIn X.K (.ref f) = true) (hdb : (x == ("__debug__" : Str)) = false)
    (hb : Binds X.K fd fn.ps dsv) (hv : Vals dvs dsv) (hd : ∀ F, Rps X.K X.w F dvs (fn.dfl.drop (fn.dfl.length - (fn.refs.length - lenEs ts)))) (he : (e :: es).all unstar = true) (ha : PA X (e :: es) (rdA X.K X.w C rf ts)) : PE X (.Call (.Name x p) (e :: es) [] pos) (rdE X.K X.w C rf (.call x ts)) := by
  refine ⟨fun pins s σ H Q I ⟨F, ρ, S, h⟩ => ?_⟩
  simp only [ev_eqs] at h
  rw [wpR_bind] at h
  rw [List.all_cons, Bool.and_eq_true] at he
  refine wpAny_Call_Name_kw (ld_glob I hg hm ?_ hdb)
  have args := ha.run pos pins s σ H (fun vs H1 => spD X.K X.w (C.run x) fn.refs (vs ++ dvs) H1 Q) I ⟨F, ρ, S, by
    obtain ⟨xs, ρ1, e1, h⟩ := wpR_iff.mp h
    refine wpR_iff.mpr ⟨xs, ρ1, e1, fun vs F1 H1 g => ?_⟩
    refine do_call hf g.sr g.rr g.st g.fh ?_ h
    rw [evs_len e1]
    exact hd F1⟩
  refine PySem.W.callWith_K (h₀ := X.base) I.ok.mod.kin hk (thn args fun us s1 ⟨vs, H1, I1, r, q⟩ => ⟨I1.kIn, ?_⟩) (star_cons he.1) (star_plain he.2)
  have r2 : Vals (vs ++ dvs) (us ++ dsv) := r.append hv
  exact G.call hr hgd I1 (hb s1 us I1.kIn (by rw [← r2.length]; exact G.len _ _ _ q)) r2 q
/-- f() -/
theorem e_call0 {dsv : List Value} {dvs : List V} (hf : C.fn x = some fn) (G : GOk X.prog X.w X.K X.mg X.base n f fd fn.ps (spD X.K X.w (C.run x) fn.refs)) (hr : Room n X.A) (hgd : X.A.guards = some []) (hg : Gl X x) (hm : X.mg x = some (.ref f)) (hk : PySem.W.keepIn X.K (.ref f) = true) (hdb : (x == ("__debug__" : Str)) = false)
    (hb : Binds X.K fd fn.ps dsv) (hv : Vals dvs dsv) (hd : ∀ F, Rps X.K X.w F dvs (fn.dfl.drop (fn.dfl.length - (fn.refs.length - 0)))) : PE X (.Call (.Name x p) [] [] pos) (rdE X.K X.w C rf (.call x .nil)) := by
  refine ⟨fun pins s σ H Q I ⟨F, ρ, S, h⟩ => ?_⟩
  simp only [ev_eqs, evs_eqs, Res.bind] at h
  refine wpAny_Call_Name_kw (ld_glob I hg hm ?_ hdb)
  have q : spD X.K X.w (C.run x) fn.refs ([] ++ dvs) H Q := do_call (xs := []) hf S .nil Step.refl (fun j d a z => by simp at z) (hd F) h
  refine PySem.W.callWith_K0 I.kIn hk ?_
  exact G.call (us := []) hr hgd I (hb s [] I.kIn (by rw [List.nil_append, ← hv.length]; exact G.len _ _ _ q)) hv q
/-- how keywords bind: the values behind one another, the parameters' values by their places among them -/
def KB (K : PySem.W.Frag) (fd : FuncData) (ps : List Str) (m : Nat) (ks : List Str) : Prop := ∀ (s : Shared) (us ws all : List Value) (ix : List Nat), K.In s.heap → us.length = m → ws.length = ks.length → orderIx ps m ks = some ix → getAll ix (us ++ ws) = some all → BindsTo s fd ⟨us, ks.zip ws⟩ (ps.zip all)
theorem getAll_ix {α : Type} : ∀ {ix : List Nat} {xs ys : List α}, getAll ix xs = some ys → ys.length = ix.length ∧ ∀ (j : Nat) y, ys[j]? = some y → ∃ i, ix[j]? = some i ∧ xs[i]? = some y
  | [], xs, ys, h => by cases h; exact ⟨rfl, fun j y z => by simp at z⟩
  | i :: is, xs, ys, h => by
    simp only [getAll] at h
    split at h <;> try contradiction
    rename_i x q1
    split at h <;> try contradiction
    rename_i r q2
    cases h
    obtain ⟨l, g⟩ := getAll_ix q2
    refine ⟨by simp [l], fun j y z => ?_⟩
    cases j with
    | zero => exact ⟨i, rfl, by simp at z; rw [← z]; exact q1⟩
    | succ j =>
      obtain ⟨k, k1, k2⟩ := g j y (by simpa using z)
      exact ⟨k, by simpa using k1, k2⟩
theorem getAll_some {α β : Type} : ∀ {ix : List Nat} {xs ys : List α} {us : List β}, getAll ix xs = some ys → us.length = xs.length → ∃ ws, getAll ix us = some ws
  | [], xs, ys, us, _, _ => ⟨[], rfl⟩
  | i :: is, xs, ys, us, h, l => by
    simp only [getAll] at h
    split at h <;> try contradiction
    rename_i x q1
    split at h <;> try contradiction
    rename_i r q2
    obtain ⟨ws, g⟩ := getAll_some (us := us) q2 l
    have hi : i < us.length := by rw [l]; exact (List.getElem?_eq_some_iff.mp q1).1
    exact ⟨us[i] :: ws, by simp only [getAll, List.getElem?_eq_getElem hi, g]⟩
theorem getAll_vals : ∀ {ix : List Nat} {vs zs : List V} {us ws : List Value}, Vals vs us → getAll ix vs = some zs → getAll ix us = some ws → Vals zs ws
  | [], _, _, _, _, _, h, g => by cases h; cases g; exact .nil
  | i :: is, vs, zs, us, ws, r, h, g => by
    simp only [getAll] at h g
    split at h <;> try contradiction
    rename_i x q1
    split at h <;> try contradiction
    rename_i r1 q2
    split at g <;> try contradiction
    rename_i y q3
    split at g <;> try contradiction
    rename_i r2 q4
    cases h
    cases g
    obtain ⟨u, k1, k2⟩ := r.get q1
    rw [q3] at k1
    cases k1
    exact .cons k2 (getAll_vals r q2 q4)
theorem nodup_at {ix : List Nat} (h : ix.Nodup) {j k i : Nat} (h1 : ix[j]? = some i) (h2 : ix[k]? = some i) : j = k := by
  obtain ⟨a1, b1⟩ := List.getElem?_eq_some_iff.mp h1
  obtain ⟨a2, b2⟩ := List.getElem?_eq_some_iff.mp h2
  have pw := List.pairwise_iff_getElem.mp h
  rcases Nat.lt_trichotomy j k with z | z | z
  · exact absurd (b1.trans b2.symm) (pw j k a1 a2 z)
  · exact z
  · exact absurd (b2.trans b1.symm) (pw k j a2 a1 z)
theorem orderIx_ok {ps : List Str} {m : Nat} {ks : List Str} {ix : List Nat} (h : orderIx ps m ks = some ix) : ix.Nodup ∧ m + ks.length = ps.length := by
  unfold orderIx at h
  split at h
  · cases h
  · split at h <;> cases h
    rename_i hc
    exact ⟨hc.2, hc.1⟩
/-- the values in the parameters' order -/
theorem pick_ok {K : PySem.W.Frag} {w : World} {F H H0 : Hp} {σ : L2.St} {O : Addr → Prop} {vs zs : List V} {xs ys : List RV} {ix : List Nat} (nd : ix.Nodup) (r : RRs K w F H σ O vs xs) (fh : Freshs H0 vs xs) (h1 : getAll ix vs = some zs) (h2 : getAll ix xs = some ys) : RRs K w F H σ O zs ys ∧ Freshs H0 zs ys := by
  obtain ⟨l1, g1⟩ := getAll_ix h1
  obtain ⟨l2, g2⟩ := getAll_ix h2
  refine ⟨RRs.of_ix (by rw [l1, l2]) (fun j v x e1 e2 => ?_) fun j k d e a e1 e2 e3 e4 => ?_, fun j d a e1 e2 => ?_⟩
  · obtain ⟨i, a1, a2⟩ := g1 j v e1
    obtain ⟨i', b1, b2⟩ := g2 j x e2
    rw [a1] at b1
    cases b1
    exact r.get a2 b2
  · obtain ⟨i1, a1, a2⟩ := g2 j _ e1
    obtain ⟨i2, b1, b2⟩ := g2 k _ e2
    obtain ⟨i3, c1, c2⟩ := g1 j _ e3
    obtain ⟨i4, d1, d2⟩ := g1 k _ e4
    rw [a1] at c1
    cases c1
    rw [b1] at d1
    cases d1
    have := r.ix a2 b2 c2 d2
    subst this
    exact nodup_at nd a1 b1
  · obtain ⟨i1, a1, a2⟩ := g2 j _ e1
    obtain ⟨i3, c1, c2⟩ := g1 j _ e2
    rw [a1] at c1
    cases c1
    exact fh _ d a a2 c2
theorem Gds.app {K : PySem.W.Frag} {w : World} {F H F1 H1 F2 H2 : Hp} {σ : L2.St} {ρ ρ1 ρ2 : Ev} {vs us : List V} {xs ys : List RV} (g : Gds K w F H F1 H1 σ ρ ρ1 vs xs) (t : Gds K w F1 H1 F2 H2 σ ρ1 ρ2 us ys) : Gds K w F H F2 H2 σ ρ ρ2 (vs ++ us) (xs ++ ys) := by
  have l := g.rr.length
  refine ⟨t.sr, g.st.trans t.st, (g.rr.step t.st).app t.rr fun j k d e a e1 e2 e3 e4 => ?_, fun j d a e1 e2 => ?_⟩
  · obtain ⟨b, h1, _, h3, _⟩ := (g.rr.get e3 e1 : RR K w F1 H1 σ (Own σ ρ1) (.ref a) (.tmp d))
    cases h1
    exact h3.ne (t.fh k e a e2 e4)
  · by_cases hj : j < xs.length
    · rw [List.getElem?_append_left hj] at e1
      rw [List.getElem?_append_left (by omega)] at e2
      exact g.fh j d a e1 e2
    · rw [List.getElem?_append_right (by omega)] at e1
      rw [List.getElem?_append_right (by omega), l] at e2
      exact t.fh.back g.st.al _ d a e1 e2
/-- the reading of f(a, .., k = b, ..) behind its values -/
theorem rd_callk {vs zs all : List V} {xs ys : List RV} {ts ks' : Es} {ks : List Str} {F0 H0 F H : Hp} {σ : L2.St} {ρ0 ρ : Ev} {Q : VK} (hps : fn.ps.length = fn.refs.length) (hf : C.fn x = some fn) (g : Gds X.K X.w F0 H0 F H σ ρ0 ρ (vs ++ zs) (xs ++ ys)) (hl : vs.length = xs.length)
    (h : wpR (ofO (C.fn x) fun fn => ofO (orderIx fn.ps xs.length ks) fun ix => ofO (getAll ix (xs ++ ys)) fun qs => doCall C rf x qs ρ) fun x ρ' => ∀ v F' H', Gd X.K X.w F0 H0 F' H' σ ρ0 ρ' v x → Q v H') :
    ∃ ix all, orderIx fn.ps vs.length ks = some ix ∧ getAll ix (vs ++ zs) = some all ∧ spD X.K X.w (C.run x) fn.refs all H Q := by
  simp only [wpR_ofO] at h
  obtain ⟨fn', e0, ix, e1, qs, e2, h⟩ := h
  rw [hf] at e0
  cases e0
  obtain ⟨nd, hlen⟩ := orderIx_ok e1
  obtain ⟨all, e3⟩ := getAll_some (us := vs ++ zs) e2 g.rr.length
  obtain ⟨r, fh⟩ := pick_ok nd g.rr g.fh e3 e2
  refine ⟨ix, all, by rw [hl]; exact e1, e3, ?_⟩
  have hq : qs.length = fn.refs.length := by
    rw [(getAll_ix e2).1, ← hps]
    unfold orderIx at e1
    split at e1
    · cases e1
    · split at e1 <;> cases e1
      rename_i r0 q0 hc
      rw [List.length_append, List.length_range]
      have kl : ∀ (l : List Str) (r : List Nat), keyIx xs.length ks l = some r → r.length = l.length := by
        intro l
        induction l with
        | nil => intro r h; cases h; rfl
        | cons p l ih =>
          intro r h
          simp only [keyIx] at h
          split at h <;> try contradiction
          split at h <;> try contradiction
          rename_i r' q'
          cases h
          simp [ih _ q']
      have hx : xs.length ≤ fn.ps.length := by omega
      rw [kl _ _ q0, List.length_drop]
      omega
  have := do_call (dvs := []) hf g.sr r g.st fh (by
    have : fn.dfl.drop (fn.dfl.length - (fn.refs.length - qs.length)) = [] := by
      rw [hq, Nat.sub_self, Nat.sub_zero]
      exact List.drop_length
    rw [this]
    exact .nil) h
  rwa [List.append_nil] at this
end
end Mp

set_option maxRecDepth 100000
set_option maxHeartbeats 4000000
/-! Calls with keywords. -/
namespace Mp
open PySem PySem.Spec PyProof.Rows L2

section
variable {X : Cx} {C : Cl} {rf : List Bool} {pos p : Pos} {n : Nat} {x : Str} {f : Addr} {fd : FuncData} {fn : Fn}
theorem PK.imp {X : Cx} {e : List Keyword} {t u : TA} (h : PK X e t) (i : ∀ σ H Q, u σ H Q → t σ H Q) : PK X e u := ⟨fun pos pins s σ H Q I q => h.run pos pins s σ H Q I (i σ H Q q)⟩
theorem kw_nil : PK X [] (rdA X.K X.w C rf .nil) := PK.imp pk_nil fun σ H Q ⟨F, ρ, S, h⟩ => by
  simp only [evs_eqs, wpR_ok] at h
  exact h [] F H (Gds.nil S)
theorem kw_cons {nm : Option Str} {e : Expr} {kpos : Pos} {ks : List Keyword} {te : E} {ts : Es} (ha : PE X e (rdE X.K X.w C rf te)) (hr : PK X ks (rdA X.K X.w C rf ts)) : PK X (⟨nm, e, kpos⟩ :: ks) (rdA X.K X.w C rf (.cons te ts)) :=
  PK.imp (pk_cons ha hr) fun σ H Q ⟨F, ρ, S, h⟩ => by
    simp only [evs_eqs, wpR_bind, wpR_ok] at h
    exact ⟨F, ρ, S, wpR_mono h fun x ρ1 h v1 F1 H1 g1 => ⟨F1, ρ1, g1.sr, wpR_mono h fun xs ρ2 h vs F2 H2 g2 => h _ F2 H2 (Gds.cons g1 g2)⟩⟩
/-- the keywords' names -/
def kwNames : List Keyword → Option (List Str)
  | [] => some []
  | k :: r => match k.arg with
    | none => none
    | some x => match kwNames r with
      | none => none
      | some xs => some (x :: xs)
theorem kw_names {env : Env} : ∀ {kws : List Keyword} {ks : List Str}, kwNames kws = some ks → (backToKw pos (keywordEach kws env)).all (·.1.isSome) = true ∧ (backToKw pos (keywordEach kws env)).filterMap (·.1) = ks ∧ (backToKw pos (keywordEach kws env)).any (·.1.isNone) = false
  | [], ks, h => by cases h; exact ⟨rfl, rfl, rfl⟩
  | ⟨nm, v, q⟩ :: r, ks, h => by
    cases nm with
    | none => cases h
    | some x =>
    simp only [kwNames] at h
    split at h <;> try contradiction
    rename_i xs e2
    cases h
    obtain ⟨h1, h2, h3⟩ := kw_names (env := env) e2
    unfold backToKw at h1 h2 h3 ⊢
    exact ⟨by simpa [keywordEach] using h1, by simpa [keywordEach] using h2, by simpa [keywordEach] using h3⟩
theorem e_callk {e : Expr} {es : List Expr} {ts tks : Es} {kws : List Keyword} {ks : List Str} (hf : C.fn x = some fn) (G : GOk X.prog X.w X.K X.mg X.base n f fd fn.ps (spD X.K X.w (C.run x) fn.refs)) (hr : Room n X.A) (hgd : X.A.guards = some []) (hg : Gl X x) (hm : X.mg x = some (.ref f)) (hk : PySem.W.keepIn X.K (.ref f) = true) (hdb : (x == ("__debug__" : Str)) = false)
    (hps : fn.ps.length = fn.refs.length) (hb : KB X.K fd fn.ps (lenEs ts) ks) (hkn : kwNames kws = some ks) (hkl : ks.length = lenEs tks) (he : (e :: es).all unstar = true) (ha : PA X (e :: es) (rdA X.K X.w C rf ts)) (hkw : PK X kws (rdA X.K X.w C rf tks)) : PE X (.Call (.Name x p) (e :: es) kws pos) (rdE X.K X.w C rf (.callk x ts ks tks)) := by
  refine ⟨fun pins s σ H Q I ⟨F, ρ, S, h⟩ => ?_⟩
  simp only [ev_eqs] at h
  rw [wpR_bind] at h
  have he' := he
  rw [List.all_cons, Bool.and_eq_true] at he
  obtain ⟨q1, q2, q3⟩ := kw_names (env := X.env) (pos := pos) hkn
  obtain ⟨xs, ρ1, e1, h⟩ := wpR_iff.mp h
  rw [wpR_bind] at h
  obtain ⟨ys, ρ2, e2, h⟩ := wpR_iff.mp h
  refine wpAny_Call_Name_kw (ld_glob I hg hm ?_ hdb)
  have args := ha.run pos pins s σ H (fun vs H1 => ∃ F1, Gds X.K X.w F H F1 H1 σ ρ ρ1 vs xs) I ⟨F, ρ, S, wpR_iff.mpr ⟨xs, ρ1, e1, fun vs F1 H1 g => ⟨F1, g⟩⟩⟩
  refine PySem.W.callWith_KW (h₀ := X.base) I.ok.mod.kin hk q1 (thn args fun us s1 ⟨vs, H1, I1, r, F1, g1⟩ => ?_) (by rw [star_plain he', q3]; rfl) (star_cons he.1)
  have kwv := hkw.run pos pins s1 σ H1 (fun zs H2 => ∃ F2, Gds X.K X.w F H F2 H2 σ ρ ρ2 (vs ++ zs) (xs ++ ys)) I1 ⟨F1, ρ1, g1.sr, wpR_iff.mpr ⟨ys, ρ2, e2, fun zs F2 H2 g2 => ⟨F2, g1.app g2⟩⟩⟩
  refine thn kwv fun ws s2 ⟨zs, H2, I2, rz, F2, g⟩ => ⟨I2.kIn, ?_⟩
  rw [q2]
  have hl : vs.length = xs.length := g1.rr.length
  obtain ⟨ix, all, o1, o2, sp⟩ := rd_callk (all := []) (ts := ts) (ks' := tks) hps hf g hl h
  have rall : Vals (vs ++ zs) (us ++ ws) := r.append rz
  obtain ⟨allv, o3⟩ := getAll_some (us := us ++ ws) o2 rall.length.symm
  have hm' : us.length = lenEs ts := by rw [← r.length, hl, evs_len e1]
  have hw : ws.length = ks.length := by
    have h1 := g.rr.length
    rw [List.length_append, List.length_append, hl, evs_len e2] at h1
    rw [← rz.length, hkl]
    omega
  exact G.call hr hgd I2 (hb s2 us ws allv ix I2.kIn hm' hw (by rw [← hm', ← r.length]; exact o1) o3) (getAll_vals rall o2 o3) sp
theorem e_callk0 {tks : Es} {kws : List Keyword} {ks : List Str} (hf : C.fn x = some fn) (G : GOk X.prog X.w X.K X.mg X.base n f fd fn.ps (spD X.K X.w (C.run x) fn.refs)) (hr : Room n X.A) (hgd : X.A.guards = some []) (hg : Gl X x) (hm : X.mg x = some (.ref f)) (hk : PySem.W.keepIn X.K (.ref f) = true) (hdb : (x == ("__debug__" : Str)) = false)
    (hps : fn.ps.length = fn.refs.length) (hb : KB X.K fd fn.ps 0 ks) (hkn : kwNames kws = some ks) (hkl : ks.length = lenEs tks) (hkw : PK X kws (rdA X.K X.w C rf tks)) : PE X (.Call (.Name x p) [] kws pos) (rdE X.K X.w C rf (.callk x .nil ks tks)) := by
  refine ⟨fun pins s σ H Q I ⟨F, ρ, S, h⟩ => ?_⟩
  simp only [ev_eqs, evs_eqs] at h
  rw [wpR_bind, wpR_ok, wpR_bind] at h
  obtain ⟨q1, q2, q3⟩ := kw_names (env := X.env) (pos := pos) hkn
  obtain ⟨ys, ρ2, e2, h⟩ := wpR_iff.mp h
  refine wpAny_Call_Name_kw (ld_glob I hg hm ?_ hdb)
  refine PySem.W.callWith_KW0 (h₀ := X.base) I.ok.mod.kin hk q1 ?_ (by rw [q3]; rfl)
  have kwv := hkw.run pos pins s σ H (fun zs H2 => ∃ F2, Gds X.K X.w F H F2 H2 σ ρ ρ2 ([] ++ zs) ([] ++ ys)) I ⟨F, ρ, S, wpR_iff.mpr ⟨ys, ρ2, e2, fun zs F2 H2 g2 => ⟨F2, (Gds.nil S).app g2⟩⟩⟩
  refine thn kwv fun ws s2 ⟨zs, H2, I2, rz, F2, g⟩ => ⟨I2.kIn, ?_⟩
  rw [q2]
  obtain ⟨ix, all, o1, o2, sp⟩ := rd_callk (all := []) (ts := .nil) (ks' := tks) (vs := []) (xs := []) hps hf g rfl h
  have rall : Vals ([] ++ zs) ([] ++ ws) := rz
  obtain ⟨allv, o3⟩ := getAll_some (us := [] ++ ws) o2 rall.length.symm
  have hw : ws.length = ks.length := by
    have h1 := g.rr.length
    rw [List.nil_append, List.nil_append, evs_len e2] at h1
    rw [← rz.length, hkl]
    exact h1
  exact G.call hr hgd I2 (hb s2 [] ws allv ix I2.kIn rfl hw o1 o3) (getAll_vals rall o2 o3) sp
end
end Mp

set_option maxRecDepth 100000
set_option maxHeartbeats 4000000
/-! From the text to terms. -/
namespace Mp
open PySem PySem.Spec PyProof.Rows L2

structure Gi where
  P : Pg
  zs : List Str
  shapes : List (Str × Nat × List Str)
def slotOf (N : List Str) (x : Str) : Option Nat := N.findIdx? (· == x)
def visB (sc : Scope) (x : Str) : Bool := match sc.names.lookup x with
  | some .local => true
  | some .cell => true
  | some .free => true
  | _ => false
def glB (sc : Scope) (x : Str) : Bool := sc.names.lookup x == some .globalImplicit
def okNm (x : Str) : Bool := !(x == ("__debug__" : Str)) && !(x == ("__classdict__" : Str)) && !(x == ("__name__" : Str))
def bltTab : List ((Str × Nat) × Blt) := [(("len", 1), .len), (("int", 1), .int), (("abs", 1), .abs), (("max", 2), .max2), (("min", 2), .min2), (("max", 1), .max1), (("min", 1), .min1), (("sum", 1), .sum), (("all", 1), .all), (("any", 1), .any),
  (("sorted", 1), .sorted), (("list", 1), .list), (("tuple", 1), .tuple), (("str", 1), .str), (("repr", 1), .repr), (("divmod", 2), .divmod)]
def bltOf (x : Str) (n : Nat) : Option Blt := bltTab.lookup (x, n)
def mthTab : List ((Str × Nat) × Mth) := [(("append", 1), .append), (("extend", 1), .extend), (("pop", 0), .pop), (("pop", 1), .popAt), (("index", 1), .index)]
def mthOf (x : Str) (n : Nat) : Option Mth := mthTab.lookup (x, n)
def tyTab : List (Str × Ty) := [("int", .int), ("bool", .bool), ("str", .str), ("list", .list), ("tuple", .tuple), ("dict", .dict)]
def tyOf (x : Str) : Option Ty := tyTab.lookup x
def tyE (zs : List Str) (sc : Scope) : Expr → Option Ty
  | .Name x _ => if okNm x && glB sc x && zs.contains x then tyOf x else none
  | _ => none
def tyEs (zs : List Str) (sc : Scope) : List Expr → Option (List Ty)
  | [] => some []
  | e :: es => (tyE zs sc e).bind fun t => (tyEs zs sc es).map (t :: ·)
def ownOf (N : List Str) (scope : Scope) : List (Str × Nat) := scope.names.filterMap fun (x, k) => if k == .local || k == .cell then (slotOf N x).map fun i => (x, i) else none
def isTup : Expr → Bool
  | .Tuple _ _ _ => true
  | _ => false
def lenTgs : Tgs → Nat
  | .nil => 0
  | .cons _ ts => lenTgs ts + 1
/-- list(range(..)): what stands in the range -/
def lrOf (zs : List Str) (sc : Scope) (x : Str) : List Expr → List Keyword → Option (List Expr)
  | [.Call (.Name y _) bs [] _], [] => if x = "list" ∧ y = "range" ∧ glB sc "range" = true ∧ zs.contains "list" = true ∧ zs.contains "range" = true ∧ bs.all unstar = true then some bs else none
  | _, _ => none
mutual
def cE (G : Gi) (N : List Str) : Nat → Scope → Expr → Option E
  | 0, _, _ => none
  | n + 1, sc, e => match e with
    | .Constant k _ _ => (constD k).map .const
    | .Name x _ => if okNm x then (match slotOf N x with
      | some i => if visB sc x then some (.var i) else none
      | none => if glB sc x && (G.P.globs.lookup x).isSome then some (.glob x) else none) else none
    | .BinOp a op b _ => (cE G N n sc a).bind fun ta => (cE G N n sc b).bind fun tb => some (.bin op ta tb)
    | .UnaryOp op a _ => (match op with
      | .USub => (cE G N n sc a).bind fun ta => some (.neg ta)
      | .Not => (cE G N n sc a).bind fun ta => some (.not ta)
      | _ => none)
    | .BoolOp op vs _ => cB G N n sc op vs
    | .Compare a ops bs _ => (match ops, bs with
      | [op], [b] => if unset b then (cE G N n sc a).bind fun ta => (cE G N n sc b).bind fun tb => some (.cmp op ta tb) else none
      | [op, op'], [b, c] => if unset c then (cE G N n sc a).bind fun ta => (cE G N n sc b).bind fun tb => (cE G N n sc c).bind fun tc => some (.chain op op' ta tb tc) else none
      | _, _ => none)
    | .IfExp c a b _ => (cT G N n sc c).bind fun tc => (cE G N n sc a).bind fun ta => (cE G N n sc b).bind fun tb => some (.ite tc ta tb)
    | .Tuple es _ _ => (cEs G N n sc es).bind fun ts => some (.tup ts)
    | .List es _ => (cEs G N n sc es).bind fun ts => some (.lst ts)
    | .Dict ks vs _ => (match ks, vs with
      | [], [] => some (.dct .nil .nil)
      | _, _ => none)
    | .Subscript a b _ => (match b with
      | .Slice none none (some (.UnaryOp .USub (.Constant (.int 1) _ _) _)) _ => (cE G N n sc a).bind fun ta => some (.rev ta)
      | .Slice lo hi none _ => (cE G N n sc a).bind fun ta => (cP G N n sc lo).bind fun tl => (cP G N n sc hi).bind fun th => some (.slc ta tl th)
      | .Slice _ _ _ _ => none
      | _ => (cE G N n sc a).bind fun ta => (cE G N n sc b).bind fun tb => some (.idx ta tb))
    | .Call f as ks pos => (match f with
      | .Name x _ => if okNm x && glB sc x then cC G N n sc x as ks else none
      | .Attribute o m apos => (match ks with
        | [] => if unsuper o && as.all unstar && decide (as.length < 30) && (apos.endLine == pos.line) then (mthOf m as.length).bind fun q => (cE G N n sc o).bind fun to => (cEs G N n sc as).bind fun ts => some (.mth q to ts) else none
        | _ => none)
      | _ => none)
    | .ListComp elt gs scope _ => (match gs with
      | [⟨tg, iter, ifs, asy⟩] => if asy = 0 then cL G N n sc elt tg iter ifs scope else none
      | _ => none)
    | _ => none
def cL (G : Gi) (N : List Str) : Nat → Scope → Expr → Expr → Expr → List Expr → Scope → Option E
  | 0, _, _, _, _, _, _ => none
  | n + 1, sc, elt, tg, iter, ifs, scope => if blkC N sc scope (ownOf N scope) && unset iter then
      (cI G N n sc tg iter).bind fun it => (cG G N n (relS scope sc) false tg).bind fun t => (cF G N n (relS scope sc) ifs).bind fun c => (cE G N n (relS scope sc) elt).bind fun te =>
        if (slotsT t).all (fun i => ((ownOf N scope).map (·.2)).contains i) then some (.comp ((ownOf N scope).map (·.2)) t it c te) else none
    else none
def cF (G : Gi) (N : List Str) : Nat → Scope → List Expr → Option E
  | 0, _, _ => none
  | n + 1, sc, es => match es with
    | [] => some (.const (.bl true))
    | [c] => cT G N n sc c
    | _ => none
def cB (G : Gi) (N : List Str) : Nat → Scope → BoolOp → List Expr → Option E
  | 0, _, _, _ => none
  | n + 1, sc, op, vs => match vs with
    | [] => none
    | [a] => cE G N n sc a
    | a :: b :: rest => (cE G N n sc a).bind fun ta => (cB G N n sc op (b :: rest)).bind fun tb => some (match op with
      | .And => .and ta tb
      | .Or => .or ta tb)
def cT (G : Gi) (N : List Str) : Nat → Scope → Expr → Option E
  | 0, _, _ => none
  | n + 1, sc, e => match e with
    | .UnaryOp op a _ => (match op with
      | .Not => (cT G N n sc a).bind fun ta => some (.not ta)
      | _ => none)
    | .BoolOp op vs _ => cW G N n sc op vs
    | .Compare a ops bs _ => (match ops, bs with
      | [op], [b] => if unset b then (cE G N n sc a).bind fun ta => (cE G N n sc b).bind fun tb => some (.cmp op ta tb) else none
      | [op, op'], [b, c] => if unset c then (cE G N n sc a).bind fun ta => (cE G N n sc b).bind fun tb => (cE G N n sc c).bind fun tc => some (.chain op op' ta tb tc) else none
      | _, _ => none)
    | e => if plainTest e then (cE G N n sc e).bind fun t => (match t with
      | .not _ => none
      | .and _ _ => none
      | .or _ _ => none
      | _ => some t) else none
def cW (G : Gi) (N : List Str) : Nat → Scope → BoolOp → List Expr → Option E
  | 0, _, _, _ => none
  | n + 1, sc, op, vs => match vs with
    | [] => none
    | [a] => cT G N n sc a
    | a :: b :: rest => (cT G N n sc a).bind fun ta => (cW G N n sc op (b :: rest)).bind fun tb => some (match op with
      | .And => .and ta tb
      | .Or => .or ta tb)
def cP (G : Gi) (N : List Str) : Nat → Scope → Option Expr → Option E
  | 0, _, _ => none
  | n + 1, sc, e => match e with
    | none => some (.const .non)
    | some e => (cE G N n sc e).bind fun t => (match t with
      | .const .non => none
      | _ => some t)
def cEs (G : Gi) (N : List Str) : Nat → Scope → List Expr → Option Es
  | 0, _, _ => none
  | n + 1, sc, es => match es with
    | [] => some .nil
    | e :: es => if unstar e then (cE G N n sc e).bind fun t => (cEs G N n sc es).bind fun ts => some (.cons t ts) else none
def cK (G : Gi) (N : List Str) : Nat → Scope → List Keyword → Option Es
  | 0, _, _ => none
  | n + 1, sc, es => match es with
    | [] => some .nil
    | ⟨_, e, _⟩ :: es => (cE G N n sc e).bind fun t => (cK G N n sc es).bind fun ts => some (.cons t ts)
def cC (G : Gi) (N : List Str) : Nat → Scope → Str → List Expr → List Keyword → Option E
  | 0, _, _, _, _ => none
  | n + 1, sc, x, as, ks => if x = "isinstance" then (match as, ks with
      | [a, t], [] => if unstar a && G.zs.contains "isinstance" then (cE G N n sc a).bind fun ta => (match t with
          | .Tuple es _ _ => (tyEs G.zs sc es).bind fun ts => if decide (ts.length ≤ 100) then some (.isi ta ts) else none
          | t => (tyE G.zs sc t).bind fun ty => some (.isi ta [ty])) else none
      | _, _ => none)
    else match lrOf G.zs sc x as ks with
    | some bs => (match bs with
      | [a] => (cE G N n sc a).bind fun ta => some (.lof (.range1 ta))
      | [a, b] => (cE G N n sc a).bind fun ta => (cE G N n sc b).bind fun tb => some (.lof (.range2 ta tb))
      | _ => none)
    | none => match G.P.fn x with
      | some _ => (match ks with
        | [] => if G.shapes.contains (x, as.length, []) && as.all unstar then (cEs G N n sc as).bind fun ts => some (.call x ts) else none
        | k :: kr => (kwNames (k :: kr)).bind fun nm => if G.shapes.contains (x, as.length, nm) && as.all unstar then (cEs G N n sc as).bind fun ts => (cK G N n sc (k :: kr)).bind fun tks => some (.callk x ts nm tks) else none)
      | none => (match ks with
        | [] => if G.zs.contains x && as.all unstar && !as.isEmpty then (bltOf x as.length).bind fun f => (cEs G N n sc as).bind fun ts => some (.blt f ts) else none
        | _ => none)
def cI (G : Gi) (N : List Str) : Nat → Scope → Expr → Expr → Option I
  | 0, _, _, _ => none
  | n + 1, sc, tg, e => match cIc G N n sc tg e with
    | some it => some it
    | none => if unset e then (cE G N n sc e).bind fun t => some (.val t) else none
def cIc (G : Gi) (N : List Str) : Nat → Scope → Expr → Expr → Option I
  | 0, _, _, _ => none
  | n + 1, sc, tg, e => match e with
    | .Call (.Name x _) as [] _ => if okNm x && glB sc x && G.zs.contains x && as.all unstar then (
        if x = "range" then (match as with
          | [a] => (cE G N n sc a).bind fun ta => some (.range1 ta)
          | [a, b] => (cE G N n sc a).bind fun ta => (cE G N n sc b).bind fun tb => some (.range2 ta tb)
          | [a, b, c] => (cE G N n sc a).bind fun ta => (cE G N n sc b).bind fun tb => (cE G N n sc c).bind fun tc => some (.range3 ta tb tc)
          | _ => none)
        else if x = "enumerate" then (if isTup tg then (match as with
          | [a] => (cE G N n sc a).bind fun ta => some (.enum ta)
          | _ => none) else none)
        else if x = "zip" then (if isTup tg then (match as with
          | [a, b] => (cE G N n sc a).bind fun ta => (cE G N n sc b).bind fun tb => some (.zip ta tb)
          | _ => none) else none)
        else none) else none
    | _ => none
def cG (G : Gi) (N : List Str) : Nat → Scope → Bool → Expr → Option Tg
  | 0, _, _, _ => none
  | n + 1, sc, fl, e => match e with
    | .Name x _ => (slotOf N x).bind fun i => if sc.names.lookup x == some .local || (fl && sc.names.lookup x == some .cell) then some (.name i) else none
    | .Subscript a b _ => if unslice b then (cE G N n sc a).bind fun ta => (cE G N n sc b).bind fun tb => some (.sub ta tb) else none
    | .Tuple es _ _ => if es.all unstar then (cGs G N n sc fl es).bind fun ts => some (.tup ts) else none
    | _ => none
def cGs (G : Gi) (N : List Str) : Nat → Scope → Bool → List Expr → Option Tgs
  | 0, _, _, _ => none
  | n + 1, sc, fl, es => match es with
    | [] => some .nil
    | e :: es => if unstar e then (cG G N n sc fl e).bind fun t => (cGs G N n sc fl es).bind fun ts => some (.cons t ts) else none
end
def parB (sc : Scope) (tg e : Expr) : Bool := match tg, e with
  | .Tuple ts _ _, .Tuple vs _ _ => parNo sc ts vs
  | _, _ => false
/-! statements (of a def: names that blocks share may be stored too) -/
def nameP : Expr → Option (Str × Pos)
  | .Name x p => some (x, p)
  | _ => none
mutual
def cS (G : Gi) (N : List Str) : Nat → Scope → Stmt → Option S
  | 0, _, _ => none
  | n + 1, sc, st => match st with
    | .Assign ts e pos => (match ts with
      | [tg] => cA G N n sc tg e pos
      | _ => none)
    | .Expr e _ => (match e with
      | .Constant (.str _) _ _ => some .pass
      | e => if unlc e then (cE G N n sc e).bind fun t => some (.expr t) else none)
    | .Return e _ => (match e with
      | none => some (.ret (.const .non))
      | some e => (cE G N n sc e).bind fun t => some (.ret t))
    | .If c a b _ => (cT G N n sc c).bind fun tc => (cSs G N n sc a).bind fun ta => (cSs G N n sc b).bind fun tb => some (.ite tc ta tb)
    | .For tg it b els _ => (match els with
      | [] => if unset it then (cI G N n sc tg it).bind fun i => (cG G N n sc true tg).bind fun t => (cSs G N n sc b).bind fun tb => some (.for t i tb) else none
      | _ => none)
    | .While c b els _ => (match els with
      | [] => (cT G N n sc c).bind fun tc => (cSs G N n sc b).bind fun tb => some (.while tc tb)
      | _ => none)
    | .Raise e _ _ => (match e with
      | some (.Call (.Name x _) as [] _) => (cEs G N n sc as).bind fun ts => some (.raise x ts)
      | _ => none)
    | .Pass _ => some .pass
    | .Break _ => some .brk
    | .Continue _ => some .cont
    | _ => none
def cA (G : Gi) (N : List Str) : Nat → Scope → Expr → Expr → Pos → Option S
  | 0, _, _, _, _ => none
  | n + 1, sc, tg, e, pos => match tg, e with
    | .Tuple [.Name x px, .Name y py] _ _, .Tuple [a, b] _ _ => (match slotOf N x, slotOf N y with
      | some i, some j => if parOk sc [.Name x px, .Name y py] [a, b] && (parNames sc [.Name x px, .Name y py] == [x, y]) && (sc.names.lookup x == some .local) && (sc.names.lookup y == some .local) && !(i == j) then (cEs G N n sc [a, b]).bind fun ts => some (.par [i, j] ts) else cAs G N n sc tg e pos
      | _, _ => none)
    | .Tuple [.Name x px, .Name y py, .Name z pz] _ _, .Tuple [a, b, c] _ _ => (match slotOf N x, slotOf N y, slotOf N z with
      | some i, some j, some l => if parOk sc [.Name x px, .Name y py, .Name z pz] [a, b, c] && (parNames sc [.Name x px, .Name y py, .Name z pz] == [x, y, z]) && (sc.names.lookup x == some .local) && (sc.names.lookup y == some .local) && (sc.names.lookup z == some .local) && !(i == j) && !(i == l) && !(j == l) then (cEs G N n sc [a, b, c]).bind fun ts => some (.par [i, j, l] ts) else cAs G N n sc tg e pos
      | _, _, _ => none)
    | .Name y py, .ListComp elt [⟨tg', iter, ifs, asy⟩] scope p => (slotOf N y).bind fun i => if asy = 0 && (sc.names.lookup y == some .local) && (py.line == p.line) && !(scope.names.any fun (n, k) => n == y && (k == .local || k == .cell)) then (cL G N n sc elt tg' iter ifs scope).bind fun t => some (.asg (.name i) t) else none
    | _, _ => cAs G N n sc tg e pos
def cAs (G : Gi) (N : List Str) : Nat → Scope → Expr → Expr → Pos → Option S
  | 0, _, _, _, _ => none
  | n + 1, sc, tg, e, pos => if unlc e && unstar tg && (untup tg || untup e || parB sc tg e) then (cE G N n sc e).bind fun te => (cG G N n sc true tg).bind fun t => some (.asg t te) else none
def cSs (G : Gi) (N : List Str) : Nat → Scope → List Stmt → Option Ss
  | 0, _, _ => none
  | n + 1, sc, ss => match ss with
    | [] => some .nil
    | s :: ss => (cS G N n sc s).bind fun t => (cSs G N n sc ss).bind fun ts => some (.cons t ts)
end
end Mp

set_option maxRecDepth 100000
set_option maxHeartbeats 4000000
/-! What is made of the text holds of it. -/
namespace Mp
open PySem PySem.Spec PyProof.Rows L2

structure Ctx (G : Gi) (adr : Str → Addr × FuncData) (n : Nat) (N : List Str) (X : Cx) : Prop where
  nn : X.N = N
  nd : X.N.Nodup
  calm : X.calm = true
  room : Room n X.A
  gd : X.A.guards = some []
  xe : X.xe = fun _ _ => False
  zs : ∀ z ∈ G.zs, X.mg z = none
  globs : ∀ x d, G.P.globs.lookup x = some d → ∃ v u, X.mg x = some u ∧ RelV v u ∧ ∀ F, Rp X.K X.w F v d
  fns : ∀ x fn, G.P.fn x = some fn → X.mg x = some (.ref (adr x).1) ∧ PySem.W.keepIn X.K (.ref (adr x).1) = true ∧ fn.ps.length = fn.refs.length ∧ GOk X.prog X.w X.K X.mg X.base n (adr x).1 (adr x).2 fn.ps (spD X.K X.w (G.P.call n x) fn.refs)
  pos : ∀ x m, (x, m, ([] : List Str)) ∈ G.shapes → ∀ fn, G.P.fn x = some fn → ∃ dsv dvs, Binds X.K (adr x).2 fn.ps dsv ∧ Vals dvs dsv ∧ ∀ F, Rps X.K X.w F dvs (fn.dfl.drop (fn.dfl.length - (fn.refs.length - m)))
  key : ∀ x m k ks, (x, m, k :: ks) ∈ G.shapes → ∀ fn, G.P.fn x = some fn → KB X.K (adr x).2 fn.ps m (k :: ks)
structure Scp (X : Cx) (sc : Scope) (fl : Bool) : Prop where
  sq : X.env.scope = sc
  kind : sc.kind = .function
  fn : fl = true → ∀ x, X.fn x = true
section
variable {G : Gi} {adr : Str → Addr × FuncData} {n : Nat} {N : List Str} {X : Cx} {sc : Scope} {fl : Bool}
theorem Ctx.hu (c : Ctx G adr n N X) : X.A.units + 64 < cLine := by have := c.room.un; omega
theorem Ctx.hu1 (c : Ctx G adr n N X) : X.A.units + 65 < cLine := by have := c.room.un; omega
theorem Ctx.blk (c : Ctx G adr n N X) (s : Shared) (H : Hp) (scope : Scope) (env : Env) (fp : List Addr) : Ctx G adr n N (X.blk s H scope env fp) :=
  ⟨c.nn, c.nd, c.calm, c.room, c.gd, rfl, c.zs, c.globs, c.fns, c.pos, c.key⟩
theorem Scp.blk (s : Scp X sc fl) {scope : Scope} (hk : scope.kind = .function) (sh : Shared) (H : Hp) (cl : List (Str × Addr)) (Cd : Addr) (fp : List Addr) : Scp (X.blk sh H scope (compEnvC scope cl Cd X.env) fp) (relS scope sc) false :=
  ⟨by rw [← s.sq]; rfl, hk, fun h => nomatch h⟩
theorem slotOf_ok {x : Str} {i : Nat} (h : slotOf N x = some i) : N[i]? = some x := by
  unfold slotOf at h
  obtain ⟨hi, h1, _⟩ := List.findIdx?_eq_some_iff_getElem.mp h
  rw [List.getElem?_eq_getElem hi]
  exact congrArg some (by simpa using h1)
theorem visB_ok {x : Str} (h : visB sc x = true) : Vis sc x := by
  unfold visB at h
  split at h
  · exact .inl (by assumption)
  · exact .inr (.inl (by assumption))
  · exact .inr (.inr (by assumption))
  · cases h
theorem okNm_ok {x : Str} (h : okNm x = true) : (x == ("__debug__" : Str)) = false ∧ (x == ("__classdict__" : Str)) = false ∧ x ≠ "__name__" := by
  unfold okNm at h
  simp only [Bool.and_eq_true, Bool.not_eq_true'] at h
  exact ⟨h.1.1, h.1.2, fun e => by rw [e] at h; simp at h⟩
theorem Scp.gl (s : Scp X sc fl) {x : Str} (h : glB sc x = true) : Gl X x := by
  unfold glB at h
  show X.env.scope.names.lookup x = _
  rw [s.sq]
  simpa using h
theorem lookup_mem {α β : Type} [BEq α] [LawfulBEq α] {k : α} {v : β} : ∀ {l : List (α × β)}, l.lookup k = some v → (k, v) ∈ l
  | [], h => by cases h
  | (a, b) :: l, h => by
    rw [List.lookup_cons] at h
    split at h
    · rename_i e
      have := eq_of_beq e
      cases h
      subst this
      exact List.mem_cons_self
    · exact List.mem_cons_of_mem _ (lookup_mem h)
theorem boot_ty {x : Str} {t : Ty} (h : tyOf x = some t) : bootBuiltins x = some (.type (nmT t)) := by
  have all : ∀ p ∈ tyTab, bootBuiltins p.1 = some (.type (nmT p.2)) := by decide +kernel
  exact all _ (lookup_mem h)
theorem tyE_ok (c : Ctx G adr n N X) (s : Scp X sc fl) {e : Expr} {t : Ty} (h : tyE G.zs sc e = some t) : ClsE X e [t] := by
  cases e with
  | Name x p =>
    simp only [tyE] at h
    split at h
    · rename_i hc
      simp only [Bool.and_eq_true] at hc
      obtain ⟨h1, _, h3⟩ := okNm_ok hc.1.1
      exact .one (s.gl hc.1.2) (c.zs _ (List.contains_iff_mem.mp hc.2)) (boot_ty h) h3 h1
    · cases h
  | _ => cases h
theorem tyEs_ok (c : Ctx G adr n N X) (s : Scp X sc fl) : ∀ {es : List Expr} {ts : List Ty}, tyEs G.zs sc es = some ts → ClsEs X es ts
  | [], ts, h => by cases h; trivial
  | e :: es, ts, h => by
    simp only [tyEs] at h
    obtain ⟨t, h1, h2⟩ := Option.bind_eq_some_iff.mp h
    obtain ⟨r, h3, h4⟩ := Option.map_eq_some_iff.mp h2
    subst h4
    exact ⟨tyE_ok c s h1, tyEs_ok c s h3⟩
theorem blt_ok (c : Ctx G adr n N X) {x : Str} {m : Nat} {f : Blt} (h : bltOf x m = some f) : OkB X f ∧ bootBuiltins x = some (bltV f) ∧ ((∃ id, bltV f = .builtin id) ∨ ∃ id, bltV f = .type id) := by
  have all : ∀ p ∈ bltTab, bootBuiltins p.1.1 = some (bltV p.2) := by decide +kernel
  have hm := lookup_mem h
  refine ⟨?_, all _ hm, ?_⟩
  · simp only [bltTab, List.mem_cons, Prod.mk.injEq, List.not_mem_nil, or_false] at hm
    rcases hm with ⟨_, rfl⟩ | ⟨_, rfl⟩ | ⟨_, rfl⟩ | ⟨_, rfl⟩ | ⟨_, rfl⟩ | ⟨_, rfl⟩ | ⟨_, rfl⟩ | ⟨_, rfl⟩ | ⟨_, rfl⟩ | ⟨_, rfl⟩ | ⟨_, rfl⟩ | ⟨_, rfl⟩ | ⟨_, rfl⟩ | ⟨_, rfl⟩ | ⟨_, rfl⟩ | ⟨_, rfl⟩
    · exact ok_len
    · exact ok_int
    · exact ok_abs
    · exact ok_max2 c.calm
    · exact ok_min2 c.calm
    · exact ok_max1 c.calm
    · exact ok_min1 c.calm
    · exact ok_sum c.calm
    · exact ok_all c.calm
    · exact ok_any c.calm
    · exact ok_sorted c.calm c.hu
    · exact ok_list
    · exact ok_tuple
    · exact ok_str
    · exact ok_repr c.gd c.hu
    · exact ok_divmod
  · cases f <;> first | exact .inl ⟨_, rfl⟩ | exact .inr ⟨_, rfl⟩
theorem cEs_len : ∀ {m : Nat} {es : List Expr} {ts : Es}, cEs G N m sc es = some ts → lenEs ts = es.length ∧ es.all unstar = true
  | 0, es, ts, h => by simp [cEs] at h
  | m + 1, [], ts, h => by simp only [cEs, Option.some.injEq] at h; subst h; exact ⟨rfl, rfl⟩
  | m + 1, e :: es, ts, h => by
    simp only [cEs] at h
    split at h
    · rename_i hs
      obtain ⟨t, h1, h2⟩ := Option.bind_eq_some_iff.mp h
      obtain ⟨r, h3, h4⟩ := Option.bind_eq_some_iff.mp h2
      cases h4
      obtain ⟨l1, l2⟩ := cEs_len h3
      exact ⟨by simp [lenEs, l1], by rw [List.all_cons, hs, l2]; rfl⟩
    · cases h
theorem cK_len : ∀ {m : Nat} {es : List Keyword} {ts : Es}, cK G N m sc es = some ts → lenEs ts = es.length
  | 0, es, ts, h => by simp [cK] at h
  | m + 1, [], ts, h => by simp only [cK, Option.some.injEq] at h; subst h; rfl
  | m + 1, ⟨nm, e, q⟩ :: es, ts, h => by
    simp only [cK] at h
    obtain ⟨t, h1, h2⟩ := Option.bind_eq_some_iff.mp h
    obtain ⟨r, h3, h4⟩ := Option.bind_eq_some_iff.mp h2
    cases h4
    simp [lenEs, cK_len h3]
theorem kwNames_len : ∀ {ks : List Keyword} {xs : List Str}, kwNames ks = some xs → xs.length = ks.length
  | [], xs, h => by cases h; rfl
  | ⟨nm, v, q⟩ :: r, xs, h => by
    cases nm with
    | none => cases h
    | some x =>
      simp only [kwNames] at h
      split at h <;> try contradiction
      rename_i ys e2
      cases h
      simp [kwNames_len e2]
theorem tgAs_len {C : Cl} {rf : List Bool} : ∀ {ts : Tgs} {ds : List D} {ρ : Ev}, wpR (tgAs C rf ts ds ρ) (fun _ _ => True) → ds.length = lenTgs ts
  | .nil, [], ρ, h => rfl
  | .nil, _ :: _, ρ, h => by simp only [tgAs_eqs] at h; exact h.elim
  | .cons t ts, [], ρ, h => by simp only [tgAs_eqs] at h; exact h.elim
  | .cons t ts, d :: ds, ρ, h => by
    simp only [tgAs_eqs, wpR_bind] at h
    obtain ⟨_, ρ1, _, h⟩ := wpR_iff.mp h
    simp [lenTgs, tgAs_len h]
theorem cGs_len : ∀ {m : Nat} {fl : Bool} {es : List Expr} {ts : Tgs}, cGs G N m sc fl es = some ts → lenTgs ts = es.length
  | 0, fl, es, ts, h => by simp [cGs] at h
  | m + 1, fl, [], ts, h => by simp only [cGs, Option.some.injEq] at h; subst h; rfl
  | m + 1, fl, e :: es, ts, h => by
    simp only [cGs] at h
    split at h
    · obtain ⟨t, h1, h2⟩ := Option.bind_eq_some_iff.mp h
      obtain ⟨r, h3, h4⟩ := Option.bind_eq_some_iff.mp h2
      cases h4
      simp [lenTgs, cGs_len h3]
    · cases h
theorem unset_fold {e : Expr} {env : Env} (h : unset e = true) : ∀ x, foldedSetIterable e env x = pure x := by
  intro x
  cases e <;> first | rfl | cases h
end
/-- a comprehension's parts -/
def LcOk (X : Cx) (C : Cl) (rf : List Bool) (elt tg iter : Expr) (ifs : List Expr) (scope : Scope) (t : E) : Prop :=
  ∃ (own : List (Str × Nat)) (it : I) (t' : Tg) (tc te : E), t = .comp (own.map (·.2)) t' it tc te ∧ PI X tg iter (rdI X.K X.w C rf it) ∧ BlkOk X.N X.env.scope scope own ∧ (∀ i ∈ slotsT t', i ∈ own.map (·.2)) ∧
    (∀ (s : Shared) (H : Hp) (Cd : Addr) (cl : List (Str × Addr)) (fp : List Addr), PG (X.blk s H scope (compEnvC scope cl Cd X.env) fp) tg (rdG X.K X.w X.N.length C rf t')) ∧
    (∀ (s : Shared) (H : Hp) (Cd : Addr) (cl : List (Str × Addr)) (fp : List Addr), PTs (X.blk s H scope (compEnvC scope cl Cd X.env) fp) ifs (rdT X.K X.w C rf tc)) ∧
    (∀ (s : Shared) (H : Hp) (Cd : Addr) (cl : List (Str × Addr)) (fp : List Addr), PE (X.blk s H scope (compEnvC scope cl Cd X.env) fp) elt (rdE X.K X.w C rf te)) ∧ ∀ x, foldedSetIterable iter X.env x = pure x
structure Snd (G : Gi) (adr : Str → Addr × FuncData) (n : Nat) (N : List Str) (m : Nat) : Prop where
  e : ∀ {sc e t}, cE G N m sc e = some t → ∀ {X fl rf}, Ctx G adr n N X → Scp X sc fl → PE X e (rdE X.K X.w (G.P.cl (G.P.call n)) rf t)
  l : ∀ {sc elt tg iter ifs scope t}, cL G N m sc elt tg iter ifs scope = some t → ∀ {X fl rf}, Ctx G adr n N X → Scp X sc fl → LcOk X (G.P.cl (G.P.call n)) rf elt tg iter ifs scope t
  f : ∀ {sc es t}, cF G N m sc es = some t → ∀ {X fl rf}, Ctx G adr n N X → Scp X sc fl → PTs X es (rdT X.K X.w (G.P.cl (G.P.call n)) rf t)
  b : ∀ {sc op vs t}, cB G N m sc op vs = some t → ∀ {X fl rf pos}, Ctx G adr n N X → Scp X sc fl → PE X (.BoolOp op vs pos) (rdE X.K X.w (G.P.cl (G.P.call n)) rf t)
  t : ∀ {sc e t}, cT G N m sc e = some t → ∀ {X fl rf}, Ctx G adr n N X → Scp X sc fl → PT X e (rdT X.K X.w (G.P.cl (G.P.call n)) rf t)
  w : ∀ {sc op vs t}, cW G N m sc op vs = some t → ∀ {X fl rf pos}, Ctx G adr n N X → Scp X sc fl → PW X (.BoolOp op vs pos) (rdT X.K X.w (G.P.cl (G.P.call n)) rf t)
  p : ∀ {sc e t}, cP G N m sc e = some t → ∀ {X fl rf}, Ctx G adr n N X → Scp X sc fl → Part X (G.P.cl (G.P.call n)) rf e t
  es : ∀ {sc es ts}, cEs G N m sc es = some ts → ∀ {X fl rf}, Ctx G adr n N X → Scp X sc fl → PA X es (rdA X.K X.w (G.P.cl (G.P.call n)) rf ts)
  k : ∀ {sc es ts}, cK G N m sc es = some ts → ∀ {X fl rf}, Ctx G adr n N X → Scp X sc fl → PK X es (rdA X.K X.w (G.P.cl (G.P.call n)) rf ts)
  c : ∀ {sc x as ks t}, cC G N m sc x as ks = some t → okNm x = true → glB sc x = true → ∀ {X fl rf p pos}, Ctx G adr n N X → Scp X sc fl → PE X (.Call (.Name x p) as ks pos) (rdE X.K X.w (G.P.cl (G.P.call n)) rf t)
  i : ∀ {sc tg e t}, cI G N m sc tg e = some t → ∀ {X fl rf}, Ctx G adr n N X → Scp X sc fl → PI X tg e (rdI X.K X.w (G.P.cl (G.P.call n)) rf t)
  ic : ∀ {sc tg e t}, cIc G N m sc tg e = some t → ∀ {X fl rf}, Ctx G adr n N X → Scp X sc fl → PI X tg e (rdI X.K X.w (G.P.cl (G.P.call n)) rf t)
  g : ∀ {sc fl e t}, cG G N m sc fl e = some t → ∀ {X rf}, Ctx G adr n N X → Scp X sc fl → PG X e (rdG X.K X.w X.N.length (G.P.cl (G.P.call n)) rf t)
  gs : ∀ {sc fl es ts}, cGs G N m sc fl es = some ts → ∀ {X rf}, Ctx G adr n N X → Scp X sc fl → PGs X es (rdGs X.K X.w X.N.length (G.P.cl (G.P.call n)) rf ts)
theorem snd0 {G : Gi} {adr : Str → Addr × FuncData} {n : Nat} {N : List Str} : Snd G adr n N 0 := by
  constructor <;> intros <;> simp_all [cE, cL, cF, cB, cT, cW, cP, cEs, cK, cC, cI, cIc, cG, cGs]
end Mp

set_option maxRecDepth 100000
set_option maxHeartbeats 4000000
/-! One step of the fuel. -/
namespace Mp
open PySem PySem.Spec PyProof.Rows L2

section
variable {G : Gi} {adr : Str → Addr × FuncData} {n : Nat} {N : List Str} {m : Nat}
theorem bs1 {α β : Type} {o : Option α} {f : α → Option β} {b : β} (h : o.bind f = some b) : ∃ a, o = some a ∧ f a = some b := Option.bind_eq_some_iff.mp h
theorem ss_es (ih : Snd G adr n N m) {sc : Scope} {es : List Expr} {ts : Es} (h : cEs G N (m + 1) sc es = some ts) {X : Cx} {fl : Bool} {rf : List Bool} (c : Ctx G adr n N X) (s : Scp X sc fl) : PA X es (rdA X.K X.w (G.P.cl (G.P.call n)) rf ts) := by
  cases es with
  | nil => simp only [cEs, Option.some.injEq] at h; subst h; exact a_nil
  | cons e es =>
    simp only [cEs] at h
    split at h
    · rename_i hs
      obtain ⟨t, h1, h⟩ := bs1 h
      obtain ⟨r, h2, h⟩ := bs1 h
      cases h
      exact a_cons hs (ih.e h1 c s) (ih.es h2 c s)
    · cases h
theorem ss_k (ih : Snd G adr n N m) {sc : Scope} {es : List Keyword} {ts : Es} (h : cK G N (m + 1) sc es = some ts) {X : Cx} {fl : Bool} {rf : List Bool} (c : Ctx G adr n N X) (s : Scp X sc fl) : PK X es (rdA X.K X.w (G.P.cl (G.P.call n)) rf ts) := by
  cases es with
  | nil => simp only [cK, Option.some.injEq] at h; subst h; exact kw_nil
  | cons e es =>
    obtain ⟨nm, e, p⟩ := e
    simp only [cK] at h
    obtain ⟨t, h1, h⟩ := bs1 h
    obtain ⟨r, h2, h⟩ := bs1 h
    cases h
    exact kw_cons (ih.e h1 c s) (ih.k h2 c s)
theorem ss_b (ih : Snd G adr n N m) {sc : Scope} {op : BoolOp} {vs : List Expr} {t : E} (h : cB G N (m + 1) sc op vs = some t) {X : Cx} {fl : Bool} {rf : List Bool} {pos : Pos} (c : Ctx G adr n N X) (s : Scp X sc fl) : PE X (.BoolOp op vs pos) (rdE X.K X.w (G.P.cl (G.P.call n)) rf t) := by
  match vs, h with
  | [], h => simp [cB] at h
  | [a], h =>
    simp only [cB] at h
    exact pe_one (ih.e h c s)
  | a :: b :: rest, h =>
    simp only [cB] at h
    obtain ⟨ta, h1, h⟩ := bs1 h
    obtain ⟨tb, h2, h⟩ := bs1 h
    cases h
    cases op with
    | And => exact e_and (ih.e h1 c s) (ih.b h2 c s)
    | Or => exact e_or (ih.e h1 c s) (ih.b h2 c s)
theorem ss_w (ih : Snd G adr n N m) {sc : Scope} {op : BoolOp} {vs : List Expr} {t : E} (h : cW G N (m + 1) sc op vs = some t) {X : Cx} {fl : Bool} {rf : List Bool} {pos : Pos} (c : Ctx G adr n N X) (s : Scp X sc fl) : PW X (.BoolOp op vs pos) (rdT X.K X.w (G.P.cl (G.P.call n)) rf t) := by
  match vs, h with
  | [], h => simp [cW] at h
  | [a], h' =>
    simp only [cW] at h'
    have q := ih.t h' c s (rf := rf)
    cases op with
    | And => exact w_and1 q
    | Or => exact w_or1 q
  | a :: b :: rest, h' =>
    simp only [cW] at h'
    obtain ⟨ta, h1, h'⟩ := bs1 h'
    obtain ⟨tb, h2, h'⟩ := bs1 h'
    cases h'
    cases op with
    | And => exact w_and (ih.t h1 c s) (ih.w h2 c s)
    | Or => exact w_or (ih.t h1 c s) (ih.w h2 c s)
theorem ss_f (ih : Snd G adr n N m) {sc : Scope} {es : List Expr} {t : E} (h : cF G N (m + 1) sc es = some t) {X : Cx} {fl : Bool} {rf : List Bool} (c : Ctx G adr n N X) (s : Scp X sc fl) : PTs X es (rdT X.K X.w (G.P.cl (G.P.call n)) rf t) := by
  match es, h with
  | [], h =>
    simp only [cF, Option.some.injEq] at h
    subst h
    exact ts_nil
  | [a], h =>
    simp only [cF] at h
    exact pts_one (ih.t h c s)
  | _ :: _ :: _, h => simp [cF] at h
theorem ss_p (ih : Snd G adr n N m) {sc : Scope} {e : Option Expr} {t : E} (h : cP G N (m + 1) sc e = some t) {X : Cx} {fl : Bool} {rf : List Bool} (c : Ctx G adr n N X) (s : Scp X sc fl) : Part X (G.P.cl (G.P.call n)) rf e t := by
  cases e with
  | none => simp only [cP, Option.some.injEq] at h; exact h.symm
  | some e =>
    simp only [cP] at h
    obtain ⟨t', h1, h⟩ := bs1 h
    split at h
    · cases h
    · rename_i hne
      cases h
      refine ⟨ih.e h1 c s, fun y => ?_⟩
      unfold partE
      split
      · exact (hne rfl).elim
      · rename_i i _
        rfl
      · rename_i h1 h2
        split
        · rename_i i _
          exact (h2 _ rfl).elim
        · rfl
theorem ss_l (ih : Snd G adr n N m) {sc : Scope} {elt tg iter : Expr} {ifs : List Expr} {scope : Scope} {t : E} (h : cL G N (m + 1) sc elt tg iter ifs scope = some t) {X : Cx} {fl : Bool} {rf : List Bool} (c : Ctx G adr n N X) (s : Scp X sc fl) : LcOk X (G.P.cl (G.P.call n)) rf elt tg iter ifs scope t := by
  simp only [cL] at h
  split at h
  · rename_i hc
    rw [Bool.and_eq_true] at hc
    obtain ⟨it, h1, h⟩ := bs1 h
    obtain ⟨t', h2, h⟩ := bs1 h
    obtain ⟨tc, h3, h⟩ := bs1 h
    obtain ⟨te, h4, h⟩ := bs1 h
    split at h
    · rename_i hsub
      cases h
      have ok := blkOk_by hc.1
      have sb := fun (sh : Shared) (H : Hp) (Cd : Addr) (cl : List (Str × Addr)) (fp : List Addr) => s.blk ok.kind sh H cl Cd fp
      refine ⟨ownOf N scope, it, t', tc, te, rfl, ih.i h1 c s, by rw [c.nn, s.sq]; exact ok, fun i hi => List.contains_iff_mem.mp (List.all_eq_true.mp hsub i hi), fun sh H Cd cl fp => ih.g h2 (c.blk sh H scope _ fp) (sb sh H Cd cl fp), fun sh H Cd cl fp => ih.f h3 (c.blk sh H scope _ fp) (sb sh H Cd cl fp), fun sh H Cd cl fp => ih.e h4 (c.blk sh H scope _ fp) (sb sh H Cd cl fp), unset_fold hc.2⟩
    · cases h
  · cases h
theorem LcOk.pe {X : Cx} {C : Cl} {rf : List Bool} {elt tg iter : Expr} {ifs : List Expr} {scope : Scope} {t : E} {pos : Pos} (h : LcOk X C rf elt tg iter ifs scope t) (hc : X.calm = true) (hN : X.N.Nodup) : PE X (.ListComp elt [⟨tg, iter, ifs, 0⟩] scope pos) (rdE X.K X.w C rf t) := by
  obtain ⟨own, it, t', tc, te, rfl, h1, h2, h3, h4, h5, h6, h7⟩ := h
  exact e_comp hc hN h1 h2 h3 h4 h5 h6 h7
theorem ss_g (ih : Snd G adr n N m) {sc : Scope} {fl : Bool} {e : Expr} {t : Tg} (h : cG G N (m + 1) sc fl e = some t) {X : Cx} {rf : List Bool} (c : Ctx G adr n N X) (s : Scp X sc fl) : PG X e (rdG X.K X.w X.N.length (G.P.cl (G.P.call n)) rf t) := by
  cases e with
  | Name x p =>
    simp only [cG] at h
    obtain ⟨i, h1, h⟩ := bs1 h
    split at h
    · rename_i hc
      cases h
      rw [Bool.or_eq_true, Bool.and_eq_true] at hc
      have hi : X.N[i]? = some x := by rw [c.nn]; exact slotOf_ok h1
      rcases hc with hc | ⟨hf, hc⟩
      · have hl : X.env.scope.names.lookup x = some .local := by rw [s.sq]; simpa using hc
        exact g_name c.nd hi (.inl hl) (.inr hl)
      · have hl : X.env.scope.names.lookup x = some .cell := by rw [s.sq]; simpa using hc
        exact g_name c.nd hi (.inr hl) (.inl (s.fn hf x))
    · cases h
  | Subscript a b p =>
    simp only [cG] at h
    split at h
    · rename_i hu
      obtain ⟨ta, h1, h⟩ := bs1 h
      obtain ⟨tb, h2, h⟩ := bs1 h
      cases h
      exact g_sub c.hu hu (ih.e h1 c s) (ih.e h2 c s)
    · cases h
  | Tuple es k p =>
    simp only [cG] at h
    split at h
    · rename_i hu
      obtain ⟨ts, h1, h⟩ := bs1 h
      cases h
      exact g_tup c.calm hu (fun ds ρ hw => (tgAs_len hw).trans (cGs_len h1)) (ih.gs h1 c s)
    · cases h
  | _ => simp [cG] at h
theorem ss_gs (ih : Snd G adr n N m) {sc : Scope} {fl : Bool} {es : List Expr} {ts : Tgs} (h : cGs G N (m + 1) sc fl es = some ts) {X : Cx} {rf : List Bool} (c : Ctx G adr n N X) (s : Scp X sc fl) : PGs X es (rdGs X.K X.w X.N.length (G.P.cl (G.P.call n)) rf ts) := by
  cases es with
  | nil => simp only [cGs, Option.some.injEq] at h; subst h; exact gs_nil
  | cons e es =>
    simp only [cGs] at h
    split at h
    · rename_i hs
      obtain ⟨t, h1, h⟩ := bs1 h
      obtain ⟨r, h2, h⟩ := bs1 h
      cases h
      exact gs_cons hs (ih.g h1 c s) (ih.gs h2 c s)
    · cases h
theorem ss_i (ih : Snd G adr n N m) {sc : Scope} {tg e : Expr} {t : I} (h : cI G N (m + 1) sc tg e = some t) {X : Cx} {fl : Bool} {rf : List Bool} (c : Ctx G adr n N X) (s : Scp X sc fl) : PI X tg e (rdI X.K X.w (G.P.cl (G.P.call n)) rf t) := by
  simp only [cI] at h
  split at h
  · rename_i it q
    cases h
    exact ih.ic q c s
  · split at h
    · obtain ⟨t', h1, h⟩ := bs1 h
      cases h
      exact i_val (ih.e h1 c s)
    · cases h
theorem isTup_of {e : Expr} (h : isTup e = true) : ∃ es k p, e = .Tuple es k p := by
  cases e <;> first | exact ⟨_, _, _, rfl⟩ | cases h
theorem ss_ic (ih : Snd G adr n N m) {sc : Scope} {tg e : Expr} {t : I} (h : cIc G N (m + 1) sc tg e = some t) {X : Cx} {fl : Bool} {rf : List Bool} (c : Ctx G adr n N X) (s : Scp X sc fl) : PI X tg e (rdI X.K X.w (G.P.cl (G.P.call n)) rf t) := by
  simp only [cIc] at h
  split at h
  rotate_left
  · cases h
  rename_i x p as pos
  split at h
  rotate_left
  · cases h
  rename_i hc
  simp only [Bool.and_eq_true] at hc
  obtain ⟨⟨⟨h1, h2⟩, h3⟩, h4⟩ := hc
  have hg : Gl X x := s.gl h2
  have hm : X.mg x = none := c.zs _ (List.contains_iff_mem.mp h3)
  split at h
  · rename_i ex
    subst ex
    match as, h4, h with
    | [a], h4, h =>
      obtain ⟨ta, q1, h⟩ := bs1 h
      cases h
      exact i_rng1 hg hm (by simpa using h4) (ih.e q1 c s)
    | [a, b], h4, h =>
      obtain ⟨ta, q1, h⟩ := bs1 h
      obtain ⟨tb, q2, h⟩ := bs1 h
      cases h
      simp only [List.all_cons, List.all_nil, Bool.and_true, Bool.and_eq_true] at h4
      exact i_rng2 hg hm h4.1 h4.2 (ih.e q1 c s) (ih.e q2 c s)
    | [a, b, d], h4, h =>
      obtain ⟨ta, q1, h⟩ := bs1 h
      obtain ⟨tb, q2, h⟩ := bs1 h
      obtain ⟨tc, q3, h⟩ := bs1 h
      cases h
      simp only [List.all_cons, List.all_nil, Bool.and_true, Bool.and_eq_true] at h4
      exact i_rng3 hg hm h4.1 h4.2.1 h4.2.2 (ih.e q1 c s) (ih.e q2 c s) (ih.e q3 c s)
    | [], h4, h => cases h
    | _ :: _ :: _ :: _ :: _, h4, h => cases h
  · split at h
    · rename_i ex
      subst ex
      split at h
      rotate_left
      · cases h
      rename_i ht
      obtain ⟨es, k, tp, rfl⟩ := isTup_of ht
      match as, h4, h with
      | [a], h4, h =>
        obtain ⟨ta, q1, h⟩ := bs1 h
        cases h
        exact i_enum hg hm (by simpa using h4) (ih.e q1 c s)
      | [], h4, h => cases h
      | _ :: _ :: _, h4, h => cases h
    · split at h
      · rename_i ex
        subst ex
        split at h
        rotate_left
        · cases h
        rename_i ht
        obtain ⟨es, k, tp, rfl⟩ := isTup_of ht
        match as, h4, h with
        | [a, b], h4, h =>
          obtain ⟨ta, q1, h⟩ := bs1 h
          obtain ⟨tb, q2, h⟩ := bs1 h
          cases h
          simp only [List.all_cons, List.all_nil, Bool.and_true, Bool.and_eq_true] at h4
          exact i_zip hg hm h4.1 h4.2 (ih.e q1 c s) (ih.e q2 c s)
        | [], h4, h => cases h
        | [_], h4, h => cases h
        | _ :: _ :: _ :: _, h4, h => cases h
      · cases h
theorem ss_t (ih : Snd G adr n N m) {sc : Scope} {e : Expr} {t : E} (h : cT G N (m + 1) sc e = some t) {X : Cx} {fl : Bool} {rf : List Bool} (c : Ctx G adr n N X) (s : Scp X sc fl) : PT X e (rdT X.K X.w (G.P.cl (G.P.call n)) rf t) := by
  have plain : plainTest e = true → ((cE G N m sc e).bind fun t => (match t with
      | .not _ => none
      | .and _ _ => none
      | .or _ _ => none
      | _ => some t)) = some t → PT X e (rdT X.K X.w (G.P.cl (G.P.call n)) rf t) := fun hp h => by
    obtain ⟨t', h1, h⟩ := bs1 h
    split at h <;> try contradiction
    rename_i n1 n2 n3
    cases h
    refine t_val c.hu hp (fun ρ => ?_) (ih.e h1 c s)
    cases t <;> first | (simp only [evT_eqs]; done) | exact (n1 _ rfl).elim | exact (n2 _ _ rfl).elim | exact (n3 _ _ rfl).elim
  cases e with
  | UnaryOp op a p =>
    simp only [cT] at h
    cases op with
    | Not =>
      obtain ⟨ta, h1, h⟩ := bs1 h
      cases h
      exact t_not (ih.t h1 c s)
    | _ => cases h
  | BoolOp op vs p =>
    simp only [cT] at h
    exact PW.pt (ih.w h c s)
  | Compare a ops bs p =>
    simp only [cT] at h
    split at h
    · split at h
      · rename_i hu
        obtain ⟨ta, h1, h⟩ := bs1 h
        obtain ⟨tb, h2, h⟩ := bs1 h
        cases h
        exact t_cmp c.hu hu (ih.e h1 c s) (ih.e h2 c s)
      · cases h
    · split at h
      · rename_i hu
        obtain ⟨ta, h1, h⟩ := bs1 h
        obtain ⟨tb, h2, h⟩ := bs1 h
        obtain ⟨tc, h3, h⟩ := bs1 h
        cases h
        exact t_chain c.hu hu (ih.e h1 c s) (ih.e h2 c s) (ih.e h3 c s)
      · cases h
    · cases h
  | IfExp a b d p =>
    simp only [cT] at h
    split at h
    · rename_i hp; cases hp
    · cases h
  | _ =>
    simp only [cT] at h
    split at h
    · rename_i hp; exact plain hp h
    · cases h
end
end Mp

set_option maxRecDepth 100000
set_option maxHeartbeats 4000000
/-! Calls, expressions, statements as a whole. -/
namespace Mp
open PySem PySem.Spec PyProof.Rows L2

section
variable {G : Gi} {adr : Str → Addr × FuncData} {n : Nat} {N : List Str} {m : Nat}
theorem lrOf_some {zs : List Str} {sc : Scope} {x : Str} {as : List Expr} {ks : List Keyword} {bs : List Expr} (h : lrOf zs sc x as ks = some bs) : x = "list" ∧ ks = [] ∧ (∃ p q, as = [.Call (.Name "range" p) bs [] q]) ∧ glB sc "range" = true ∧ zs.contains "list" = true ∧ zs.contains "range" = true ∧ bs.all unstar = true := by
  unfold lrOf at h
  split at h
  · split at h
    · rename_i hc
      cases h
      obtain ⟨h1, h2, h3, h4, h5, h6⟩ := hc
      subst h1 h2
      exact ⟨rfl, rfl, ⟨_, _, rfl⟩, h3, h4, h5, h6⟩
    · cases h
  · cases h
theorem ss_c (ih : Snd G adr n N m) {sc : Scope} {x : Str} {as : List Expr} {ks : List Keyword} {t : E} (h : cC G N (m + 1) sc x as ks = some t) (hx : okNm x = true) (hgl : glB sc x = true) {X : Cx} {fl : Bool} {rf : List Bool} {p pos : Pos} (c : Ctx G adr n N X) (s : Scp X sc fl) :
    PE X (.Call (.Name x p) as ks pos) (rdE X.K X.w (G.P.cl (G.P.call n)) rf t) := by
  obtain ⟨x1, x2, x3⟩ := okNm_ok hx
  have hg := s.gl hgl
  simp only [cC] at h
  split at h
  · rename_i ex
    subst ex
    split at h
    · rename_i a ty
      split at h
      · rename_i hc
        rw [Bool.and_eq_true] at hc
        have hm : X.mg "isinstance" = none := c.zs _ (List.contains_iff_mem.mp hc.2)
        obtain ⟨ta, h1, h⟩ := bs1 h
        split at h
        · obtain ⟨ts, h2, h⟩ := bs1 h
          split at h
          · rename_i hl
            cases h
            refine e_isiT hg hm hc.1 (ih.e h1 c s) (tyEs_ok c s h2) ?_
            have := of_decide_eq_true hl
            rw [sizeLine_eq]
            omega
          · cases h
        · obtain ⟨t', h2, h⟩ := bs1 h
          cases h
          exact e_isi1 hg hm hc.1 (ih.e h1 c s) (tyE_ok c s h2)
      · cases h
    · cases h
  · split at h
    · rename_i bs hl
      obtain ⟨rfl, rfl, ⟨p2, q2, rfl⟩, g1, g2, g3, g4⟩ := lrOf_some hl
      have hm : X.mg "list" = none := c.zs _ (List.contains_iff_mem.mp g2)
      have hm2 : X.mg "range" = none := c.zs _ (List.contains_iff_mem.mp g3)
      have hg2 := s.gl g1
      match bs, g4, h with
      | [a], g4, h =>
        obtain ⟨ta, q1, h⟩ := bs1 h
        cases h
        exact e_lof1 c.calm hg hm hg2 hm2 (by simpa using g4) (ih.e q1 c s)
      | [a, b], g4, h =>
        obtain ⟨ta, q1, h⟩ := bs1 h
        obtain ⟨tb, q3, h⟩ := bs1 h
        cases h
        simp only [List.all_cons, List.all_nil, Bool.and_true, Bool.and_eq_true] at g4
        exact e_lof2 c.calm hg hm hg2 hm2 g4.1 g4.2 (ih.e q1 c s) (ih.e q3 c s)
      | [], g4, h => cases h
      | _ :: _ :: _ :: _, g4, h => cases h
    · split at h
      · rename_i fn hfn
        obtain ⟨f1, f2, f3, f4⟩ := c.fns _ _ hfn
        split at h
        · split at h
          · rename_i hc
            rw [Bool.and_eq_true] at hc
            obtain ⟨ts, h1, h⟩ := bs1 h
            cases h
            obtain ⟨l1, l2⟩ := cEs_len h1
            obtain ⟨dsv, dvs, b1, b2, b3⟩ := c.pos _ _ (List.contains_iff_mem.mp hc.1) fn hfn
            cases as with
            | nil =>
              have e0 : ts = .nil := by
                cases m with
                | zero => simp [cEs] at h1
                | succ m => simp only [cEs, Option.some.injEq] at h1; exact h1.symm
              subst e0
              exact e_call0 hfn f4 c.room c.gd hg f1 f2 x1 b1 b2 b3
            | cons e es => exact e_call hfn f4 c.room c.gd hg f1 f2 x1 b1 b2 (by rw [l1]; exact b3) l2 (ih.es h1 c s)
          · cases h
        · rename_i k kr
          obtain ⟨nm, h0, h⟩ := bs1 h
          split at h
          · rename_i hc
            rw [Bool.and_eq_true] at hc
            obtain ⟨ts, h1, h⟩ := bs1 h
            obtain ⟨tks, h2, h⟩ := bs1 h
            cases h
            obtain ⟨l1, l2⟩ := cEs_len h1
            have l3 := cK_len h2
            have l4 := kwNames_len h0
            cases nm with
            | nil => simp at l4
            | cons y ys =>
              have kb := c.key _ _ _ _ (List.contains_iff_mem.mp hc.1) fn hfn
              cases as with
              | nil =>
                have e0 : ts = .nil := by
                  cases m with
                  | zero => simp [cEs] at h1
                  | succ m => simp only [cEs, Option.some.injEq] at h1; exact h1.symm
                subst e0
                exact e_callk0 hfn f4 c.room c.gd hg f1 f2 x1 f3 kb h0 (l4.trans l3.symm) (ih.k h2 c s)
              | cons e es => exact e_callk hfn f4 c.room c.gd hg f1 f2 x1 f3 (by rw [l1]; exact kb) h0 (l4.trans l3.symm) l2 (ih.es h1 c s) (ih.k h2 c s)
          · cases h
      · split at h
        · split at h
          · rename_i hc
            rw [Bool.and_eq_true, Bool.and_eq_true] at hc
            obtain ⟨f, h1, h⟩ := bs1 h
            obtain ⟨ts, h2, h⟩ := bs1 h
            cases h
            obtain ⟨l1, l2⟩ := cEs_len h2
            obtain ⟨b1, b2, b3⟩ := blt_ok c h1
            have hm : X.mg x = none := c.zs _ (List.contains_iff_mem.mp hc.1.1)
            cases as with
            | nil => simp at hc
            | cons e es =>
              rcases b3 with ⟨id, b3⟩ | ⟨id, b3⟩
              · exact e_bltB b3 b1 hg hm (by rw [← b3]; exact b2) x3 x1 l2 (ih.es h2 c s)
              · exact e_bltT b3 b1 hg hm (by rw [← b3]; exact b2) x3 x1 l2 (ih.es h2 c s)
          · cases h
        · cases h
theorem ss_m (ih : Snd G adr n N m) {sc : Scope} {o : Expr} {name : Str} {as : List Expr} {q : Mth} {to : E} {ts : Es} {apos cpos : Pos} {X : Cx} {fl : Bool} {rf : List Bool} (c : Ctx G adr n N X) (s : Scp X sc fl) (hq : mthOf name as.length = some q) (ho : cE G N m sc o = some to) (ha : cEs G N m sc as = some ts) (hob : unsuper o = true) (hl : as.length < 30) (hline : (apos.endLine == cpos.line) = true) :
    PE X (.Call (.Attribute o name apos) as [] cpos) (rdE X.K X.w (G.P.cl (G.P.call n)) rf (.mth q to ts)) := by
  obtain ⟨l1, l2⟩ := cEs_len ha
  have po := ih.e ho c s (rf := rf)
  have pa := ih.es ha c s (rf := rf)
  have hm := lookup_mem hq
  simp only [mthTab, List.mem_cons, Prod.mk.injEq, List.not_mem_nil, or_false] at hm
  rcases hm with ⟨⟨rfl, hn⟩, rfl⟩ | ⟨⟨rfl, hn⟩, rfl⟩ | ⟨⟨rfl, hn⟩, rfl⟩ | ⟨⟨rfl, hn⟩, rfl⟩ | ⟨⟨rfl, hn⟩, rfl⟩
  · match as, hn with
    | [a], _ => exact e_mut1 rfl (by decide) F.plainAttrs_list F.slot_list_append F.type_list_append m_append hob l2 hl hline po pa
  · match as, hn with
    | [a], _ => exact e_mut1 rfl (by decide) F.plainAttrs_list F.slot_list_extend F.type_list_extend m_extend hob l2 hl hline po pa
  · match as, hn with
    | [], _ =>
      have e0 : ts = .nil := by
        cases m with
        | zero => simp [cEs] at ha
        | succ m => simp only [cEs, Option.some.injEq] at ha; exact ha.symm
      subst e0
      exact e_mut0 rfl (by decide) F.plainAttrs_list F.slot_list_pop F.type_list_pop m_pop hob hline po
  · match as, hn with
    | [a], _ => exact e_mut1 rfl (by decide) F.plainAttrs_list F.slot_list_pop F.type_list_pop m_popAt hob l2 hl hline po pa
  · match as, hn with
    | [a], _ => exact e_mth1 rfl F.plainAttrs_list F.slot_list_index F.type_list_index (m_index c.hu1) hob l2 hl hline po pa
theorem ss_e (ih : Snd G adr n N m) {sc : Scope} {e : Expr} {t : E} (h : cE G N (m + 1) sc e = some t) {X : Cx} {fl : Bool} {rf : List Bool} (c : Ctx G adr n N X) (s : Scp X sc fl) : PE X e (rdE X.K X.w (G.P.cl (G.P.call n)) rf t) := by
  cases e with
  | Constant k q p =>
    simp only [cE] at h
    obtain ⟨d, h1, h2⟩ := Option.map_eq_some_iff.mp h
    subst h2
    exact e_const h1
  | Name x p =>
    simp only [cE] at h
    split at h
    rotate_left
    · cases h
    rename_i hx
    obtain ⟨x1, x2, x3⟩ := okNm_ok hx
    split at h
    · rename_i i hi
      split at h
      · rename_i hv
        cases h
        exact e_var (by rw [c.nn]; exact slotOf_ok hi) (by rw [s.sq]; exact visB_ok hv) x1 x2
      · cases h
    · split at h
      · rename_i hc
        cases h
        rw [Bool.and_eq_true] at hc
        obtain ⟨d, hd⟩ := Option.isSome_iff_exists.mp hc.2
        obtain ⟨v, u, g1, g2, g3⟩ := c.globs _ _ hd
        exact e_glob (s.gl hc.1) g1 g2 g3 hd x1
      · cases h
  | BinOp a op b p =>
    simp only [cE] at h
    obtain ⟨ta, h1, h⟩ := bs1 h
    obtain ⟨tb, h2, h⟩ := bs1 h
    cases h
    exact e_bin (ih.e h1 c s) (ih.e h2 c s)
  | UnaryOp op a p =>
    simp only [cE] at h
    cases op with
    | Not =>
      obtain ⟨ta, h1, h⟩ := bs1 h
      cases h
      exact e_not c.hu (ih.e h1 c s)
    | USub =>
      obtain ⟨ta, h1, h⟩ := bs1 h
      cases h
      exact e_neg (ih.e h1 c s)
    | _ => cases h
  | BoolOp op vs p =>
    simp only [cE] at h
    exact ih.b h c s
  | Compare a ops bs p =>
    simp only [cE] at h
    split at h
    · split at h
      · rename_i hu
        obtain ⟨ta, h1, h⟩ := bs1 h
        obtain ⟨tb, h2, h⟩ := bs1 h
        cases h
        exact e_cmp c.hu hu (ih.e h1 c s) (ih.e h2 c s)
      · cases h
    · split at h
      · rename_i hu
        obtain ⟨ta, h1, h⟩ := bs1 h
        obtain ⟨tb, h2, h⟩ := bs1 h
        obtain ⟨tc, h3, h⟩ := bs1 h
        cases h
        exact e_chain c.hu hu (ih.e h1 c s) (ih.e h2 c s) (ih.e h3 c s)
      · cases h
    · cases h
  | IfExp a b d p =>
    simp only [cE] at h
    obtain ⟨tc, h1, h⟩ := bs1 h
    obtain ⟨ta, h2, h⟩ := bs1 h
    obtain ⟨tb, h3, h⟩ := bs1 h
    cases h
    exact e_ite (ih.t h1 c s) (ih.e h2 c s) (ih.e h3 c s)
  | Tuple es k p =>
    simp only [cE] at h
    obtain ⟨ts, h1, h⟩ := bs1 h
    cases h
    exact e_tup (ih.es h1 c s)
  | List es p =>
    simp only [cE] at h
    obtain ⟨ts, h1, h⟩ := bs1 h
    cases h
    exact e_lst (ih.es h1 c s)
  | Dict ks vs p =>
    simp only [cE] at h
    split at h
    · cases h
      exact e_dct0
    · cases h
  | Subscript a b p =>
    simp only [cE] at h
    split at h
    · obtain ⟨ta, h1, h⟩ := bs1 h
      cases h
      exact e_rev (ih.e h1 c s)
    · obtain ⟨ta, h1, h⟩ := bs1 h
      obtain ⟨tl, h2, h⟩ := bs1 h
      obtain ⟨th, h3, h⟩ := bs1 h
      cases h
      exact e_slc (ih.e h1 c s) (ih.p h2 c s) (ih.p h3 c s)
    · cases h
    · rename_i hn1 hn2 hn3
      obtain ⟨ta, h1, h⟩ := bs1 h
      obtain ⟨tb, h2, h⟩ := bs1 h
      cases h
      refine e_idx ?_ (ix_all c.hu) (ih.e h1 c s) (ih.e h2 c s)
      cases b <;> first | rfl | (exfalso; exact hn3 _ _ _ _ rfl)
  | Call f as ks p =>
    simp only [cE] at h
    split at h
    · split at h
      · rename_i hc
        rw [Bool.and_eq_true] at hc
        exact ih.c h hc.1 hc.2 c s
      · cases h
    · split at h
      · split at h
        · rename_i hc
          simp only [Bool.and_eq_true, decide_eq_true_eq] at hc
          obtain ⟨⟨⟨c1, c2⟩, c3⟩, c4⟩ := hc
          obtain ⟨q, h1, h⟩ := bs1 h
          obtain ⟨to, h2, h⟩ := bs1 h
          obtain ⟨ts, h3, h⟩ := bs1 h
          cases h
          exact ss_m ih c s h1 h2 h3 c1 c3 (by simpa using c4)
        · cases h
      · cases h
    · cases h
  | ListComp elt gs scope p =>
    simp only [cE] at h
    split at h
    · split at h
      · rename_i ha
        subst ha
        exact (ih.l h c s).pe c.calm c.nd
      · cases h
    · cases h
  | _ => simp [cE] at h
theorem sndS (ih : Snd G adr n N m) : Snd G adr n N (m + 1) where
  e := by intro _ _ _ h _ _ _ c s; exact ss_e ih h c s
  l := by intro _ _ _ _ _ _ _ h _ _ _ c s; exact ss_l ih h c s
  f := by intro _ _ _ h _ _ _ c s; exact ss_f ih h c s
  b := by intro _ _ _ _ h _ _ _ _ c s; exact ss_b ih h c s
  t := by intro _ _ _ h _ _ _ c s; exact ss_t ih h c s
  w := by intro _ _ _ _ h _ _ _ _ c s; exact ss_w ih h c s
  p := by intro _ _ _ h _ _ _ c s; exact ss_p ih h c s
  es := by intro _ _ _ h _ _ _ c s; exact ss_es ih h c s
  k := by intro _ _ _ h _ _ _ c s; exact ss_k ih h c s
  c := by intro _ _ _ _ _ h h1 h2 _ _ _ _ _ c s; exact ss_c ih h h1 h2 c s
  i := by intro _ _ _ _ h _ _ _ c s; exact ss_i ih h c s
  ic := by intro _ _ _ _ h _ _ _ c s; exact ss_ic ih h c s
  g := by intro _ _ _ _ h _ _ c s; exact ss_g ih h c s
  gs := by intro _ _ _ _ h _ _ c s; exact ss_gs ih h c s
theorem snd_all (G : Gi) (adr : Str → Addr × FuncData) (n : Nat) (N : List Str) : ∀ m, Snd G adr n N m
  | 0 => snd0
  | m + 1 => sndS (snd_all G adr n N m)
/-! ### statements -/
theorem parNames_eq {sc : Scope} {X : Cx} (h : X.env.scope = sc) (ts : List Expr) : parNames X.env.scope ts = parNames sc ts := by rw [h]
structure SndS (G : Gi) (adr : Str → Addr × FuncData) (n : Nat) (N : List Str) (m : Nat) : Prop where
  s : ∀ {sc st t}, cS G N m sc st = some t → ∀ {X rf}, Ctx G adr n N X → Scp X sc true → PS X st (rdS X.K X.w X.N.length (G.P.cl (G.P.call n)) rf t)
  a : ∀ {sc tg e pos t}, cA G N m sc tg e pos = some t → ∀ {X rf}, Ctx G adr n N X → Scp X sc true → PS X (.Assign [tg] e pos) (rdS X.K X.w X.N.length (G.P.cl (G.P.call n)) rf t)
  as : ∀ {sc tg e pos t}, cAs G N m sc tg e pos = some t → ∀ {X rf}, Ctx G adr n N X → Scp X sc true → PS X (.Assign [tg] e pos) (rdS X.K X.w X.N.length (G.P.cl (G.P.call n)) rf t)
  ss : ∀ {sc st t}, cSs G N m sc st = some t → ∀ {X rf}, Ctx G adr n N X → Scp X sc true → PSs X st (rdSs X.K X.w X.N.length (G.P.cl (G.P.call n)) rf t)
theorem st_as {sc : Scope} {tg e : Expr} {pos : Pos} {t : S} (h : cAs G N (m + 1) sc tg e pos = some t) {X : Cx} {rf : List Bool} (c : Ctx G adr n N X) (s : Scp X sc true) : PS X (.Assign [tg] e pos) (rdS X.K X.w X.N.length (G.P.cl (G.P.call n)) rf t) := by
  have ih := snd_all G adr n N m
  simp only [cAs] at h
  split at h
  rotate_left
  · cases h
  rename_i hc
  simp only [Bool.and_eq_true, Bool.or_eq_true] at hc
  obtain ⟨⟨c1, c2⟩, c3⟩ := hc
  obtain ⟨te, h1, h⟩ := bs1 h
  obtain ⟨t', h2, h⟩ := bs1 h
  cases h
  refine s_asg (unlc_swaps c1) ?_ c2 (ih.e h1 c s) (ih.g h2 c s)
  rcases c3 with (c3 | c3) | c3
  · exact untup_stores c3
  · exact untup_stores' c3
  · unfold parB at c3
    split at c3
    · exact parNo_stores (by rw [s.sq]; exact c3)
    · cases c3
theorem st_a (ih : SndS G adr n N m) {sc : Scope} {tg e : Expr} {pos : Pos} {t : S} (h : cA G N (m + 1) sc tg e pos = some t) {X : Cx} {rf : List Bool} (c : Ctx G adr n N X) (s : Scp X sc true) : PS X (.Assign [tg] e pos) (rdS X.K X.w X.N.length (G.P.cl (G.P.call n)) rf t) := by
  have ie := snd_all G adr n N m
  have at_ : ∀ {x : Str} {i : Nat}, slotOf N x = some i → X.N[i]? = some x := fun h => by rw [c.nn]; exact slotOf_ok h
  have lc : ∀ {x : Str}, (sc.names.lookup x == some NameKind.local) = true → X.env.scope.names.lookup x = some .local := fun h => by rw [s.sq]; simpa using h
  simp only [cA] at h
  split at h
  · split at h
    · rename_i i j hi hj
      split at h
      · rename_i hc
        simp only [Bool.and_eq_true, Bool.not_eq_true'] at hc
        obtain ⟨⟨⟨⟨c1, c2⟩, c3⟩, c4⟩, c5⟩ := hc
        obtain ⟨ts, h1, h⟩ := bs1 h
        cases h
        refine s_par2 c.calm c.nd (at_ hi) (at_ hj) (by simpa using c5) (lc c3) (lc c4) (by rw [s.sq]; exact s.kind) (by rw [s.sq]; exact c1) (by rw [s.sq]; simpa using c2) (ie.es h1 c s)
      · exact ih.as h c s
    · cases h
  · split at h
    · rename_i i j l hi hj hl
      split at h
      · rename_i hc
        simp only [Bool.and_eq_true, Bool.not_eq_true'] at hc
        obtain ⟨⟨⟨⟨⟨⟨⟨c1, c2⟩, c3⟩, c4⟩, c5⟩, c6⟩, c7⟩, c8⟩ := hc
        obtain ⟨ts, h1, h⟩ := bs1 h
        cases h
        refine s_par3 c.calm c.nd (at_ hi) (at_ hj) (at_ hl) (by simpa using c6) (by simpa using c7) (by simpa using c8) (lc c3) (lc c4) (lc c5) (by rw [s.sq]; exact s.kind) (by rw [s.sq]; exact c1) (by rw [s.sq]; simpa using c2) (ie.es h1 c s)
      · exact ih.as h c s
    · cases h
  · obtain ⟨i, hi, h⟩ := bs1 h
    split at h
    · rename_i hc
      simp only [Bool.and_eq_true, Bool.not_eq_true', decide_eq_true_eq] at hc
      obtain ⟨⟨⟨c1, c2⟩, c3⟩, c4⟩ := hc
      obtain ⟨t', h1, h⟩ := bs1 h
      cases h
      subst c1
      obtain ⟨own, it, tt, tc, te, rfl, k1, k2, k3, k4, k5, k6, k7⟩ := ie.l h1 c s (rf := rf)
      exact s_setLc c.calm c.nd (at_ hi) (lc c2) (by rw [s.sq]; exact s.kind) c3 c4 k1 k2 k3 k4 k5 k6 k7
    · cases h
  · exact ih.as h c s
theorem st_s (ih : SndS G adr n N m) {sc : Scope} {st : Stmt} {t : S} (h : cS G N (m + 1) sc st = some t) {X : Cx} {rf : List Bool} (c : Ctx G adr n N X) (s : Scp X sc true) : PS X st (rdS X.K X.w X.N.length (G.P.cl (G.P.call n)) rf t) := by
  have ie := snd_all G adr n N m
  have hp : PassesOwn (model X.prog X.w) X.A X.env X.xe := by rw [c.xe]; exact PassesOwn.never
  cases st with
  | Assign ts e pos =>
    simp only [cS] at h
    split at h
    · exact ih.a h c s
    · cases h
  | Expr e pos =>
    simp only [cS] at h
    split at h
    · cases h
      exact s_doc
    · split at h
      · rename_i hu
        obtain ⟨t', h1, h⟩ := bs1 h
        cases h
        exact s_expr hu (ie.e h1 c s)
      · cases h
  | Return e pos =>
    simp only [cS] at h
    cases e with
    | none => cases h; exact s_retN
    | some e =>
      obtain ⟨t', h1, h⟩ := bs1 h
      cases h
      exact s_ret (ie.e h1 c s)
  | If a b d pos =>
    simp only [cS] at h
    obtain ⟨tc, h1, h⟩ := bs1 h
    obtain ⟨ta, h2, h⟩ := bs1 h
    obtain ⟨tb, h3, h⟩ := bs1 h
    cases h
    exact s_ite (ie.t h1 c s) (ih.ss h2 c s) (ih.ss h3 c s)
  | For tg it b els pos =>
    simp only [cS] at h
    split at h
    · split at h
      · rename_i hu
        obtain ⟨i, h1, h⟩ := bs1 h
        obtain ⟨t', h2, h⟩ := bs1 h
        obtain ⟨tb, h3, h⟩ := bs1 h
        cases h
        exact s_for hp c.calm (ie.i h1 c s) (ie.g h2 c s) (ih.ss h3 c s) (unset_fold hu)
      · cases h
    · cases h
  | While a b els pos =>
    simp only [cS] at h
    split at h
    · obtain ⟨tc, h1, h⟩ := bs1 h
      obtain ⟨tb, h3, h⟩ := bs1 h
      cases h
      exact s_while hp (ie.t h1 c s) (ih.ss h3 c s)
    · cases h
  | Raise e f pos =>
    simp only [cS] at h
    split at h
    · obtain ⟨ts, h1, h⟩ := bs1 h
      cases h
      exact s_raise
    · cases h
  | Pass pos => simp only [cS, Option.some.injEq] at h; subst h; exact s_pass
  | Break pos => simp only [cS, Option.some.injEq] at h; subst h; exact s_brk
  | Continue pos => simp only [cS, Option.some.injEq] at h; subst h; exact s_cont
  | _ => simp [cS] at h
theorem st_ss (ih : SndS G adr n N m) {sc : Scope} {st : List Stmt} {t : Ss} (h : cSs G N (m + 1) sc st = some t) {X : Cx} {rf : List Bool} (c : Ctx G adr n N X) (s : Scp X sc true) : PSs X st (rdSs X.K X.w X.N.length (G.P.cl (G.P.call n)) rf t) := by
  cases st with
  | nil => simp only [cSs, Option.some.injEq] at h; subst h; exact ss_nil
  | cons a b =>
    simp only [cSs] at h
    obtain ⟨t', h1, h⟩ := bs1 h
    obtain ⟨ts, h2, h⟩ := bs1 h
    cases h
    exact ss_cons (ih.s h1 c s) (ih.ss h2 c s)
theorem sndS_all (G : Gi) (adr : Str → Addr × FuncData) (n : Nat) (N : List Str) : ∀ m, SndS G adr n N m
  | 0 => by constructor <;> intros <;> simp_all [cS, cA, cAs, cSs]
  | m + 1 => ⟨by intro _ _ _ h _ _ c s; exact st_s (sndS_all G adr n N m) h c s, by intro _ _ _ _ _ h _ _ c s; exact st_a (sndS_all G adr n N m) h c s, by intro _ _ _ _ _ h _ _ c s; exact st_as h c s, by intro _ _ _ h _ _ c s; exact st_ss (sndS_all G adr n N m) h c s⟩
end
end Mp

set_option maxRecDepth 100000
set_option maxHeartbeats 4000000
/-! The program as a whole; the law's call. -/
namespace Mp
open PySem PySem.Spec PyProof.Rows L2

/-- a def of the text: its name, where it stands, the names that it stores -/
structure Df where
  x : Str
  st : Stmt
  N : List Str
structure DfOk (G : Gi) (d : Df) (fn : Fn) : Prop where
  isFn : G.P.fn d.x = some fn
  sc : FnScope d.N fn.ps (defScope d.st)
  slots : d.N.length = fn.slots
  refs : fn.ps.length = fn.refs.length
  body : cSs G d.N 60 (defScope d.st) (defBody d.st) = some fn.body
/-- a default as a value -/
def dV : D → V
  | .int i => .int i
  | .bl b => .bl b
  | .str s => .str s
  | _ => .non
theorem dV_rp {K : PySem.W.Frag} {w : World} {F : Hp} : ∀ {ds : List D}, (∀ d ∈ ds, d = .non ∨ (∃ i, d = .int i) ∨ (∃ b, d = .bl b) ∨ ∃ s, d = .str s) → Rps K w F (ds.map dV) ds
  | [], _ => .nil
  | d :: ds, h => .cons (by
      rcases h d List.mem_cons_self with rfl | ⟨i, rfl⟩ | ⟨b, rfl⟩ | ⟨s, rfl⟩
      · exact .non
      · exact .int i
      · exact .bl b
      · exact .str s) (dV_rp fun d hd => h d (List.mem_cons_of_mem _ hd))
abbrev FnAt (K : PySem.W.Frag) (d : Df) (fn : Fn) (f : Addr) (fd : FuncData) : Prop := FunD K d.x d.x (defArgs d.st) (defBody d.st) (defScope d.st) (fn.dfl.map dV) [] f fd
/-- what stands behind the top -/
structure Top (G : Gi) (adr : Str → Addr × FuncData) (K : PySem.W.Frag) (w : World) (mg : Str → Option Value) : Prop where
  zs : ∀ z ∈ G.zs, mg z = none
  globs : ∀ x d, G.P.globs.lookup x = some d → ∃ v u, mg x = some u ∧ RelV v u ∧ ∀ F, Rp K w F v d
  fns : ∀ x fn, G.P.fn x = some fn → mg x = some (.ref (adr x).1) ∧ ∃ d : Df, d.x = x ∧ DfOk G d fn ∧ FnAt K d fn (adr x).1 (adr x).2
  pos : ∀ x m, (x, m, ([] : List Str)) ∈ G.shapes → ∀ fn, G.P.fn x = some fn → ∃ dsv dvs, Binds K (adr x).2 fn.ps dsv ∧ Vals dvs dsv ∧ ∀ F, Rps K w F dvs (fn.dfl.drop (fn.dfl.length - (fn.refs.length - m)))
  key : ∀ x m k ks, (x, m, k :: ks) ∈ G.shapes → ∀ fn, G.P.fn x = some fn → KB K (adr x).2 fn.ps m (k :: ks)
theorem all_ok {G : Gi} {adr : Str → Addr × FuncData} {P : Program} {w : World} {K : PySem.W.Frag} {mg : Str → Option Value} {base : Heap} (T : Top G adr K w mg) :
    ∀ (n : Nat) (x : Str) (fn : Fn), G.P.fn x = some fn → GOk P w K mg base n (adr x).1 (adr x).2 fn.ps (spD K w (G.P.call n x) fn.refs)
  | 0, x, fn, hf => by
    obtain ⟨_, d, _, ok, _⟩ := T.fns x fn hf
    exact ⟨fun vs H Q ⟨_, _, _, _, _, l, _⟩ => l.trans ok.refs.symm, fun A around s H given us vs Q _ _ _ _ _ ⟨_, _, _, _, _, _, _, _, e, _⟩ => nomatch (show CR.bad = CR.ok _ _ _ from e)⟩
  | n + 1, x, fn, hf => by
    obtain ⟨hm, d, hx, ok, F⟩ := T.fns x fn hf
    subst hx
    obtain ⟨⟨v1, a1, v2, v3, v4, v5, a2, v6, v7, sl, e, look, code, _, _⟩, kp⟩ := F
    rw [e]
    rw [e] at look
    have er : G.P.call (n + 1) d.x = runFn (G.P.cl (G.P.call n)) fn := by
      funext ds
      show (match G.P.fn d.x with | none => CR.bad | some fn => runFn (G.P.cl (G.P.call n)) fn ds) = _
      rw [hf]
    rw [er]
    refine def_ok look code ok.sc ok.slots ok.refs fun A around s H room gd => ?_
    refine (sndS_all G adr n d.N 60).ss ok.body ⟨rfl, ok.sc.nd, rfl, room, gd, rfl, T.zs, T.globs, fun y fn' hf' => ?_, T.pos, T.key⟩ ⟨rfl, ok.sc.kind, fun _ _ => rfl⟩
    obtain ⟨hm', d', hx', ok', F'⟩ := T.fns y fn' hf'
    exact ⟨hm', F'.kp, ok'.refs, all_ok T n y fn' hf'⟩

/-! ### the law's call -/
theorem lawG {P : Program} {w : World} {K : PySem.W.Frag} {mg mb : Str → Option Value} {k : Nat} {fa a : Addr} {fd : FuncData} {x : Str} {sp : List V → Hp → VK → Prop} {s : Shared} {vs : List Value} {ns : List Int}
    (inK : K.In s.heap) (g1 : s.heap.Ns mainGlobals mg) (g2 : s.heap.Ns builtinsNs mb) (g3 : ∀ x : Str, x ≠ "__name__" → mb x = bootBuiltins x) (lim : s.heap.NoLimit) (gens : s.gens = #[])
    (ha : s.heap.get? a = some { cls := .type "list", data := .seq vs.toArray }) (hi : IntsAre vs ns) (hl : ns.length ≤ sizeLine) (room : Room k callerA)
    (F : ∀ base : Heap, K.In base → base.Ns mainGlobals mg → GOk P w K mg base k fa fd [x] sp) (bind1 : ∀ (s : Shared) (u : Value), BindsTo s fd ⟨[u], []⟩ [(x, u)])
    (hsp : ∀ H : Hp, SqL K H a (ns.map V.int) → sp [.ref a] H fun v _ => v = .bl true) :
    codeAny (model P w) callerA (.call (.ref fa) ⟨[.ref a], []⟩) (fun r s' => r = .ok (.ret (.bool true)) ∧ OldK s.heap s'.heap ∧ s'.os = s.os ∧ AllBare s'.gens) s := by
  have rel := vals_ints hi
  have lenV := hi.length
  -- T: the script may be tracked; otherwise nothing is
  have main : ∀ H : Hp, (∀ b, H b ≠ none → b = a ∧ ∃ o xs, H b = some (.frz o (.lst xs))) → (H a ≠ none → K.lookup a = none) → SqL K H a (ns.map V.int) → HOk P w H s.heap →
      codeAny (model P w) callerA (.call (.ref fa) ⟨[.ref a], []⟩) (fun r s' => r = .ok (.ret (.bool true)) ∧ OldK s.heap s'.heap ∧ s'.os = s.os ∧ AllBare s'.gens) s := by
    intro H one noK hS hok
    have untr : ∀ {b : Addr} {o : Obj}, s.heap.get? b = some o → (∀ es ep, o.data ≠ .dict es ep) ∨ H b = none := fun {b o} e => by
      by_cases z : H b = none
      · exact .inr z
      · refine .inl fun es ep q => ?_
        obtain ⟨rfl, _⟩ := one b z
        rw [ha] at e
        cases e
        cases q
    have nsk : ∀ {b : Addr} {m : Str → Option Value}, s.heap.Ns b m → (hidT s.heap H).Ns b m := fun {b m} ⟨o, es, ep, e, q, r⟩ => ⟨o, es, ep, hidT_get e ((untr e).resolve_left fun z => z es ep q), q, r⟩
    have inB : K.In (hidT s.heap H) := fun b o e => hidT_get (inK b o e) (by
      by_cases z : H b = none
      · exact z
      · obtain ⟨rfl, _⟩ := one b z
        rw [noK z] at e
        cases e)
    have md : Mod K mg (hidT s.heap H) := ⟨inB, nsk g1, ⟨mb, nsk g2, g3⟩, let ⟨mc, l1, l2⟩ := lim; ⟨mc, nsk l1, l2⟩⟩
    have en : Env0 P w K mg (hidT s.heap H) callerA [] s H := ⟨rfl, md, fun b o e => of_hidT e, Nat.le_of_eq (hidT_size _ _), trivial, fun b z => absurd z List.not_mem_nil, hok, .of_eq gens⟩
    have runs := (F _ inB (nsk g1)).run callerA [] s H ⟨[.ref a], []⟩ [.ref a] [.ref a] _ room rfl en (bind1 s (.ref a)) (.cons rfl .nil) (hsp H hS)
    refine codeAny_mono runs fun r s' q => ?_
    match r, q with
    | .error _, q => exact q.elim
    | .ok .next, q => exact q.elim
    | .ok .brk, q => exact q.elim
    | .ok .cont, q => exact q.elim
    | .ok (.ret u), ⟨v, H', os, bare, un, hok', rv, q⟩ =>
      have ev : v = .bl true := q
      subst ev
      have eu : u = Value.bool true := rv
      subst eu
      refine ⟨rfl, OldK.of_keep fun b o e => ?_, os, bare⟩
      by_cases z : H b = none
      · exact un.keep b o e z (fun z => absurd z List.not_mem_nil) List.not_mem_nil
      · obtain ⟨_, ob, xs, z2⟩ := one b z
        obtain ⟨e1, _⟩ := hok b _ z2
        obtain ⟨e2, _⟩ := hok' b _ (un.frzs b ob _ z2)
        rw [e] at e1
        cases e1
        exact e2
  cases hk : K.lookup a with
  | some o =>
    have e := inK a o hk
    rw [ha] at e
    cases e
    exact main (fun _ => none) (fun b z => absurd rfl z) (fun z => absurd rfl z) (.inr ⟨_, vs.toArray, _, hk, rfl, rfl, rfl, by rw [List.size_toArray, lenV]; exact hl, by simpa using rel⟩) fun b u z => nomatch (show (none : Option HO) = some u from z)
  | none =>
    let H1 : Hp := fun b => if b = a then some (HO.frz { cls := .type "list", data := .seq vs.toArray } (.lst (ns.map V.int))) else none
    have at_ : H1 a = some (.frz { cls := .type "list", data := .seq vs.toArray } (.lst (ns.map V.int))) := if_pos rfl
    have off : ∀ b, H1 b ≠ none → b = a := fun b z => by
      by_cases e : b = a
      · exact e
      · exact absurd (if_neg e) z
    refine main H1 (fun b z => ?_) (fun _ => hk) (.inl (.inr ⟨_, at_⟩)) fun b u z => ?_
    · have e := off b z
      rw [e]
      exact ⟨rfl, _, _, at_⟩
    · have e := off b (by rw [z]; exact Option.some_ne_none u)
      rw [e] at z ⊢
      rw [at_] at z
      cases z
      exact ⟨ha, by rw [List.length_map]; exact hl, vs, _, rel, ha⟩
/-- what k_head leaves, from the law's promise -/
theorem walkG {l : PySem.W.OpenLaw} {n k : Nat} {q : Program} {loose : List Str} {XP : (Str → Option Value) → Heap → Prop} {YP : World → Heap → Prop} {d : DefRec} {K : Params → PySem.W.Frag} {sp : World → List V → Hp → VK → Prop} {x : Str}
    (hn : l.most = some n) (hn2 : n ≤ sizeLine) (hdf : d.params.defaults = []) (hr : Room k callerA) (hY : ∀ (w : World) (h : Heap), YP w h → (K w.params).In h)
    (F : ∀ (w : World) (mg : Str → Option Value) (fa : Addr) (h : Heap), (K w.params).In h → h.Ns mainGlobals mg → mg d.name = some (.ref fa) →
      ∃ fd : FuncData, (∀ (s : Shared) (u : Value), BindsTo s fd ⟨[u], []⟩ [(x, u)]) ∧ ∀ base : Heap, (K w.params).In base → base.Ns mainGlobals mg → GOk l.prog w (K w.params) mg base k fa fd [x] (sp w))
    (hsp : ∀ (w : World) (H : Hp) (a : Addr) (ns : List Int), ns.length ≤ n → SqL (K w.params) H a (ns.map V.int) → sp w [.ref a] H fun v _ => v = .bl true) :
    PySem.W.WalkO q loose XP YP l.row.toRowW d [] (fun f vs => PySem.call f vs) := by
  refine Att.attach_call hn hdf fun w s₀ s₁ mg mb fa o pm cd doc a vs ns G Y ho hd hcd hmg hobj hints hlen hg => ?_
  have inK := hY w _ Y
  obtain ⟨fd, hb, hF⟩ := F w mg fa _ inK G.T.g hmg
  exact lawG inK G.T.g G.T.b G.T.builtins G.T.nolimit hg hobj hints (Nat.le_trans hlen hn2) hr hF hb fun H hS => hsp w H a ns hlen hS
/-- the law's promise, from the term's answer -/
theorem law_sp {G : Gi} {K : PySem.W.Frag} {w : World} {k : Nat} {x : Str} {ns : List Int} {H : Hp} {a : Addr} (hS : SqL K H a (ns.map V.int)) (own : Bool) (outs : List D) (h : G.P.call k x [.scr ns] = .ok (.bl true) own outs) (ho : own = false) (hl : outs.length = 1) : spD K w (G.P.call k x) [false] [.ref a] H fun v _ => v = .bl true := by
  subst ho
  refine ⟨H, [.scr ns], .bl true, false, outs, rfl, rfl, ⟨Same.refl H, rfl, fun i c e => ?_, fun i j a d e k1 _ _ _ => ?_⟩, h, fun v F' H' fe => ?_⟩
  · match i, e with
    | 0, e =>
      cases e
      exact ⟨.ref a, rfl, .scr hS⟩
    | i + 1, e => simp [startE] at e
  · match i, k1 with
    | 0, k1 => cases k1
    | i + 1, k1 => simp [startE] at k1
  · have := fe.res
    rw [if_neg Bool.false_ne_true] at this
    cases this
    rfl
end Mp

set_option maxRecDepth 100000
set_option maxHeartbeats 4000000
/-! The facts of a top, def by def. -/
namespace Mp
open PySem PySem.Spec PyProof.Rows L2

structure Rec where
  fn : Fn
  d : Df
  f : Addr
  fd : FuncData
def Rec.ok (G : Gi) (K : PySem.W.Frag) (mg : Str → Option Value) (r : Rec) : Prop := r.fn.name = r.d.x ∧ mg r.d.x = some (.ref r.f) ∧ DfOk G r.d r.fn ∧ FnAt K r.d r.fn r.f r.fd
def adrOf (L : List Rec) (x : Str) : Addr × FuncData := match L.find? (fun r => r.fn.name == x) with
  | some r => (r.f, r.fd)
  | none => (0, (PySem.W.fnOf "" "" ⟨[], [], none, [], [], none, []⟩ [] ⟨.function, [], false, false, []⟩ .none .none .none .none none .none .none))
theorem find_rec : ∀ {L : List Rec} {x : Str} {fn : Fn}, (L.map (·.fn)).find? (fun f => f.name == x) = some fn → ∃ r ∈ L, L.find? (fun r => r.fn.name == x) = some r ∧ r.fn = fn ∧ fn.name = x
  | [], x, fn, h => by simp at h
  | r :: L, x, fn, h => by
    rw [List.map_cons, List.find?_cons] at h
    split at h
    · rename_i e
      cases h
      exact ⟨r, List.mem_cons_self, by rw [List.find?_cons, e], rfl, by simpa using e⟩
    · rename_i e
      obtain ⟨r', h1, h2, h3, h4⟩ := find_rec h
      exact ⟨r', List.mem_cons_of_mem _ h1, by rw [List.find?_cons, e]; exact h2, h3, h4⟩
theorem top_of {G : Gi} {K : PySem.W.Frag} {w : World} {mg : Str → Option Value} {L : List Rec} (hL : G.P.fns = L.map (·.fn)) (ok : ∀ r ∈ L, r.ok G K mg) (zs : ∀ z ∈ G.zs, mg z = none)
    (globs : ∀ p ∈ G.P.globs, ∃ v u, mg p.1 = some u ∧ RelV v u ∧ ∀ F, Rp K w F v p.2)
    (pos : ∀ s ∈ G.shapes, s.2.2 = [] → ∀ r ∈ L, r.fn.name = s.1 → ∃ dsv dvs, Binds K r.fd r.fn.ps dsv ∧ Vals dvs dsv ∧ ∀ F, Rps K w F dvs (r.fn.dfl.drop (r.fn.dfl.length - (r.fn.refs.length - s.2.1))))
    (key : ∀ s ∈ G.shapes, s.2.2 ≠ [] → ∀ r ∈ L, r.fn.name = s.1 → KB K r.fd r.fn.ps s.2.1 s.2.2) : Top G (adrOf L) K w mg where
  zs := zs
  globs := fun x d h => globs (x, d) (lookup_mem h)
  fns := fun x fn h => by
    unfold Pg.fn at h
    rw [hL] at h
    obtain ⟨r, h1, h2, h3, h4⟩ := find_rec h
    obtain ⟨o1, o2, o3, o4⟩ := ok r h1
    subst h3
    unfold adrOf
    rw [h2]
    refine ⟨by rw [← h4, o1]; exact o2, r.d, o1.symm.trans h4, o3, o4⟩
  pos := fun x m h fn hf => by
    unfold Pg.fn at hf
    rw [hL] at hf
    obtain ⟨r, h1, h2, h3, h4⟩ := find_rec hf
    subst h3
    unfold adrOf
    rw [h2]
    exact pos _ h rfl r h1 h4
  key := fun x m k ks h fn hf => by
    unfold Pg.fn at hf
    rw [hL] at hf
    obtain ⟨r, h1, h2, h3, h4⟩ := find_rec hf
    subst h3
    unfold adrOf
    rw [h2]
    exact key _ h (fun z => nomatch z) r h1 h4
/-- no defaults -/
theorem pos_none {K : PySem.W.Frag} {w : World} {fd : FuncData} {fn : Fn} {m : Nat} (b : Binds K fd fn.ps []) (h : fn.dfl = []) : ∃ dsv dvs, Binds K fd fn.ps dsv ∧ Vals dvs dsv ∧ ∀ F, Rps K w F dvs (fn.dfl.drop (fn.dfl.length - (fn.refs.length - m))) :=
  ⟨[], [], b, .nil, fun F => by rw [h]; simp only [List.drop_nil]; exact .nil⟩
/-- a def without defaults -/
theorem FunD.kb {K : PySem.W.Frag} {x : Str} {st : Stmt} {f : Addr} {fd : FuncData} {ps : List Str} {m : Nat} {ks : List Str} (F : FunD K x x (defArgs st) (defBody st) (defScope st) [] [] f fd)
    (h : ∀ (kV doc pm : Value) (an : Option Addr) (cdv ct : Value) (us ws all : List Value) (ix : List Nat), us.length = m → ws.length = ks.length → orderIx ps m ks = some ix → getAll ix (us ++ ws) = some all → bindArgs (PySem.W.fnOf x x (defArgs st) (defBody st) (defScope st) .none kV doc pm an cdv ct) ⟨us, ks.zip ws⟩ = pure (ps.zip all)) : KB K fd ps m ks := by
  obtain ⟨⟨oc, od, dV, kV, doc, pm, an, cdv, ct, osl, rfl, lk, hcd, hD, hK⟩, kp⟩ := F
  rcases hD with ⟨_, rfl⟩ | ⟨e, _⟩
  · exact fun s us ws all ix _ h1 h2 h3 h4 => .of_eq (h kV doc pm an cdv ct us ws all ix h1 h2 h3 h4)
  · exact absurd rfl e
/-- a def from what the top's facts say -/
theorem funD_none {K : PySem.W.Frag} {x : Str} {st : Stmt} {f : Addr} {oc : Value} {od an : Option Addr} {osl : Array (Option Value)} {kV doc pm cdv ct : Value} (l : K.lookup f = some ⟨oc, od, .func (PySem.W.fnOf x x (defArgs st) (defBody st) (defScope st) .none kV doc pm an cdv ct), osl⟩)
    (c : PySem.W.codeIn K cdv x = true) (k : PySem.W.keepIn K (.ref f) = true) : FunD K x x (defArgs st) (defBody st) (defScope st) [] [] f (PySem.W.fnOf x x (defArgs st) (defBody st) (defScope st) .none kV doc pm an cdv ct) :=
  ⟨⟨oc, od, .none, kV, doc, pm, an, cdv, ct, osl, rfl, l, c, .inl ⟨rfl, rfl⟩, .inl rfl⟩, k⟩
theorem funD_some {K : PySem.W.Frag} {x : Str} {st : Stmt} {f T : Addr} {oc tc : Value} {od td an : Option Addr} {osl tsl : Array (Option Value)} {kV doc pm cdv ct : Value} {dvs : List V} {its : List Value} {tn : Nat} (l : K.lookup f = some ⟨oc, od, .func (PySem.W.fnOf x x (defArgs st) (defBody st) (defScope st) (.ref T) kV doc pm an cdv ct), osl⟩)
    (c : PySem.W.codeIn K cdv x = true) (k : PySem.W.keepIn K (.ref f) = true) (lt : K.lookup T = some ⟨tc, td, .seq its.toArray tn, tsl⟩) (r : Vals dvs its) (hne : dvs ≠ []) : FunD K x x (defArgs st) (defBody st) (defScope st) dvs [] f (PySem.W.fnOf x x (defArgs st) (defBody st) (defScope st) (.ref T) kV doc pm an cdv ct) :=
  ⟨⟨oc, od, .ref T, kV, doc, pm, an, cdv, ct, osl, rfl, l, c, .inr ⟨hne, T, _, its, tn, rfl, lt, rfl, r⟩, .inl rfl⟩, k⟩
structure Rec.Ok (G : Gi) (K : PySem.W.Frag) (w : World) (mg : Str → Option Value) (r : Rec) : Prop where
  base : r.ok G K mg
  pos : ∀ s ∈ G.shapes.filter (fun s => s.1 == r.fn.name && s.2.2.isEmpty), ∃ dsv dvs, Binds K r.fd r.fn.ps dsv ∧ Vals dvs dsv ∧ ∀ F, Rps K w F dvs (r.fn.dfl.drop (r.fn.dfl.length - (r.fn.refs.length - s.2.1)))
  key : ∀ s ∈ G.shapes.filter (fun s => s.1 == r.fn.name && !s.2.2.isEmpty), KB K r.fd r.fn.ps s.2.1 s.2.2
theorem top_by {G : Gi} {K : PySem.W.Frag} {w : World} {mg : Str → Option Value} {L : List Rec} (hL : G.P.fns = L.map (·.fn)) (ok : ∀ r ∈ L, r.Ok G K w mg) (zs : ∀ z ∈ G.zs, mg z = none)
    (globs : ∀ p ∈ G.P.globs, ∃ v u, mg p.1 = some u ∧ RelV v u ∧ ∀ F, Rp K w F v p.2) : Top G (adrOf L) K w mg :=
  top_of hL (fun r h => (ok r h).base) zs globs
    (fun s hs e r hr en => (ok r hr).pos s (List.mem_filter.mpr ⟨hs, by rw [en, e]; simp⟩))
    (fun s hs e r hr en => (ok r hr).key s (List.mem_filter.mpr ⟨hs, by rw [en]; simp [e]⟩))
theorem walkP (G : Gi) {l : PySem.W.OpenLaw} {n k : Nat} {q : Program} {loose : List Str} {XP : (Str → Option Value) → Heap → Prop} {YP : World → Heap → Prop} {d : DefRec} {K : Params → PySem.W.Frag} {x : Str}
    (hn : l.most = some n) (hn2 : n ≤ sizeLine) (hdf : d.params.defaults = []) (hr : Room k callerA) (pure : ∀ ns : List Int, ns.length ≤ n → G.P.call k "law" [.scr ns] = .ok (.bl true) false [.non]) (hY : ∀ (w : World) (h : Heap), YP w h → (K w.params).In h)
    (F : ∀ (w : World) (mg : Str → Option Value) (fa : Addr) (h : Heap), (K w.params).In h → h.Ns mainGlobals mg → mg d.name = some (.ref fa) →
      ∃ fd : FuncData, (∀ (s : Shared) (u : Value), BindsTo s fd ⟨[u], []⟩ [(x, u)]) ∧ ∀ base : Heap, (K w.params).In base → base.Ns mainGlobals mg → GOk l.prog w (K w.params) mg base k fa fd [x] (spD (K w.params) w (G.P.call k "law") [false])) :
    PySem.W.WalkO q loose XP YP l.row.toRowW d [] (fun f vs => PySem.call f vs) :=
  walkG (sp := fun w => spD (K w.params) w (G.P.call k "law") [false]) hn hn2 hdf hr hY F fun w H a ns hl hS => law_sp hS false [.non] (pure ns hl) rfl rfl
end Mp

set_option maxRecDepth 100000
set_option maxHeartbeats 4000000
/-! Terms worked out step by step. -/
namespace Mp
open PySem

theorem bindR {α β : Type} (a : α) (ρ : Ev) (f : α → Ev → Res β) : (Res.ok a ρ).bind f = f a ρ := rfl
def derefC : Option (Option Cell) → Option D
  | some (some (.ow d)) => some d
  | some (some (.fz d)) => some d
  | _ => none
def varC (i : Nat) (ρ : Ev) : Option (Option Cell) → Res RV
  | some (some (.fz d)) => .ok (.fz d) ρ
  | some (some (.ow _)) => .ok (.var i) ρ
  | _ => .bad
def freezeC (rf : List Bool) (i : Nat) (ρ : Ev) : Option (Option Cell) → Option (D × Ev)
  | some (some (.ow d)) => if isRef rf i then none else some (d, ρ.set i (some (.fz d)))
  | some (some (.fz d)) => some (d, ρ)
  | _ => none
section
variable {C : Cl} {rf : List Bool} {ρ : Ev} {d e : D} {i : Nat} {b : Bool} {bs : List Bool}
theorem deref_fz : deref ρ (.fz d) = some d := rfl
theorem deref_tmp : deref ρ (.tmp d) = some d := rfl
theorem deref_var : deref ρ (.var i) = derefC ρ[i]? := by
  show (match ρ[i]? with
    | some (some (.ow d)) => some d
    | some (some (.fz d)) => some d
    | _ => none) = _
  rfl
theorem derefC_ow : derefC (some (some (.ow d))) = some d := rfl
theorem derefC_fz : derefC (some (some (.fz d))) = some d := rfl
theorem derefs_nil : derefs ρ [] = some [] := rfl
theorem derefs_cons {x : RV} {xs : List RV} : derefs ρ (x :: xs) = (deref ρ x).bind fun d => (derefs ρ xs).map (d :: ·) := by
  rw [derefs]
  cases deref ρ x with
  | none => rfl
  | some d =>
    simp only [Option.bind_some]
    cases derefs ρ xs <;> rfl
theorem ev_var' : ev C rf (.var i) ρ = varC i ρ ρ[i]? := by
  rw [ev_eqs.2.1]
  unfold varC
  split <;> simp_all
theorem varC_fz : varC i ρ (some (some (.fz d))) = .ok (.fz d) ρ := rfl
theorem varC_ow : varC i ρ (some (some (.ow d))) = .ok (.var i) ρ := rfl
theorem freeze_fz : freeze rf ρ (.fz d) = some (d, ρ) := rfl
theorem freeze_tmp : freeze rf ρ (.tmp d) = some (d, ρ) := rfl
theorem freeze_var : freeze rf ρ (.var i) = freezeC rf i ρ ρ[i]? := rfl
theorem freezeC_fz : freezeC rf i ρ (some (some (.fz d))) = some (d, ρ) := rfl
theorem freezeC_ow (h : isRef rf i = false) : freezeC rf i ρ (some (some (.ow d))) = some (d, ρ.set i (some (.fz d))) := by
  unfold freezeC
  simp [h]
theorem freezes_nil : freezes rf [] ρ = some ([], ρ) := rfl
theorem freezes_cons {x : RV} {xs : List RV} : freezes rf (x :: xs) ρ = (freeze rf ρ x).bind fun p => (freezes rf xs p.2).map fun q => (p.1 :: q.1, q.2) := by
  rw [freezes]
  cases freeze rf ρ x with
  | none => rfl
  | some p =>
    simp only [Option.bind_some]
    cases freezes rf xs p.2 <;> rfl
theorem isRef_nil : isRef [] i = false := by unfold isRef; simp
theorem isRef_zero : isRef (b :: bs) 0 = b := rfl
theorem isRef_succ : isRef (b :: bs) (i + 1) = isRef bs i := rfl
theorem store_fz' (h : isRef rf i = false) : store rf i (.fz d) ρ = some (ρ.set i (some (.fz d))) := by unfold store; simp [h]
theorem store_tmp' (h : isRef rf i = false) : store rf i (.tmp d) ρ = some (ρ.set i (some (.ow d))) := by unfold store; simp [h]
theorem store_var' {j : Nat} (h : isRef rf i = false) : store rf i (.var j) ρ = (freezeC rf j ρ ρ[j]?).map fun p => p.2.set i (some (.fz p.1)) := by
  unfold store
  rw [if_neg (by simp [h])]
  simp only [freeze_var]
  cases freezeC rf j ρ ρ[j]? <;> rfl
/-! operators of ints -/
theorem bin_add (a b : Int) : binD .Add (.int a) (.int b) = some (.fz (.int (a + b))) := rfl
theorem bin_sub (a b : Int) : binD .Sub (.int a) (.int b) = some (.fz (.int (a - b))) := rfl
theorem bin_mul {a b : Int} (h : (small64 a || small64 b) = true) : binD .Mult (.int a) (.int b) = some (.fz (.int (a * b))) := by
  show (if (small64 a || small64 b) = true then _ else none) = _
  rw [if_pos h]
theorem bin_mod {a b : Int} (h : 0 < b) : binD .Mod (.int a) (.int b) = some (.fz (.int (a % b))) := by
  show (if decide (0 < b) = true then _ else none) = _
  rw [if_pos (decide_eq_true h)]
theorem bin_fdiv {a b : Int} (h : 0 < b) (h2 : b < 1073741824) : binD .FloorDiv (.int a) (.int b) = some (.fz (.int (a / b))) := by
  show (if (decide (0 < b) && decide (b < 1073741824)) = true then _ else none) = _
  rw [if_pos (by simp [h, h2])]
theorem fair_i (a : Int) : fair (.int a) = true := rfl
theorem fair_b (a : Bool) : fair (.bl a) = true := rfl
theorem ordd_ii (a b : Int) : ordd (.int a) (.int b) = true := rfl
theorem lt_ii (a b : Int) : dataLtD (.int a) (.int b) = decide (a < b) := by
  unfold dataLtD
  simp only [toPy]
  exact W.dataLt_int a b
theorem eqv_ii (a b : Int) : eqvD (.int a) (.int b) = decide (a = b) := by
  unfold eqvD
  simp only [toPy, PyData.eqv]
  by_cases h : a = b <;> simp [h]
theorem eqv_bb (a b : Bool) : eqvD (.bl a) (.bl b) = (a == b) := by
  unfold eqvD
  simp only [toPy, PyData.eqv]
theorem cmp_lt (a b : Int) : cmpD .Lt (.int a) (.int b) = some (decide (a < b)) := by
  show (if ordd (.int a) (.int b) = true then some (dataLtD (.int a) (.int b)) else none) = _
  rw [if_pos (ordd_ii a b), lt_ii]
theorem cmp_gt (a b : Int) : cmpD .Gt (.int a) (.int b) = some (decide (b < a)) := by
  show (if ordd (.int a) (.int b) = true then some (dataLtD (.int b) (.int a)) else none) = _
  rw [if_pos (ordd_ii a b), lt_ii]
theorem cmp_le (a b : Int) : cmpD .LtE (.int a) (.int b) = some (decide (a ≤ b)) := by
  show (if ordd (.int a) (.int b) = true then some (!dataLtD (.int b) (.int a)) else none) = _
  rw [if_pos (ordd_ii a b), lt_ii]
  by_cases h : b < a <;> simp [h] <;> omega
theorem cmp_ge (a b : Int) : cmpD .GtE (.int a) (.int b) = some (decide (b ≤ a)) := by
  show (if ordd (.int a) (.int b) = true then some (!dataLtD (.int a) (.int b)) else none) = _
  rw [if_pos (ordd_ii a b), lt_ii]
  by_cases h : a < b <;> simp [h] <;> omega
theorem cmp_eq (a b : Int) : cmpD .Eq (.int a) (.int b) = some (decide (a = b)) := by
  show (if (fair (.int a) && fair (.int b)) = true then some (eqvD (.int a) (.int b)) else none) = _
  rw [if_pos (show (fair (.int a) && fair (.int b)) = true from rfl), eqv_ii]
theorem cmp_ne (a b : Int) : cmpD .NotEq (.int a) (.int b) = some (decide (a ≠ b)) := by
  show (if (fair (.int a) && fair (.int b)) = true then some (!eqvD (.int a) (.int b)) else none) = _
  rw [if_pos (show (fair (.int a) && fair (.int b)) = true from rfl), eqv_ii]
  simp
theorem cmp_eqb (a b : Bool) : cmpD .Eq (.bl a) (.bl b) = some (a == b) := by
  show (if (fair (.bl a) && fair (.bl b)) = true then some (eqvD (.bl a) (.bl b)) else none) = _
  rw [if_pos (show (fair (.bl a) && fair (.bl b)) = true from rfl), eqv_bb]
theorem tru_b (a : Bool) : truD (.bl a) = some a := rfl
theorem blt_max2 (a b : Int) : bltD .max2 [.int a, .int b] = some (.fz (.int (max a b))) := by
  show some (RV.fz (.int (if b > a then b else a))) = _
  congr 3
  split <;> omega
theorem blt_min2 (a b : Int) : bltD .min2 [.int a, .int b] = some (.fz (.int (min a b))) := by
  show some (RV.fz (.int (if b < a then b else a))) = _
  congr 3
  split <;> omega
theorem blt_abs (a : Int) : bltD .abs [.int a] = some (.fz (.int (a.natAbs : Int))) := by
  show some (RV.fz (.int (if a < 0 then -a else a))) = _
  congr 3
  split <;> omega
theorem blt_int (a : Int) : bltD .int [.int a] = some (.fz (.int a)) := rfl
end
/-- a def's call, from its body -/
theorem call_fz {P : Pg} {n : Nat} {f : Str} {fn : Fn} {ds : List D} {d : D} {ρ' : Ev} {outs : List D} (hf : P.fn f = some fn) (hl : ds.length = fn.refs.length) (h : exs (P.cl (P.call n)) fn.refs fn.body (startE fn.refs ds ++ List.replicate (fn.slots - ds.length) none) = .ok (.ret (.fz d)) ρ') (ho : outsOf fn.refs ρ' = some outs) : P.call (n + 1) f ds = .ok d false outs := by
  show (match P.fn f with | none => CR.bad | some fn => runFn (P.cl (P.call n)) fn ds) = _
  rw [hf]
  show runFn (P.cl (P.call n)) fn ds = _
  unfold runFn
  rw [if_pos hl, h]
  simp only [ho]
theorem call_tmp {P : Pg} {n : Nat} {f : Str} {fn : Fn} {ds : List D} {d : D} {ρ' : Ev} {outs : List D} (hf : P.fn f = some fn) (hl : ds.length = fn.refs.length) (h : exs (P.cl (P.call n)) fn.refs fn.body (startE fn.refs ds ++ List.replicate (fn.slots - ds.length) none) = .ok (.ret (.tmp d)) ρ') (ho : outsOf fn.refs ρ' = some outs) : P.call (n + 1) f ds = .ok d true outs := by
  show (match P.fn f with | none => CR.bad | some fn => runFn (P.cl (P.call n)) fn ds) = _
  rw [hf]
  show runFn (P.cl (P.call n)) fn ds = _
  unfold runFn
  rw [if_pos hl, h]
  simp only [ho]
theorem call_non {P : Pg} {n : Nat} {f : Str} {fn : Fn} {ds : List D} {ρ' : Ev} {outs : List D} (hf : P.fn f = some fn) (hl : ds.length = fn.refs.length) (h : exs (P.cl (P.call n)) fn.refs fn.body (startE fn.refs ds ++ List.replicate (fn.slots - ds.length) none) = .ok .next ρ') (ho : outsOf fn.refs ρ' = some outs) : P.call (n + 1) f ds = .ok .non false outs := by
  show (match P.fn f with | none => CR.bad | some fn => runFn (P.cl (P.call n)) fn ds) = _
  rw [hf]
  show runFn (P.cl (P.call n)) fn ds = _
  unfold runFn
  rw [if_pos hl, h]
  simp only [ho]
/-- a call of a def that changes nothing, its values at hand -/
theorem doCall_pure {C : Cl} {rf : List Bool} {f : Str} {fn : Fn} {ds : List D} {ρ : Ev} {r : D} {own : Bool} {outs : List D} (hf : C.fn f = some fn) (hr : fn.refs = List.replicate ds.length false) (hd : fn.dfl.drop (fn.dfl.length - (fn.refs.length - ds.length)) = []) (h : C.run f ds = .ok r own outs) : doCall C rf f (ds.map .fz) ρ = .ok (if own then .tmp r else .fz r) ρ := by
  have pa : ∀ (ds : List D) (ρ : Ev), passAll rf (List.replicate ds.length false) (ds.map .fz) ρ = some (ds, List.replicate ds.length none, ρ) := by
    intro ds
    induction ds with
    | nil => intro ρ; rfl
    | cons d ds ih =>
      intro ρ
      show (match passOne rf false ρ (.fz d) with | none => none | some (d, b, ρ1) => match passAll rf (List.replicate ds.length false) (ds.map .fz) ρ1 with | none => none | some (ds, bs, ρ2) => some (d :: ds, b :: bs, ρ2)) = _
      have : passOne rf false ρ (.fz d) = some (d, none, ρ) := rfl
      rw [this]
      simp only [ih ρ]
      rfl
  have dn : ∀ k, distinct (List.replicate k none) = true := by
    intro k
    induction k with
    | zero => rfl
    | succ k ih => exact ih
  have sn : ∀ k, stillOw (List.replicate k none) ρ = true := by
    intro k
    unfold stillOw
    simp
  have wb : ∀ (k : Nat) (outs : List D), writeBack (List.replicate k none) outs ρ = ρ := by
    intro k
    induction k with
    | zero => intro outs; cases outs <;> rfl
    | succ k ih =>
      intro outs
      cases outs with
      | nil => rfl
      | cons _ _ => exact ih _
  unfold doCall
  rw [hf, ofO_some, List.length_map, hd, List.map_nil, List.append_nil, hr, pa ds ρ, ofO_some]
  simp only [dn, sn, Bool.and_self, if_true, h, wb]
section
variable {C : Cl} {rf : List Bool} {s : S} {ss : Ss} {ρ ρ1 : Ev} {x : RV}
theorem exs_step (h : ex C rf s ρ = .ok .next ρ1) : exs C rf (.cons s ss) ρ = exs C rf ss ρ1 := by rw [exs, h]; rfl
theorem exs_ret (h : ex C rf s ρ = .ok (.ret x) ρ1) : exs C rf (.cons s ss) ρ = .ok (.ret x) ρ1 := by rw [exs, h]; rfl
theorem ex_for {t : Tg} {it : I} {b : Ss} {xs : List D} {fl : Fl} {ρ2 : Ev} (h : evI C rf it ρ = .ok xs ρ1) (g : forLoop (fun x ρ => (tgA C rf t (.fz x) ρ).bind fun _ ρ2 => exs C rf b ρ2) xs ρ1 = .ok fl ρ2) : ex C rf (.for t it b) ρ = .ok fl ρ2 := by
  rw [ex, h]
  exact g
theorem for_nil {step : D → Ev → Res Fl} : forLoop step [] ρ = .ok .next ρ := rfl
theorem for_next {step : D → Ev → Res Fl} {d : D} {ds : List D} (h : step d ρ = .ok .next ρ1) : forLoop step (d :: ds) ρ = forLoop step ds ρ1 := by rw [forLoop, h]; rfl
theorem ite_true {c : E} {a b : Ss} {r : Res Fl} (h : evT C rf c ρ = .ok true ρ1) (g : exs C rf a ρ1 = r) : ex C rf (.ite c a b) ρ = r := by rw [ex, h]; exact g
theorem ite_false {c : E} {a b : Ss} {r : Res Fl} (h : evT C rf c ρ = .ok false ρ1) (g : exs C rf b ρ1 = r) : ex C rf (.ite c a b) ρ = r := by rw [ex, h]; exact g
theorem ev_call {f : Str} {es : Es} {xs : List RV} {ρ2 : Ev} {y : RV} (h : evs C rf es ρ = .ok xs ρ1) (g : doCall C rf f xs ρ1 = .ok y ρ2) : ev C rf (.call f es) ρ = .ok y ρ2 := by
  show (evs C rf es ρ).bind (fun xs ρ1 => doCall C rf f xs ρ1) = _
  rw [h]
  exact g
end
/-- a call by position of a def that changes nothing: the rest filled up with its defaults -/
theorem doCall_dfl {C : Cl} {rf : List Bool} {f : Str} {fn : Fn} {ds : List D} {ρ : Ev} {r : D} {own : Bool} {outs : List D} (hf : C.fn f = some fn) (hr : fn.refs = List.replicate (ds ++ fn.dfl.drop (fn.dfl.length - (fn.refs.length - ds.length))).length false) (h : C.run f (ds ++ fn.dfl.drop (fn.dfl.length - (fn.refs.length - ds.length))) = .ok r own outs) : doCall C rf f (ds.map .fz) ρ = .ok (if own then .tmp r else .fz r) ρ := by
  have pa : ∀ (ds : List D) (ρ : Ev), passAll rf (List.replicate ds.length false) (ds.map .fz) ρ = some (ds, List.replicate ds.length none, ρ) := by
    intro ds
    induction ds with
    | nil => intro ρ; rfl
    | cons d ds ih =>
      intro ρ
      show (match passOne rf false ρ (.fz d) with | none => none | some (d, b, ρ1) => match passAll rf (List.replicate ds.length false) (ds.map .fz) ρ1 with | none => none | some (ds, bs, ρ2) => some (d :: ds, b :: bs, ρ2)) = _
      have : passOne rf false ρ (.fz d) = some (d, none, ρ) := rfl
      rw [this]
      simp only [ih ρ]
      rfl
  have dn : ∀ k, distinct (List.replicate k none) = true := by
    intro k
    induction k with
    | zero => rfl
    | succ k ih => exact ih
  have sn : ∀ k, stillOw (List.replicate k none) ρ = true := by
    intro k
    unfold stillOw
    simp
  have wb : ∀ (k : Nat) (outs : List D), writeBack (List.replicate k none) outs ρ = ρ := by
    intro k
    induction k with
    | zero => intro outs; cases outs <;> rfl
    | succ k ih =>
      intro outs
      cases outs with
      | nil => rfl
      | cons _ _ => exact ih _
  unfold doCall
  rw [hf, ofO_some, List.length_map]
  generalize hD : ds ++ fn.dfl.drop (fn.dfl.length - (fn.refs.length - ds.length)) = all at *
  rw [← List.map_append, hD, hr, pa all ρ, ofO_some]
  simp only [dn, sn, Bool.and_self, if_true, h, wb]
theorem passAll_fz {rf : List Bool} : ∀ (ds : List D) (ρ : Ev), passAll rf (List.replicate ds.length false) (ds.map .fz) ρ = some (ds, List.replicate ds.length none, ρ)
  | [], ρ => rfl
  | d :: ds, ρ => by
    show (match passOne rf false ρ (.fz d) with | none => none | some (d, b, ρ1) => match passAll rf (List.replicate ds.length false) (ds.map .fz) ρ1 with | none => none | some (ds, bs, ρ2) => some (d :: ds, b :: bs, ρ2)) = _
    have : passOne rf false ρ (.fz d) = some (d, none, ρ) := rfl
    rw [this]
    simp only [passAll_fz ds ρ]
    rfl
theorem distinct_none : ∀ k, distinct (List.replicate k none) = true
  | 0 => rfl
  | k + 1 => distinct_none k
theorem still_none {ρ : Ev} (k : Nat) : stillOw (List.replicate k none) ρ = true := by
  unfold stillOw
  simp
theorem wb_none {ρ : Ev} : ∀ (k : Nat) (outs : List D), writeBack (List.replicate k none) outs ρ = ρ
  | 0, outs => by cases outs <;> rfl
  | k + 1, [] => rfl
  | k + 1, _ :: outs => wb_none k outs
/-- a call whose first parameter is a thing that is changed -/
theorem doCall_pot {C : Cl} {rf : List Bool} {f : Str} {fn : Fn} {i : Nat} {p p' : D} {ds : List D} {ρ : Ev} {r : D} {own : Bool} {outs : List D} (hf : C.fn f = some fn) (hr : fn.refs = true :: List.replicate ds.length false) (hd : fn.dfl = []) (hi : ρ[i]? = some (some (.ow p))) (h : C.run f (p :: ds) = .ok r own (p' :: outs)) :
    doCall C rf f (.var i :: ds.map .fz) ρ = .ok (if own then .tmp r else .fz r) (ρ.set i (some (.ow p'))) := by
  unfold doCall
  rw [hf, ofO_some, hd, List.drop_nil, List.map_nil, List.append_nil, hr]
  have e : passAll rf (true :: List.replicate ds.length false) (.var i :: ds.map .fz) ρ = some (p :: ds, some i :: List.replicate ds.length none, ρ) := by
    show (match passOne rf true ρ (.var i) with | none => none | some (d, b, ρ1) => match passAll rf (List.replicate ds.length false) (ds.map .fz) ρ1 with | none => none | some (ds, bs, ρ2) => some (d :: ds, b :: bs, ρ2)) = _
    have : passOne rf true ρ (.var i) = some (p, some i, ρ) := by
      unfold passOne
      simp [hi]
    rw [this]
    simp only [passAll_fz ds ρ]
  rw [e, ofO_some]
  have d1 : distinct (some i :: List.replicate ds.length none) = true := by
    show (!(List.replicate ds.length none).contains (some i) && distinct (List.replicate ds.length none)) = true
    rw [distinct_none]
    simp
  have d2 : stillOw (some i :: List.replicate ds.length none) ρ = true := by
    have := still_none (ρ := ρ) ds.length
    unfold stillOw at this ⊢
    rw [List.all_cons, this]
    simp [hi]
  simp only [d1, d2, Bool.and_self, if_true, h]
  show Res.ok _ (writeBack (List.replicate ds.length none) outs (ρ.set i (some (.ow p')))) = _
  rw [wb_none]
theorem idx_0 {a : D} {r : List D} : idxD (.lst (a :: r)) (.int 0) = some a := L2.atI_nat (xs := a :: r) (j := 0) rfl
theorem idx_1 {a b : D} {r : List D} : idxD (.lst (a :: b :: r)) (.int 1) = some b := L2.atI_nat (xs := a :: b :: r) (j := 1) rfl
theorem set_0 {a b v : D} : setD (.lst [a, b]) (.int 0) v = some (.lst [v, b]) := rfl
theorem set_1 {a b v : D} : setD (.lst [a, b]) (.int 1) v = some (.lst [a, v]) := rfl
theorem blt_divmod {a b : Int} (h : 0 < b) (h2 : b < 1073741824) : bltD .divmod [.int a, .int b] = some (.fz (.tup [.int (a / b), .int (a % b)])) := by
  show (if (decide (0 < b) && decide (b < 1073741824)) = true then _ else none) = _
  rw [if_pos (by simp [h, h2])]
/-! ### the draw of every law -/
def drawFn : Fn := ⟨"_law_draw", ["pot", "sides"], [true, false], [], 3, (.cons (.ite (.cmp .Gt (.idx (.var 0) (.const (.int 0))) (.const (.int 0))) (.cons (.asg (.tup (.cons (.sub (.var 0) (.const (.int 0))) (.cons (.name 2) .nil))) (.blt .divmod (.cons (.idx (.var 0) (.const (.int 0))) (.cons (.var 1) .nil)))) (.cons (.ret (.var 2)) .nil)) .nil) (.cons (.asg (.sub (.var 0) (.const (.int 1))) (.bin .Mod (.blt .int (.cons (.bin .Add (.bin .Mult (.idx (.var 0) (.const (.int 1))) (.const (.int 40709))) (.const (.int 8623))) .nil)) (.const (.int 2147483587)))) (.cons (.ret (.bin .Mod (.blt .int (.cons (.bin .FloorDiv (.bin .Mod (.blt .int (.cons (.bin .Mult (.idx (.var 0) (.const (.int 1))) (.idx (.var 0) (.const (.int 1)))) .nil)) (.const (.int 2147483629))) (.const (.int 23))) .nil)) (.var 1))) .nil)))⟩
theorem c_draw {P : Pg} (hP : P.fn "_law_draw" = some drawFn) (n : Nat) (x y s : Int) (h0 : 0 < s) (h1 : s < 1073741824) : ∃ x' y' d, P.call (n + 1) "_law_draw" [.lst [.int x, .int y], .int s] = .ok (.int d) false [.lst [.int x', .int y'], .non] ∧ 0 ≤ d ∧ d < s := by
  by_cases hx : 0 < x
  · refine ⟨x / s, y, x % s, call_fz (fn := drawFn) (ρ' := [some (.ow (.lst [.int (x / s), .int y])), some (.fz (.int s)), some (.fz (.int (x % s)))]) hP rfl ?_ rfl, Int.emod_nonneg _ (by omega), Int.emod_lt_of_pos _ h0⟩
    have hm := blt_divmod (a := x) h0 h1
    simp [drawFn, startE, ev_eqs, evT_eqs, evs_eqs, evI_eqs, tgA_eqs, tgAs_eqs, exs, ex, bindR, ofO_some, deref_fz, deref_tmp, deref_var, derefC_ow, derefC_fz, derefs_nil, derefs_cons, freeze_fz, freeze_tmp, freeze_var, freezeC_fz, freezeC_ow, freezes_nil, freezes_cons, isRef_nil, isRef_zero, isRef_succ, store_fz', store_tmp', store_var', bin_add, bin_sub, cmp_lt, cmp_gt, cmp_le, cmp_ge, cmp_eq, cmp_ne, cmp_eqb, tru_b, blt_max2, blt_min2, blt_abs, blt_int, List.getElem?_cons_zero, List.getElem?_cons_succ, List.set_cons_zero, List.set_cons_succ, Option.bind_some, Option.map_some, idx_0, idx_1, set_0, set_1, hm, hx]
  · have y1 := Int.emod_nonneg (y * 40709 + 8623) (show (2147483587 : Int) ≠ 0 by decide)
    have y2 := Int.emod_lt_of_pos (y * 40709 + 8623) (show (0 : Int) < 2147483587 by decide)
    generalize hz : (y * 40709 + 8623) % 2147483587 = z at *
    refine ⟨x, z, z * z % 2147483629 / 23 % s, call_fz (fn := drawFn) (ρ' := [some (.ow (.lst [.int x, .int z])), some (.fz (.int s)), none]) hP rfl ?_ rfl, Int.emod_nonneg _ (by omega), Int.emod_lt_of_pos _ h0⟩
    have m1 : binD .Mult (.int y) (.int 40709) = some (.fz (.int (y * 40709))) := bin_mul (by rw [Bool.or_eq_true]; right; rfl)
    have m2 : binD .Mult (.int z) (.int z) = some (.fz (.int (z * z))) := bin_mul (by rw [Bool.or_eq_true]; left; unfold small64; simp; omega)
    have m3 : binD .Mod (.int (y * 40709 + 8623)) (.int 2147483587) = some (.fz (.int z)) := by rw [← hz]; exact bin_mod (by decide)
    have m4 : binD .Mod (.int (z * z)) (.int 2147483629) = some (.fz (.int (z * z % 2147483629))) := bin_mod (by decide)
    have m5 : binD .FloorDiv (.int (z * z % 2147483629)) (.int 23) = some (.fz (.int (z * z % 2147483629 / 23))) := bin_fdiv (by decide) (by decide)
    have m6 : binD .Mod (.int (z * z % 2147483629 / 23)) (.int s) = some (.fz (.int (z * z % 2147483629 / 23 % s))) := bin_mod h0
    simp [drawFn, startE, ev_eqs, evT_eqs, evs_eqs, evI_eqs, tgA_eqs, tgAs_eqs, exs, ex, bindR, ofO_some, deref_fz, deref_tmp, deref_var, derefC_ow, derefC_fz, derefs_nil, derefs_cons, freeze_fz, freeze_tmp, freeze_var, freezeC_fz, freezeC_ow, freezes_nil, freezes_cons, isRef_nil, isRef_zero, isRef_succ, store_fz', store_tmp', store_var', bin_add, bin_sub, cmp_lt, cmp_gt, cmp_le, cmp_ge, cmp_eq, cmp_ne, cmp_eqb, tru_b, blt_max2, blt_min2, blt_abs, blt_int, List.getElem?_cons_zero, List.getElem?_cons_succ, List.set_cons_zero, List.set_cons_succ, Option.bind_some, Option.map_some, idx_0, idx_1, set_0, set_1, m1, m2, m3, m4, m5, m6, hx]
end Mp

set_option maxRecDepth 100000
/-! The texts of values: two that read alike are one. -/
namespace Mp
open PySem

theorem sg_app (a b : Str) : (a ++ b).cps.toList = a.cps.toList ++ b.cps.toList := by
  show (Str.append a b).cps.toList = _
  simp [Str.append]
theorem sg_of (s : String) : (Str.ofString s).cps.toList = s.toList.map Char.toNat := by
  rw [Str.ofString_eq_toList]
/-- the signs that a text may have -/
def calm (c : Nat) : Bool := decide (32 ≤ c) && decide (c < 127)
mutual
def nice : D → Bool
  | .non => true
  | .bl _ => true
  | .int _ => true
  | .str s => s.cps.toList.all calm
  | .tup xs => nices xs
  | _ => false
def nices : List D → Bool
  | [] => true
  | x :: r => nice x && nices r
end
/-- how one sign is written between quotes -/
def rc (q c : Nat) : List Nat := if c = q ∨ c = 92 then [92, c] else [c]
theorem calm_prints : ∀ c : Nat, calm c = true → PySem.Builtin.Str.reprChar q c = rc q c := by
  intro c h
  have h' : 32 ≤ c ∧ c < 127 := by simpa [calm] using h
  have p : ∀ k : Nat, k < 127 → 32 ≤ k → Unicode.isPrintable k = true := by decide +kernel
  have e1 : (c == 10) = false := by simp; omega
  have e2 : (c == 13) = false := by simp; omega
  have e3 : (c == 9) = false := by simp; omega
  unfold PySem.Builtin.Str.reprChar rc
  simp [e1, e2, e3, p c h'.2 h'.1]
def inner (q : Nat) : List Nat → List Nat
  | [] => [q]
  | c :: r => rc q c ++ inner q r
mutual
/-- the signs of its text -/
def sh : D → List Nat
  | .non => [78, 111, 110, 101]
  | .bl true => [84, 114, 117, 101]
  | .bl false => [70, 97, 108, 115, 101]
  | .int i => (toString i).toList.map Char.toNat
  | .str s => reprQuote s :: inner (reprQuote s) s.cps.toList
  | .tup xs => 40 :: shf xs
  | _ => []
def shf : List D → List Nat
  | [] => [41]
  | [x] => sh x ++ [44, 41]
  | x :: y :: r => sh x ++ ([44, 32] ++ (sh y ++ shr r))
def shr : List D → List Nat
  | [] => [41]
  | x :: r => [44, 32] ++ (sh x ++ shr r)
end
theorem fold_inner (q : Nat) : ∀ (l : List Nat) (acc : Array Nat), (∀ c ∈ l, calm c = true) → (l.foldl (fun (out : Array Nat) c => out ++ (PySem.Builtin.Str.reprChar q c).toArray) acc).toList ++ [q] = acc.toList ++ inner q l
  | [], acc, _ => rfl
  | c :: l, acc, h => by
    rw [List.foldl_cons, fold_inner q l _ (fun d hd => h d (List.mem_cons_of_mem _ hd)), calm_prints c (h c (List.mem_cons_self ..))]
    simp [inner]
theorem sg_join : ∀ (x : Str) (r : List Str), (Str.join ", " (x :: r)).cps.toList = x.cps.toList ++ (r.map fun y => 44 :: 32 :: y.cps.toList).flatten
  | x, [] => by show x.cps.toList = _; simp
  | x, y :: r => by
    rw [PyProof.Rows.join_cons_cons, sg_app, sg_app, sg_join y r, sg_of]
    simp
mutual
theorem sh_eq : ∀ d : D, nice d = true → (PyData.shown (toPy d)).cps.toList = sh d
  | .non, _ => by simp only [toPy, PyData.shown, sg_of, sh]; rfl
  | .bl b, _ => by cases b <;> simp only [toPy, PyData.shown, sg_of, sh, if_true] <;> first | rfl | (simp [sg_of]; done)
  | .int i, _ => by simp only [toPy, PyData.shown, sg_of, sh]
  | .str s, h => by
    simp only [toPy, PyData.shown, sh]
    have h' : ∀ c ∈ s.cps.toList, calm c = true := by simpa only [nice, List.all_eq_true] using h
    have := fold_inner (reprQuote s) s.cps.toList #[reprQuote s] h'
    unfold reprText
    rw [Array.toList_push]
    rw [← Array.foldl_toList, this]
    simp
  | .tup [], _ => by simp only [toPy, toPys, PyData.shown_tuple, PyData.shownAll, sh, shf]; rfl
  | .tup [x], h => by
    have h' : nice x = true ∧ nices [] = true := by simpa only [nice, nices, Bool.and_eq_true] using h
    simp only [toPy, toPys, PyData.shown_tuple, PyData.shownAll, sh, shf]
    rw [sg_app, sg_app, sg_join, sh_eq x h'.1, sg_of, sg_of]
    simp
  | .tup (x :: y :: r), h => by
    have h' : nice x = true ∧ nice y = true ∧ nices r = true := by simpa only [nice, nices, Bool.and_eq_true] using h
    have hr := shr_eq r h'.2.2
    have hl : ((PyData.tuple (toPys (x :: y :: r))).shown).cps.toList = (PyData.tuple (toPys (x :: y :: r))).shown.cps.toList := rfl
    simp only [toPy, toPys, PyData.shown_tuple, PyData.shownAll, sh, shf]
    rw [sg_app, sg_app, sg_join, sh_eq x h'.1, sg_of, sg_of]
    rw [List.map_cons, List.flatten_cons, sh_eq y h'.2.1, ← hr]
    simp
  | .lst _, h => by simp [nice] at h
  | .dct _ _, h => by simp [nice] at h
  | .set _, h => by simp [nice] at h
  | .obj _ _ _, h => by simp [nice] at h
  | .fn _, h => by simp [nice] at h
  | .scr _, h => by simp [nice] at h
theorem shr_eq : ∀ r : List D, nices r = true → ((PyData.shownAll (toPys r)).map fun y => 44 :: 32 :: y.cps.toList).flatten ++ [41] = shr r
  | [], _ => by simp only [toPys, PyData.shownAll, shr]; rfl
  | x :: r, h => by
    have h' : nice x = true ∧ nices r = true := by simpa only [nices, Bool.and_eq_true] using h
    simp only [toPys, PyData.shownAll, shr]
    rw [List.map_cons, List.flatten_cons, sh_eq x h'.1, ← shr_eq r h'.2]
    simp
end

/-- which kind of value a first sign tells -/
def kin (c : Nat) : Nat := if c = 78 then 0 else if c = 84 then 1 else if c = 70 then 2 else if c = 40 then 3 else if c = 34 ∨ c = 39 then 4 else if c = 45 ∨ (48 ≤ c ∧ c ≤ 57) then 5 else 6
def kid : D → Nat
  | .non => 0
  | .bl true => 1
  | .bl false => 2
  | .tup _ => 3
  | .str _ => 4
  | .int _ => 5
  | _ => 6
def dg (c : Nat) : Bool := decide (c = 45) || (decide (48 ≤ c) && decide (c ≤ 57))
theorem int_dg (i : Int) : ∀ c ∈ (toString i).toList.map Char.toNat, dg c = true := by
  intro c h
  obtain ⟨ch, hm, rfl⟩ := List.mem_map.1 h
  rcases PyProof.Rows.int_sign i ch hm with h | rfl
  · have := PyProof.Rows.digit_range h
    simp [dg, this]
  · rfl
theorem int_ne (i : Int) : (toString i).toList.map Char.toNat ≠ [] := by
  intro h
  have h2 : (toString i).toList = [] := List.map_eq_nil_iff.1 h
  rw [Int.toString_eq_repr, Int.repr_eq_if] at h2
  split at h2
  · rw [Nat.toList_repr] at h2; exact Nat.toDigits_ne_nil h2
  · rw [String.toList_append] at h2; simp at h2
theorem sh_head (d : D) (h : nice d = true) : ∃ c t, sh d = c :: t ∧ kin c = kid d := by
  cases d with
  | non => exact ⟨_, _, rfl, rfl⟩
  | bl b => cases b <;> exact ⟨_, _, rfl, rfl⟩
  | int i =>
    have n := int_ne i
    have a := int_dg i
    simp only [sh]
    revert n a
    generalize (toString i).toList.map Char.toNat = l
    intro n a
    cases l with
    | nil => exact absurd rfl n
    | cons c t =>
      refine ⟨c, t, rfl, ?_⟩
      have := a c (List.mem_cons_self ..)
      simp only [dg, Bool.or_eq_true, Bool.and_eq_true, decide_eq_true_eq] at this
      simp only [kid]
      unfold kin
      rw [if_neg (by omega), if_neg (by omega), if_neg (by omega), if_neg (by omega), if_neg (by omega), if_pos this]
  | str s =>
    refine ⟨reprQuote s, _, by simp only [sh]; rfl, ?_⟩
    unfold reprQuote
    split <;> rfl
  | tup xs => exact ⟨40, shf xs, by simp only [sh], rfl⟩
  | lst _ => simp [nice] at h
  | dct _ _ => simp [nice] at h
  | set _ => simp [nice] at h
  | obj _ _ _ => simp [nice] at h
  | fn _ => simp [nice] at h
  | scr _ => simp [nice] at h
/-- what may stand behind a value -/
def stop : List Nat → Bool
  | [] => true
  | c :: _ => c == 44 || c == 41
theorem stop_dg {c : Nat} {x : List Nat} (h : stop (c :: x) = true) : dg c = false := by
  simp only [stop, Bool.or_eq_true, beq_iff_eq] at h
  rcases h with rfl | rfl <;> rfl
theorem dg_split : ∀ (a b x y : List Nat), (∀ c ∈ a, dg c = true) → (∀ c ∈ b, dg c = true) → stop x = true → stop y = true → a ++ x = b ++ y → a = b ∧ x = y
  | [], [], x, y, _, _, _, _, h => ⟨rfl, h⟩
  | [], d :: b, x, y, _, hb, hx, _, h => by
    rw [List.nil_append, List.cons_append] at h
    subst h
    have := stop_dg hx
    rw [hb d (List.mem_cons_self ..)] at this
    cases this
  | c :: a, [], x, y, ha, _, _, hy, h => by
    rw [List.nil_append, List.cons_append] at h
    subst h
    have := stop_dg hy
    rw [ha c (List.mem_cons_self ..)] at this
    cases this
  | c :: a, d :: b, x, y, ha, hb, hx, hy, h => by
    rw [List.cons_append, List.cons_append, List.cons.injEq] at h
    obtain ⟨rfl, e⟩ := dg_split a b x y (fun k hk => ha k (List.mem_cons_of_mem _ hk)) (fun k hk => hb k (List.mem_cons_of_mem _ hk)) hx hy h.2
    exact ⟨by rw [h.1], e⟩
theorem inner_inj (q : Nat) (hq : q ≠ 92) : ∀ (a b x y : List Nat), inner q a ++ x = inner q b ++ y → a = b ∧ x = y
  | [], [], x, y, h => ⟨rfl, by simpa [inner] using h⟩
  | [], d :: b, x, y, h => by
    simp only [inner, rc] at h
    split at h
    · simp at h; exact absurd h.1 hq
    · rename_i hn; simp at h; exact absurd h.1.symm fun e => hn (.inl e)
  | c :: a, [], x, y, h => by
    simp only [inner, rc] at h
    split at h
    · simp at h; exact absurd h.1.symm hq
    · rename_i hn; simp at h; exact absurd h.1 fun e => hn (.inl e)
  | c :: a, d :: b, x, y, h => by
    simp only [inner, rc] at h
    split at h <;> split at h
    · simp at h
      obtain ⟨rfl, e⟩ := inner_inj q hq a b x y (by simpa using h.2)
      exact ⟨by rw [h.1], e⟩
    · rename_i hn; simp at h; exact absurd h.1.symm fun e => hn (.inr e)
    · rename_i hn _; simp at h; exact absurd h.1 fun e => hn (.inr e)
    · simp at h
      obtain ⟨rfl, e⟩ := inner_inj q hq a b x y (by simpa using h.2)
      exact ⟨by rw [h.1], e⟩
theorem quote_ne (s : Str) : reprQuote s ≠ 92 := by
  unfold reprQuote
  split <;> decide
theorem kid_eq {a b : D} (ha : nice a = true) (hb : nice b = true) {x y : List Nat} (h : sh a ++ x = sh b ++ y) : kid a = kid b := by
  obtain ⟨c, t, e, k⟩ := sh_head a ha
  obtain ⟨c', t', e', k'⟩ := sh_head b hb
  rw [e, e', List.cons_append, List.cons_append, List.cons.injEq] at h
  rw [← k, ← k', h.1]
theorem sh_no41 {a : D} (ha : nice a = true) {x y : List Nat} (h : sh a ++ x = 41 :: y) : False := by
  obtain ⟨c, t, e, k⟩ := sh_head a ha
  rw [e, List.cons_append, List.cons.injEq] at h
  rw [h.1] at k
  cases a <;> first | (simp [kid, kin] at k; done) | (rename_i b; cases b <;> simp [kid, kin] at k; done) | (simp [nice] at ha; done)
theorem stop_shr (r : List D) (x : List Nat) : stop (shr r ++ x) = true := by
  cases r <;> simp [shr, stop]
mutual
theorem sh_inj : ∀ a b : D, nice a = true → nice b = true → ∀ x y, stop x = true → stop y = true → sh a ++ x = sh b ++ y → a = b ∧ x = y
  | .non, b, ha, hb, x, y, hx, hy, h => by
    have k := kid_eq ha hb h
    cases b <;> first | (simp [kid] at k; done) | (rename_i b; cases b <;> simp [kid] at k; done) | skip
    exact ⟨rfl, by simpa [sh] using h⟩
  | .bl c, b, ha, hb, x, y, hx, hy, h => by
    have k := kid_eq ha hb h
    cases b <;> first | (cases c <;> simp [kid] at k; done) | skip
    rename_i b
    cases c <;> cases b <;> simp [kid] at k <;> exact ⟨rfl, by simpa [sh] using h⟩
  | .int i, b, ha, hb, x, y, hx, hy, h => by
    have k := kid_eq ha hb h
    cases b <;> first | (simp [kid] at k; done) | (rename_i b; cases b <;> simp [kid] at k; done) | skip
    rename_i j
    simp only [sh] at h
    obtain ⟨e1, e2⟩ := dg_split _ _ x y (int_dg i) (int_dg j) hx hy h
    have e3 : (toString i).toList = (toString j).toList := by
      have hinj : ∀ (l m : List Char), l.map Char.toNat = m.map Char.toNat → l = m := by
        intro l
        induction l with
        | nil => intro m hm; cases m with
          | nil => rfl
          | cons _ _ => simp at hm
        | cons c l ih => intro m hm; cases m with
          | nil => simp at hm
          | cons d m =>
            simp only [List.map_cons, List.cons.injEq] at hm
            rw [Char.toNat_inj.1 hm.1, ih m hm.2]
      exact hinj _ _ e1
    have e4 := String.toList_inj.1 e3
    rw [Int.toString_eq_repr, Int.toString_eq_repr] at e4
    exact ⟨by rw [Int.repr_inj.1 e4], e2⟩
  | .str s, b, ha, hb, x, y, hx, hy, h => by
    have k := kid_eq ha hb h
    cases b <;> first | (simp [kid] at k; done) | (rename_i b; cases b <;> simp [kid] at k; done) | skip
    rename_i t
    simp only [sh, List.cons_append, List.cons.injEq] at h
    rw [← h.1] at h
    obtain ⟨e1, e2⟩ := inner_inj _ (quote_ne s) _ _ x y h.2
    refine ⟨?_, e2⟩
    cases s; cases t
    simp at e1
    rw [e1]
  | .tup xs, b, ha, hb, x, y, hx, hy, h => by
    have k := kid_eq ha hb h
    cases b <;> first | (simp [kid] at k; done) | (rename_i b; cases b <;> simp [kid] at k; done) | skip
    rename_i ys
    simp only [sh, List.cons_append, List.cons.injEq, true_and] at h
    obtain ⟨e1, e2⟩ := shf_inj xs ys (by simpa [nice] using ha) (by simpa [nice] using hb) x y h
    exact ⟨by rw [e1], e2⟩
  | .lst _, b, ha, _, _, _, _, _, _ => by simp [nice] at ha
  | .dct _ _, b, ha, _, _, _, _, _, _ => by simp [nice] at ha
  | .set _, b, ha, _, _, _, _, _, _ => by simp [nice] at ha
  | .obj _ _ _, b, ha, _, _, _, _, _, _ => by simp [nice] at ha
  | .fn _, b, ha, _, _, _, _, _, _ => by simp [nice] at ha
  | .scr _, b, ha, _, _, _, _, _, _ => by simp [nice] at ha
theorem shf_inj : ∀ xs ys : List D, nices xs = true → nices ys = true → ∀ x y, shf xs ++ x = shf ys ++ y → xs = ys ∧ x = y
  | [], [], _, _, x, y, h => ⟨rfl, by simpa [shf] using h⟩
  | [], [b], _, hb, x, y, h => by
    simp only [nices, Bool.and_eq_true] at hb
    simp only [shf, List.append_assoc] at h
    exact (sh_no41 hb.1 h.symm).elim
  | [], b :: c :: r, _, hb, x, y, h => by
    simp only [nices, Bool.and_eq_true] at hb
    simp only [shf, List.append_assoc] at h
    exact (sh_no41 hb.1 h.symm).elim
  | [a], [], ha, _, x, y, h => by
    simp only [nices, Bool.and_eq_true] at ha
    simp only [shf, List.append_assoc] at h
    exact (sh_no41 ha.1 h).elim
  | [a], [b], ha, hb, x, y, h => by
    simp only [nices, Bool.and_eq_true] at ha hb
    simp only [shf, List.append_assoc] at h
    obtain ⟨rfl, e⟩ := sh_inj a b ha.1 hb.1 _ _ rfl rfl h
    exact ⟨rfl, by simpa using e⟩
  | [a], b :: c :: r, ha, hb, x, y, h => by
    simp only [nices, Bool.and_eq_true] at ha hb
    simp only [shf, List.append_assoc] at h
    have := (sh_inj a b ha.1 hb.1 _ _ rfl rfl h).2
    simp at this
  | a :: c :: r, [], ha, _, x, y, h => by
    simp only [nices, Bool.and_eq_true] at ha
    simp only [shf, List.append_assoc] at h
    exact (sh_no41 ha.1 h).elim
  | a :: c :: r, [b], ha, hb, x, y, h => by
    simp only [nices, Bool.and_eq_true] at ha hb
    simp only [shf, List.append_assoc] at h
    have := (sh_inj a b ha.1 hb.1 _ _ rfl rfl h).2
    simp at this
  | a :: c :: r, b :: d :: t, ha, hb, x, y, h => by
    simp only [nices, Bool.and_eq_true] at ha hb
    simp only [shf, List.append_assoc] at h
    obtain ⟨p1, e1⟩ := sh_inj a b ha.1 hb.1 _ _ rfl rfl h
    simp only [List.append_cancel_left_eq] at e1
    obtain ⟨p2, e2⟩ := sh_inj c d ha.2.1 hb.2.1 _ _ (stop_shr _ _) (stop_shr _ _) e1
    obtain ⟨p3, e3⟩ := shr_inj r t ha.2.2 hb.2.2 x y e2
    exact ⟨by rw [p1, p2, p3], e3⟩
theorem shr_inj : ∀ xs ys : List D, nices xs = true → nices ys = true → ∀ x y, shr xs ++ x = shr ys ++ y → xs = ys ∧ x = y
  | [], [], _, _, x, y, h => ⟨rfl, by simpa [shr] using h⟩
  | [], b :: r, _, hb, x, y, h => by simp [shr] at h
  | a :: r, [], _, hb, x, y, h => by simp [shr] at h
  | a :: r, b :: t, ha, hb, x, y, h => by
    simp only [nices, Bool.and_eq_true] at ha hb
    simp only [shr, List.append_assoc, List.append_cancel_left_eq] at h
    obtain ⟨p1, e1⟩ := sh_inj a b ha.1 hb.1 _ _ (stop_shr _ _) (stop_shr _ _) h
    obtain ⟨p2, e2⟩ := shr_inj r t ha.2 hb.2 x y e1
    exact ⟨by rw [p1, p2], e2⟩
end
/-- texts tell values apart -/
theorem shown_inj {a b : D} (ha : nice a = true) (hb : nice b = true) (h : PyData.shown (toPy a) = PyData.shown (toPy b)) : a = b := by
  have e : sh a ++ [] = sh b ++ [] := by rw [← sh_eq a ha, ← sh_eq b hb, h]
  exact (sh_inj a b ha hb [] [] rfl rfl e).1
end Mp

set_option maxRecDepth 100000
/-! Kinds: told apart by a game. -/
namespace Mp
open PySem

def leS (a b : Str) : Bool := decide (a.cps.toList ≤ b.cps.toList)
def sortS (ss : List Str) : List Str := ss.mergeSort leS
theorem sortD_strs (ss : List Str) : sortD (ss.map .str) = (sortS ss).map .str := by
  unfold sortD sortS
  rw [List.map_mergeSort]
  intro a _ b _
  have := congrFun (congrFun (PySem.W.dataLe_str (fun x : Str => x)) a) b
  exact this.symm
theorem str_ext {x y : Str} (h : x.cps.toList = y.cps.toList) : x = y := PySem.W.str_of_cps h
theorem leS_trans (a b c : Str) (h1 : leS a b = true) (h2 : leS b c = true) : leS a c = true := by
  simp only [leS, decide_eq_true_eq] at *
  exact Std.le_trans h1 h2
theorem leS_total (a b : Str) : (leS a b || leS b a) = true := by
  simp only [leS, Bool.or_eq_true, decide_eq_true_eq]
  exact Std.le_total
theorem leS_anti (a b : Str) (h1 : leS a b = true) (h2 : leS b a = true) : a = b := by
  simp only [leS, decide_eq_true_eq] at *
  exact str_ext (Std.le_antisymm h1 h2)
theorem sortS_mem (ss : List Str) (x : Str) : x ∈ sortS ss ↔ x ∈ ss := List.mem_mergeSort
/-- put once -/
def putS (ks : List Str) (s : Str) : List Str := if s ∈ ks then ks else ks ++ [s]
def onceS (l : List Str) : List Str := l.foldl putS []
theorem putS_mem (ks : List Str) (s x : Str) : x ∈ putS ks s ↔ x ∈ ks ∨ x = s := by
  unfold putS
  split
  · constructor
    · exact .inl
    · rintro (h | rfl) <;> assumption
  · simp
theorem putS_nodup {ks : List Str} (s : Str) (h : ks.Nodup) : (putS ks s).Nodup := by
  unfold putS
  split
  · exact h
  · rename_i hn
    rw [List.nodup_append]
    refine ⟨h, by simp, ?_⟩
    intro a ha b hb
    simp only [List.mem_singleton] at hb
    subst hb
    rintro rfl
    exact hn ha
theorem once_go : ∀ (l ks : List Str), ks.Nodup → (l.foldl putS ks).Nodup ∧ ∀ x, x ∈ l.foldl putS ks ↔ x ∈ ks ∨ x ∈ l
  | [], ks, h => ⟨h, fun x => by simp⟩
  | s :: l, ks, h => by
    obtain ⟨n, m⟩ := once_go l (putS ks s) (putS_nodup s h)
    refine ⟨n, fun x => ?_⟩
    rw [List.foldl_cons, m, putS_mem, List.mem_cons]
    constructor
    · rintro ((h | h) | h)
      · exact .inl h
      · exact .inr (.inl h)
      · exact .inr (.inr h)
    · rintro (h | h | h)
      · exact .inl (.inl h)
      · exact .inl (.inr h)
      · exact .inr h
theorem onceS_mem (l : List Str) (x : Str) : x ∈ onceS l ↔ x ∈ l := by
  have := (once_go l [] List.nodup_nil).2 x
  simpa [onceS] using this
theorem onceS_nodup (l : List Str) : (onceS l).Nodup := (once_go l [] List.nodup_nil).1
theorem once_sorted_eq {l m : List Str} : sortS (onceS l) = sortS (onceS m) ↔ ∀ x, x ∈ l ↔ x ∈ m := by
  constructor
  · intro h x
    rw [← onceS_mem l, ← onceS_mem m, ← sortS_mem, ← sortS_mem (onceS m), h]
  · intro h
    have p : (onceS l).Perm (onceS m) := (List.perm_ext_iff_of_nodup (onceS_nodup l) (onceS_nodup m)).2 fun x => by rw [onceS_mem, onceS_mem, h]
    have q : (sortS (onceS l)).Perm (sortS (onceS m)) := (List.mergeSort_perm _ _).trans (p.trans (List.mergeSort_perm _ _).symm)
    refine q.eq_of_pairwise (le := fun a b => leS a b = true) (fun a b _ _ h1 h2 => leS_anti a b h1 h2) ?_ ?_
    · exact List.pairwise_mergeSort leS_trans leS_total _
    · exact List.pairwise_mergeSort leS_trans leS_total _

/-- the text of a value -/
def txt (d : D) : Str := PyData.shown (toPy d)
/-- the kind of some spots, so and so deep -/
def kindD (P : List Nat → D) (n : Nat) : Nat → List Nat → D
  | 0, s => P s
  | d + 1, s => .tup [P s, .tup ((sortS (onceS ((List.range n).map fun p => txt (kindD P n d (s ++ [p]))))).map .str)]
/-- the game -/
def game (P : List Nat → D) (n : Nat) (P' : List Nat → D) (n' : Nat) : Nat → List Nat → List Nat → Prop
  | 0, s, t => P s = P' t
  | d + 1, s, t => P s = P' t ∧ (∀ p, p < n → ∃ q, q < n' ∧ game P n P' n' d (s ++ [p]) (t ++ [q])) ∧ (∀ q, q < n' → ∃ p, p < n ∧ game P n P' n' d (s ++ [p]) (t ++ [q]))
theorem calm_esc (q : Nat) (hq : calm q = true) : ∀ l : List Nat, (∀ c ∈ l, calm c = true) → ∀ c ∈ inner q l, calm c = true
  | [], _, c, h => by simp [inner] at h; rw [h]; exact hq
  | e :: l, hl, c, h => by
    simp only [inner, rc] at h
    have he := hl e (List.mem_cons_self ..)
    have ih := calm_esc q hq l (fun k hk => hl k (List.mem_cons_of_mem _ hk)) c
    split at h
    · simp at h
      rcases h with rfl | rfl | h
      · rfl
      · exact he
      · exact ih h
    · simp at h
      rcases h with rfl | h
      · exact he
      · exact ih h
theorem quote_calm (s : Str) : calm (reprQuote s) = true := by
  unfold reprQuote
  split <;> rfl
theorem dg_calm {c : Nat} (h : dg c = true) : calm c = true := by
  simp only [dg, calm, Bool.or_eq_true, Bool.and_eq_true, decide_eq_true_eq] at *
  omega
mutual
theorem sh_calm : ∀ d : D, nice d = true → (sh d).all calm = true
  | .non, _ => by simp only [sh]; rfl
  | .bl true, _ => by simp only [sh]; rfl
  | .bl false, _ => by simp only [sh]; rfl
  | .int i, _ => by
    rw [List.all_eq_true]
    intro c hc
    simp only [sh] at hc
    exact dg_calm (int_dg i c hc)
  | .str s, h => by
    rw [List.all_eq_true]
    intro c hc
    simp only [sh] at hc
    simp only [nice, List.all_eq_true] at h
    rcases List.mem_cons.1 hc with rfl | hc
    · exact quote_calm s
    · exact calm_esc _ (quote_calm s) _ h c hc
  | .tup xs, h => by
    simp only [sh, List.all_cons]
    rw [shf_calm xs (by simpa [nice] using h)]; rfl
  | .lst _, h => by simp [nice] at h
  | .dct _ _, h => by simp [nice] at h
  | .set _, h => by simp [nice] at h
  | .obj _ _ _, h => by simp [nice] at h
  | .fn _, h => by simp [nice] at h
  | .scr _, h => by simp [nice] at h
theorem shf_calm : ∀ xs : List D, nices xs = true → (shf xs).all calm = true
  | [], _ => by simp only [shf]; rfl
  | [x], h => by
    simp only [nices, Bool.and_eq_true] at h
    simp only [shf, List.all_append, sh_calm x h.1]; rfl
  | x :: y :: r, h => by
    simp only [nices, Bool.and_eq_true] at h
    simp only [shf, List.all_append, sh_calm x h.1, sh_calm y h.2.1, shr_calm r h.2.2]; rfl
theorem shr_calm : ∀ xs : List D, nices xs = true → (shr xs).all calm = true
  | [], _ => by simp only [shr]; rfl
  | x :: r, h => by
    simp only [nices, Bool.and_eq_true] at h
    simp only [shr, List.all_append, sh_calm x h.1, shr_calm r h.2]; rfl
end
theorem nice_txt {d : D} (h : nice d = true) : nice (.str (txt d)) = true := by
  simp only [nice, txt, sh_eq d h, sh_calm d h]
theorem nices_strs : ∀ ss : List Str, (∀ s ∈ ss, nice (.str s) = true) → nices (ss.map .str) = true
  | [], _ => rfl
  | s :: r, h => by
    simp only [List.map_cons, nices, Bool.and_eq_true]
    exact ⟨h s (List.mem_cons_self ..), nices_strs r fun k hk => h k (List.mem_cons_of_mem _ hk)⟩
theorem kind_nice {P : List Nat → D} (hP : ∀ s, nice (P s) = true) (n : Nat) : ∀ d s, nice (kindD P n d s) = true
  | 0, s => hP s
  | d + 1, s => by
    simp only [kindD, nice, nices, Bool.and_eq_true, hP s, true_and, and_true]
    refine nices_strs _ fun x hx => ?_
    rw [sortS_mem, onceS_mem] at hx
    obtain ⟨p, _, rfl⟩ := List.mem_map.1 hx
    exact nice_txt (kind_nice hP n d _)
theorem map_str_inj : ∀ l m : List Str, l.map D.str = m.map D.str → l = m
  | [], [], _ => rfl
  | [], _ :: _, h => by simp at h
  | _ :: _, [], h => by simp at h
  | a :: l, b :: m, h => by
    simp only [List.map_cons, List.cons.injEq, D.str.injEq] at h
    rw [h.1, map_str_inj l m h.2]
theorem kind_game {P P' : List Nat → D} (hP : ∀ s, nice (P s) = true) (hP' : ∀ s, nice (P' s) = true) (n n' : Nat) : ∀ d s t, kindD P n d s = kindD P' n' d t ↔ game P n P' n' d s t
  | 0, s, t => Iff.rfl
  | d + 1, s, t => by
    have ih := kind_game hP hP' n n' d
    have tx : ∀ p q, txt (kindD P n d (s ++ [p])) = txt (kindD P' n' d (t ++ [q])) ↔ game P n P' n' d (s ++ [p]) (t ++ [q]) := fun p q =>
      ⟨fun h => (ih _ _).1 (shown_inj (kind_nice hP n d _) (kind_nice hP' n' d _) h), fun h => by rw [(ih _ _).2 h]⟩
    simp only [kindD, game, D.tup.injEq, List.cons.injEq, and_true]
    refine and_congr Iff.rfl ?_
    constructor
    · intro h
      have h2 := once_sorted_eq.1 (map_str_inj _ _ h)
      constructor
      · intro p hp
        have := (h2 (txt (kindD P n d (s ++ [p])))).1 (List.mem_map.2 ⟨p, List.mem_range.2 hp, rfl⟩)
        obtain ⟨q, hq, e⟩ := List.mem_map.1 this
        exact ⟨q, List.mem_range.1 hq, (tx p q).1 e.symm⟩
      · intro q hq
        have := (h2 (txt (kindD P' n' d (t ++ [q])))).2 (List.mem_map.2 ⟨q, List.mem_range.2 hq, rfl⟩)
        obtain ⟨p, hp, e⟩ := List.mem_map.1 this
        exact ⟨p, List.mem_range.1 hp, (tx p q).1 e⟩
    · rintro ⟨h1, h2⟩
      refine congrArg _ (once_sorted_eq.2 fun x => ⟨fun hx => ?_, fun hx => ?_⟩)
      · obtain ⟨p, hp, rfl⟩ := List.mem_map.1 hx
        obtain ⟨q, hq, g⟩ := h1 p (List.mem_range.1 hp)
        exact List.mem_map.2 ⟨q, List.mem_range.2 hq, ((tx p q).2 g).symm⟩
      · obtain ⟨q, hq, rfl⟩ := List.mem_map.1 hx
        obtain ⟨p, hp, g⟩ := h2 q (List.mem_range.1 hq)
        exact List.mem_map.2 ⟨p, List.mem_range.2 hp, (tx p q).2 g⟩
end Mp

set_option maxRecDepth 100000
/-! The game on rows. -/
namespace Mp
open PySem

def gapOk (D : Nat) (x y : Nat × Nat) : Prop := y.1 - x.1 = y.2 - x.2 ∨ (D ≤ y.1 - x.1 ∧ D ≤ y.2 - x.2)
def Gaps (D : Nat) (R : List (Nat × Nat)) : Prop := ∀ x ∈ R, ∀ y ∈ R, gapOk D x y
theorem near_low (p : Nat) : ∀ R : List (Nat × Nat), (∃ x ∈ R, x.1 < p) → ∃ x ∈ R, x.1 < p ∧ ∀ z ∈ R, z.1 < p → z.1 ≤ x.1
  | [], ⟨_, h, _⟩ => by simp at h
  | y :: R, h => by
    by_cases e : ∃ x ∈ R, x.1 < p
    · obtain ⟨x, hx, h1, h2⟩ := near_low p R e
      by_cases c : y.1 < p ∧ x.1 < y.1
      · refine ⟨y, List.mem_cons_self .., c.1, fun z hz hp => ?_⟩
        rcases List.mem_cons.1 hz with rfl | hz
        · exact Nat.le_refl _
        · have := h2 z hz hp; omega
      · refine ⟨x, List.mem_cons_of_mem _ hx, h1, fun z hz hp => ?_⟩
        rcases List.mem_cons.1 hz with rfl | hz
        · omega
        · exact h2 z hz hp
    · obtain ⟨x, hx, h1⟩ := h
      have : x = y := by
        rcases List.mem_cons.1 hx with h | h
        · exact h
        · exact absurd ⟨x, h, h1⟩ e
      subst this
      refine ⟨x, List.mem_cons_self .., h1, fun z hz hp => ?_⟩
      rcases List.mem_cons.1 hz with rfl | hz
      · exact Nat.le_refl _
      · exact absurd ⟨z, hz, hp⟩ e
theorem near_high (p : Nat) : ∀ R : List (Nat × Nat), (∃ x ∈ R, p < x.1) → ∃ x ∈ R, p < x.1 ∧ ∀ z ∈ R, p < z.1 → x.1 ≤ z.1
  | [], ⟨_, h, _⟩ => by simp at h
  | y :: R, h => by
    by_cases e : ∃ x ∈ R, p < x.1
    · obtain ⟨x, hx, h1, h2⟩ := near_high p R e
      by_cases c : p < y.1 ∧ y.1 < x.1
      · refine ⟨y, List.mem_cons_self .., c.1, fun z hz hp => ?_⟩
        rcases List.mem_cons.1 hz with rfl | hz
        · exact Nat.le_refl _
        · have := h2 z hz hp; omega
      · refine ⟨x, List.mem_cons_of_mem _ hx, h1, fun z hz hp => ?_⟩
        rcases List.mem_cons.1 hz with rfl | hz
        · omega
        · exact h2 z hz hp
    · obtain ⟨x, hx, h1⟩ := h
      have : x = y := by
        rcases List.mem_cons.1 hx with h | h
        · exact h
        · exact absurd ⟨x, h, h1⟩ e
      subst this
      refine ⟨x, List.mem_cons_self .., h1, fun z hz hp => ?_⟩
      rcases List.mem_cons.1 hz with rfl | hz
      · exact Nat.le_refl _
      · exact absurd ⟨z, hz, hp⟩ e
theorem gaps_less {D E : Nat} (h : E ≤ D) {R : List (Nat × Nat)} (g : Gaps D R) : Gaps E R := fun x hx y hy => by
  have := g x hx y hy
  unfold gapOk at *
  omega
/-- an answer to a move -/
theorem gaps_answer {D m k : Nat} (hD : 1 ≤ D) {R : List (Nat × Nat)} (g : Gaps (2 * D) R) (h0 : (0, 0) ∈ R) (h1 : (m + 1, k + 1) ∈ R) (p : Nat) (p0 : 0 < p) (p1 : p < m + 1) : ∃ q, 0 < q ∧ q < k + 1 ∧ Gaps D ((p, q) :: R) := by
  by_cases e : ∃ x ∈ R, x.1 = p
  · obtain ⟨x, hx, rfl⟩ := e
    have a := g _ h0 _ hx
    have b := g _ hx _ h1
    unfold gapOk at a b
    refine ⟨x.2, by simp at a; omega, by simp at b; omega, ?_⟩
    intro y hy z hz
    have hy' : y ∈ R := by
      rcases List.mem_cons.1 hy with rfl | h
      · exact hx
      · exact h
    have hz' : z ∈ R := by
      rcases List.mem_cons.1 hz with rfl | h
      · exact hx
      · exact h
    exact gaps_less (by omega) g y hy' z hz'
  · obtain ⟨x, hx, x1, x2⟩ := near_low p R ⟨_, h0, p0⟩
    obtain ⟨y, hy, y1, y2⟩ := near_high p R ⟨_, h1, p1⟩
    have c := g x hx y hy
    have cx := g _ h0 _ hx
    have cy := g _ hy _ h1
    have key : ∃ q, x.2 < q ∧ q < y.2 ∧ (p - x.1 = q - x.2 ∨ (D ≤ p - x.1 ∧ D ≤ q - x.2)) ∧ (y.1 - p = y.2 - q ∨ (D ≤ y.1 - p ∧ D ≤ y.2 - q)) := by
      unfold gapOk at c
      rcases c with c | c
      · exact ⟨x.2 + (p - x.1), by omega, by omega, by omega, by omega⟩
      · by_cases s : p - x.1 < D
        · exact ⟨x.2 + (p - x.1), by omega, by omega, by omega, by omega⟩
        · by_cases s2 : y.1 - p < D
          · exact ⟨y.2 - (y.1 - p), by omega, by omega, by omega, by omega⟩
          · exact ⟨x.2 + D, by omega, by omega, by omega, by omega⟩
    obtain ⟨q, q1, q2, q3, q4⟩ := key
    refine ⟨q, by omega, ?_, ?_⟩
    · have cy' := g _ h1 _ hy
      have := y2 _ h1 p1
      unfold gapOk at cy cy'
      simp only at cy cy' this
      omega
    · have side : ∀ z ∈ R, gapOk D (p, q) z ∧ gapOk D z (p, q) := by
        intro z hz
        have zx := g z hz x hx
        have xz := g x hx z hz
        have zy := g z hz y hy
        have yz := g y hy z hz
        have ne : z.1 ≠ p := fun h => e ⟨z, hz, h⟩
        unfold gapOk at *
        simp only at *
        by_cases l : z.1 < p
        · have := x2 z hz l
          constructor <;> omega
        · have := y2 z hz (by omega)
          constructor <;> omega
      intro a ha b hb
      rcases List.mem_cons.1 ha with rfl | ha <;> rcases List.mem_cons.1 hb with rfl | hb
      · exact .inl (by simp)
      · exact (side b hb).1
      · exact (side a ha).2
      · exact gaps_less (by omega) g a ha b hb
theorem gaps_swap {D : Nat} {R : List (Nat × Nat)} (g : Gaps D R) : Gaps D (R.map Prod.swap) := by
  intro x hx y hy
  obtain ⟨x', hx', rfl⟩ := List.mem_map.1 hx
  obtain ⟨y', hy', rfl⟩ := List.mem_map.1 hy
  have := g x' hx' y' hy'
  unfold gapOk at *
  simp only [Prod.fst_swap, Prod.snd_swap]
  omega
theorem gaps_answer' {D m k : Nat} (hD : 1 ≤ D) {R : List (Nat × Nat)} (g : Gaps (2 * D) R) (h0 : (0, 0) ∈ R) (h1 : (m + 1, k + 1) ∈ R) (q : Nat) (p0 : 0 < q) (p1 : q < k + 1) : ∃ p, 0 < p ∧ p < m + 1 ∧ Gaps D ((p, q) :: R) := by
  obtain ⟨p, a, b, c⟩ := gaps_answer (m := k) (k := m) hD (gaps_swap g) (List.mem_map.2 ⟨_, h0, rfl⟩) (List.mem_map.2 ⟨_, h1, rfl⟩) q p0 p1
  refine ⟨p, a, b, ?_⟩
  have := gaps_swap c
  simpa using this
/-- what a spoiler shows -/
theorem gaps_double {D m k : Nat} (hD : 1 ≤ D) {R : List (Nat × Nat)} (g : Gaps D R) (hm : ∀ z ∈ R, z.1 ≤ m + 1 ∧ z.2 ≤ k + 1)
    (f1 : ∀ p, 0 < p → p < m + 1 → ∃ q, Gaps D ((p, q) :: R)) (f2 : ∀ q, 0 < q → q < k + 1 → ∃ p, Gaps D ((p, q) :: R)) : Gaps (2 * D) R := by
  intro x hx y hy
  have a := g x hx y hy
  have bx := hm x hx
  have b := hm y hy
  refine Classical.byContradiction fun hn => ?_
  have hlt : y.1 - x.1 < y.2 - x.2 ∨ y.2 - x.2 < y.1 - x.1 := by unfold gapOk at *; omega
  rcases hlt with l | l
  · have big : D < y.2 - x.2 := by unfold gapOk at *; omega
    obtain ⟨p, gp⟩ := f2 (x.2 + D) (by omega) (by omega)
    have e1 := gp x (List.mem_cons_of_mem _ hx) _ (List.mem_cons_self ..)
    have e2 := gp _ (List.mem_cons_self ..) y (List.mem_cons_of_mem _ hy)
    unfold gapOk at *
    simp only at *
    omega
  · have big : D < y.1 - x.1 := by unfold gapOk at *; omega
    obtain ⟨q, gp⟩ := f1 (x.1 + D) (by omega) (by omega)
    have e1 := gp x (List.mem_cons_of_mem _ hx) _ (List.mem_cons_self ..)
    have e2 := gp _ (List.mem_cons_self ..) y (List.mem_cons_of_mem _ hy)
    unfold gapOk at *
    simp only at *
    omega
/-- the plain kind of spots in a row -/
def rowPair (a b : Nat) : D := .tup [.bl (decide (a < b)), .bl (decide (a = b))]
def rowP (s : List Nat) : D := .tup (s.map (fun _ => .int 0) ++ s.flatMap fun a => s.map fun b => rowPair a b)
theorem nices_append : ∀ l m : List D, nices (l ++ m) = (nices l && nices m)
  | [], m => by simp [nices]
  | x :: l, m => by simp [nices, nices_append l m, Bool.and_assoc]
theorem nices_all : ∀ l : List D, (∀ x ∈ l, nice x = true) → nices l = true
  | [], _ => rfl
  | x :: l, h => by simp only [nices, Bool.and_eq_true]; exact ⟨h x (List.mem_cons_self ..), nices_all l fun y hy => h y (List.mem_cons_of_mem _ hy)⟩
theorem rowP_nice (s : List Nat) : nice (rowP s) = true := by
  unfold rowP
  simp only [nice]
  refine nices_all _ fun x hx => ?_
  rcases List.mem_append.1 hx with h | h
  · obtain ⟨_, _, rfl⟩ := List.mem_map.1 h; rfl
  · obtain ⟨a, _, h⟩ := List.mem_flatMap.1 h
    obtain ⟨b, _, rfl⟩ := List.mem_map.1 h
    rfl
theorem flatMap_eq {α β : Type} {F G : α → List β} : ∀ (l : List α), (∀ z ∈ l, (F z).length = (G z).length) → (l.flatMap F = l.flatMap G ↔ ∀ z ∈ l, F z = G z)
  | [], _ => by simp
  | a :: l, h => by
    rw [List.flatMap_cons, List.flatMap_cons]
    have ih := flatMap_eq (F := F) (G := G) l (fun z hz => h z (List.mem_cons_of_mem _ hz))
    constructor
    · intro e z hz
      obtain ⟨e1, e2⟩ := List.append_inj e (h a (List.mem_cons_self ..))
      rcases List.mem_cons.1 hz with rfl | hz
      · exact e1
      · exact ih.1 e2 z hz
    · intro e
      rw [e a (List.mem_cons_self ..), ih.2 fun z hz => e z (List.mem_cons_of_mem _ hz)]
theorem rowP_eq (ps : List (Nat × Nat)) : rowP (ps.map Prod.fst) = rowP (ps.map Prod.snd) ↔ ∀ z ∈ ps, ∀ w ∈ ps, (z.1 < w.1 ↔ z.2 < w.2) ∧ (z.1 = w.1 ↔ z.2 = w.2) := by
  unfold rowP
  have e : (ps.map Prod.fst).map (fun _ => D.int 0) = (ps.map Prod.snd).map (fun _ => D.int 0) := by simp
  rw [e, D.tup.injEq, List.append_cancel_left_eq, List.flatMap_map, List.flatMap_map]
  rw [flatMap_eq ps (fun z _ => by simp)]
  refine forall_congr' fun z => forall_congr' fun hz => ?_
  rw [List.map_map, List.map_map, List.map_inj_left]
  refine forall_congr' fun w => forall_congr' fun hw => ?_
  simp [rowPair]
def spotsR (m k : Nat) (ps : List (Nat × Nat)) : List (Nat × Nat) := (0, 0) :: (m + 1, k + 1) :: ps.map fun z => (z.1 + 1, z.2 + 1)
theorem game_less {P P' : List Nat → D} {n n' : Nat} : ∀ d s t, game P n P' n' (d + 1) s t → game P n P' n' d s t
  | 0, s, t, h => h.1
  | d + 1, s, t, ⟨h, h1, h2⟩ => ⟨h, fun p hp => let ⟨q, a, b⟩ := h1 p hp; ⟨q, a, game_less d _ _ b⟩, fun q hq => let ⟨p, a, b⟩ := h2 q hq; ⟨p, a, game_less d _ _ b⟩⟩
theorem spots_more {D m k p q : Nat} {ps : List (Nat × Nat)} : Gaps D (spotsR m k (ps ++ [(p, q)])) ↔ Gaps D ((p + 1, q + 1) :: spotsR m k ps) := by
  have e : ∀ z, z ∈ spotsR m k (ps ++ [(p, q)]) ↔ z ∈ (p + 1, q + 1) :: spotsR m k ps := by
    intro z
    simp only [spotsR, List.map_append, List.mem_cons, List.mem_append, List.map_cons, List.map_nil, List.not_mem_nil, or_false]
    constructor
    · rintro (h | h | h | h)
      · exact .inr (.inl h)
      · exact .inr (.inr (.inl h))
      · exact .inr (.inr (.inr h))
      · exact .inl h
    · rintro (h | h | h | h)
      · exact .inr (.inr (.inr h))
      · exact .inl h
      · exact .inr (.inl h)
      · exact .inr (.inr (.inl h))
  exact ⟨fun g x hx y hy => g x ((e x).2 hx) y ((e y).2 hy), fun g x hx y hy => g x ((e x).1 hx) y ((e y).1 hy)⟩
theorem game_rows (m k : Nat) : ∀ (d : Nat) (ps : List (Nat × Nat)), (∀ z ∈ ps, z.1 < m ∧ z.2 < k) → (game rowP m rowP k d (ps.map Prod.fst) (ps.map Prod.snd) ↔ Gaps (2 ^ d) (spotsR m k ps))
  | 0, ps, hr => by
    rw [game, rowP_eq]
    constructor
    · intro h x hx y hy
      simp only [spotsR, List.mem_cons, List.mem_map] at hx hy
      unfold gapOk
      rcases hx with rfl | rfl | ⟨z, hz, rfl⟩ <;> rcases hy with rfl | rfl | ⟨w, hw, rfl⟩
      all_goals simp only [Nat.pow_zero]
      · exact .inl trivial
      · omega
      · have a2 := hr w hw; omega
      · omega
      · omega
      · have a2 := hr w hw; omega
      · have a1 := hr z hz; omega
      · have a1 := hr z hz; omega
      · have a1 := hr z hz
        have a2 := hr w hw
        have a3 := h z hz w hw
        omega
    · intro h z hz w hw
      have mz : (z.1 + 1, z.2 + 1) ∈ spotsR m k ps := by
        simp only [spotsR, List.mem_cons, List.mem_map]; exact .inr (.inr ⟨z, hz, rfl⟩)
      have mw : (w.1 + 1, w.2 + 1) ∈ spotsR m k ps := by
        simp only [spotsR, List.mem_cons, List.mem_map]; exact .inr (.inr ⟨w, hw, rfl⟩)
      have a := h _ mz _ mw
      have b := h _ mw _ mz
      unfold gapOk at a b
      simp only [Nat.pow_zero] at a b
      omega
  | d + 1, ps, hr => by
    have hD : 1 ≤ 2 ^ d := Nat.one_le_two_pow
    have m0 : (0, 0) ∈ spotsR m k ps := List.mem_cons_self ..
    have m1 : (m + 1, k + 1) ∈ spotsR m k ps := List.mem_cons_of_mem _ (List.mem_cons_self ..)
    have ih : ∀ p q, p < m → q < k → (game rowP m rowP k d (ps.map Prod.fst ++ [p]) (ps.map Prod.snd ++ [q]) ↔ Gaps (2 ^ d) ((p + 1, q + 1) :: spotsR m k ps)) := fun p q hp hq => by
      rw [← spots_more, ← game_rows m k d (ps ++ [(p, q)]) (fun z hz => by
        rcases List.mem_append.1 hz with h | h
        · exact hr z h
        · rw [List.mem_singleton.1 h]; exact ⟨hp, hq⟩)]
      simp
    rw [Nat.pow_succ, Nat.mul_comm]
    constructor
    · intro h
      have g0 := (game_rows m k d ps hr).1 (game_less d _ _ h)
      obtain ⟨_, h1, h2⟩ := h
      refine gaps_double (m := m) (k := k) hD g0 ?_ ?_ ?_
      · intro z hz
        simp only [spotsR, List.mem_cons, List.mem_map] at hz
        rcases hz with rfl | rfl | ⟨w, hw, rfl⟩
        · simp
        · simp
        · have := hr w hw; simp only; omega
      · intro p hp0 hp
        obtain ⟨q, hq, g⟩ := h1 (p - 1) (by omega)
        have := (ih _ _ (by omega) hq).1 g
        rw [Nat.sub_add_cancel hp0] at this
        exact ⟨_, this⟩
      · intro q hq0 hq
        obtain ⟨p, hp, g⟩ := h2 (q - 1) (by omega)
        have := (ih _ _ hp (by omega)).1 g
        rw [Nat.sub_add_cancel hq0] at this
        exact ⟨_, this⟩
    · intro g
      refine ⟨?_, ?_, ?_⟩
      · have g0 : Gaps (2 ^ 0) (spotsR m k ps) := gaps_less (by rw [Nat.pow_zero]; omega) g
        exact (game_rows m k 0 ps hr).2 g0
      · intro p hp
        obtain ⟨q, q0, q1, g'⟩ := gaps_answer hD g m0 m1 (p + 1) (by omega) (by omega)
        refine ⟨q - 1, by omega, (ih p (q - 1) hp (by omega)).2 ?_⟩
        rw [Nat.sub_add_cancel q0]
        exact g'
      · intro q hq
        obtain ⟨p, p0, p1, g'⟩ := gaps_answer' hD g m0 m1 (q + 1) (by omega) (by omega)
        refine ⟨p - 1, by omega, (ih (p - 1) q (by omega) hq).2 ?_⟩
        rw [Nat.sub_add_cancel p0]
        exact g'
/-- when two rows are of one kind -/
theorem rows_kind (m k d : Nat) : kindD rowP m d [] = kindD rowP k d [] ↔ m = k ∨ 2 ^ d ≤ min m k + 1 := by
  rw [kind_game rowP_nice rowP_nice]
  have := game_rows m k d [] (by simp)
  rw [List.map_nil, List.map_nil] at this
  rw [this]
  constructor
  · intro g
    have := g (0, 0) (by simp [spotsR]) (m + 1, k + 1) (by simp [spotsR])
    unfold gapOk at this
    simp only at this
    omega
  · intro h x hx y hy
    simp only [spotsR, List.map_nil, List.mem_cons, List.not_mem_nil, or_false] at hx hy
    unfold gapOk
    rcases hx with rfl | rfl <;> rcases hy with rfl | rfl <;> simp only <;> first | exact .inl trivial | omega
end Mp

set_option maxRecDepth 100000
set_option maxHeartbeats 4000000
/-! Lists by comprehension, worked out. -/
namespace Mp
open PySem
section
variable {C : Cl} {rf : List Bool} {ρ : Ev} {j : Nat}
theorem compLoop_pure {step : D → Ev → Res (Option D)} {o : D → Option D} (hz : ρ.set j none = ρ) : ∀ (xs acc : List D), (∀ x ∈ xs, step x ρ = .ok (o x) (ρ.set j (some (.fz x)))) → compLoop [j] step xs acc ρ = .ok (acc ++ xs.filterMap o) ρ
  | [], acc, _ => by simp [compLoop]
  | x :: xs, acc, h => by
    rw [compLoop, h x (List.mem_cons_self ..), bindR]
    have w : wipeE (ρ.set j (some (.fz x))) [j] = ρ := by
      show (ρ.set j (some (.fz x))).set j none = ρ
      rw [List.set_set, hz]
    rw [w, compLoop_pure hz xs _ fun y hy => h y (List.mem_cons_of_mem _ hy), List.filterMap_cons]
    cases o x <;> simp
theorem ev_comp {c0 : Option Cell} {it : I} {c elt : E} {xs : List D} {o : D → Option D} (hj : ρ[j]? = some c0) (hr : isRef rf j = false) (hi : evI C rf it ρ = .ok xs ρ)
    (hs : ∀ x ∈ xs, ((evT C rf c (ρ.set j (some (.fz x)))).bind fun k ρ3 => if k then (ev C rf elt ρ3).bind fun y ρ4 => ofO (freeze rf ρ4 y) fun p => .ok (some p.1) p.2 else .ok none ρ3) = .ok (o x) (ρ.set j (some (.fz x))))
    (hl : okLen (xs.filterMap o).length = true) : ev C rf (.comp [j] (.name j) it c elt) ρ = .ok (.tmp (.lst (xs.filterMap o))) ρ := by
  simp only [ev_eqs]
  rw [if_neg (by simp [hr]), hi, bindR]
  have w : wipeE ρ [j] = ρ.set j none := rfl
  rw [w, compLoop_pure (ρ := ρ.set j none) (o := o) (by rw [List.set_set]) xs [] ?_]
  · simp only [List.nil_append]
    rw [if_pos hl]
    have b : backE ρ (ρ.set j none) [j] = ρ := by
      show (match ρ[j]? with | some c => (ρ.set j none).set j c | none => ρ.set j none) = ρ
      rw [hj]
      simp only [List.set_set]
      obtain ⟨hlt, rfl⟩ := List.getElem?_eq_some_iff.1 hj
      exact List.set_getElem_self hlt
    rw [b]
  · intro x hx
    have s : tgA C rf (.name j) (.fz x) (ρ.set j none) = .ok () (ρ.set j (some (.fz x))) := by
      simp only [tgA_eqs, store_fz' hr, List.set_set, ofO_some]
    rw [s, bindR, List.set_set]
    exact hs x hx
theorem ev_comp_map {c0 : Option Cell} {it : I} {elt : E} {xs : List D} {F : D → D} (hj : ρ[j]? = some c0) (hr : isRef rf j = false) (hi : evI C rf it ρ = .ok xs ρ)
    (hs : ∀ x ∈ xs, ev C rf elt (ρ.set j (some (.fz x))) = .ok (.fz (F x)) (ρ.set j (some (.fz x)))) (hl : okLen xs.length = true) : ev C rf (.comp [j] (.name j) it (.const (.bl true)) elt) ρ = .ok (.tmp (.lst (xs.map F))) ρ := by
  rw [← List.filterMap_eq_map (f := F)]
  refine ev_comp (o := fun x => some (F x)) hj hr hi (fun x hx => ?_) (by simpa using hl)
  have t : evT C rf (.const (.bl true)) (ρ.set j (some (.fz x))) = .ok true (ρ.set j (some (.fz x))) := by simp [ev_eqs, evT_eqs, evs_eqs, evI_eqs, tgA_eqs, tgAs_eqs, exs, ex, bindR, ofO_some, deref_fz, deref_tmp, deref_var, derefC_ow, derefC_fz, derefs_nil, derefs_cons, freeze_fz, freeze_tmp, freeze_var, freezeC_fz, freezeC_ow, freezes_nil, freezes_cons, isRef_nil, isRef_zero, isRef_succ, store_fz', store_tmp', store_var', bin_add, bin_sub, cmp_lt, cmp_gt, cmp_le, cmp_ge, cmp_eq, cmp_ne, cmp_eqb, tru_b, blt_max2, blt_min2, blt_abs, blt_int, List.getElem?_cons_zero, List.getElem?_cons_succ, List.set_cons_zero, List.set_cons_succ, Option.bind_some, Option.map_some]
  rw [t, bindR, if_pos rfl, hs x hx, bindR]
  rfl
end
abbrev dI (n : Nat) : D := .int (n : Int)
theorem rangeD_nat (m : Nat) : rangeD 0 (m : Int) = (List.range m).map dI := by
  unfold rangeD
  have : ((m : Int) - 0).toNat = m := by omega
  rw [this]
  refine List.map_congr_left fun i _ => ?_
  simp
theorem rangeD_from (a m : Nat) : rangeD ((a : Int) + 1) (m : Int) = (List.range' (a + 1) (m - (a + 1))).map dI := by
  unfold rangeD
  have : ((m : Int) - ((a : Int) + 1)).toNat = m - (a + 1) := by omega
  rw [this, List.range'_eq_map_range, List.map_map]
  refine List.map_congr_left fun i _ => ?_
  simp only [Function.comp, dI]
  congr 1
/-- the arcs of a row -/
def rowArcs (m : Nat) : List (Nat × Nat) := (List.range m).flatMap fun a => (List.range' (a + 1) (m - (a + 1))).map fun b => (a, b)
def pairI (p : Nat × Nat) : D := .tup [dI p.1, dI p.2]
theorem rowArcs_mem (m a b : Nat) : (a, b) ∈ rowArcs m ↔ a < b ∧ b < m := by
  unfold rowArcs
  simp only [List.mem_flatMap, List.mem_range, List.mem_map, List.mem_range'_1, Prod.mk.injEq]
  constructor
  · rintro ⟨a', h, b', h2, rfl, rfl⟩; omega
  · intro h; exact ⟨a, by omega, b, by omega, rfl, rfl⟩
def rowD (m : Nat) : D := .tup [.str "web", .tup (List.replicate m (.int 0)), .tup ((rowArcs m).map pairI)]
theorem in_pairs (a b : Nat) (l : List (Nat × Nat)) : inD (pairI (a, b)) (.tup (l.map pairI)) = some (decide ((a, b) ∈ l)) := by
  have f1 : fair (pairI (a, b)) = true := rfl
  have f2 : fair (.tup (l.map pairI)) = true := by
    have p : ∀ l : List (Nat × Nat), plains (l.map pairI) = true ∧ deeps (l.map pairI) ≤ 1 := by
      intro l
      induction l with
      | nil => exact ⟨rfl, by simp [deeps]⟩
      | cons p l ih =>
        simp only [List.map_cons, plains, deeps, Bool.and_eq_true]
        refine ⟨⟨rfl, ih.1⟩, ?_⟩
        have : deep (pairI p) = 1 := rfl
        rw [this]
        omega
    unfold fair
    simp only [plain, deep, (p l).1, Bool.true_and]
    exact decide_eq_true (Nat.le_trans (Nat.succ_le_succ (p l).2) (show 2 ≤ 40 by decide))
  show (if (fair (pairI (a, b)) && fair (.tup (l.map pairI))) = true then some ((l.map pairI).any fun z => eqvD z (pairI (a, b))) else none) = _
  rw [f1, f2, if_pos (show (true && true) = true from rfl)]
  congr 1
  rw [List.any_map]
  have e : ∀ p : Nat × Nat, eqvD (pairI p) (pairI (a, b)) = decide (p = (a, b)) := by
    intro p
    unfold eqvD pairI dI
    simp only [toPy, toPys, PyData.eqv, PyData.eqvAll]
    rcases p with ⟨c, d⟩
    rw [Bool.eq_iff_iff]
    simp
    omega
  have e2 : ((fun z => eqvD z (pairI (a, b))) ∘ pairI) = fun p => decide (p = (a, b)) := funext e
  rw [e2, Bool.eq_iff_iff, List.any_eq_true, decide_eq_true_eq]
  constructor
  · rintro ⟨p, hp, h⟩; rw [← of_decide_eq_true h]; exact hp
  · intro h; exact ⟨_, h, decide_eq_true rfl⟩
end Mp

set_option maxRecDepth 100000
/-! How long the texts are; a dict of texts. -/
namespace Mp
open PySem
def lensum (xs : List D) : Nat := (xs.map fun x => (sh x).length + 2).sum
theorem lensum_cons (x : D) (r : List D) : lensum (x :: r) = (sh x).length + 2 + lensum r := by simp [lensum]
theorem shr_len : ∀ r : List D, (shr r).length = lensum r + 1
  | [] => by simp [shr, lensum]
  | x :: r => by simp only [shr, List.length_append, List.length_cons, List.length_nil, shr_len r, lensum_cons]; omega
theorem shf_len (xs : List D) : (shf xs).length ≤ lensum xs + 1 := by
  match xs with
  | [] => simp [shf, lensum]
  | [x] => simp [shf, lensum]
  | x :: y :: r => simp only [shf, List.length_append, List.length_cons, List.length_nil, shr_len r, lensum_cons]; omega
theorem tup_len (xs : List D) : (sh (.tup xs)).length ≤ lensum xs + 2 := by
  have := shf_len xs
  simp only [sh, List.length_cons]; omega
theorem lensum_le {B : Nat} : ∀ xs : List D, (∀ x ∈ xs, (sh x).length ≤ B) → lensum xs ≤ xs.length * (B + 2)
  | [], _ => by simp [lensum]
  | x :: r, h => by
    have a := h x (List.mem_cons_self ..)
    have b := lensum_le r fun y hy => h y (List.mem_cons_of_mem _ hy)
    rw [lensum_cons, List.length_cons, Nat.add_mul]
    omega
theorem inner_len (q : Nat) : ∀ l : List Nat, (inner q l).length ≤ 2 * l.length + 1
  | [] => by simp [inner]
  | c :: r => by
    have := inner_len q r
    simp only [inner, rc, List.length_append, List.length_cons]
    split <;> simp only [List.length_cons, List.length_nil] <;> omega
theorem txt_len {d : D} (h : nice d = true) : (txt d).length = (sh d).length := by
  rw [← sh_eq d h]
  show (PyData.shown (toPy d)).cps.size = _
  rw [Array.length_toList]
theorem str_len (s : Str) : (sh (.str s)).length ≤ 2 * s.length + 2 := by
  have := inner_len (reprQuote s) s.cps.toList
  have e2 : s.cps.toList.length = s.cps.size := Array.length_toList
  have e : s.length = s.cps.size := rfl
  simp only [sh, List.length_cons]; omega
theorem onceS_len (l : List Str) : (onceS l).length ≤ l.length := by
  have go : ∀ (l ks : List Str), (l.foldl putS ks).length ≤ ks.length + l.length := by
    intro l
    induction l with
    | nil => intro ks; simp
    | cons s l ih =>
      intro ks
      have a := ih (putS ks s)
      have b : (putS ks s).length ≤ ks.length + 1 := by
        unfold putS; split <;> simp
      rw [List.foldl_cons, List.length_cons]
      omega
  have := go l []
  simpa [onceS] using this
theorem rowP_len (s : List Nat) (h : s.length ≤ 3) : (sh (rowP s)).length ≤ 300 := by
  have a := tup_len (s.map (fun _ => D.int 0) ++ s.flatMap fun a => s.map fun b => rowPair a b)
  have b := lensum_le (B := 14) (s.map (fun _ => D.int 0) ++ s.flatMap fun a => s.map fun b => rowPair a b) (fun x hx => by
    rcases List.mem_append.1 hx with h | h
    · obtain ⟨_, _, rfl⟩ := List.mem_map.1 h; decide
    · obtain ⟨a, _, h⟩ := List.mem_flatMap.1 h
      obtain ⟨b, _, rfl⟩ := List.mem_map.1 h
      unfold rowPair
      cases decide (a < b) <;> cases decide (a = b) <;> decide)
  have c : (s.map (fun _ => D.int 0) ++ s.flatMap fun a => s.map fun b => rowPair a b).length ≤ 12 := by
    have e : ∀ (l : List Nat), (l.flatMap fun a => s.map fun b => rowPair a b).length = l.length * s.length := by
      intro l
      induction l with
      | nil => simp
      | cons a l ih => rw [List.flatMap_cons, List.length_append, List.length_map, ih, List.length_cons, Nat.add_mul]; omega
    rw [List.length_append, List.length_map, e]
    have := Nat.mul_le_mul h h
    omega
  have d := Nat.mul_le_mul c (Nat.le_refl 16)
  show (sh (.tup _)).length ≤ 300
  omega
def kLen : Nat → Nat
  | 0 => 300
  | d + 1 => 320 + 8 * (2 * kLen d + 4)
theorem kind_len {m : Nat} (hm : m ≤ 8) : ∀ (d : Nat) (s : List Nat), d + s.length ≤ 3 → (sh (kindD rowP m d s)).length ≤ kLen d
  | 0, s, h => rowP_len s (by omega)
  | d + 1, s, h => by
    have p := rowP_len s (by omega)
    simp only [kindD]
    generalize hS : sortS (onceS ((List.range m).map fun p => txt (kindD rowP m d (s ++ [p])))) = S
    have a := tup_len [rowP s, .tup (S.map .str)]
    have b := tup_len (S.map .str)
    have c : S.length ≤ 8 := by
      rw [← hS]
      unfold sortS
      rw [List.length_mergeSort]
      have := onceS_len ((List.range m).map fun p => txt (kindD rowP m d (s ++ [p])))
      rw [List.length_map, List.length_range] at this
      omega
    have e := lensum_le (B := 2 * kLen d + 2) (S.map .str) (fun x hx => by
      obtain ⟨y, hy, rfl⟩ := List.mem_map.1 hx
      rw [← hS, sortS_mem, onceS_mem] at hy
      obtain ⟨q, _, rfl⟩ := List.mem_map.1 hy
      have l1 := str_len (txt (kindD rowP m d (s ++ [q])))
      have l2 := kind_len hm d (s ++ [q]) (by simp; omega)
      rw [txt_len (kind_nice rowP_nice m d _)] at l1
      omega)
    rw [List.length_map] at e
    have f := Nat.mul_le_mul c (Nat.le_refl (2 * kLen d + 2 + 2))
    simp only [lensum_cons] at a
    have z : lensum [] = 0 := rfl
    rw [kLen]
    omega
theorem kind_txt_ok {m d : Nat} (hm : m ≤ 8) (hd : d ≤ 2) (s : List Nat) (h : d + s.length ≤ 3) : okLen (PyData.shown (toPy (kindD rowP m d s))).length = true := by
  have a := kind_len hm d s h
  rw [← txt_len (kind_nice rowP_nice m d s)] at a
  have b : kLen d < 1000000 := by
    have : d = 0 ∨ d = 1 ∨ d = 2 := by omega
    rcases this with rfl | rfl | rfl <;> simp [kLen]
  have c : okLen (txt (kindD rowP m d s)).length = true := by
    generalize (txt (kindD rowP m d s)).length = z at *
    generalize kLen d = y at *
    exact decide_eq_true (Nat.lt_of_le_of_lt a b)
  unfold txt at c
  exact c
/-! ### fair, of few digits -/
mutual
theorem nice_plain : ∀ d : D, nice d = true → plain d = true
  | .non, _ => rfl
  | .bl _, _ => rfl
  | .int _, _ => rfl
  | .str _, _ => rfl
  | .tup xs, h => nices_plains xs h
  | .lst _, h => by simp [nice] at h
  | .dct _ _, h => by simp [nice] at h
  | .set _, h => by simp [nice] at h
  | .obj _ _ _, h => by simp [nice] at h
  | .fn _, h => by simp [nice] at h
  | .scr _, h => by simp [nice] at h
theorem nices_plains : ∀ xs : List D, nices xs = true → plains xs = true
  | [], _ => rfl
  | x :: r, h => by
    simp only [nices, Bool.and_eq_true] at h
    simp only [plains, nice_plain x h.1, nices_plains r h.2, Bool.and_self]
end
theorem deeps_le {B : Nat} : ∀ xs : List D, (∀ x ∈ xs, deep x ≤ B) → deeps xs ≤ B
  | [], _ => Nat.zero_le _
  | x :: r, h => by
    simp only [deeps]
    exact Nat.max_le.2 ⟨h x (List.mem_cons_self ..), deeps_le r fun y hy => h y (List.mem_cons_of_mem _ hy)⟩
theorem few_all : ∀ xs : List D, (∀ x ∈ xs, fewDigits x = true) → fewDigitss xs = true
  | [], _ => rfl
  | x :: r, h => by
    simp only [fewDigitss, h x (List.mem_cons_self ..), few_all r fun y hy => h y (List.mem_cons_of_mem _ hy), Bool.and_self]
theorem rowP_deep (s : List Nat) : deep (rowP s) ≤ 2 := by
  unfold rowP
  simp only [deep]
  refine Nat.succ_le_succ (deeps_le (B := 1) _ fun x hx => ?_)
  rcases List.mem_append.1 hx with h | h
  · obtain ⟨_, _, rfl⟩ := List.mem_map.1 h; decide
  · obtain ⟨a, _, h⟩ := List.mem_flatMap.1 h
    obtain ⟨b, _, rfl⟩ := List.mem_map.1 h
    exact Nat.le_refl 1
theorem rowP_few (s : List Nat) : fewDigits (rowP s) = true := by
  unfold rowP
  simp only [fewDigits]
  refine few_all _ fun x hx => ?_
  rcases List.mem_append.1 hx with h | h
  · obtain ⟨_, _, rfl⟩ := List.mem_map.1 h; decide
  · obtain ⟨a, _, h⟩ := List.mem_flatMap.1 h
    obtain ⟨b, _, rfl⟩ := List.mem_map.1 h
    rfl
theorem kind_deep (m d : Nat) (s : List Nat) : deep (kindD rowP m d s) ≤ 3 := by
  cases d with
  | zero => exact Nat.le_trans (rowP_deep s) (by decide)
  | succ d =>
    simp only [kindD, deep, deeps]
    have a := rowP_deep s
    have b : ∀ ss : List Str, deeps (ss.map .str) ≤ 0 := fun ss => deeps_le _ fun x hx => by
      obtain ⟨y, _, rfl⟩ := List.mem_map.1 hx
      exact Nat.le_refl 0
    have := b (sortS (onceS ((List.range m).map fun p => txt (kindD rowP m d (s ++ [p])))))
    omega
theorem kind_few (m d : Nat) (s : List Nat) : fewDigits (kindD rowP m d s) = true := by
  cases d with
  | zero => exact rowP_few s
  | succ d =>
    simp only [kindD, fewDigits, fewDigitss, rowP_few, Bool.true_and, Bool.and_true]
    exact few_all _ fun x hx => by
      obtain ⟨y, _, rfl⟩ := List.mem_map.1 hx
      rfl
theorem kind_fair (m d : Nat) (s : List Nat) : fair (kindD rowP m d s) = true := by
  unfold fair
  rw [nice_plain _ (kind_nice rowP_nice m d s), Bool.true_and]
  exact decide_eq_true (Nat.le_trans (kind_deep m d s) (by decide))
theorem blt_repr_kind {m d : Nat} (hm : m ≤ 8) (hd : d ≤ 2) (s : List Nat) (h : d + s.length ≤ 3) : bltD .repr [kindD rowP m d s] = some (.fz (.str (txt (kindD rowP m d s)))) := by
  have e : ∀ x : D, bltD .repr [x] = if fair x && fewDigits x && okLen (PyData.shown (toPy x)).length then some (.fz (.str (PyData.shown (toPy x)))) else none := fun _ => rfl
  rw [e, kind_fair, kind_few, kind_txt_ok hm hd s h]
  rfl
/-- a dict of texts: one more put in -/
theorem keyAt_strs (t : Str) : ∀ ss : List Str, (keyAt (.text t) (ss.map .str)).isSome = decide (t ∈ ss)
  | [] => by simp [keyAt]
  | s :: ss => by
    have ih := keyAt_strs t ss
    simp only [List.map_cons, keyAt, toKey, Option.some.injEq, NestedKey.text.injEq]
    by_cases e : s = t
    · subst e; simp
    · rw [if_neg e]
      rw [Option.isSome_map, ih]
      have e' : ¬ t = s := fun h => e h.symm
      simp [e']
theorem put_strs (ss : List Str) (vs : List D) (t : Str) (v : D) : ∃ vs', putK (ss.map .str) vs (.str t) v = ((putS ss t).map .str, vs') := by
  have k := keyAt_strs t ss
  unfold putK putS
  have e : (toKey (.str t)).bind (fun k => keyAt k (ss.map D.str)) = keyAt (.text t) (ss.map .str) := rfl
  rw [e]
  cases h : keyAt (.text t) (ss.map D.str) with
  | none =>
    rw [h] at k
    have hn : t ∉ ss := of_decide_eq_false k.symm
    rw [if_neg hn]
    exact ⟨vs ++ [v], by simp⟩
  | some i =>
    rw [h] at k
    have hn : t ∈ ss := of_decide_eq_true k.symm
    rw [if_pos hn]
    exact ⟨_, rfl⟩
theorem set_strs (ss : List Str) (vs : List D) (t : Str) (v : D) (hl : ss.length < 1000000) : ∃ vs', setD (.dct (ss.map .str) vs) (.str t) v = some (.dct ((putS ss t).map .str) vs') := by
  obtain ⟨vs', h⟩ := put_strs ss vs t v
  refine ⟨vs', ?_⟩
  show (if leafKey (.str t) && (ss.map D.str).all leafKey && okLen (ss.map D.str).length then some (D.dct (putK (ss.map D.str) vs (.str t) v).1 (putK (ss.map D.str) vs (.str t) v).2) else none) = _
  have a : (ss.map D.str).all leafKey = true := by simp [leafKey]
  have b : okLen (ss.map D.str).length = true := decide_eq_true (by simpa using hl)
  rw [a, b, h]
  rfl
theorem sorted_strs (ss : List Str) (vs : List D) (hl : ss.length < 1000000) : bltD .sorted [.dct (ss.map .str) vs] = some (.tmp (.lst ((sortS ss).map .str))) := by
  show (if sortable (ss.map D.str) && (ss.map D.str).all leafKey && okLen (ss.map D.str).length then some (RV.tmp (D.lst (sortD (ss.map D.str)))) else none) = _
  have a : (ss.map D.str).all leafKey = true := by simp [leafKey]
  have b : okLen (ss.map D.str).length = true := decide_eq_true (by simpa using hl)
  have c : sortable (ss.map D.str) = true := by
    unfold sortable
    have f : ∀ s : Str, fair (.str s) = true := fun _ => rfl
    have g : ∀ s t : Str, PySem.W.alike (toPy (.str s)) (toPy (.str t)) = true := fun _ _ => rfl
    simp [f, g]
  rw [a, b, c, sortD_strs]
  rfl
end Mp

set_option maxRecDepth 100000
set_option maxHeartbeats 4000000
/-! Terms worked out by simp: what goes on behind a step stands under a name of its own. -/
namespace Mp
open PySem
theorem bindX {α β : Type} {x : Res α} {f g : α → Ev → Res β} (h : ∀ a ρ, f a ρ = g a ρ) : x.bind f = x.bind g := by
  have : f = g := funext fun a => funext fun ρ => h a ρ
  rw [this]
theorem ofOX {α β : Type} {x : Option α} {f g : α → Res β} (h : ∀ a, f a = g a) : ofO x f = ofO x g := by
  have : f = g := funext h
  rw [this]
theorem z_evQ_const {C : Cl} {rf : List Bool} : ∀ d ρ, ev C rf (.const d) ρ = .ok (.fz d) ρ := by intros; rfl
theorem z_evQ_glob {C : Cl} {rf : List Bool} : ∀ x ρ, ev C rf (.glob x) ρ = ofO (C.glob x) fun d => .ok (.fz d) ρ := by intros; rfl
theorem z_evQ_bin {C : Cl} {rf : List Bool} : ∀ op a b ρ, ev C rf (.bin op a b) ρ = (ev C rf a ρ).bind fun x ρ1 => (ev C rf b ρ1).bind fun y ρ2 => ofO (deref ρ2 x) fun d => ofO (deref ρ2 y) fun e => ofO (binD op d e) fun r => .ok r ρ2 := by intros; rfl
theorem z_evQ_neg {C : Cl} {rf : List Bool} : ∀ a ρ, ev C rf (.neg a) ρ = (ev C rf a ρ).bind fun x ρ1 => match x with
    | .fz (.int i) => .ok (.fz (.int (-i))) ρ1
    | _ => .bad := by intros; rfl
theorem z_evQ_not {C : Cl} {rf : List Bool} : ∀ a ρ, ev C rf (.not a) ρ = (ev C rf a ρ).bind fun x ρ1 => ofO (deref ρ1 x) fun d => ofO (truD d) fun b => .ok (.fz (.bl (!b))) ρ1 := by intros; rfl
theorem z_evQ_and {C : Cl} {rf : List Bool} : ∀ a b ρ, ev C rf (.and a b) ρ = (ev C rf a ρ).bind fun x ρ1 => match x with
    | .fz (.bl c) => if c then ev C rf b ρ1 else .ok (.fz (.bl false)) ρ1
    | _ => .bad := by intros; rfl
theorem z_evQ_or {C : Cl} {rf : List Bool} : ∀ a b ρ, ev C rf (.or a b) ρ = (ev C rf a ρ).bind fun x ρ1 => match x with
    | .fz (.bl c) => if c then .ok (.fz (.bl true)) ρ1 else ev C rf b ρ1
    | _ => .bad := by intros; rfl
theorem z_evQ_cmp {C : Cl} {rf : List Bool} : ∀ op a b ρ, ev C rf (.cmp op a b) ρ = (ev C rf a ρ).bind fun x ρ1 => (ev C rf b ρ1).bind fun y ρ2 => ofO (deref ρ2 x) fun d => ofO (deref ρ2 y) fun e => ofO (cmpD op d e) fun r => .ok (.fz (.bl r)) ρ2 := by intros; rfl
theorem z_evQ_chain {C : Cl} {rf : List Bool} : ∀ op op' a b c ρ, ev C rf (.chain op op' a b c) ρ = (ev C rf a ρ).bind fun x ρ1 => (ev C rf b ρ1).bind fun y ρ2 => ofO (deref ρ2 x) fun d => ofO (deref ρ2 y) fun e => ofO (cmpD op d e) fun r =>
    if r then (ev C rf c ρ2).bind fun z ρ3 => ofO (deref ρ3 y) fun e => ofO (deref ρ3 z) fun g => ofO (cmpD op' e g) fun r' => .ok (.fz (.bl r')) ρ3 else .ok (.fz (.bl false)) ρ2 := by intros; rfl
theorem z_evQ_ite {C : Cl} {rf : List Bool} : ∀ c a b ρ, ev C rf (.ite c a b) ρ = (evT C rf c ρ).bind fun k ρ1 => if k then ev C rf a ρ1 else ev C rf b ρ1 := by intros; rfl
theorem z_evQ_tup {C : Cl} {rf : List Bool} : ∀ es ρ, ev C rf (.tup es) ρ = (evs C rf es ρ).bind fun xs ρ1 => ofO (freezes rf xs ρ1) fun p => if okLen p.1.length then .ok (.fz (.tup p.1)) p.2 else .bad := by intros; rfl
theorem z_evQ_lst {C : Cl} {rf : List Bool} : ∀ es ρ, ev C rf (.lst es) ρ = (evs C rf es ρ).bind fun xs ρ1 => ofO (freezes rf xs ρ1) fun p => if okLen p.1.length then .ok (.tmp (.lst p.1)) p.2 else .bad := by intros; rfl
theorem z_evQ_dct {C : Cl} {rf : List Bool} : ∀ ks vs ρ, ev C rf (.dct ks vs) ρ = (evs C rf ks ρ).bind fun xs ρ1 => (evs C rf vs ρ1).bind fun ys ρ2 => match xs, ys with
    | [], [] => .ok (.tmp (.dct [] [])) ρ2
    | _, _ => ofO (freezes rf xs ρ2) fun p => ofO (freezes rf ys p.2) fun q => if decide (p.1.length ≤ 15) then ofO (putAll p.1 q.1 ([], [])) fun r => .ok (.tmp (.dct r.1 r.2)) q.2 else .bad := by intros; rfl
theorem z_evQ_idx {C : Cl} {rf : List Bool} : ∀ a b ρ, ev C rf (.idx a b) ρ = (ev C rf a ρ).bind fun x ρ1 => (ev C rf b ρ1).bind fun y ρ2 => ofO (deref ρ2 x) fun d => ofO (deref ρ2 y) fun e => ofO (idxD d e) fun r => .ok (.fz r) ρ2 := by intros; rfl
theorem z_evQ_slc {C : Cl} {rf : List Bool} : ∀ a lo hi ρ, ev C rf (.slc a lo hi) ρ = (ev C rf a ρ).bind fun x ρ1 => (ev C rf lo ρ1).bind fun y ρ2 => (ev C rf hi ρ2).bind fun z ρ3 => ofO (deref ρ3 x) fun d => ofO (partE lo y) fun l => ofO (partE hi z) fun h => ofO (slcD d l h) fun r => .ok r ρ3 := by intros; rfl
theorem z_evQ_rev {C : Cl} {rf : List Bool} : ∀ a ρ, ev C rf (.rev a) ρ = (ev C rf a ρ).bind fun x ρ1 => ofO (deref ρ1 x) fun d => ofO (revD d) fun r => .ok r ρ1 := by intros; rfl
theorem z_evQ_call {C : Cl} {rf : List Bool} : ∀ f es ρ, ev C rf (.call f es) ρ = (evs C rf es ρ).bind fun xs ρ1 => doCall C rf f xs ρ1 := by intros; rfl
theorem z_evQ_blt {C : Cl} {rf : List Bool} : ∀ f es ρ, ev C rf (.blt f es) ρ = (evs C rf es ρ).bind fun xs ρ1 => ofO (derefs ρ1 xs) fun ds => ofO (bltD f ds) fun r => .ok r ρ1 := by intros; rfl
theorem z_evQ_isi {C : Cl} {rf : List Bool} : ∀ a ts ρ, ev C rf (.isi a ts) ρ = (ev C rf a ρ).bind fun x ρ1 => ofO (deref ρ1 x) fun d => ofO (isiD d ts) fun b => .ok (.fz (.bl b)) ρ1 := by intros; rfl
theorem z_evQ_lof {C : Cl} {rf : List Bool} : ∀ it ρ, ev C rf (.lof it) ρ = (evI C rf it ρ).bind fun xs ρ1 => if okLen xs.length then .ok (.tmp (.lst xs)) ρ1 else .bad := by intros; rfl
theorem z_evQ_mth {C : Cl} {rf : List Bool} : ∀ m o es ρ, ev C rf (.mth m o es) ρ = (ev C rf o ρ).bind fun x ρ1 => ofO (deref ρ1 x) fun d0 => if kindOk m d0 then (if isMut m then
      (evs C rf es ρ1).bind fun ys ρ2 => match x with
        | .var i => ofO (mArgs rf m ys ρ2) fun p => match p.2[i]? with
          | some (some (.ow d)) => ofO (mutD m d p.1) fun q => .ok (.fz q.1) (p.2.set i (some (.ow q.2)))
          | _ => .bad
        | _ => .bad
    else (evs C rf es ρ1).bind fun ys ρ2 => ofO (deref ρ2 x) fun d => ofO (derefs ρ2 ys) fun ds => ofO (mthD m d ds) fun r => .ok r ρ2) else .bad := by intros; rfl
theorem z_evTQ_not {C : Cl} {rf : List Bool} : ∀ a ρ, evT C rf (.not a) ρ = (evT C rf a ρ).bind fun b ρ1 => .ok (!b) ρ1 := by intros; rfl
theorem z_evTQ_and {C : Cl} {rf : List Bool} : ∀ a b ρ, evT C rf (.and a b) ρ = (evT C rf a ρ).bind fun c ρ1 => if c then evT C rf b ρ1 else .ok false ρ1 := by intros; rfl
theorem z_evTQ_or {C : Cl} {rf : List Bool} : ∀ a b ρ, evT C rf (.or a b) ρ = (evT C rf a ρ).bind fun c ρ1 => if c then .ok true ρ1 else evT C rf b ρ1 := by intros; rfl
theorem z_evTQ_const {C : Cl} {rf : List Bool} : ∀ d ρ, evT C rf (.const d) ρ = (ev C rf (.const d) ρ).bind fun x ρ1 => ofO (deref ρ1 x) fun d => ofO (truD d) fun b => .ok b ρ1 := by intros; rfl
theorem z_evTQ_var {C : Cl} {rf : List Bool} : ∀ i ρ, evT C rf (.var i) ρ = (ev C rf (.var i) ρ).bind fun x ρ1 => ofO (deref ρ1 x) fun d => ofO (truD d) fun b => .ok b ρ1 := by intros; rfl
theorem z_evTQ_glob {C : Cl} {rf : List Bool} : ∀ x ρ, evT C rf (.glob x) ρ = (ev C rf (.glob x) ρ).bind fun x ρ1 => ofO (deref ρ1 x) fun d => ofO (truD d) fun b => .ok b ρ1 := by intros; rfl
theorem z_evTQ_bin {C : Cl} {rf : List Bool} : ∀ op a b ρ, evT C rf (.bin op a b) ρ = (ev C rf (.bin op a b) ρ).bind fun x ρ1 => ofO (deref ρ1 x) fun d => ofO (truD d) fun b => .ok b ρ1 := by intros; rfl
theorem z_evTQ_neg {C : Cl} {rf : List Bool} : ∀ a ρ, evT C rf (.neg a) ρ = (ev C rf (.neg a) ρ).bind fun x ρ1 => ofO (deref ρ1 x) fun d => ofO (truD d) fun b => .ok b ρ1 := by intros; rfl
theorem z_evTQ_cmp {C : Cl} {rf : List Bool} : ∀ op a b ρ, evT C rf (.cmp op a b) ρ = (ev C rf (.cmp op a b) ρ).bind fun x ρ1 => ofO (deref ρ1 x) fun d => ofO (truD d) fun b => .ok b ρ1 := by intros; rfl
theorem z_evTQ_chain {C : Cl} {rf : List Bool} : ∀ op op' a b c ρ, evT C rf (.chain op op' a b c) ρ = (ev C rf (.chain op op' a b c) ρ).bind fun x ρ1 => ofO (deref ρ1 x) fun d => ofO (truD d) fun b => .ok b ρ1 := by intros; rfl
theorem z_evTQ_ite {C : Cl} {rf : List Bool} : ∀ c a b ρ, evT C rf (.ite c a b) ρ = (ev C rf (.ite c a b) ρ).bind fun x ρ1 => ofO (deref ρ1 x) fun d => ofO (truD d) fun b => .ok b ρ1 := by intros; rfl
theorem z_evTQ_tup {C : Cl} {rf : List Bool} : ∀ es ρ, evT C rf (.tup es) ρ = (ev C rf (.tup es) ρ).bind fun x ρ1 => ofO (deref ρ1 x) fun d => ofO (truD d) fun b => .ok b ρ1 := by intros; rfl
theorem z_evTQ_lst {C : Cl} {rf : List Bool} : ∀ es ρ, evT C rf (.lst es) ρ = (ev C rf (.lst es) ρ).bind fun x ρ1 => ofO (deref ρ1 x) fun d => ofO (truD d) fun b => .ok b ρ1 := by intros; rfl
theorem z_evTQ_dct {C : Cl} {rf : List Bool} : ∀ ks vs ρ, evT C rf (.dct ks vs) ρ = (ev C rf (.dct ks vs) ρ).bind fun x ρ1 => ofO (deref ρ1 x) fun d => ofO (truD d) fun b => .ok b ρ1 := by intros; rfl
theorem z_evTQ_idx {C : Cl} {rf : List Bool} : ∀ a b ρ, evT C rf (.idx a b) ρ = (ev C rf (.idx a b) ρ).bind fun x ρ1 => ofO (deref ρ1 x) fun d => ofO (truD d) fun b => .ok b ρ1 := by intros; rfl
theorem z_evTQ_slc {C : Cl} {rf : List Bool} : ∀ a lo hi ρ, evT C rf (.slc a lo hi) ρ = (ev C rf (.slc a lo hi) ρ).bind fun x ρ1 => ofO (deref ρ1 x) fun d => ofO (truD d) fun b => .ok b ρ1 := by intros; rfl
theorem z_evTQ_rev {C : Cl} {rf : List Bool} : ∀ a ρ, evT C rf (.rev a) ρ = (ev C rf (.rev a) ρ).bind fun x ρ1 => ofO (deref ρ1 x) fun d => ofO (truD d) fun b => .ok b ρ1 := by intros; rfl
theorem z_evTQ_call {C : Cl} {rf : List Bool} : ∀ f es ρ, evT C rf (.call f es) ρ = (ev C rf (.call f es) ρ).bind fun x ρ1 => ofO (deref ρ1 x) fun d => ofO (truD d) fun b => .ok b ρ1 := by intros; rfl
theorem z_evTQ_callk {C : Cl} {rf : List Bool} : ∀ f es ks kes ρ, evT C rf (.callk f es ks kes) ρ = (ev C rf (.callk f es ks kes) ρ).bind fun x ρ1 => ofO (deref ρ1 x) fun d => ofO (truD d) fun b => .ok b ρ1 := by intros; rfl
theorem z_evTQ_blt {C : Cl} {rf : List Bool} : ∀ f es ρ, evT C rf (.blt f es) ρ = (ev C rf (.blt f es) ρ).bind fun x ρ1 => ofO (deref ρ1 x) fun d => ofO (truD d) fun b => .ok b ρ1 := by intros; rfl
theorem z_evTQ_isi {C : Cl} {rf : List Bool} : ∀ a ts ρ, evT C rf (.isi a ts) ρ = (ev C rf (.isi a ts) ρ).bind fun x ρ1 => ofO (deref ρ1 x) fun d => ofO (truD d) fun b => .ok b ρ1 := by intros; rfl
theorem z_evTQ_lof {C : Cl} {rf : List Bool} : ∀ it ρ, evT C rf (.lof it) ρ = (ev C rf (.lof it) ρ).bind fun x ρ1 => ofO (deref ρ1 x) fun d => ofO (truD d) fun b => .ok b ρ1 := by intros; rfl
theorem z_evTQ_mth {C : Cl} {rf : List Bool} : ∀ m o es ρ, evT C rf (.mth m o es) ρ = (ev C rf (.mth m o es) ρ).bind fun x ρ1 => ofO (deref ρ1 x) fun d => ofO (truD d) fun b => .ok b ρ1 := by intros; rfl
theorem z_evsQ_nil {C : Cl} {rf : List Bool} : ∀ ρ, evs C rf .nil ρ = .ok [] ρ := by intros; rfl
theorem z_evsQ_cons {C : Cl} {rf : List Bool} : ∀ e es ρ, evs C rf (.cons e es) ρ = (ev C rf e ρ).bind fun x ρ1 => (evs C rf es ρ1).bind fun xs ρ2 => .ok (x :: xs) ρ2 := by intros; rfl
theorem z_evIQ_val {C : Cl} {rf : List Bool} : ∀ e ρ, evI C rf (.val e) ρ = (ev C rf e ρ).bind fun x ρ1 => ofO (freeze rf ρ1 x) fun p => ofO (itemsD p.1) fun xs => .ok xs p.2 := by intros; rfl
theorem z_evIQ_range1 {C : Cl} {rf : List Bool} : ∀ a ρ, evI C rf (.range1 a) ρ = (ev C rf a ρ).bind fun x ρ1 => match x with
    | .fz (.int n) => if inR n then .ok (rangeD 0 n) ρ1 else .bad
    | _ => .bad := by intros; rfl
theorem z_evIQ_range2 {C : Cl} {rf : List Bool} : ∀ a b ρ, evI C rf (.range2 a b) ρ = (ev C rf a ρ).bind fun x ρ1 => (ev C rf b ρ1).bind fun y ρ2 => match x, y with
    | .fz (.int m), .fz (.int n) => if inR m && inR n then .ok (rangeD m n) ρ2 else .bad
    | _, _ => .bad := by intros; rfl
theorem z_evIQ_range3 {C : Cl} {rf : List Bool} : ∀ a b c ρ, evI C rf (.range3 a b c) ρ = (ev C rf a ρ).bind fun x ρ1 => (ev C rf b ρ1).bind fun y ρ2 => (ev C rf c ρ2).bind fun z ρ3 => match x, y, z with
    | .fz (.int m), .fz (.int n), .fz (.int (-1)) => if inR m && inR n then .ok (downD m n) ρ3 else .bad
    | _, _, _ => .bad := by intros; rfl
theorem z_evIQ_enum {C : Cl} {rf : List Bool} : ∀ a ρ, evI C rf (.enum a) ρ = (ev C rf a ρ).bind fun x ρ1 => ofO (freeze rf ρ1 x) fun p => match p.1 with
    | .lst xs => .ok (enumD 0 xs) p.2
    | .tup xs => .ok (enumD 0 xs) p.2
    | _ => .bad := by intros; rfl
theorem z_evIQ_zip {C : Cl} {rf : List Bool} : ∀ a b ρ, evI C rf (.zip a b) ρ = (ev C rf a ρ).bind fun x ρ1 => (ev C rf b ρ1).bind fun y ρ2 => ofO (freeze rf ρ2 x) fun p => ofO (freeze rf p.2 y) fun q => match p.1, q.1 with
    | .lst xs, .lst ys => .ok (zipD xs ys) q.2
    | .tup xs, .tup ys => .ok (zipD xs ys) q.2
    | _, _ => .bad := by intros; rfl
theorem z_tgAQ_name {C : Cl} {rf : List Bool} : ∀ i x ρ, tgA C rf (.name i) x ρ = ofO (store rf i x ρ) fun ρ1 => .ok () ρ1 := by intros; rfl
theorem z_tgAQ_sub {C : Cl} {rf : List Bool} : ∀ a b v ρ, tgA C rf (.sub a b) v ρ = ofO (freeze rf ρ v) fun p => (ev C rf a p.2).bind fun x ρ1 => (ev C rf b ρ1).bind fun y ρ2 => ofO (freeze rf ρ2 y) fun q => match x with
    | .var i => match q.2[i]? with
      | some (some (.ow d)) => ofO (setD d q.1 p.1) fun d' => .ok () (q.2.set i (some (.ow d')))
      | _ => .bad
    | _ => .bad := by intros; rfl
theorem z_tgAQ_tup {C : Cl} {rf : List Bool} : ∀ ts v ρ, tgA C rf (.tup ts) v ρ = ofO (freeze rf ρ v) fun p => match p.1 with
    | .tup ds => tgAs C rf ts ds p.2
    | _ => .bad := by intros; rfl
theorem z_tgAsQ_0 {C : Cl} {rf : List Bool} : ∀ ρ, tgAs C rf .nil ([]) ρ = .ok () ρ := by intros; rfl
theorem z_tgAsQ_1 {C : Cl} {rf : List Bool} : ∀ t ts d ds ρ, tgAs C rf (.cons t ts) (d :: ds) ρ = (tgA C rf t (.fz d) ρ).bind fun _ ρ1 => tgAs C rf ts ds ρ1 := by intros; rfl
theorem z_tgAsQ_2 {C : Cl} {rf : List Bool} : ∀ d ds ρ, tgAs C rf .nil (d :: ds) ρ = .bad := by intros; rfl
theorem z_tgAsQ_3 {C : Cl} {rf : List Bool} : ∀ t ts ρ, tgAs C rf (.cons t ts) [] ρ = .bad := by intros; rfl
theorem z_evQ_callk {C : Cl} {rf : List Bool} : ∀ f es ks kes ρ, ev C rf (.callk f es ks kes) ρ = (evs C rf es ρ).bind fun xs ρ1 => (evs C rf kes ρ1).bind fun zs ρ2 => ofO (C.fn f) fun fn => ofO (orderIx fn.ps xs.length ks) fun ix => ofO (getAll ix (xs ++ zs)) fun ys => doCall C rf f ys ρ2 := by intros; rfl
theorem z_evTQ_comp {C : Cl} {rf : List Bool} : ∀ own tg it c elt ρ, evT C rf (.comp own tg it c elt) ρ = (ev C rf (.comp own tg it c elt) ρ).bind fun x ρ1 => ofO (deref ρ1 x) fun d => ofO (truD d) fun b => .ok b ρ1 := by intros; rfl
theorem z_exQ_par {C : Cl} {rf : List Bool} : ∀ is es ρ, ex C rf (.par is es) ρ = (evs C rf es ρ).bind fun xs ρ1 => ofO (settle rf xs ρ1) fun p => ofO (stores rf is p.1 p.2) fun ρ2 => .ok .next ρ2 := by intros; rfl
theorem z_exQ_raise {C : Cl} {rf : List Bool} : ∀ c es ρ, ex C rf (.raise c es) ρ = (evs C rf es ρ).bind fun xs ρ1 => ofO (freezes rf xs ρ1) fun p => .exc c p.1 p.2 := by intros; rfl

def ownC : Option (Option Cell) → Option D
  | some (some (.ow d)) => some d
  | _ => none
def compEnd (own : List Nat) (ρ1 : Ev) : Res (List D) → Res RV
  | .ok ds ρ2 => if okLen ds.length then .ok (.tmp (.lst ds)) (backE ρ1 ρ2 own) else .bad
  | _ => .bad
def callEnd (R : List D → CR) (p : List D × List (Option Nat) × Ev) : Res RV := if distinct p.2.1 && stillOw p.2.1 p.2.2 then (match R p.1 with
    | .ok r own outs => .ok (if own then .tmp r else .fz r) (writeBack p.2.1 outs p.2.2)
    | .exc c vs outs => .exc c vs (writeBack p.2.1 outs p.2.2)
    | .bad => .bad) else .bad

def kNeg : RV → Ev → Res RV
  | .fz (.int i), ρ => .ok (.fz (.int (-i))) ρ
  | _, _ => .bad
def ofR : Option RV → Ev → Res RV
  | some r, ρ => .ok r ρ
  | none, _ => .bad
def ofB : Option Bool → Ev → Res RV
  | some r, ρ => .ok (.fz (.bl r)) ρ
  | none, _ => .bad
def ofF : Option D → Ev → Res RV
  | some r, ρ => .ok (.fz r) ρ
  | none, _ => .bad
def binO (op : Operator) : Option D → Option D → Option RV
  | some d, some e => binD op d e
  | _, _ => none
def cmpO (op : CmpOp) : Option D → Option D → Option Bool
  | some d, some e => cmpD op d e
  | _, _ => none
def idxO : Option D → Option D → Option D
  | some d, some e => idxD d e
  | _, _ => none
def truO : Option D → Option Bool
  | some d => truD d
  | none => none
def oNot : Option Bool → Ev → Res RV
  | some b, ρ => .ok (.fz (.bl (!b))) ρ
  | none, _ => .bad
def oTb : Option Bool → Ev → Res Bool
  | some b, ρ => .ok b ρ
  | none, _ => .bad
def slcO : Option D → Option (Option Int) → Option (Option Int) → Option RV
  | some d, some l, some h => slcD d l h
  | _, _, _ => none
def revO : Option D → Option RV
  | some d => revD d
  | none => none
def bltO (f : Blt) : Option (List D) → Option RV
  | some ds => bltD f ds
  | none => none
def isiO (ts : List Ty) : Option D → Option Bool
  | some d => isiD d ts
  | none => none
def mthO (m : Mth) : Option D → Option (List D) → Option RV
  | some d, some ds => mthD m d ds
  | _, _ => none
def oTup : Option (List D × Ev) → Res RV
  | some p => if okLen p.1.length then .ok (.fz (.tup p.1)) p.2 else .bad
  | none => .bad
def oLst : Option (List D × Ev) → Res RV
  | some p => if okLen p.1.length then .ok (.tmp (.lst p.1)) p.2 else .bad
  | none => .bad
def kNot (x : RV) (ρ : Ev) : Res RV := oNot (truO (deref ρ x)) ρ
def kT (x : RV) (ρ : Ev) : Res Bool := oTb (truO (deref ρ x)) ρ
def kTnot (b : Bool) (ρ : Ev) : Res Bool := .ok (!b) ρ
def kTup (rf : List Bool) (xs : List RV) (ρ : Ev) : Res RV := oTup (freezes rf xs ρ)
def kLst (rf : List Bool) (xs : List RV) (ρ : Ev) : Res RV := oLst (freezes rf xs ρ)
def kRev (x : RV) (ρ : Ev) : Res RV := ofR (revO (deref ρ x)) ρ
def kBlt (f : Blt) (xs : List RV) (ρ : Ev) : Res RV := ofR (bltO f (derefs ρ xs)) ρ
def kIsi (ts : List Ty) (x : RV) (ρ : Ev) : Res RV := ofB (isiO ts (deref ρ x)) ρ
def kLof (xs : List D) (ρ : Ev) : Res RV := if okLen xs.length then .ok (.tmp (.lst xs)) ρ else .bad
def kEs2 (x : RV) (xs : List RV) (ρ : Ev) : Res (List RV) := .ok (x :: xs) ρ
def oIv2 : Option (List D) → Ev → Res (List D)
  | some xs, ρ => .ok xs ρ
  | none, _ => .bad
def oIv1 : Option (D × Ev) → Res (List D)
  | some p => oIv2 (itemsD p.1) p.2
  | none => .bad
def kIv (rf : List Bool) (x : RV) (ρ : Ev) : Res (List D) := oIv1 (freeze rf ρ x)
def kR1 : RV → Ev → Res (List D)
  | .fz (.int n), ρ => if inR n then .ok (rangeD 0 n) ρ else .bad
  | _, _ => .bad
def kR2b : RV → RV → Ev → Res (List D)
  | .fz (.int m), .fz (.int n), ρ => if inR m && inR n then .ok (rangeD m n) ρ else .bad
  | _, _, _ => .bad
def oEn2 : D → Ev → Res (List D)
  | .lst xs, ρ => .ok (enumD 0 xs) ρ
  | .tup xs, ρ => .ok (enumD 0 xs) ρ
  | _, _ => .bad
def oEn1 : Option (D × Ev) → Res (List D)
  | some p => oEn2 p.1 p.2
  | none => .bad
def kEn (rf : List Bool) (x : RV) (ρ : Ev) : Res (List D) := oEn1 (freeze rf ρ x)
def oZ3 : D → D → Ev → Res (List D)
  | .lst xs, .lst ys, ρ => .ok (zipD xs ys) ρ
  | .tup xs, .tup ys, ρ => .ok (zipD xs ys) ρ
  | _, _, _ => .bad
def oZ2 (d : D) : Option (D × Ev) → Res (List D)
  | some q => oZ3 d q.1 q.2
  | none => .bad
def oZ1 (rf : List Bool) (y : RV) : Option (D × Ev) → Res (List D)
  | some p => oZ2 p.1 (freeze rf p.2 y)
  | none => .bad
def kZ2 (rf : List Bool) (x y : RV) (ρ : Ev) : Res (List D) := oZ1 rf y (freeze rf ρ x)
def kBin2 (op : Operator) (x y : RV) (ρ : Ev) : Res RV := ofR (binO op (deref ρ x) (deref ρ y)) ρ
def kCmp2 (op : CmpOp) (x y : RV) (ρ : Ev) : Res RV := ofB (cmpO op (deref ρ x) (deref ρ y)) ρ
def kIdx2 (x y : RV) (ρ : Ev) : Res RV := ofF (idxO (deref ρ x) (deref ρ y)) ρ
def kS3 (lo hi : E) (x y z : RV) (ρ : Ev) : Res RV := ofR (slcO (deref ρ x) (partE lo y) (partE hi z)) ρ
def oMf (i : Nat) (ρ : Ev) : Option (D × D) → Res RV
  | some q => .ok (.fz q.1) (ρ.set i (some (.ow q.2)))
  | none => .bad
def oMd (m : Mth) (i : Nat) (p : List D × Ev) : Option D → Res RV
  | some d => oMf i p.2 (mutD m d p.1)
  | none => .bad
def oMm (m : Mth) (i : Nat) : Option (List D × Ev) → Res RV
  | some p => oMd m i p (ownC p.2[i]?)
  | none => .bad
def kMm (rf : List Bool) (m : Mth) : RV → List RV → Ev → Res RV
  | .var i, ys, ρ => oMm m i (mArgs rf m ys ρ)
  | _, _, _ => .bad
def kMg (m : Mth) (x : RV) (ys : List RV) (ρ : Ev) : Res RV := ofR (mthO m (deref ρ x) (derefs ρ ys)) ρ
def oStore : Option Ev → Res Unit
  | some ρ => .ok () ρ
  | none => .bad
def oSub6 (i : Nat) (ρ : Ev) : Option D → Res Unit
  | some d => .ok () (ρ.set i (some (.ow d)))
  | none => .bad
def oSub5 (i : Nat) (v : D) (q : D × Ev) : Option D → Res Unit
  | some d => oSub6 i q.2 (setD d q.1 v)
  | none => .bad
def oSub4 (v : D) : RV → Option (D × Ev) → Res Unit
  | .var i, some q => oSub5 i v q (ownC q.2[i]?)
  | _, _ => .bad
def kSub3 (rf : List Bool) (v : D) (x y : RV) (ρ : Ev) : Res Unit := oSub4 v x (freeze rf ρ y)
def oPar2 : Option Ev → Res Fl
  | some ρ => .ok .next ρ
  | none => .bad
def oPar1 (rf : List Bool) (is : List Nat) : Option (List RV × Ev) → Res Fl
  | some p => oPar2 (stores rf is p.1 p.2)
  | none => .bad
def kPar (rf : List Bool) (is : List Nat) (xs : List RV) (ρ : Ev) : Res Fl := oPar1 rf is (settle rf xs ρ)
def kNext {α : Type} (_ : α) (ρ : Ev) : Res Fl := .ok .next ρ
def kRet (x : RV) (ρ : Ev) : Res Fl := .ok (.ret x) ρ
def oRaise (c : Str) : Option (List D × Ev) → Res Fl
  | some p => .exc c p.1 p.2
  | none => .bad
def kRaise (rf : List Bool) (c : Str) (xs : List RV) (ρ : Ev) : Res Fl := oRaise c (freezes rf xs ρ)
def oC3 : Option (D × Ev) → Res (Option D)
  | some p => .ok (some p.1) p.2
  | none => .bad
def kC3 (rf : List Bool) (x : RV) (ρ : Ev) : Res (Option D) := oC3 (freeze rf ρ x)
/-! what goes on with terms -/
def kBin1 (C : Cl) (rf : List Bool) (op : Operator) (b : E) (x : RV) (ρ : Ev) : Res RV := (ev C rf b ρ).bind (kBin2 op x)
def kCmp1 (C : Cl) (rf : List Bool) (op : CmpOp) (b : E) (x : RV) (ρ : Ev) : Res RV := (ev C rf b ρ).bind (kCmp2 op x)
def kIdx1 (C : Cl) (rf : List Bool) (b : E) (x : RV) (ρ : Ev) : Res RV := (ev C rf b ρ).bind (kIdx2 x)
def kAnd (C : Cl) (rf : List Bool) (b : E) : RV → Ev → Res RV
  | .fz (.bl c), ρ => if c then ev C rf b ρ else .ok (.fz (.bl false)) ρ
  | _, _ => .bad
def kOr (C : Cl) (rf : List Bool) (b : E) : RV → Ev → Res RV
  | .fz (.bl c), ρ => if c then .ok (.fz (.bl true)) ρ else ev C rf b ρ
  | _, _ => .bad
def kCh3 (op : CmpOp) (y z : RV) (ρ : Ev) : Res RV := ofB (cmpO op (deref ρ y) (deref ρ z)) ρ
def oCh (C : Cl) (rf : List Bool) (op' : CmpOp) (c : E) (y : RV) (ρ : Ev) : Option Bool → Res RV
  | some r => if r then (ev C rf c ρ).bind (kCh3 op' y) else .ok (.fz (.bl false)) ρ
  | none => .bad
def kCh2 (C : Cl) (rf : List Bool) (op op' : CmpOp) (c : E) (x y : RV) (ρ : Ev) : Res RV := oCh C rf op' c y ρ (cmpO op (deref ρ x) (deref ρ y))
def kCh1 (C : Cl) (rf : List Bool) (op op' : CmpOp) (b c : E) (x : RV) (ρ : Ev) : Res RV := (ev C rf b ρ).bind (kCh2 C rf op op' c x)
def kIte (C : Cl) (rf : List Bool) (a b : E) (k : Bool) (ρ : Ev) : Res RV := if k then ev C rf a ρ else ev C rf b ρ
def kS2 (C : Cl) (rf : List Bool) (lo hi : E) (x y : RV) (ρ : Ev) : Res RV := (ev C rf hi ρ).bind (kS3 lo hi x y)
def kS1 (C : Cl) (rf : List Bool) (lo hi : E) (x : RV) (ρ : Ev) : Res RV := (ev C rf lo ρ).bind (kS2 C rf lo hi x)
def oK3 (C : Cl) (rf : List Bool) (f : Str) (ρ : Ev) : Option (List RV) → Res RV
  | some ys => doCall C rf f ys ρ
  | none => .bad
def oK2 (C : Cl) (rf : List Bool) (f : Str) (ys : List RV) (ρ : Ev) : Option (List Nat) → Res RV
  | some ix => oK3 C rf f ρ (getAll ix ys)
  | none => .bad
def oK1 (C : Cl) (rf : List Bool) (f : Str) (ks : List Str) (xs zs : List RV) (ρ : Ev) : Option Fn → Res RV
  | some fn => oK2 C rf f (xs ++ zs) ρ (orderIx fn.ps xs.length ks)
  | none => .bad
def kK2 (C : Cl) (rf : List Bool) (f : Str) (ks : List Str) (xs zs : List RV) (ρ : Ev) : Res RV := oK1 C rf f ks xs zs ρ (C.fn f)
def kK1 (C : Cl) (rf : List Bool) (f : Str) (ks : List Str) (kes : Es) (xs : List RV) (ρ : Ev) : Res RV := (evs C rf kes ρ).bind (kK2 C rf f ks xs)
def oM1 (C : Cl) (rf : List Bool) (m : Mth) (es : Es) (x : RV) (ρ : Ev) : Option D → Res RV
  | some d0 => if kindOk m d0 then (if isMut m then (evs C rf es ρ).bind (kMm rf m x) else (evs C rf es ρ).bind (kMg m x)) else .bad
  | none => .bad
def kM1 (C : Cl) (rf : List Bool) (m : Mth) (es : Es) (x : RV) (ρ : Ev) : Res RV := oM1 C rf m es x ρ (deref ρ x)
def kTand (C : Cl) (rf : List Bool) (b : E) (c : Bool) (ρ : Ev) : Res Bool := if c then evT C rf b ρ else .ok false ρ
def kTor (C : Cl) (rf : List Bool) (b : E) (c : Bool) (ρ : Ev) : Res Bool := if c then .ok true ρ else evT C rf b ρ
def kEs1 (C : Cl) (rf : List Bool) (es : Es) (x : RV) (ρ : Ev) : Res (List RV) := (evs C rf es ρ).bind (kEs2 x)
def kR2a (C : Cl) (rf : List Bool) (b : E) (x : RV) (ρ : Ev) : Res (List D) := (ev C rf b ρ).bind (kR2b x)
def kR3c : RV → RV → RV → Ev → Res (List D)
  | .fz (.int m), .fz (.int n), .fz (.int (-1)), ρ => if inR m && inR n then .ok (downD m n) ρ else .bad
  | _, _, _, _ => .bad
def kR3b (C : Cl) (rf : List Bool) (c : E) (x y : RV) (ρ : Ev) : Res (List D) := (ev C rf c ρ).bind (kR3c x y)
def kR3a (C : Cl) (rf : List Bool) (b c : E) (x : RV) (ρ : Ev) : Res (List D) := (ev C rf b ρ).bind (kR3b C rf c x)
def kZ1 (C : Cl) (rf : List Bool) (b : E) (x : RV) (ρ : Ev) : Res (List D) := (ev C rf b ρ).bind (kZ2 rf x)
def kSub2 (C : Cl) (rf : List Bool) (b : E) (v : D) (x : RV) (ρ : Ev) : Res Unit := (ev C rf b ρ).bind (kSub3 rf v x)
def oSub1 (C : Cl) (rf : List Bool) (a b : E) : Option (D × Ev) → Res Unit
  | some p => (ev C rf a p.2).bind (kSub2 C rf b p.1)
  | none => .bad
def oTt2 (C : Cl) (rf : List Bool) (ts : Tgs) : D → Ev → Res Unit
  | .tup ds, ρ => tgAs C rf ts ds ρ
  | _, _ => .bad
def oTt1 (C : Cl) (rf : List Bool) (ts : Tgs) : Option (D × Ev) → Res Unit
  | some p => oTt2 C rf ts p.1 p.2
  | none => .bad
def kTgs (C : Cl) (rf : List Bool) (ts : Tgs) (ds : List D) (_ : Unit) (ρ : Ev) : Res Unit := tgAs C rf ts ds ρ
def seqK (C : Cl) (rf : List Bool) (ss : Ss) : Fl → Ev → Res Fl
  | .next, ρ => exs C rf ss ρ
  | .ret x, ρ => .ok (.ret x) ρ
  | .brk, ρ => .ok .brk ρ
  | .cont, ρ => .ok .cont ρ
def kAsg (C : Cl) (rf : List Bool) (t : Tg) (x : RV) (ρ : Ev) : Res Fl := (tgA C rf t x ρ).bind kNext
def kSite (C : Cl) (rf : List Bool) (a b : Ss) (k : Bool) (ρ : Ev) : Res Fl := if k then exs C rf a ρ else exs C rf b ρ
def kForB (C : Cl) (rf : List Bool) (b : Ss) (_ : Unit) (ρ : Ev) : Res Fl := exs C rf b ρ
def forStep (C : Cl) (rf : List Bool) (t : Tg) (b : Ss) (x : D) (ρ : Ev) : Res Fl := (tgA C rf t (.fz x) ρ).bind (kForB C rf b)
def kC2 (C : Cl) (rf : List Bool) (elt : E) (k : Bool) (ρ : Ev) : Res (Option D) := if k then (ev C rf elt ρ).bind (kC3 rf) else .ok none ρ
def kC1 (C : Cl) (rf : List Bool) (c elt : E) (_ : Unit) (ρ : Ev) : Res (Option D) := (evT C rf c ρ).bind (kC2 C rf elt)
def compStep (C : Cl) (rf : List Bool) (tg : Tg) (c elt : E) (x : D) (ρ : Ev) : Res (Option D) := (tgA C rf tg (.fz x) ρ).bind (kC1 C rf c elt)
def kComp (C : Cl) (rf : List Bool) (own : List Nat) (tg : Tg) (c elt : E) (xs : List D) (ρ : Ev) : Res RV := compEnd own ρ (compLoop own (compStep C rf tg c elt) xs [] (wipeE ρ own))
def oP2 (d : D) (b : Option Nat) : Option (List D × List (Option Nat) × Ev) → Option (List D × List (Option Nat) × Ev)
  | some q => some (d :: q.1, b :: q.2.1, q.2.2)
  | none => none
def oP1 (rf bs : List Bool) (xs : List RV) : Option (D × Ev) → Option (List D × List (Option Nat) × Ev)
  | some p => oP2 p.1 none (passAll rf bs xs p.2)
  | none => none
def oP3 (rf bs : List Bool) (i : Nat) (xs : List RV) (ρ : Ev) : Option D → Option (List D × List (Option Nat) × Ev)
  | some d => oP2 d (some i) (passAll rf bs xs ρ)
  | none => none
def oCall (R : List D → CR) : Option (List D × List (Option Nat) × Ev) → Res RV
  | some p => callEnd R p
  | none => .bad
def padD (fn : Fn) (n : Nat) : List RV := (fn.dfl.drop (fn.dfl.length - (fn.refs.length - n))).map .fz
def oFn (C : Cl) (rf : List Bool) (f : Str) (xs : List RV) (ρ : Ev) : Option Fn → Res RV
  | some fn => oCall (C.run f) (passAll rf fn.refs (xs ++ padD fn xs.length) ρ)
  | none => .bad
def oD : Option D → Option (List D) → Option (List D)
  | some d, some ds => some (d :: ds)
  | _, _ => none
def oF2 (d : D) : Option (List D × Ev) → Option (List D × Ev)
  | some q => some (d :: q.1, q.2)
  | none => none
def oF1 (rf : List Bool) (xs : List RV) : Option (D × Ev) → Option (List D × Ev)
  | some p => oF2 p.1 (freezes rf xs p.2)
  | none => none
def oSt (i : Nat) : Option (D × Ev) → Option Ev
  | some p => some (p.2.set i (some (.fz p.1)))
  | none => none
def oSe2 (x : RV) : Option (List RV × Ev) → Option (List RV × Ev)
  | some p => some (x :: p.1, p.2)
  | none => none
def oSe1 (rf : List Bool) (r : List RV) : Option (D × Ev) → Option (List RV × Ev)
  | some q => oSe2 (.fz q.1) (settle rf r q.2)
  | none => none
def oSs (rf : List Bool) (is : List Nat) (xs : List RV) : Option Ev → Option Ev
  | some ρ => stores rf is xs ρ
  | none => none
def oA1 : Option (D × Ev) → Option (List D × Ev)
  | some p => some ([p.1], p.2)
  | none => none
def oA2 (ρ : Ev) : Option D → Option (List D × Ev)
  | some d => some ([d], ρ)
  | none => none

section
variable {C : Cl} {rf : List Bool}
theorem evQ_const {d : D} {ρ : Ev} : ev C rf (.const d) ρ = .ok (.fz d) ρ := by rfl
theorem evQ_glob {x : Str} {ρ : Ev} : ev C rf (.glob x) ρ = ofF (C.glob x) ρ := by
  rw [z_evQ_glob]
  rcases C.glob x with _ | d <;> rfl
theorem evQ_bin {op : Operator} {a : E} {b : E} {ρ : Ev} : ev C rf (.bin op a b) ρ = (ev C rf a ρ).bind (kBin1 C rf op b) := by
  rw [z_evQ_bin]
  refine bindX fun x ρ1 => ?_
  unfold kBin1
  refine bindX fun y ρ2 => ?_
  unfold kBin2 ofR binO
  rcases deref ρ2 x with _ | d <;> rcases deref ρ2 y with _ | e <;> try rfl
  simp only [ofO_some]
  rcases binD op d e with _ | r <;> rfl
theorem evQ_neg {a : E} {ρ : Ev} : ev C rf (.neg a) ρ = (ev C rf a ρ).bind kNeg := by
  rw [z_evQ_neg]
  refine bindX fun x ρ1 => ?_
  rcases x with d | d | i
  · cases d <;> rfl
  · rfl
  · rfl
theorem evQ_not {a : E} {ρ : Ev} : ev C rf (.not a) ρ = (ev C rf a ρ).bind kNot := by
  rw [z_evQ_not]
  refine bindX fun x ρ1 => ?_
  unfold kNot oNot truO
  rcases deref ρ1 x with _ | d
  · rfl
  · simp only [ofO_some]
    rcases truD d with _ | b <;> rfl
theorem evQ_and {a : E} {b : E} {ρ : Ev} : ev C rf (.and a b) ρ = (ev C rf a ρ).bind (kAnd C rf b) := by
  rw [z_evQ_and]
  refine bindX fun x ρ1 => ?_
  rcases x with d | d | i
  · cases d <;> rfl
  · rfl
  · rfl
theorem evQ_or {a : E} {b : E} {ρ : Ev} : ev C rf (.or a b) ρ = (ev C rf a ρ).bind (kOr C rf b) := by
  rw [z_evQ_or]
  refine bindX fun x ρ1 => ?_
  rcases x with d | d | i
  · cases d <;> rfl
  · rfl
  · rfl
theorem evQ_cmp {op : CmpOp} {a : E} {b : E} {ρ : Ev} : ev C rf (.cmp op a b) ρ = (ev C rf a ρ).bind (kCmp1 C rf op b) := by
  rw [z_evQ_cmp]
  refine bindX fun x ρ1 => ?_
  unfold kCmp1
  refine bindX fun y ρ2 => ?_
  unfold kCmp2 ofB cmpO
  rcases deref ρ2 x with _ | d <;> rcases deref ρ2 y with _ | e <;> try rfl
  simp only [ofO_some]
  rcases cmpD op d e with _ | r <;> rfl
theorem evQ_chain {op : CmpOp} {op' : CmpOp} {a : E} {b : E} {c : E} {ρ : Ev} : ev C rf (.chain op op' a b c) ρ = (ev C rf a ρ).bind (kCh1 C rf op op' b c) := by
  rw [z_evQ_chain]
  refine bindX fun x ρ1 => ?_
  unfold kCh1
  refine bindX fun y ρ2 => ?_
  unfold kCh2 oCh cmpO
  rcases deref ρ2 x with _ | d <;> rcases h : deref ρ2 y with _ | e <;> try rfl
  simp only [ofO_some]
  rcases cmpD op d e with _ | r
  · rfl
  · cases r
    · rfl
    · simp only [ofO_some, if_true]
      refine bindX fun z ρ3 => ?_
      unfold kCh3 ofB cmpO
      rcases deref ρ3 y with _ | d <;> rcases deref ρ3 z with _ | e <;> try rfl
      simp only [ofO_some]
      rcases cmpD op' d e with _ | r <;> rfl
theorem evQ_ite {c : E} {a : E} {b : E} {ρ : Ev} : ev C rf (.ite c a b) ρ = (evT C rf c ρ).bind (kIte C rf a b) := by rfl
theorem evQ_tup {es : Es} {ρ : Ev} : ev C rf (.tup es) ρ = (evs C rf es ρ).bind (kTup rf) := by
  rw [z_evQ_tup]
  refine bindX fun x ρ1 => ?_
  unfold kTup oTup
  rcases freezes rf x ρ1 with _ | p <;> rfl
theorem evQ_lst {es : Es} {ρ : Ev} : ev C rf (.lst es) ρ = (evs C rf es ρ).bind (kLst rf) := by
  rw [z_evQ_lst]
  refine bindX fun x ρ1 => ?_
  unfold kLst oLst
  rcases freezes rf x ρ1 with _ | p <;> rfl
theorem evQ_dct0 {ρ : Ev} : ev C rf (.dct .nil .nil) ρ = .ok (.tmp (.dct [] [])) ρ := by rfl
theorem evQ_idx {a : E} {b : E} {ρ : Ev} : ev C rf (.idx a b) ρ = (ev C rf a ρ).bind (kIdx1 C rf b) := by
  rw [z_evQ_idx]
  refine bindX fun x ρ1 => ?_
  unfold kIdx1
  refine bindX fun y ρ2 => ?_
  unfold kIdx2 ofF idxO
  rcases deref ρ2 x with _ | d <;> rcases deref ρ2 y with _ | e <;> try rfl
  simp only [ofO_some]
  rcases idxD d e with _ | r <;> rfl
theorem evQ_slc {a : E} {lo : E} {hi : E} {ρ : Ev} : ev C rf (.slc a lo hi) ρ = (ev C rf a ρ).bind (kS1 C rf lo hi) := by
  rw [z_evQ_slc]
  refine bindX fun x ρ1 => ?_
  unfold kS1
  refine bindX fun y ρ2 => ?_
  unfold kS2
  refine bindX fun z ρ3 => ?_
  unfold kS3 slcO ofR
  rcases deref ρ3 x with _ | d <;> rcases partE lo y with _ | l <;> rcases partE hi z with _ | h <;> try rfl
  simp only [ofO_some]
  rcases slcD d l h with _ | r <;> rfl
theorem evQ_rev {a : E} {ρ : Ev} : ev C rf (.rev a) ρ = (ev C rf a ρ).bind kRev := by
  rw [z_evQ_rev]
  refine bindX fun x ρ1 => ?_
  unfold kRev revO ofR
  rcases deref ρ1 x with _ | d
  · rfl
  · simp only [ofO_some]
    rcases revD d with _ | r <;> rfl
theorem evQ_call {f : Str} {es : Es} {ρ : Ev} : ev C rf (.call f es) ρ = (evs C rf es ρ).bind (doCall C rf f) := by rfl
theorem evQ_callk {f : Str} {es : Es} {ks : List Str} {kes : Es} {ρ : Ev} : ev C rf (.callk f es ks kes) ρ = (evs C rf es ρ).bind (kK1 C rf f ks kes) := by
  rw [z_evQ_callk]
  refine bindX fun x ρ1 => ?_
  unfold kK1
  refine bindX fun y ρ2 => ?_
  unfold kK2 oK1
  rcases C.fn f with _ | fn
  · rfl
  · simp only [ofO_some]
    unfold oK2
    rcases orderIx fn.ps x.length ks with _ | ix
    · rfl
    · simp only [ofO_some]
      unfold oK3
      rcases getAll ix (x ++ y) with _ | ys <;> rfl
theorem evQ_blt {f : Blt} {es : Es} {ρ : Ev} : ev C rf (.blt f es) ρ = (evs C rf es ρ).bind (kBlt f) := by
  rw [z_evQ_blt]
  refine bindX fun x ρ1 => ?_
  unfold kBlt bltO ofR
  rcases derefs ρ1 x with _ | d
  · rfl
  · simp only [ofO_some]
    rcases bltD f d with _ | r <;> rfl
theorem evQ_isi {a : E} {ts : List Ty} {ρ : Ev} : ev C rf (.isi a ts) ρ = (ev C rf a ρ).bind (kIsi ts) := by
  rw [z_evQ_isi]
  refine bindX fun x ρ1 => ?_
  unfold kIsi isiO ofB
  rcases deref ρ1 x with _ | d
  · rfl
  · simp only [ofO_some]
    rcases isiD d ts with _ | r <;> rfl
theorem evQ_lof {it : I} {ρ : Ev} : ev C rf (.lof it) ρ = (evI C rf it ρ).bind kLof := by rfl
theorem evQ_mth {m : Mth} {o : E} {es : Es} {ρ : Ev} : ev C rf (.mth m o es) ρ = (ev C rf o ρ).bind (kM1 C rf m es) := by
  rw [z_evQ_mth]
  refine bindX fun x ρ1 => ?_
  unfold kM1 oM1
  rcases deref ρ1 x with _ | d0
  · rfl
  · simp only [ofO_some]
    cases kindOk m d0
    · rfl
    · cases isMut m
      · simp only [if_true, Bool.false_eq_true, if_false]
        refine bindX fun ys ρ2 => ?_
        unfold kMg mthO ofR
        rcases deref ρ2 x with _ | d <;> rcases derefs ρ2 ys with _ | e <;> try rfl
        simp only [ofO_some]
        rcases mthD m d e with _ | r <;> rfl
      · simp only [if_true]
        refine bindX fun ys ρ2 => ?_
        cases x with
        | var i =>
          show _ = oMm m i (mArgs rf m ys ρ2)
          rcases mArgs rf m ys ρ2 with _ | p
          · rfl
          · simp only [ofO_some]
            show _ = oMd m i p (ownC p.2[i]?)
            rcases p.2[i]? with _ | _ | d | d <;> try rfl
            show (ofO (mutD m d p.1) fun q => Res.ok (RV.fz q.1) (p.2.set i (some (.ow q.2)))) = oMf i p.2 (mutD m d p.1)
            rcases mutD m d p.1 with _ | r <;> rfl
        | _ => rfl
theorem evQ_comp {own : List Nat} {tg : Tg} {it : I} {c : E} {elt : E} {ρ : Ev} : ev C rf (.comp own tg it c elt) ρ = if own.any (isRef rf) then .bad else (evI C rf it ρ).bind (kComp C rf own tg c elt) := by
  have st : (fun (x : D) (ρ : Ev) => (tgA C rf tg (.fz x) ρ).bind fun _ ρ2 => (evT C rf c ρ2).bind fun k ρ3 => if k then (ev C rf elt ρ3).bind fun y ρ4 => ofO (freeze rf ρ4 y) fun p => Res.ok (some p.1) p.2 else Res.ok none ρ3) = compStep C rf tg c elt := by
    funext x ρ
    unfold compStep
    refine bindX fun u ρ2 => ?_
    unfold kC1
    refine bindX fun k ρ3 => ?_
    unfold kC2
    cases k
    · rfl
    · simp only [if_true]
      refine bindX fun y ρ4 => ?_
      unfold kC3 oC3
      rcases freeze rf ρ4 y with _ | p <;> rfl
  show (if own.any (isRef rf) then Res.bad else (evI C rf it ρ).bind fun xs ρ1 => match compLoop own (fun x ρ => (tgA C rf tg (.fz x) ρ).bind fun _ ρ2 => (evT C rf c ρ2).bind fun k ρ3 => if k then (ev C rf elt ρ3).bind fun y ρ4 => ofO (freeze rf ρ4 y) fun p => Res.ok (some p.1) p.2 else Res.ok none ρ3) xs [] (wipeE ρ1 own) with
    | .ok ds ρ2 => if okLen ds.length then Res.ok (RV.tmp (.lst ds)) (backE ρ1 ρ2 own) else Res.bad
    | _ => Res.bad) = _
  rw [st]
  rfl
theorem evTQ_not {a : E} {ρ : Ev} : evT C rf (.not a) ρ = (evT C rf a ρ).bind kTnot := by rfl
theorem evTQ_and {a : E} {b : E} {ρ : Ev} : evT C rf (.and a b) ρ = (evT C rf a ρ).bind (kTand C rf b) := by rfl
theorem evTQ_or {a : E} {b : E} {ρ : Ev} : evT C rf (.or a b) ρ = (evT C rf a ρ).bind (kTor C rf b) := by rfl
theorem evTQ_const {d : D} {ρ : Ev} : evT C rf (.const d) ρ = (ev C rf (.const d) ρ).bind kT := by
  rw [z_evTQ_const]
  refine bindX fun x ρ1 => ?_
  unfold kT truO oTb
  rcases deref ρ1 x with _ | d
  · rfl
  · simp only [ofO_some]
    rcases truD d with _ | b <;> rfl
theorem evTQ_var {i : Nat} {ρ : Ev} : evT C rf (.var i) ρ = (ev C rf (.var i) ρ).bind kT := by
  rw [z_evTQ_var]
  refine bindX fun x ρ1 => ?_
  unfold kT truO oTb
  rcases deref ρ1 x with _ | d
  · rfl
  · simp only [ofO_some]
    rcases truD d with _ | b <;> rfl
theorem evTQ_glob {x : Str} {ρ : Ev} : evT C rf (.glob x) ρ = (ev C rf (.glob x) ρ).bind kT := by
  rw [z_evTQ_glob]
  refine bindX fun x ρ1 => ?_
  unfold kT truO oTb
  rcases deref ρ1 x with _ | d
  · rfl
  · simp only [ofO_some]
    rcases truD d with _ | b <;> rfl
theorem evTQ_bin {op : Operator} {a : E} {b : E} {ρ : Ev} : evT C rf (.bin op a b) ρ = (ev C rf (.bin op a b) ρ).bind kT := by
  rw [z_evTQ_bin]
  refine bindX fun x ρ1 => ?_
  unfold kT truO oTb
  rcases deref ρ1 x with _ | d
  · rfl
  · simp only [ofO_some]
    rcases truD d with _ | b <;> rfl
theorem evTQ_neg {a : E} {ρ : Ev} : evT C rf (.neg a) ρ = (ev C rf (.neg a) ρ).bind kT := by
  rw [z_evTQ_neg]
  refine bindX fun x ρ1 => ?_
  unfold kT truO oTb
  rcases deref ρ1 x with _ | d
  · rfl
  · simp only [ofO_some]
    rcases truD d with _ | b <;> rfl
theorem evTQ_cmp {op : CmpOp} {a : E} {b : E} {ρ : Ev} : evT C rf (.cmp op a b) ρ = (ev C rf (.cmp op a b) ρ).bind kT := by
  rw [z_evTQ_cmp]
  refine bindX fun x ρ1 => ?_
  unfold kT truO oTb
  rcases deref ρ1 x with _ | d
  · rfl
  · simp only [ofO_some]
    rcases truD d with _ | b <;> rfl
theorem evTQ_chain {op : CmpOp} {op' : CmpOp} {a : E} {b : E} {c : E} {ρ : Ev} : evT C rf (.chain op op' a b c) ρ = (ev C rf (.chain op op' a b c) ρ).bind kT := by
  rw [z_evTQ_chain]
  refine bindX fun x ρ1 => ?_
  unfold kT truO oTb
  rcases deref ρ1 x with _ | d
  · rfl
  · simp only [ofO_some]
    rcases truD d with _ | b <;> rfl
theorem evTQ_ite {c : E} {a : E} {b : E} {ρ : Ev} : evT C rf (.ite c a b) ρ = (ev C rf (.ite c a b) ρ).bind kT := by
  rw [z_evTQ_ite]
  refine bindX fun x ρ1 => ?_
  unfold kT truO oTb
  rcases deref ρ1 x with _ | d
  · rfl
  · simp only [ofO_some]
    rcases truD d with _ | b <;> rfl
theorem evTQ_tup {es : Es} {ρ : Ev} : evT C rf (.tup es) ρ = (ev C rf (.tup es) ρ).bind kT := by
  rw [z_evTQ_tup]
  refine bindX fun x ρ1 => ?_
  unfold kT truO oTb
  rcases deref ρ1 x with _ | d
  · rfl
  · simp only [ofO_some]
    rcases truD d with _ | b <;> rfl
theorem evTQ_lst {es : Es} {ρ : Ev} : evT C rf (.lst es) ρ = (ev C rf (.lst es) ρ).bind kT := by
  rw [z_evTQ_lst]
  refine bindX fun x ρ1 => ?_
  unfold kT truO oTb
  rcases deref ρ1 x with _ | d
  · rfl
  · simp only [ofO_some]
    rcases truD d with _ | b <;> rfl
theorem evTQ_dct {ks : Es} {vs : Es} {ρ : Ev} : evT C rf (.dct ks vs) ρ = (ev C rf (.dct ks vs) ρ).bind kT := by
  rw [z_evTQ_dct]
  refine bindX fun x ρ1 => ?_
  unfold kT truO oTb
  rcases deref ρ1 x with _ | d
  · rfl
  · simp only [ofO_some]
    rcases truD d with _ | b <;> rfl
theorem evTQ_idx {a : E} {b : E} {ρ : Ev} : evT C rf (.idx a b) ρ = (ev C rf (.idx a b) ρ).bind kT := by
  rw [z_evTQ_idx]
  refine bindX fun x ρ1 => ?_
  unfold kT truO oTb
  rcases deref ρ1 x with _ | d
  · rfl
  · simp only [ofO_some]
    rcases truD d with _ | b <;> rfl
theorem evTQ_slc {a : E} {lo : E} {hi : E} {ρ : Ev} : evT C rf (.slc a lo hi) ρ = (ev C rf (.slc a lo hi) ρ).bind kT := by
  rw [z_evTQ_slc]
  refine bindX fun x ρ1 => ?_
  unfold kT truO oTb
  rcases deref ρ1 x with _ | d
  · rfl
  · simp only [ofO_some]
    rcases truD d with _ | b <;> rfl
theorem evTQ_rev {a : E} {ρ : Ev} : evT C rf (.rev a) ρ = (ev C rf (.rev a) ρ).bind kT := by
  rw [z_evTQ_rev]
  refine bindX fun x ρ1 => ?_
  unfold kT truO oTb
  rcases deref ρ1 x with _ | d
  · rfl
  · simp only [ofO_some]
    rcases truD d with _ | b <;> rfl
theorem evTQ_call {f : Str} {es : Es} {ρ : Ev} : evT C rf (.call f es) ρ = (ev C rf (.call f es) ρ).bind kT := by
  rw [z_evTQ_call]
  refine bindX fun x ρ1 => ?_
  unfold kT truO oTb
  rcases deref ρ1 x with _ | d
  · rfl
  · simp only [ofO_some]
    rcases truD d with _ | b <;> rfl
theorem evTQ_callk {f : Str} {es : Es} {ks : List Str} {kes : Es} {ρ : Ev} : evT C rf (.callk f es ks kes) ρ = (ev C rf (.callk f es ks kes) ρ).bind kT := by
  rw [z_evTQ_callk]
  refine bindX fun x ρ1 => ?_
  unfold kT truO oTb
  rcases deref ρ1 x with _ | d
  · rfl
  · simp only [ofO_some]
    rcases truD d with _ | b <;> rfl
theorem evTQ_blt {f : Blt} {es : Es} {ρ : Ev} : evT C rf (.blt f es) ρ = (ev C rf (.blt f es) ρ).bind kT := by
  rw [z_evTQ_blt]
  refine bindX fun x ρ1 => ?_
  unfold kT truO oTb
  rcases deref ρ1 x with _ | d
  · rfl
  · simp only [ofO_some]
    rcases truD d with _ | b <;> rfl
theorem evTQ_isi {a : E} {ts : List Ty} {ρ : Ev} : evT C rf (.isi a ts) ρ = (ev C rf (.isi a ts) ρ).bind kT := by
  rw [z_evTQ_isi]
  refine bindX fun x ρ1 => ?_
  unfold kT truO oTb
  rcases deref ρ1 x with _ | d
  · rfl
  · simp only [ofO_some]
    rcases truD d with _ | b <;> rfl
theorem evTQ_lof {it : I} {ρ : Ev} : evT C rf (.lof it) ρ = (ev C rf (.lof it) ρ).bind kT := by
  rw [z_evTQ_lof]
  refine bindX fun x ρ1 => ?_
  unfold kT truO oTb
  rcases deref ρ1 x with _ | d
  · rfl
  · simp only [ofO_some]
    rcases truD d with _ | b <;> rfl
theorem evTQ_mth {m : Mth} {o : E} {es : Es} {ρ : Ev} : evT C rf (.mth m o es) ρ = (ev C rf (.mth m o es) ρ).bind kT := by
  rw [z_evTQ_mth]
  refine bindX fun x ρ1 => ?_
  unfold kT truO oTb
  rcases deref ρ1 x with _ | d
  · rfl
  · simp only [ofO_some]
    rcases truD d with _ | b <;> rfl
theorem evTQ_comp {own : List Nat} {tg : Tg} {it : I} {c : E} {elt : E} {ρ : Ev} : evT C rf (.comp own tg it c elt) ρ = (ev C rf (.comp own tg it c elt) ρ).bind kT := by
  rw [z_evTQ_comp]
  refine bindX fun x ρ1 => ?_
  unfold kT truO oTb
  rcases deref ρ1 x with _ | d
  · rfl
  · simp only [ofO_some]
    rcases truD d with _ | b <;> rfl
theorem evsQ_nil {ρ : Ev} : evs C rf .nil ρ = .ok [] ρ := by rfl
theorem evsQ_cons {e : E} {es : Es} {ρ : Ev} : evs C rf (.cons e es) ρ = (ev C rf e ρ).bind (kEs1 C rf es) := by rfl
theorem evIQ_val {e : E} {ρ : Ev} : evI C rf (.val e) ρ = (ev C rf e ρ).bind (kIv rf) := by
  rw [z_evIQ_val]
  refine bindX fun x ρ1 => ?_
  unfold kIv oIv1
  rcases freeze rf ρ1 x with _ | p
  · rfl
  · simp only [ofO_some]
    unfold oIv2
    rcases itemsD p.1 with _ | r <;> rfl
theorem evIQ_range1 {a : E} {ρ : Ev} : evI C rf (.range1 a) ρ = (ev C rf a ρ).bind kR1 := by
  rw [z_evIQ_range1]
  refine bindX fun x ρ1 => ?_
  rcases x with d | d | i
  · cases d <;> rfl
  · rfl
  · rfl
theorem evIQ_range2 {a : E} {b : E} {ρ : Ev} : evI C rf (.range2 a b) ρ = (ev C rf a ρ).bind (kR2a C rf b) := by
  rw [z_evIQ_range2]
  refine bindX fun x ρ1 => ?_
  unfold kR2a
  refine bindX fun y ρ2 => ?_
  unfold kR2b
  rcases x with d | d | i <;> rcases y with e | e | j <;> first | rfl | (cases d <;> first | rfl | (cases e <;> rfl))
theorem evIQ_range3 {a : E} {b : E} {c : E} {ρ : Ev} : evI C rf (.range3 a b c) ρ = (ev C rf a ρ).bind (kR3a C rf b c) := by
  rw [z_evIQ_range3]
  refine bindX fun x ρ1 => ?_
  unfold kR3a
  refine bindX fun y ρ2 => ?_
  unfold kR3b
  refine bindX fun z ρ3 => ?_
  unfold kR3c
  split <;> split <;> simp_all
theorem evIQ_enum {a : E} {ρ : Ev} : evI C rf (.enum a) ρ = (ev C rf a ρ).bind (kEn rf) := by
  rw [z_evIQ_enum]
  refine bindX fun x ρ1 => ?_
  unfold kEn oEn1
  rcases freeze rf ρ1 x with _ | p
  · rfl
  · simp only [ofO_some]
    unfold oEn2
    rcases p with ⟨d, q⟩
    cases d <;> rfl
theorem evIQ_zip {a : E} {b : E} {ρ : Ev} : evI C rf (.zip a b) ρ = (ev C rf a ρ).bind (kZ1 C rf b) := by
  rw [z_evIQ_zip]
  refine bindX fun x ρ1 => ?_
  unfold kZ1
  refine bindX fun y ρ2 => ?_
  unfold kZ2 oZ1
  rcases freeze rf ρ2 x with _ | p
  · rfl
  · simp only [ofO_some]
    unfold oZ2
    rcases freeze rf p.2 y with _ | q
    · rfl
    · simp only [ofO_some]
      unfold oZ3
      rcases p with ⟨d, u⟩
      rcases q with ⟨e, v⟩
      cases d <;> cases e <;> rfl
theorem tgAQ_name {i : Nat} {x : RV} {ρ : Ev} : tgA C rf (.name i) x ρ = oStore (store rf i x ρ) := by
  rw [z_tgAQ_name]
  rcases store rf i x ρ with _ | p <;> rfl
theorem tgAQ_sub {a : E} {b : E} {v : RV} {ρ : Ev} : tgA C rf (.sub a b) v ρ = oSub1 C rf a b (freeze rf ρ v) := by
  rw [z_tgAQ_sub]
  rcases freeze rf ρ v with _ | p
  · rfl
  · rw [ofO_some]
    unfold oSub1
    refine bindX fun x ρ1 => ?_
    unfold kSub2
    refine bindX fun y ρ2 => ?_
    unfold kSub3
    rcases freeze rf ρ2 y with _ | q
    · cases x <;> rfl
    · rw [ofO_some]
      cases x with
      | var i =>
        simp only []
        show _ = oSub5 i p.1 q (ownC q.2[i]?)
        rcases q.2[i]? with _ | _ | d | d <;> try rfl
        show (ofO (setD d q.1 p.1) fun d' => Res.ok () (q.2.set i (some (.ow d')))) = oSub6 i q.2 (setD d q.1 p.1)
        rcases setD d q.1 p.1 with _ | r <;> rfl
      | _ => rfl
theorem tgAQ_tup {ts : Tgs} {v : RV} {ρ : Ev} : tgA C rf (.tup ts) v ρ = oTt1 C rf ts (freeze rf ρ v) := by
  rw [z_tgAQ_tup]
  rcases freeze rf ρ v with _ | p
  · rfl
  · rw [ofO_some]
    unfold oTt1 oTt2
    rcases p with ⟨d, u⟩
    cases d <;> rfl
theorem tgAsQ_nil {ρ : Ev} : tgAs C rf .nil [] ρ = .ok () ρ := by rfl
theorem tgAsQ_cons {t : Tg} {ts : Tgs} {d : D} {ds : List D} {ρ : Ev} : tgAs C rf (.cons t ts) (d :: ds) ρ = (tgA C rf t (.fz d) ρ).bind (kTgs C rf ts ds) := by rfl
theorem exsQ_nil {ρ : Ev} : exs C rf .nil ρ = .ok .next ρ := by rfl
theorem exsQ_cons {s : S} {ss : Ss} {ρ : Ev} : exs C rf (.cons s ss) ρ = (ex C rf s ρ).bind (seqK C rf ss) := by
  rw [exs]
  refine bindX fun f ρ1 => ?_
  cases f <;> rfl
theorem exQ_asg {t : Tg} {e : E} {ρ : Ev} : ex C rf (.asg t e) ρ = (ev C rf e ρ).bind (kAsg C rf t) := by rfl
theorem exQ_par {is : List Nat} {es : Es} {ρ : Ev} : ex C rf (.par is es) ρ = (evs C rf es ρ).bind (kPar rf is) := by
  rw [z_exQ_par]
  refine bindX fun x ρ1 => ?_
  unfold kPar oPar1
  rcases settle rf x ρ1 with _ | p
  · rfl
  · rw [ofO_some]
    show _ = oPar2 (stores rf is p.1 p.2)
    rcases stores rf is p.1 p.2 with _ | r <;> rfl
theorem exQ_expr {e : E} {ρ : Ev} : ex C rf (.expr e) ρ = (ev C rf e ρ).bind kNext := by rfl
theorem exQ_ret {e : E} {ρ : Ev} : ex C rf (.ret e) ρ = (ev C rf e ρ).bind kRet := by rfl
theorem exQ_ite {c : E} {a : Ss} {b : Ss} {ρ : Ev} : ex C rf (.ite c a b) ρ = (evT C rf c ρ).bind (kSite C rf a b) := by rfl
theorem exQ_for {t : Tg} {it : I} {b : Ss} {ρ : Ev} : ex C rf (.for t it b) ρ = (evI C rf it ρ).bind (forLoop (forStep C rf t b)) := by rfl
theorem exQ_while {c : E} {b : Ss} {ρ : Ev} : ex C rf (.while c b) ρ = whLoop (evT C rf c) (exs C rf b) C.turns ρ := by rfl
theorem exQ_raise {c : Str} {es : Es} {ρ : Ev} : ex C rf (.raise c es) ρ = (evs C rf es ρ).bind (kRaise rf c) := by
  rw [z_exQ_raise]
  refine bindX fun x ρ1 => ?_
  unfold kRaise oRaise
  rcases freezes rf x ρ1 with _ | p <;> rfl
theorem exQ_cont {ρ : Ev} : ex C rf .cont ρ = .ok .cont ρ := by rfl
theorem exQ_brk {ρ : Ev} : ex C rf .brk ρ = .ok .brk ρ := by rfl
theorem exQ_pass {ρ : Ev} : ex C rf .pass ρ = .ok .next ρ := by rfl
end
theorem kNegQ0  {i : _} {ρ : _} : kNeg  (.fz (.int i)) ρ = .ok (.fz (.int (-i))) ρ := rfl
theorem ofRQ0  {r : _} {ρ : _} : ofR  (some r) ρ = .ok r ρ := rfl
theorem ofBQ0  {r : _} {ρ : _} : ofB  (some r) ρ = .ok (.fz (.bl r)) ρ := rfl
theorem ofFQ0  {r : _} {ρ : _} : ofF  (some r) ρ = .ok (.fz r) ρ := rfl
theorem binOQ0 {op : Operator} {d : _} {e : _} : binO op (some d) (some e) = binD op d e := rfl
theorem cmpOQ0 {op : CmpOp} {d : _} {e : _} : cmpO op (some d) (some e) = cmpD op d e := rfl
theorem idxOQ0  {d : _} {e : _} : idxO  (some d) (some e) = idxD d e := rfl
theorem truOQ0  {d : _} : truO  (some d) = truD d := rfl
theorem oNotQ0  {b : _} {ρ : _} : oNot  (some b) ρ = .ok (.fz (.bl (!b))) ρ := rfl
theorem oTbQ0  {b : _} {ρ : _} : oTb  (some b) ρ = .ok b ρ := rfl
theorem slcOQ0  {d : _} {h : _} {l : _} : slcO  (some d) (some l) (some h) = slcD d l h := rfl
theorem revOQ0  {d : _} : revO  (some d) = revD d := rfl
theorem bltOQ0 {f : Blt} {ds : _} : bltO f (some ds) = bltD f ds := rfl
theorem isiOQ0 {ts : List Ty} {d : _} : isiO ts (some d) = isiD d ts := rfl
theorem mthOQ0 {m : Mth} {d : _} {ds : _} : mthO m (some d) (some ds) = mthD m d ds := rfl
theorem oTupQ0  {p : _} : oTup  (some p) = if okLen p.1.length then .ok (.fz (.tup p.1)) p.2 else .bad := Eq.trans rfl rfl
theorem oLstQ0  {p : _} : oLst  (some p) = if okLen p.1.length then .ok (.tmp (.lst p.1)) p.2 else .bad := Eq.trans rfl rfl
theorem kNotQ {x : RV} {ρ : Ev} : kNot x ρ = oNot (truO (deref ρ x)) ρ := rfl
theorem kTQ {x : RV} {ρ : Ev} : kT x ρ = oTb (truO (deref ρ x)) ρ := rfl
theorem kTnotQ {b : Bool} {ρ : Ev} : kTnot b ρ = .ok (!b) ρ := rfl
theorem kTupQ {rf : List Bool} {xs : List RV} {ρ : Ev} : kTup rf xs ρ = oTup (freezes rf xs ρ) := rfl
theorem kLstQ {rf : List Bool} {xs : List RV} {ρ : Ev} : kLst rf xs ρ = oLst (freezes rf xs ρ) := rfl
theorem kRevQ {x : RV} {ρ : Ev} : kRev x ρ = ofR (revO (deref ρ x)) ρ := rfl
theorem kBltQ {f : Blt} {xs : List RV} {ρ : Ev} : kBlt f xs ρ = ofR (bltO f (derefs ρ xs)) ρ := rfl
theorem kIsiQ {ts : List Ty} {x : RV} {ρ : Ev} : kIsi ts x ρ = ofB (isiO ts (deref ρ x)) ρ := rfl
theorem kLofQ {xs : List D} {ρ : Ev} : kLof xs ρ = if okLen xs.length then .ok (.tmp (.lst xs)) ρ else .bad := Eq.trans rfl rfl
theorem kEs2Q {x : RV} {xs : List RV} {ρ : Ev} : kEs2 x xs ρ = .ok (x :: xs) ρ := rfl
theorem oIv2Q0  {xs : _} {ρ : _} : oIv2  (some xs) ρ = .ok xs ρ := rfl
theorem oIv1Q0  {p : _} : oIv1  (some p) = oIv2 (itemsD p.1) p.2 := rfl
theorem kIvQ {rf : List Bool} {x : RV} {ρ : Ev} : kIv rf x ρ = oIv1 (freeze rf ρ x) := rfl
theorem kR1Q0  {n : _} {ρ : _} : kR1  (.fz (.int n)) ρ = if inR n then .ok (rangeD 0 n) ρ else .bad := Eq.trans rfl rfl
theorem kR2bQ0  {m : _} {n : _} {ρ : _} : kR2b  (.fz (.int m)) (.fz (.int n)) ρ = if inR m && inR n then .ok (rangeD m n) ρ else .bad := Eq.trans rfl rfl
theorem oEn2Q0  {xs : _} {ρ : _} : oEn2  (.lst xs) ρ = .ok (enumD 0 xs) ρ := rfl
theorem oEn2Q1  {xs : _} {ρ : _} : oEn2  (.tup xs) ρ = .ok (enumD 0 xs) ρ := rfl
theorem oEn1Q0  {p : _} : oEn1  (some p) = oEn2 p.1 p.2 := rfl
theorem kEnQ {rf : List Bool} {x : RV} {ρ : Ev} : kEn rf x ρ = oEn1 (freeze rf ρ x) := rfl
theorem oZ3Q0  {xs : _} {ys : _} {ρ : _} : oZ3  (.lst xs) (.lst ys) ρ = .ok (zipD xs ys) ρ := rfl
theorem oZ3Q1  {xs : _} {ys : _} {ρ : _} : oZ3  (.tup xs) (.tup ys) ρ = .ok (zipD xs ys) ρ := rfl
theorem oZ2Q0 {d : D} {q : _} : oZ2 d (some q) = oZ3 d q.1 q.2 := rfl
theorem oZ1Q0 {rf : List Bool} {y : RV} {p : _} : oZ1 rf y (some p) = oZ2 p.1 (freeze rf p.2 y) := rfl
theorem kZ2Q {rf : List Bool} {x y : RV} {ρ : Ev} : kZ2 rf x y ρ = oZ1 rf y (freeze rf ρ x) := rfl
theorem kBin2Q {op : Operator} {x y : RV} {ρ : Ev} : kBin2 op x y ρ = ofR (binO op (deref ρ x) (deref ρ y)) ρ := rfl
theorem kCmp2Q {op : CmpOp} {x y : RV} {ρ : Ev} : kCmp2 op x y ρ = ofB (cmpO op (deref ρ x) (deref ρ y)) ρ := rfl
theorem kIdx2Q {x y : RV} {ρ : Ev} : kIdx2 x y ρ = ofF (idxO (deref ρ x) (deref ρ y)) ρ := rfl
theorem kS3Q {lo hi : E} {x y z : RV} {ρ : Ev} : kS3 lo hi x y z ρ = ofR (slcO (deref ρ x) (partE lo y) (partE hi z)) ρ := rfl
theorem oMfQ0 {i : Nat} {ρ : Ev} {q : _} : oMf i ρ (some q) = .ok (.fz q.1) (ρ.set i (some (.ow q.2))) := rfl
theorem oMdQ0 {m : Mth} {i : Nat} {p : List D × Ev} {d : _} : oMd m i p (some d) = oMf i p.2 (mutD m d p.1) := rfl
theorem oMmQ0 {m : Mth} {i : Nat} {p : _} : oMm m i (some p) = oMd m i p (ownC p.2[i]?) := rfl
theorem kMmQ0 {rf : List Bool} {m : Mth} {i : _} {ys : _} {ρ : _} : kMm rf m (.var i) ys ρ = oMm m i (mArgs rf m ys ρ) := rfl
theorem kMgQ {m : Mth} {x : RV} {ys : List RV} {ρ : Ev} : kMg m x ys ρ = ofR (mthO m (deref ρ x) (derefs ρ ys)) ρ := rfl
theorem oStoreQ0  {ρ : _} : oStore  (some ρ) = .ok () ρ := rfl
theorem oSub6Q0 {i : Nat} {ρ : Ev} {d : _} : oSub6 i ρ (some d) = .ok () (ρ.set i (some (.ow d))) := rfl
theorem oSub5Q0 {i : Nat} {v : D} {q : D × Ev} {d : _} : oSub5 i v q (some d) = oSub6 i q.2 (setD d q.1 v) := rfl
theorem oSub4Q0 {v : D} {i : _} {q : _} : oSub4 v (.var i) (some q) = oSub5 i v q (ownC q.2[i]?) := rfl
theorem kSub3Q {rf : List Bool} {v : D} {x y : RV} {ρ : Ev} : kSub3 rf v x y ρ = oSub4 v x (freeze rf ρ y) := rfl
theorem oPar2Q0  {ρ : _} : oPar2  (some ρ) = .ok .next ρ := rfl
theorem oPar1Q0 {rf : List Bool} {is : List Nat} {p : _} : oPar1 rf is (some p) = oPar2 (stores rf is p.1 p.2) := rfl
theorem kParQ {rf : List Bool} {is : List Nat} {xs : List RV} {ρ : Ev} : kPar rf is xs ρ = oPar1 rf is (settle rf xs ρ) := rfl
theorem kNextQ {α : Type} {u_ : α} {ρ : Ev} : kNext u_ ρ = .ok .next ρ := rfl
theorem kRetQ {x : RV} {ρ : Ev} : kRet x ρ = .ok (.ret x) ρ := rfl
theorem oRaiseQ0 {c : Str} {p : _} : oRaise c (some p) = .exc c p.1 p.2 := rfl
theorem kRaiseQ {rf : List Bool} {c : Str} {xs : List RV} {ρ : Ev} : kRaise rf c xs ρ = oRaise c (freezes rf xs ρ) := rfl
theorem oC3Q0  {p : _} : oC3  (some p) = .ok (some p.1) p.2 := rfl
theorem kC3Q {rf : List Bool} {x : RV} {ρ : Ev} : kC3 rf x ρ = oC3 (freeze rf ρ x) := rfl
theorem kBin1Q {C : Cl} {rf : List Bool} {op : Operator} {b : E} {x : RV} {ρ : Ev} : kBin1 C rf op b x ρ = (ev C rf b ρ).bind (kBin2 op x) := rfl
theorem kCmp1Q {C : Cl} {rf : List Bool} {op : CmpOp} {b : E} {x : RV} {ρ : Ev} : kCmp1 C rf op b x ρ = (ev C rf b ρ).bind (kCmp2 op x) := rfl
theorem kIdx1Q {C : Cl} {rf : List Bool} {b : E} {x : RV} {ρ : Ev} : kIdx1 C rf b x ρ = (ev C rf b ρ).bind (kIdx2 x) := rfl
theorem kAndQ0 {C : Cl} {rf : List Bool} {b : E} {c : _} {ρ : _} : kAnd C rf b (.fz (.bl c)) ρ = if c then ev C rf b ρ else .ok (.fz (.bl false)) ρ := rfl
theorem kOrQ0 {C : Cl} {rf : List Bool} {b : E} {c : _} {ρ : _} : kOr C rf b (.fz (.bl c)) ρ = if c then .ok (.fz (.bl true)) ρ else ev C rf b ρ := rfl
theorem kCh3Q {op : CmpOp} {y z : RV} {ρ : Ev} : kCh3 op y z ρ = ofB (cmpO op (deref ρ y) (deref ρ z)) ρ := rfl
theorem oChQ0 {C : Cl} {rf : List Bool} {op' : CmpOp} {c : E} {y : RV} {ρ : Ev} {r : _} : oCh C rf op' c y ρ (some r) = if r then (ev C rf c ρ).bind (kCh3 op' y) else .ok (.fz (.bl false)) ρ := rfl
theorem kCh2Q {C : Cl} {rf : List Bool} {op op' : CmpOp} {c : E} {x y : RV} {ρ : Ev} : kCh2 C rf op op' c x y ρ = oCh C rf op' c y ρ (cmpO op (deref ρ x) (deref ρ y)) := rfl
theorem kCh1Q {C : Cl} {rf : List Bool} {op op' : CmpOp} {b c : E} {x : RV} {ρ : Ev} : kCh1 C rf op op' b c x ρ = (ev C rf b ρ).bind (kCh2 C rf op op' c x) := rfl
theorem kIteQ {C : Cl} {rf : List Bool} {a b : E} {k : Bool} {ρ : Ev} : kIte C rf a b k ρ = if k then ev C rf a ρ else ev C rf b ρ := rfl
theorem kS2Q {C : Cl} {rf : List Bool} {lo hi : E} {x y : RV} {ρ : Ev} : kS2 C rf lo hi x y ρ = (ev C rf hi ρ).bind (kS3 lo hi x y) := rfl
theorem kS1Q {C : Cl} {rf : List Bool} {lo hi : E} {x : RV} {ρ : Ev} : kS1 C rf lo hi x ρ = (ev C rf lo ρ).bind (kS2 C rf lo hi x) := rfl
theorem oK3Q0 {C : Cl} {rf : List Bool} {f : Str} {ρ : Ev} {ys : _} : oK3 C rf f ρ (some ys) = doCall C rf f ys ρ := rfl
theorem oK2Q0 {C : Cl} {rf : List Bool} {f : Str} {ys : List RV} {ρ : Ev} {ix : _} : oK2 C rf f ys ρ (some ix) = oK3 C rf f ρ (getAll ix ys) := rfl
theorem oK1Q0 {C : Cl} {rf : List Bool} {f : Str} {ks : List Str} {xs zs : List RV} {ρ : Ev} {fn : _} : oK1 C rf f ks xs zs ρ (some fn) = oK2 C rf f (xs ++ zs) ρ (orderIx fn.ps xs.length ks) := rfl
theorem kK2Q {C : Cl} {rf : List Bool} {f : Str} {ks : List Str} {xs zs : List RV} {ρ : Ev} : kK2 C rf f ks xs zs ρ = oK1 C rf f ks xs zs ρ (C.fn f) := rfl
theorem kK1Q {C : Cl} {rf : List Bool} {f : Str} {ks : List Str} {kes : Es} {xs : List RV} {ρ : Ev} : kK1 C rf f ks kes xs ρ = (evs C rf kes ρ).bind (kK2 C rf f ks xs) := rfl
theorem oM1Q0 {C : Cl} {rf : List Bool} {m : Mth} {es : Es} {x : RV} {ρ : Ev} {d0 : _} : oM1 C rf m es x ρ (some d0) = if kindOk m d0 then (if isMut m then (evs C rf es ρ).bind (kMm rf m x) else (evs C rf es ρ).bind (kMg m x)) else .bad := rfl
theorem kM1Q {C : Cl} {rf : List Bool} {m : Mth} {es : Es} {x : RV} {ρ : Ev} : kM1 C rf m es x ρ = oM1 C rf m es x ρ (deref ρ x) := rfl
theorem kTandQ {C : Cl} {rf : List Bool} {b : E} {c : Bool} {ρ : Ev} : kTand C rf b c ρ = if c then evT C rf b ρ else .ok false ρ := rfl
theorem kTorQ {C : Cl} {rf : List Bool} {b : E} {c : Bool} {ρ : Ev} : kTor C rf b c ρ = if c then .ok true ρ else evT C rf b ρ := rfl
theorem kEs1Q {C : Cl} {rf : List Bool} {es : Es} {x : RV} {ρ : Ev} : kEs1 C rf es x ρ = (evs C rf es ρ).bind (kEs2 x) := rfl
theorem kR2aQ {C : Cl} {rf : List Bool} {b : E} {x : RV} {ρ : Ev} : kR2a C rf b x ρ = (ev C rf b ρ).bind (kR2b x) := rfl
theorem kR3cQ0  {m : _} {n : _} {ρ : _} : kR3c  (.fz (.int m)) (.fz (.int n)) (.fz (.int (-1))) ρ = if inR m && inR n then .ok (downD m n) ρ else .bad := Eq.trans rfl rfl
theorem kR3bQ {C : Cl} {rf : List Bool} {c : E} {x y : RV} {ρ : Ev} : kR3b C rf c x y ρ = (ev C rf c ρ).bind (kR3c x y) := rfl
theorem kR3aQ {C : Cl} {rf : List Bool} {b c : E} {x : RV} {ρ : Ev} : kR3a C rf b c x ρ = (ev C rf b ρ).bind (kR3b C rf c x) := rfl
theorem kZ1Q {C : Cl} {rf : List Bool} {b : E} {x : RV} {ρ : Ev} : kZ1 C rf b x ρ = (ev C rf b ρ).bind (kZ2 rf x) := rfl
theorem kSub2Q {C : Cl} {rf : List Bool} {b : E} {v : D} {x : RV} {ρ : Ev} : kSub2 C rf b v x ρ = (ev C rf b ρ).bind (kSub3 rf v x) := rfl
theorem oSub1Q0 {C : Cl} {rf : List Bool} {a b : E} {p : _} : oSub1 C rf a b (some p) = (ev C rf a p.2).bind (kSub2 C rf b p.1) := rfl
theorem oTt2Q0 {C : Cl} {rf : List Bool} {ts : Tgs} {ds : _} {ρ : _} : oTt2 C rf ts (.tup ds) ρ = tgAs C rf ts ds ρ := rfl
theorem oTt1Q0 {C : Cl} {rf : List Bool} {ts : Tgs} {p : _} : oTt1 C rf ts (some p) = oTt2 C rf ts p.1 p.2 := rfl
theorem kTgsQ {C : Cl} {rf : List Bool} {ts : Tgs} {ds : List D} {u_ : Unit} {ρ : Ev} : kTgs C rf ts ds u_ ρ = tgAs C rf ts ds ρ := rfl
theorem seqKQ0 {C : Cl} {rf : List Bool} {ss : Ss} {ρ : _} : seqK C rf ss .next ρ = exs C rf ss ρ := rfl
theorem seqKQ1 {C : Cl} {rf : List Bool} {ss : Ss} {x : _} {ρ : _} : seqK C rf ss (.ret x) ρ = .ok (.ret x) ρ := rfl
theorem seqKQ2 {C : Cl} {rf : List Bool} {ss : Ss} {ρ : _} : seqK C rf ss .brk ρ = .ok .brk ρ := rfl
theorem seqKQ3 {C : Cl} {rf : List Bool} {ss : Ss} {ρ : _} : seqK C rf ss .cont ρ = .ok .cont ρ := rfl
theorem kAsgQ {C : Cl} {rf : List Bool} {t : Tg} {x : RV} {ρ : Ev} : kAsg C rf t x ρ = (tgA C rf t x ρ).bind kNext := rfl
theorem kSiteQ {C : Cl} {rf : List Bool} {a b : Ss} {k : Bool} {ρ : Ev} : kSite C rf a b k ρ = if k then exs C rf a ρ else exs C rf b ρ := rfl
theorem kForBQ {C : Cl} {rf : List Bool} {b : Ss} {u_ : Unit} {ρ : Ev} : kForB C rf b u_ ρ = exs C rf b ρ := rfl
theorem forStepQ {C : Cl} {rf : List Bool} {t : Tg} {b : Ss} {x : D} {ρ : Ev} : forStep C rf t b x ρ = (tgA C rf t (.fz x) ρ).bind (kForB C rf b) := rfl
theorem kC2Q {C : Cl} {rf : List Bool} {elt : E} {k : Bool} {ρ : Ev} : kC2 C rf elt k ρ = if k then (ev C rf elt ρ).bind (kC3 rf) else .ok none ρ := rfl
theorem kC1Q {C : Cl} {rf : List Bool} {c elt : E} {u_ : Unit} {ρ : Ev} : kC1 C rf c elt u_ ρ = (evT C rf c ρ).bind (kC2 C rf elt) := rfl
theorem compStepQ {C : Cl} {rf : List Bool} {tg : Tg} {c elt : E} {x : D} {ρ : Ev} : compStep C rf tg c elt x ρ = (tgA C rf tg (.fz x) ρ).bind (kC1 C rf c elt) := rfl
theorem kCompQ {C : Cl} {rf : List Bool} {own : List Nat} {tg : Tg} {c elt : E} {xs : List D} {ρ : Ev} : kComp C rf own tg c elt xs ρ = compEnd own ρ (compLoop own (compStep C rf tg c elt) xs [] (wipeE ρ own)) := rfl
theorem oP2Q0 {d : D} {b : Option Nat} {q : _} : oP2 d b (some q) = some (d :: q.1, b :: q.2.1, q.2.2) := rfl
theorem oP1Q0 {rf bs : List Bool} {xs : List RV} {p : _} : oP1 rf bs xs (some p) = oP2 p.1 none (passAll rf bs xs p.2) := rfl
theorem oP3Q0 {rf bs : List Bool} {i : Nat} {xs : List RV} {ρ : Ev} {d : _} : oP3 rf bs i xs ρ (some d) = oP2 d (some i) (passAll rf bs xs ρ) := rfl
theorem oCallQ0 {R : List D → CR} {p : _} : oCall R (some p) = callEnd R p := rfl
theorem padDQ {fn : Fn} {n : Nat} : padD fn n = (fn.dfl.drop (fn.dfl.length - (fn.refs.length - n))).map .fz := rfl
theorem oFnQ0 {C : Cl} {rf : List Bool} {f : Str} {xs : List RV} {ρ : Ev} {fn : _} : oFn C rf f xs ρ (some fn) = oCall (C.run f) (passAll rf fn.refs (xs ++ padD fn xs.length) ρ) := rfl
theorem oDQ0  {d : _} {ds : _} : oD  (some d) (some ds) = some (d :: ds) := rfl
theorem oF2Q0 {d : D} {q : _} : oF2 d (some q) = some (d :: q.1, q.2) := rfl
theorem oF1Q0 {rf : List Bool} {xs : List RV} {p : _} : oF1 rf xs (some p) = oF2 p.1 (freezes rf xs p.2) := rfl
theorem oStQ0 {i : Nat} {p : _} : oSt i (some p) = some (p.2.set i (some (.fz p.1))) := rfl
theorem oSe2Q0 {x : RV} {p : _} : oSe2 x (some p) = some (x :: p.1, p.2) := rfl
theorem oSe1Q0 {rf : List Bool} {r : List RV} {q : _} : oSe1 rf r (some q) = oSe2 (.fz q.1) (settle rf r q.2) := rfl
theorem oSsQ0 {rf : List Bool} {is : List Nat} {xs : List RV} {ρ : _} : oSs rf is xs (some ρ) = stores rf is xs ρ := rfl
theorem oA1Q0  {p : _} : oA1  (some p) = some ([p.1], p.2) := rfl
theorem oA2Q0 {ρ : Ev} {d : _} : oA2 ρ (some d) = some ([d], ρ) := rfl

section
variable {C : Cl} {rf : List Bool} {ρ : Ev} {d e : D} {i : Nat}
theorem evQ_var {i : Nat} : ev C rf (.var i) ρ = varC i ρ ρ[i]? := ev_var'
theorem passQ_nil : passAll rf [] [] ρ = some ([], [], ρ) := rfl
theorem passQ_val {bs : List Bool} {x : RV} {xs : List RV} : passAll rf (false :: bs) (x :: xs) ρ = oP1 rf bs xs (freeze rf ρ x) := by
  show (match passOne rf false ρ x with | none => none | some (d, b, ρ1) => match passAll rf bs xs ρ1 with | none => none | some (ds, bs, ρ2) => some (d :: ds, b :: bs, ρ2)) = _
  have : passOne rf false ρ x = (freeze rf ρ x).map fun p => (p.1, none, p.2) := by
    unfold passOne
    simp only [Bool.false_eq_true, if_false]
    cases freeze rf ρ x <;> rfl
  rw [this]
  cases freeze rf ρ x with
  | none => rfl
  | some p =>
    simp only [Option.map_some]
    show _ = oP2 p.1 none (passAll rf bs xs p.2)
    cases passAll rf bs xs p.2 <;> rfl
theorem ownC_ow : ownC (some (some (.ow d))) = some d := rfl
theorem passQ_ref {bs : List Bool} {xs : List RV} : passAll rf (true :: bs) (.var i :: xs) ρ = oP3 rf bs i xs ρ (ownC ρ[i]?) := by
  show (match passOne rf true ρ (.var i) with | none => none | some (d, b, ρ1) => match passAll rf bs xs ρ1 with | none => none | some (ds, bs, ρ2) => some (d :: ds, b :: bs, ρ2)) = _
  unfold passOne ownC oP3 oP2
  simp only [if_true]
  rcases h : ρ[i]? with _ | _ | d | d <;> simp <;> cases passAll rf bs xs ρ <;> rfl
theorem passQ_tmp {bs : List Bool} {xs : List RV} : passAll rf (true :: bs) (.tmp d :: xs) ρ = oP2 d none (passAll rf bs xs ρ) := by
  show (match passOne rf true ρ (.tmp d) with | none => none | some (d, b, ρ1) => match passAll rf bs xs ρ1 with | none => none | some (ds, bs, ρ2) => some (d :: ds, b :: bs, ρ2)) = _
  unfold passOne
  simp only [if_true]
  cases passAll rf bs xs ρ <;> rfl
theorem doCallQ {f : Str} {xs : List RV} : doCall C rf f xs ρ = oFn C rf f xs ρ (C.fn f) := by
  unfold doCall
  rcases C.fn f with _ | fn
  · rfl
  · rw [ofO_some]
    show (ofO (passAll rf fn.refs (xs ++ padD fn xs.length) ρ) (callEnd (C.run f))) = oCall (C.run f) (passAll rf fn.refs (xs ++ padD fn xs.length) ρ)
    rcases passAll rf fn.refs (xs ++ padD fn xs.length) ρ with _ | p <;> rfl
theorem padQ {fn : Fn} {n : Nat} : padD fn n = (fn.dfl.drop (fn.dfl.length - (fn.refs.length - n))).map .fz := rfl
theorem derefsQ_cons {x : RV} {xs : List RV} : derefs ρ (x :: xs) = oD (deref ρ x) (derefs ρ xs) := by
  rw [derefs_cons]
  cases deref ρ x with
  | none => rfl
  | some d => cases derefs ρ xs <;> rfl
theorem freezesQ_cons {x : RV} {xs : List RV} : freezes rf (x :: xs) ρ = oF1 rf xs (freeze rf ρ x) := by
  rw [freezes_cons]
  cases freeze rf ρ x with
  | none => rfl
  | some p =>
    simp only [Option.bind_some]
    show _ = oF2 p.1 (freezes rf xs p.2)
    cases freezes rf xs p.2 <;> rfl
theorem storeQ_var {j : Nat} (h : isRef rf i = false) : store rf i (.var j) ρ = oSt i (freezeC rf j ρ ρ[j]?) := by
  rw [store_var' h]
  cases freezeC rf j ρ ρ[j]? <;> rfl
theorem distQ_nil : distinct [] = true := rfl
theorem distQ_none {r : List (Option Nat)} : distinct (none :: r) = distinct r := rfl
theorem distQ_some {r : List (Option Nat)} : distinct (some i :: r) = (!r.contains (some i) && distinct r) := rfl
theorem stillQ_nil : stillOw [] ρ = true := rfl
theorem stillQ_none {r : List (Option Nat)} : stillOw (none :: r) ρ = stillOw r ρ := by unfold stillOw; simp
theorem stillQ_some {r : List (Option Nat)} : stillOw (some i :: r) ρ = ((ownC ρ[i]?).isSome && stillOw r ρ) := by
  unfold stillOw ownC
  simp only [List.all_cons]
  rcases h : ρ[i]? with _ | _ | d | d <;> simp
theorem wbQ_nil {ds : List D} : writeBack [] ds ρ = ρ := by cases ds <;> rfl
theorem wbQ_none {bs : List (Option Nat)} {ds : List D} : writeBack (none :: bs) (d :: ds) ρ = writeBack bs ds ρ := rfl
theorem wbQ_some {bs : List (Option Nat)} {ds : List D} : writeBack (some i :: bs) (d :: ds) ρ = writeBack bs ds (ρ.set i (some (.ow d))) := rfl
def outEnd : CR → List (Option Nat) → Ev → Res RV
    | .ok r own outs, bs, ρ => .ok (if own then .tmp r else .fz r) (writeBack bs outs ρ)
    | .exc c vs outs, bs, ρ => .exc c vs (writeBack bs outs ρ)
    | .bad, _, _ => .bad
theorem callEndQ {R : List D → CR} {ds : List D} {bs : List (Option Nat)} : callEnd R (ds, bs, ρ) = if distinct bs && stillOw bs ρ then outEnd (R ds) bs ρ else .bad := by
  unfold callEnd outEnd
  simp only []
  cases R ds <;> rfl
theorem outEndQ {r : D} {own : Bool} {outs : List D} {bs : List (Option Nat)} : outEnd (.ok r own outs) bs ρ = .ok (if own then .tmp r else .fz r) (writeBack bs outs ρ) := rfl
theorem settleQ_nil : settle rf [] ρ = some ([], ρ) := rfl
theorem settleQ_fz {r : List RV} : settle rf (.fz d :: r) ρ = oSe2 (.fz d) (settle rf r ρ) := by
  rw [settle]
  · cases settle rf r ρ <;> rfl
  · intro i h; cases h
theorem settleQ_tmp {r : List RV} : settle rf (.tmp d :: r) ρ = oSe2 (.tmp d) (settle rf r ρ) := by
  rw [settle]
  · cases settle rf r ρ <;> rfl
  · intro i h; cases h
theorem settleQ_var {r : List RV} : settle rf (.var i :: r) ρ = oSe1 rf r (freeze rf ρ (.var i)) := by
  rw [settle]
  cases freeze rf ρ (.var i) with
  | none => rfl
  | some q =>
    show _ = oSe2 (.fz q.1) (settle rf r q.2)
    simp only []
    cases settle rf r q.2 <;> rfl
theorem storesQ_nil : stores rf [] [] ρ = some ρ := rfl
theorem storesQ_cons {is : List Nat} {x : RV} {xs : List RV} : stores rf (i :: is) (x :: xs) ρ = oSs rf is xs (store rf i x ρ) := by
  rw [stores]
  cases store rf i x ρ <;> rfl
theorem inR_t {n : Int} (h : -1000000 ≤ n) (h2 : n ≤ 1000000) : inR n = true := by
  unfold inR
  rw [decide_eq_true h, decide_eq_true h2]; rfl
theorem okLen_t {n : Nat} (h : n < 1000000) : okLen n = true := decide_eq_true h
theorem appQ {x : RV} : mArgs rf .append [x] ρ = oA1 (freeze rf ρ x) := by
  show freezes rf [x] ρ = _
  rw [freezes_cons]
  cases freeze rf ρ x with
  | none => rfl
  | some p => rfl
theorem extQ {x : RV} : mArgs rf .extend [x] ρ = oA2 ρ (deref ρ x) := by
  show (derefs ρ [x]).map _ = _
  rw [derefs_cons]
  cases deref ρ x <;> rfl
theorem popAtQ {x : RV} : mArgs rf .popAt [x] ρ = oA1 (freeze rf ρ x) := by
  show freezes rf [x] ρ = _
  rw [freezes_cons]
  cases freeze rf ρ x with
  | none => rfl
  | some p => rfl
theorem popQ : mArgs rf .pop [] ρ = some ([], ρ) := rfl
/-- turns of a loop, by what was gone through -/
theorem for_pre {α τ : Type} {step : D → Ev → Res Fl} {enc : α → D} (xs : List α) (inv : List α → τ → Ev) (t : τ) (h : ∀ pre x post t, xs = pre ++ x :: post → ∃ t', step (enc x) (inv pre t) = .ok .next (inv (pre ++ [x]) t')) : ∃ t', forLoop step (xs.map enc) (inv [] t) = .ok .next (inv xs t') := by
  have go : ∀ (post pre : List α) (t : τ), xs = pre ++ post → ∃ t', forLoop step (post.map enc) (inv pre t) = .ok .next (inv xs t') := by
    intro post
    induction post with
    | nil => intro pre t hx; exact ⟨t, by rw [hx, List.append_nil]; rfl⟩
    | cons x post ih =>
      intro pre t hx
      obtain ⟨t1, h1⟩ := h pre x post t hx
      obtain ⟨t2, h2⟩ := ih (pre ++ [x]) t1 (by rw [hx, List.append_assoc]; rfl)
      refine ⟨t2, ?_⟩
      rw [List.map_cons, for_next h1, h2]
  exact go xs [] t rfl
/-- a loop that carries a state -/
theorem for_st {α σ : Type} {step : D → Ev → Res Fl} {enc : α → D} (inv : σ → Ev) (ok : σ → Prop) (xs : List α) : ∀ (s : σ), ok s → (∀ s x, ok s → x ∈ xs → ∃ s', ok s' ∧ step (enc x) (inv s) = .ok .next (inv s')) → ∃ s', ok s' ∧ forLoop step (xs.map enc) (inv s) = .ok .next (inv s') := by
  induction xs with
  | nil => intro s hs _; exact ⟨s, hs, rfl⟩
  | cons x xs ih =>
    intro s hs h
    obtain ⟨s1, k1, h1⟩ := h s x hs (List.mem_cons_self ..)
    obtain ⟨s2, k2, h2⟩ := ih s1 k1 fun s y hs hy => h s y hs (List.mem_cons_of_mem _ hy)
    exact ⟨s2, k2, by rw [List.map_cons, for_next h1, h2]⟩
/-- a list by comprehension, nothing else changed -/
theorem compQ {α : Type} {enc : α → D} {tg : Tg} {c elt : E} {j : Nat} {c0 : Option Cell} (o : α → Option D) (xs : List α) (hj : ρ[j]? = some c0) (h : ∀ x ∈ xs, ∃ c1, compStep C rf tg c elt (enc x) (ρ.set j none) = .ok (o x) (ρ.set j c1)) (hl : (xs.filterMap o).length < 1000000) : compEnd [j] ρ (compLoop [j] (compStep C rf tg c elt) (xs.map enc) [] (wipeE ρ [j])) = .ok (.tmp (.lst (xs.filterMap o))) ρ := by
  have w : wipeE ρ [j] = ρ.set j none := rfl
  rw [w]
  have go : ∀ (ys : List α) (acc : List D), (∀ y ∈ ys, y ∈ xs) → compLoop [j] (compStep C rf tg c elt) (ys.map enc) acc (ρ.set j none) = .ok (acc ++ ys.filterMap o) (ρ.set j none) := by
    intro ys
    induction ys with
    | nil => intro acc _; simp [compLoop]
    | cons y ys ih =>
      intro acc hy
      obtain ⟨c1, h1⟩ := h y (hy y (List.mem_cons_self ..))
      rw [List.map_cons, compLoop, h1, bindR]
      have w2 : wipeE (ρ.set j c1) [j] = ρ.set j none := by
        show (ρ.set j c1).set j none = _
        rw [List.set_set]
      rw [w2, ih _ fun z hz => hy z (List.mem_cons_of_mem _ hz), List.filterMap_cons]
      cases o y <;> simp
  rw [go xs [] fun y hy => hy]
  show (if okLen ([] ++ xs.filterMap o).length then Res.ok (RV.tmp (.lst ([] ++ xs.filterMap o))) (backE ρ (ρ.set j none) [j]) else .bad) = _
  rw [List.nil_append, if_pos (okLen_t hl)]
  have b : backE ρ (ρ.set j none) [j] = ρ := by
    show (match ρ[j]? with | some c => (ρ.set j none).set j c | none => ρ.set j none) = ρ
    rw [hj]
    simp only [List.set_set]
    obtain ⟨hlt, rfl⟩ := List.getElem?_eq_some_iff.1 hj
    exact List.set_getElem_self hlt
  rw [b]
theorem compQ_map {α : Type} {enc : α → D} {tg : Tg} {c elt : E} {j : Nat} {c0 : Option Cell} (o : α → D) (xs : List α) (hj : ρ[j]? = some c0) (h : ∀ x ∈ xs, ∃ c1, compStep C rf tg c elt (enc x) (ρ.set j none) = .ok (some (o x)) (ρ.set j c1)) (hl : xs.length < 1000000) : compEnd [j] ρ (compLoop [j] (compStep C rf tg c elt) (xs.map enc) [] (wipeE ρ [j])) = .ok (.tmp (.lst (xs.map o))) ρ := by
  have := compQ (fun x => some (o x)) xs hj h (by simpa using hl)
  rwa [List.filterMap_eq_map'] at this
end
def endFn (refs : List Bool) : Res Fl → CR
  | .ok fl ρ => match outsOf refs ρ with
    | none => .bad
    | some outs => match fl with
      | .next => .ok .non false outs
      | .ret (.fz d) => .ok d false outs
      | .ret (.tmp d) => .ok d true outs
      | .ret (.var i) => if isRef refs i then .bad else match ρ[i]? with
        | some (some (.ow d)) => .ok d true outs
        | some (some (.fz d)) => .ok d false outs
        | _ => .bad
      | _ => .bad
  | .exc c vs ρ => match outsOf refs ρ with
    | none => .bad
    | some outs => .exc c vs outs
  | .bad => .bad
theorem callQ {P : Pg} {n : Nat} {f : Str} {fn : Fn} {ds : List D} (hf : P.fn f = some fn) (hl : ds.length = fn.refs.length) : P.call (n + 1) f ds = endFn fn.refs (exs (P.cl (P.call n)) fn.refs fn.body (startE fn.refs ds ++ List.replicate (fn.slots - ds.length) none)) := by
  show (match P.fn f with | none => CR.bad | some fn => runFn (P.cl (P.call n)) fn ds) = _
  rw [hf]
  show runFn (P.cl (P.call n)) fn ds = _
  unfold runFn
  rw [if_pos hl]
  rfl
section
variable {refs : List Bool} {ρ : Ev} {d : D} {i : Nat} {outs : List D}
theorem endQ_fz (h : outsOf refs ρ = some outs) : endFn refs (.ok (.ret (.fz d)) ρ) = .ok d false outs := by simp only [endFn, h]
theorem endQ_tmp (h : outsOf refs ρ = some outs) : endFn refs (.ok (.ret (.tmp d)) ρ) = .ok d true outs := by simp only [endFn, h]
theorem endQ_next (h : outsOf refs ρ = some outs) : endFn refs (.ok .next ρ) = .ok .non false outs := by simp only [endFn, h]
theorem endQ_ow (h : outsOf refs ρ = some outs) (hr : isRef refs i = false) (hi : ρ[i]? = some (some (.ow d))) : endFn refs (.ok (.ret (.var i)) ρ) = .ok d true outs := by simp [endFn, h, hr, hi]
theorem outsQ_nil : outsOf [] ρ = some [] := rfl
theorem outsQ_true : outsOf (true :: refs) (some (.ow d) :: ρ) = (outsOf refs ρ).map (d :: ·) := rfl
theorem outsQ_false {c : Option Cell} : outsOf (false :: refs) (c :: ρ) = (outsOf refs ρ).map (.non :: ·) := rfl
end
theorem clQ_fn {P : Pg} {r : Str → List D → CR} {f : Str} : (P.cl r).fn f = P.fn f := rfl
theorem clQ_run {P : Pg} {r : Str → List D → CR} : (P.cl r).run = r := rfl
theorem clQ_turns {P : Pg} {r : Str → List D → CR} : (P.cl r).turns = P.turns := rfl
theorem compLoopQ_nil {own : List Nat} {step : D → Ev → Res (Option D)} {acc : List D} {ρ : Ev} : compLoop own step [] acc ρ = .ok acc ρ := rfl
def compK (own : List Nat) (step : D → Ev → Res (Option D)) (r acc : List D) (o : Option D) (ρ1 : Ev) : Res (List D) := compLoop own step r (match o with
    | some d => acc ++ [d]
    | none => acc) (wipeE ρ1 own)
theorem compLoopQ_cons {own : List Nat} {step : D → Ev → Res (Option D)} {x : D} {r acc : List D} {ρ : Ev} : compLoop own step (x :: r) acc ρ = (step x ρ).bind (compK own step r acc) := rfl
theorem compK_some {own : List Nat} {step : D → Ev → Res (Option D)} {d : D} {r acc : List D} {ρ : Ev} : compK own step r acc (some d) ρ = compLoop own step r (acc ++ [d]) (wipeE ρ own) := rfl
theorem compK_none {own : List Nat} {step : D → Ev → Res (Option D)} {r acc : List D} {ρ : Ev} : compK own step r acc none ρ = compLoop own step r acc (wipeE ρ own) := rfl
theorem wipeQ_nil {ρ : Ev} : wipeE ρ [] = ρ := rfl
theorem wipeQ_cons {ρ : Ev} {i : Nat} {is : List Nat} : wipeE ρ (i :: is) = (wipeE ρ is).set i none := rfl
theorem compEndQ {own : List Nat} {ρ ρ2 : Ev} {ds : List D} : compEnd own ρ (.ok ds ρ2) = if okLen ds.length then .ok (.tmp (.lst ds)) (backE ρ ρ2 own) else .bad := Eq.trans rfl rfl
def backC (ρ : Ev) (i : Nat) : Option (Option Cell) → Ev
  | some c => ρ.set i c
  | none => ρ
theorem backQ_nil {old ρ : Ev} : backE old ρ [] = ρ := rfl
theorem backQ_cons {old ρ : Ev} {i : Nat} {is : List Nat} : backE old ρ (i :: is) = backC (backE old ρ is) i old[i]? := by
  rw [backE]
  cases old[i]? <;> rfl
theorem backC_some {ρ : Ev} {i : Nat} {c : Option Cell} : backC ρ i (some c) = ρ.set i c := rfl
def forK (step : D → Ev → Res Fl) (r : List D) (f : Fl) (ρ1 : Ev) : Res Fl := match f with
    | .next => forLoop step r ρ1
    | .cont => forLoop step r ρ1
    | .brk => .ok .next ρ1
    | .ret v => .ok (.ret v) ρ1
theorem forLoopQ_nil {step : D → Ev → Res Fl} {ρ : Ev} : forLoop step [] ρ = .ok .next ρ := rfl
theorem forLoopQ_cons {step : D → Ev → Res Fl} {x : D} {r : List D} {ρ : Ev} : forLoop step (x :: r) ρ = (step x ρ).bind (forK step r) := rfl
theorem forKQ_next {step : D → Ev → Res Fl} {r : List D} {ρ : Ev} : forK step r .next ρ = forLoop step r ρ := rfl
theorem forKQ_cont {step : D → Ev → Res Fl} {r : List D} {ρ : Ev} : forK step r .cont ρ = forLoop step r ρ := rfl
theorem forKQ_brk {step : D → Ev → Res Fl} {r : List D} {ρ : Ev} : forK step r .brk ρ = .ok .next ρ := rfl
theorem forKQ_ret {step : D → Ev → Res Fl} {r : List D} {ρ : Ev} {v : RV} : forK step r (.ret v) ρ = .ok (.ret v) ρ := rfl
def whK (test : Ev → Res Bool) (body : Ev → Res Fl) (n : Nat) (f : Fl) (ρ2 : Ev) : Res Fl := match f with
    | .next => whLoop test body n ρ2
    | .cont => whLoop test body n ρ2
    | .brk => .ok .next ρ2
    | .ret v => .ok (.ret v) ρ2
def kWh (test : Ev → Res Bool) (body : Ev → Res Fl) (n : Nat) (b : Bool) (ρ1 : Ev) : Res Fl := if b then (body ρ1).bind (whK test body n) else .ok .next ρ1
theorem kWhQ {test : Ev → Res Bool} {body : Ev → Res Fl} {n : Nat} {ρ1 : Ev} {b : Bool} : kWh test body n b ρ1 = if b then (body ρ1).bind (whK test body n) else .ok .next ρ1 := rfl
theorem whQ {test : Ev → Res Bool} {body : Ev → Res Fl} {n : Nat} {ρ : Ev} : whLoop test body (n + 1) ρ = (test ρ).bind (kWh test body n) := rfl
theorem whKQ_next {test : Ev → Res Bool} {body : Ev → Res Fl} {n : Nat} {ρ : Ev} : whK test body n .next ρ = whLoop test body n ρ := rfl
theorem whKQ_cont {test : Ev → Res Bool} {body : Ev → Res Fl} {n : Nat} {ρ : Ev} : whK test body n .cont ρ = whLoop test body n ρ := rfl
theorem whKQ_brk {test : Ev → Res Bool} {body : Ev → Res Fl} {n : Nat} {ρ : Ev} : whK test body n .brk ρ = .ok .next ρ := rfl
theorem whKQ_ret {test : Ev → Res Bool} {body : Ev → Res Fl} {n : Nat} {ρ : Ev} {v : RV} : whK test body n (.ret v) ρ = .ok (.ret v) ρ := rfl
/-- the parts of a body -/
def nthS : Ss → Nat → S
  | .nil, _ => .pass
  | .cons s _, 0 => s
  | .cons _ r, n + 1 => nthS r n
def bodyOf : S → Ss
  | .for _ _ b => b
  | .while _ b => b
  | .ite _ a _ => a
  | _ => .nil
def testOf : S → E
  | .while c _ => c
  | .ite c _ _ => c
  | _ => .const .non
/-- operators on values told so far -/
theorem isiQ_non  {ts : List Ty} : isiD .non ts = some (ts.any fun t => isTy t .non) := rfl
theorem tyQ_int_non  : isTy .int .non = false := rfl
theorem tyQ_bool_non  : isTy .bool .non = false := rfl
theorem tyQ_str_non  : isTy .str .non = false := rfl
theorem tyQ_list_non  : isTy .list .non = false := rfl
theorem tyQ_tuple_non  : isTy .tuple .non = false := rfl
theorem tyQ_dict_non  : isTy .dict .non = false := rfl
theorem isiQ_bl {b : Bool} {ts : List Ty} : isiD (.bl b) ts = some (ts.any fun t => isTy t (.bl b)) := rfl
theorem tyQ_int_bl {b : Bool} : isTy .int (.bl b) = true := rfl
theorem tyQ_bool_bl {b : Bool} : isTy .bool (.bl b) = true := rfl
theorem tyQ_str_bl {b : Bool} : isTy .str (.bl b) = false := rfl
theorem tyQ_list_bl {b : Bool} : isTy .list (.bl b) = false := rfl
theorem tyQ_tuple_bl {b : Bool} : isTy .tuple (.bl b) = false := rfl
theorem tyQ_dict_bl {b : Bool} : isTy .dict (.bl b) = false := rfl
theorem isNQ_bl {b : Bool} : cmpD .Is (.bl b) .non = some false := rfl
theorem isnNQ_bl {b : Bool} : cmpD .IsNot (.bl b) .non = some true := rfl
theorem isiQ_int {i : Int} {ts : List Ty} : isiD (.int i) ts = some (ts.any fun t => isTy t (.int i)) := rfl
theorem tyQ_int_int {i : Int} : isTy .int (.int i) = true := rfl
theorem tyQ_bool_int {i : Int} : isTy .bool (.int i) = false := rfl
theorem tyQ_str_int {i : Int} : isTy .str (.int i) = false := rfl
theorem tyQ_list_int {i : Int} : isTy .list (.int i) = false := rfl
theorem tyQ_tuple_int {i : Int} : isTy .tuple (.int i) = false := rfl
theorem tyQ_dict_int {i : Int} : isTy .dict (.int i) = false := rfl
theorem isNQ_int {i : Int} : cmpD .Is (.int i) .non = some false := rfl
theorem isnNQ_int {i : Int} : cmpD .IsNot (.int i) .non = some true := rfl
theorem isiQ_str {s : Str} {ts : List Ty} : isiD (.str s) ts = some (ts.any fun t => isTy t (.str s)) := rfl
theorem tyQ_int_str {s : Str} : isTy .int (.str s) = false := rfl
theorem tyQ_bool_str {s : Str} : isTy .bool (.str s) = false := rfl
theorem tyQ_str_str {s : Str} : isTy .str (.str s) = true := rfl
theorem tyQ_list_str {s : Str} : isTy .list (.str s) = false := rfl
theorem tyQ_tuple_str {s : Str} : isTy .tuple (.str s) = false := rfl
theorem tyQ_dict_str {s : Str} : isTy .dict (.str s) = false := rfl
theorem isNQ_str {s : Str} : cmpD .Is (.str s) .non = some false := rfl
theorem isnNQ_str {s : Str} : cmpD .IsNot (.str s) .non = some true := rfl
theorem isiQ_lst {xs : List D} {ts : List Ty} : isiD (.lst xs) ts = some (ts.any fun t => isTy t (.lst xs)) := rfl
theorem tyQ_int_lst {xs : List D} : isTy .int (.lst xs) = false := rfl
theorem tyQ_bool_lst {xs : List D} : isTy .bool (.lst xs) = false := rfl
theorem tyQ_str_lst {xs : List D} : isTy .str (.lst xs) = false := rfl
theorem tyQ_list_lst {xs : List D} : isTy .list (.lst xs) = true := rfl
theorem tyQ_tuple_lst {xs : List D} : isTy .tuple (.lst xs) = false := rfl
theorem tyQ_dict_lst {xs : List D} : isTy .dict (.lst xs) = false := rfl
theorem isNQ_lst {xs : List D} : cmpD .Is (.lst xs) .non = some false := rfl
theorem isnNQ_lst {xs : List D} : cmpD .IsNot (.lst xs) .non = some true := rfl
theorem isiQ_tup {xs : List D} {ts : List Ty} : isiD (.tup xs) ts = some (ts.any fun t => isTy t (.tup xs)) := rfl
theorem tyQ_int_tup {xs : List D} : isTy .int (.tup xs) = false := rfl
theorem tyQ_bool_tup {xs : List D} : isTy .bool (.tup xs) = false := rfl
theorem tyQ_str_tup {xs : List D} : isTy .str (.tup xs) = false := rfl
theorem tyQ_list_tup {xs : List D} : isTy .list (.tup xs) = false := rfl
theorem tyQ_tuple_tup {xs : List D} : isTy .tuple (.tup xs) = true := rfl
theorem tyQ_dict_tup {xs : List D} : isTy .dict (.tup xs) = false := rfl
theorem isNQ_tup {xs : List D} : cmpD .Is (.tup xs) .non = some false := rfl
theorem isnNQ_tup {xs : List D} : cmpD .IsNot (.tup xs) .non = some true := rfl
theorem isiQ_dct {ks vs : List D} {ts : List Ty} : isiD (.dct ks vs) ts = some (ts.any fun t => isTy t (.dct ks vs)) := rfl
theorem tyQ_int_dct {ks vs : List D} : isTy .int (.dct ks vs) = false := rfl
theorem tyQ_bool_dct {ks vs : List D} : isTy .bool (.dct ks vs) = false := rfl
theorem tyQ_str_dct {ks vs : List D} : isTy .str (.dct ks vs) = false := rfl
theorem tyQ_list_dct {ks vs : List D} : isTy .list (.dct ks vs) = false := rfl
theorem tyQ_tuple_dct {ks vs : List D} : isTy .tuple (.dct ks vs) = false := rfl
theorem tyQ_dict_dct {ks vs : List D} : isTy .dict (.dct ks vs) = true := rfl
theorem isNQ_dct {ks vs : List D} : cmpD .Is (.dct ks vs) .non = some false := rfl
theorem isnNQ_dct {ks vs : List D} : cmpD .IsNot (.dct ks vs) .non = some true := rfl
theorem isNQ_non : cmpD .Is .non .non = some true := rfl
theorem isnNQ_non : cmpD .IsNot .non .non = some false := rfl
theorem isBQ {a b : Bool} : cmpD .Is (.bl a) (.bl b) = some (decide (a = b)) := rfl
theorem isnBQ {a b : Bool} : cmpD .IsNot (.bl a) (.bl b) = some (!decide (a = b)) := rfl
theorem itemsQ_lst {xs : List D} : itemsD (.lst xs) = some xs := rfl
theorem itemsQ_tup {xs : List D} : itemsD (.tup xs) = some xs := rfl
theorem lenQ_lst {xs : List D} : bltD .len [.lst xs] = some (.fz (.int xs.length)) := rfl
theorem lenQ_tup {xs : List D} : bltD .len [.tup xs] = some (.fz (.int xs.length)) := rfl
theorem lenQ_scr {xs : List Int} : bltD .len [.scr xs] = some (.fz (.int xs.length)) := rfl
theorem lenQ_dct {xs vs : List D} : bltD .len [.dct xs vs] = some (.fz (.int xs.length)) := rfl
theorem tupleQ_lst {xs : List D} : bltD .tuple [.lst xs] = some (.fz (.tup xs)) := rfl
theorem tupleQ_tup {xs : List D} : bltD .tuple [.tup xs] = some (.fz (.tup xs)) := rfl
theorem listQ_lst {xs : List D} : bltD .list [.lst xs] = some (.tmp (.lst xs)) := rfl
theorem listQ_tup {xs : List D} : bltD .list [.tup xs] = some (.tmp (.lst xs)) := rfl
theorem truQ_non : truD .non = some false := rfl
theorem truQ_int {i : Int} : truD (.int i) = some (i != 0) := rfl
theorem truQ_lst {xs : List D} : truD (.lst xs) = some (!xs.isEmpty) := rfl
theorem truQ_tup {xs : List D} : truD (.tup xs) = some (!xs.isEmpty) := rfl
theorem mutQ_append {xs : List D} {y : D} : mutD .append (.lst xs) [y] = if okLen xs.length then some (.non, .lst (xs ++ [y])) else none := Eq.trans rfl rfl
theorem mutQ_extend {xs ys : List D} : mutD .extend (.lst xs) [.lst ys] = if okLen (xs.length + ys.length) then some (.non, .lst (xs ++ ys)) else none := Eq.trans rfl rfl
theorem addQ_lst {xs ys : List D} : binD .Add (.lst xs) (.lst ys) = if okLen (xs.length + ys.length) then some (.tmp (.lst (xs ++ ys))) else none := Eq.trans rfl rfl
theorem addQ_tup {xs ys : List D} : binD .Add (.tup xs) (.tup ys) = if okLen (xs.length + ys.length) then some (.fz (.tup (xs ++ ys))) else none := Eq.trans rfl rfl
theorem castQ_0 : ((0 : Nat) : Int) = 0 := rfl
theorem castQ_1 : ((1 : Nat) : Int) = 1 := rfl
theorem revQ {xs : List D} : revD (.lst xs) = some (.tmp (.lst xs.reverse)) := rfl
theorem kindQ_append {xs : List D} : kindOk .append (.lst xs) = true := rfl
theorem kindQ_extend {xs : List D} : kindOk .extend (.lst xs) = true := rfl
theorem kindQ_pop {xs : List D} : kindOk .pop (.lst xs) = true := rfl
theorem kindQ_popAt {xs : List D} : kindOk .popAt (.lst xs) = true := rfl
theorem kindQ_index {xs : List D} : kindOk .index (.lst xs) = true := rfl
theorem imQ_append : isMut .append = true := rfl
theorem imQ_extend : isMut .extend = true := rfl
theorem imQ_pop : isMut .pop = true := rfl
theorem imQ_popAt : isMut .popAt = true := rfl
theorem imQ_index : isMut .index = false := rfl
theorem idxQ_lst {xs : List D} {j : Nat} (h : j < xs.length) : idxD (.lst xs) (.int (j : Int)) = some xs[j] := L2.atI_nat (List.getElem?_eq_getElem h)
theorem idxQ_tup {xs : List D} {j : Nat} (h : j < xs.length) : idxD (.tup xs) (.int (j : Int)) = some xs[j] := L2.atI_nat (List.getElem?_eq_getElem h)
theorem idxQ_lst0 {a0 : D} {r : List D} : idxD (.lst (a0 :: r)) (.int 0) = some a0 := L2.atI_nat (xs := a0 :: r) (j := 0) rfl
theorem idxQ_tup0 {a0 : D} {r : List D} : idxD (.tup (a0 :: r)) (.int 0) = some a0 := L2.atI_nat (xs := a0 :: r) (j := 0) rfl
theorem idxQ_lst1 {a0 a1 : D} {r : List D} : idxD (.lst (a0 :: a1 :: r)) (.int 1) = some a1 := L2.atI_nat (xs := a0 :: a1 :: r) (j := 1) rfl
theorem idxQ_tup1 {a0 a1 : D} {r : List D} : idxD (.tup (a0 :: a1 :: r)) (.int 1) = some a1 := L2.atI_nat (xs := a0 :: a1 :: r) (j := 1) rfl
theorem idxQ_lst2 {a0 a1 a2 : D} {r : List D} : idxD (.lst (a0 :: a1 :: a2 :: r)) (.int 2) = some a2 := L2.atI_nat (xs := a0 :: a1 :: a2 :: r) (j := 2) rfl
theorem idxQ_tup2 {a0 a1 a2 : D} {r : List D} : idxD (.tup (a0 :: a1 :: a2 :: r)) (.int 2) = some a2 := L2.atI_nat (xs := a0 :: a1 :: a2 :: r) (j := 2) rfl
theorem idxQ_lst3 {a0 a1 a2 a3 : D} {r : List D} : idxD (.lst (a0 :: a1 :: a2 :: a3 :: r)) (.int 3) = some a3 := L2.atI_nat (xs := a0 :: a1 :: a2 :: a3 :: r) (j := 3) rfl
theorem idxQ_tup3 {a0 a1 a2 a3 : D} {r : List D} : idxD (.tup (a0 :: a1 :: a2 :: a3 :: r)) (.int 3) = some a3 := L2.atI_nat (xs := a0 :: a1 :: a2 :: a3 :: r) (j := 3) rfl
theorem idxQ_lst4 {a0 a1 a2 a3 a4 : D} {r : List D} : idxD (.lst (a0 :: a1 :: a2 :: a3 :: a4 :: r)) (.int 4) = some a4 := L2.atI_nat (xs := a0 :: a1 :: a2 :: a3 :: a4 :: r) (j := 4) rfl
theorem idxQ_tup4 {a0 a1 a2 a3 a4 : D} {r : List D} : idxD (.tup (a0 :: a1 :: a2 :: a3 :: a4 :: r)) (.int 4) = some a4 := L2.atI_nat (xs := a0 :: a1 :: a2 :: a3 :: a4 :: r) (j := 4) rfl
/-- merged ways -/
theorem iteR {p : Prop} [Decidable p] {a b : RV} {ρ : Ev} : (if p then Res.ok a ρ else .ok b ρ) = .ok (if p then a else b) ρ := by split <;> rfl
theorem iteRb {p : Prop} [Decidable p] {a b : Bool} {ρ : Ev} : (if p then Res.ok a ρ else .ok b ρ) = .ok (if p then a else b) ρ := by split <;> rfl
theorem iteV {p : Prop} [Decidable p] {a b : D} : (if p then RV.fz a else .fz b) = .fz (if p then a else b) := by split <;> rfl
theorem iteB {p : Prop} [Decidable p] {a b : Bool} : (if p then D.bl a else .bl b) = .bl (if p then a else b) := by split <;> rfl
theorem iteT {p : Prop} [Decidable p] {b : Bool} : (if p then true else b) = (decide p || b) := by by_cases h : p <;> simp [h]
theorem iteF {p : Prop} [Decidable p] {b : Bool} : (if p then b else false) = (decide p && b) := by by_cases h : p <;> simp [h]
theorem iteI {p : Prop} [Decidable p] {a b : Int} : (if p then D.int a else .int b) = .int (if p then a else b) := by split <;> rfl
end Mp

set_option maxRecDepth 100000
set_option maxHeartbeats 4000000
namespace Mp
open PySem
section
variable {C : Cl} {rf : List Bool} {ρ : Ev}
/-- a list by comprehension, in the goal's own form -/
theorem compR {α : Type} {enc : α → D} {tg : Tg} {c elt : E} {j : Nat} {c0 : Option Cell} {ρ' : Ev} (o : α → Option D) (xs : List α) (hj : ρ[j]? = some c0) (he : ρ' = ρ.set j none) (h : ∀ x ∈ xs, ∃ c1, compStep C rf tg c elt (enc x) ρ' = .ok (o x) (ρ.set j c1)) (hl : (xs.filterMap o).length < 1000000) : compEnd [j] ρ (compLoop [j] (compStep C rf tg c elt) (xs.map enc) [] ρ') = .ok (.tmp (.lst (xs.filterMap o))) ρ := by
  subst he
  exact compQ o xs hj h hl
theorem compRm {α : Type} {enc : α → D} {tg : Tg} {c elt : E} {j : Nat} {c0 : Option Cell} {ρ' : Ev} (o : α → D) (xs : List α) (hj : ρ[j]? = some c0) (he : ρ' = ρ.set j none) (h : ∀ x ∈ xs, ∃ c1, compStep C rf tg c elt (enc x) ρ' = .ok (some (o x)) (ρ.set j c1)) (hl : xs.length < 1000000) : compEnd [j] ρ (compLoop [j] (compStep C rf tg c elt) (xs.map enc) [] ρ') = .ok (.tmp (.lst (xs.map o))) ρ := by
  subst he
  exact compQ_map o xs hj h hl
/-- any names of its own -/
theorem compG {α : Type} {enc : α → D} {tg : Tg} {c elt : E} {own : List Nat} {ρ' : Ev} (o : α → Option D) (xs : List α) (he : ρ' = wipeE ρ own) (hb : backE ρ ρ' own = ρ) (h : ∀ x ∈ xs, ∃ ρ1, compStep C rf tg c elt (enc x) ρ' = .ok (o x) ρ1 ∧ wipeE ρ1 own = ρ') (hl : (xs.filterMap o).length < 1000000) : compEnd own ρ (compLoop own (compStep C rf tg c elt) (xs.map enc) [] ρ') = .ok (.tmp (.lst (xs.filterMap o))) ρ := by
  have go : ∀ (ys : List α) (acc : List D), (∀ y ∈ ys, y ∈ xs) → compLoop own (compStep C rf tg c elt) (ys.map enc) acc ρ' = .ok (acc ++ ys.filterMap o) ρ' := by
    intro ys
    induction ys with
    | nil => intro acc _; simp [compLoop]
    | cons y ys ih =>
      intro acc hy
      obtain ⟨ρ1, h1, h2⟩ := h y (hy y (List.mem_cons_self ..))
      rw [List.map_cons, compLoop, h1, bindR, h2, ih _ fun z hz => hy z (List.mem_cons_of_mem _ hz), List.filterMap_cons]
      cases o y <;> simp
  rw [go xs [] fun y hy => hy, compEndQ, List.nil_append, if_pos (okLen_t hl), hb]
theorem compGm {α : Type} {enc : α → D} {tg : Tg} {c elt : E} {own : List Nat} {ρ' : Ev} (o : α → D) (xs : List α) (he : ρ' = wipeE ρ own) (hb : backE ρ ρ' own = ρ) (h : ∀ x ∈ xs, ∃ ρ1, compStep C rf tg c elt (enc x) ρ' = .ok (some (o x)) ρ1 ∧ wipeE ρ1 own = ρ') (hl : xs.length < 1000000) : compEnd own ρ (compLoop own (compStep C rf tg c elt) (xs.map enc) [] ρ') = .ok (.tmp (.lst (xs.map o))) ρ := by
  have := compG (fun x => some (o x)) xs he hb h (by simpa using hl)
  rwa [List.filterMap_eq_map'] at this
/-- a loop in the goal's own form: what stands behind it is asked of any end -/
theorem for_go {α τ β : Type} {step : D → Ev → Res Fl} {enc : α → D} (f : Res Fl → β) {K : Fl → Ev → Res Fl} {R : β} {ρ0 : Ev} (xs : List α) (inv : List α → τ → Ev) (t0 : τ) (h0 : ρ0 = inv [] t0) (hs : ∀ pre x post t, xs = pre ++ x :: post → ∃ t', step (enc x) (inv pre t) = .ok .next (inv (pre ++ [x]) t')) (hk : ∀ t', f (K .next (inv xs t')) = R) : f ((forLoop step (xs.map enc) ρ0).bind K) = R := by
  obtain ⟨t', h⟩ := for_pre xs inv t0 hs
  rw [h0, h, bindR]
  exact hk t'
end
section
variable {rf : List Bool} {ρ : Ev} {d : D} {i : Nat}
theorem freezeU_ow : freezeC rf i ρ (some (some (.ow d))) = if isRef rf i then none else some (d, ρ.set i (some (.fz d))) := by
  unfold freezeC
  rfl
theorem storeU_fz : store rf i (.fz d) ρ = if isRef rf i then none else some (ρ.set i (some (.fz d))) := rfl
theorem storeU_tmp : store rf i (.tmp d) ρ = if isRef rf i then none else some (ρ.set i (some (.ow d))) := rfl
theorem storeU_var {j : Nat} : store rf i (.var j) ρ = if isRef rf i then none else oSt i (freezeC rf j ρ ρ[j]?) := by
  by_cases h : isRef rf i = true
  · unfold store; simp [h]
  · rw [storeQ_var (by simpa using h)]; simp [h]
end
theorem succ_of {k n : Nat} (h : k + 1 ≤ n) : ∃ m, n = m + 1 ∧ k ≤ m := ⟨n - 1, by omega, by omega⟩
/-! values once more -/
theorem allQ {α : Type} (xs : List α) (p : α → Bool) : bltD .all [.lst (xs.map fun x => .bl (p x))] = some (.fz (.bl (xs.all p))) := by
  have : ∀ l : List α, allBl (l.map fun x => D.bl (p x)) = some (l.map p) := by
    intro l
    induction l with
    | nil => rfl
    | cons a l ih => simp [allBl, ih]
  show ((allBl (xs.map fun x => D.bl (p x))).map fun bs => RV.fz (.bl (bs.all id))) = _
  rw [this]
  simp [List.all_map]
theorem allInt_map (l : List Int) : allInt (l.map D.int) = some l := by
  induction l with
  | nil => rfl
  | cons a l ih => simp [allInt, ih]
theorem sumQ (l : List Int) : bltD .sum [.lst (l.map .int)] = some (.fz (.int l.sum)) := by
  show ((allInt (l.map D.int)).map fun ns => RV.fz (.int ns.sum)) = _
  rw [allInt_map]
  rfl
theorem idxQ_tm {α : Type} {l : List α} {f : α → D} {j : Nat} (h : j < l.length) : idxD (.tup (l.map f)) (.int (j : Int)) = some (f l[j]) := by
  rw [idxQ_tup (by simpa using h), List.getElem_map]
theorem idxQ_lm {α : Type} {l : List α} {f : α → D} {j : Nat} (h : j < l.length) : idxD (.lst (l.map f)) (.int (j : Int)) = some (f l[j]) := by
  rw [idxQ_lst (by simpa using h), List.getElem_map]
theorem repl1 (m : Nat) (d : D) : repL m [d] = List.replicate m d := by
  unfold repL
  induction m with
  | zero => rfl
  | succ m ih => rw [List.replicate_succ, List.flatten_cons, ih, List.replicate_succ]; rfl
theorem mulQ_t1 (m : Nat) (hm : m ≤ 1000) (d : D) : binD .Mult (.tup [d]) (.int (m : Int)) = some (.fz (.tup (List.replicate m d))) := by
  show (if (decide (([d] : List D).length ≤ 1000) && decide ((m : Int) ≤ 1000) && decide (0 ≤ (m : Int)) && !([d] : List D).isEmpty) = true then some (RV.fz (.tup (repL (m : Int).toNat [d]))) else none) = _
  rw [if_pos (by simp; omega), Int.toNat_natCast, repl1]
theorem fair_str (s : Str) : fair (.str s) = true := rfl
theorem cmpQ_str (a b : Str) : cmpD .Eq (.str a) (.str b) = some (decide (a = b)) := by
  show (if (fair (.str a) && fair (.str b)) = true then some (eqvD (.str a) (.str b)) else none) = _
  rw [if_pos (show (fair (.str a) && fair (.str b)) = true from rfl)]
  unfold eqvD
  simp only [toPy, PyData.eqv]
  by_cases h : a = b <;> simp [h]
theorem cmpQ_nestr (a b : Str) : cmpD .NotEq (.str a) (.str b) = some (!decide (a = b)) := by
  show (if (fair (.str a) && fair (.str b)) = true then some (!eqvD (.str a) (.str b)) else none) = _
  rw [if_pos (show (fair (.str a) && fair (.str b)) = true from rfl)]
  unfold eqvD
  simp only [toPy, PyData.eqv]
  by_cases h : a = b <;> simp [h]
theorem word_ne {a b : String} (h : a ≠ b) : decide (Str.ofString a = Str.ofString b) = false := by
  refine decide_eq_false fun e => h ?_
  have h1 := sg_of a
  have h2 := sg_of b
  rw [e, h2] at h1
  have : ∀ l m : List Char, l.map Char.toNat = m.map Char.toNat → l = m := by
    intro l
    induction l with
    | nil => intro m h; cases m with | nil => rfl | cons _ _ => cases h
    | cons c l ih =>
      intro m h
      cases m with
      | nil => cases h
      | cons d m =>
        simp only [List.map_cons, List.cons.injEq] at h
        have e : c = d := Char.ext (UInt32.toNat_inj.1 h.1)
        rw [e, ih m h.2]
  have e2 := this _ _ h1.symm
  exact String.ext_iff.2 e2
theorem zipQ_cons {x y : D} {r s : List D} : zipD (x :: r) (y :: s) = .tup [x, y] :: zipD r s := rfl
theorem zipQ_nil {s : List D} : zipD [] s = [] := rfl
theorem zipQ_nil' {r : List D} : zipD r [] = [] := by cases r <;> rfl
theorem enumQ_cons {i : Nat} {x : D} {r : List D} : enumD i (x :: r) = .tup [.int i, x] :: enumD (i + 1) r := rfl
theorem enumQ_nil {i : Nat} : enumD i [] = [] := rfl
theorem allQ_b {bs : List Bool} : bltD .all [.lst (bs.map .bl)] = some (.fz (.bl (bs.all id))) := by
  have : ∀ l : List Bool, allBl (l.map D.bl) = some l := by
    intro l
    induction l with
    | nil => rfl
    | cons a l ih => simp [allBl, ih]
  show ((allBl (bs.map D.bl)).map fun bs => RV.fz (.bl (bs.all id))) = _
  rw [this]
  rfl
theorem allQ3 {a b c : Bool} : bltD .all [.lst [.bl a, .bl b, .bl c]] = some (.fz (.bl (a && (b && c)))) := by
  rw [show ([.bl a, .bl b, .bl c] : List D) = [a, b, c].map .bl from rfl, allQ_b]
  simp
theorem sumQ3 {a b c : Int} : bltD .sum [.lst [.int a, .int b, .int c]] = some (.fz (.int (a + (b + c)))) := by
  rw [show ([.int a, .int b, .int c] : List D) = [a, b, c].map .int from rfl, sumQ]
  simp
/-! draws of every law -/
def drawG (s : Str) (a b m1 m2 q : Int) : Fn := ⟨"_law_draw", ["pot", s], [true, false], [], 3, (.cons (.ite (.cmp .Gt (.idx (.var 0) (.const (.int 0))) (.const (.int 0))) (.cons (.asg (.tup (.cons (.sub (.var 0) (.const (.int 0))) (.cons (.name 2) .nil))) (.blt .divmod (.cons (.idx (.var 0) (.const (.int 0))) (.cons (.var 1) .nil)))) (.cons (.ret (.var 2)) .nil)) .nil) (.cons (.asg (.sub (.var 0) (.const (.int 1))) (.bin .Mod (.blt .int (.cons (.bin .Add (.bin .Mult (.idx (.var 0) (.const (.int 1))) (.const (.int a))) (.const (.int b))) .nil)) (.const (.int m1)))) (.cons (.ret (.bin .Mod (.blt .int (.cons (.bin .FloorDiv (.bin .Mod (.blt .int (.cons (.bin .Mult (.idx (.var 0) (.const (.int 1))) (.idx (.var 0) (.const (.int 1)))) .nil)) (.const (.int m2))) (.const (.int q))) .nil)) (.var 1))) .nil)))⟩
abbrev potD (x y : Int) : D := .lst [.int x, .int y]
theorem c_drawG {P : Pg} {sd : Str} {a b m1 m2 q : Int} (hP : P.fn "_law_draw" = some (drawG sd a b m1 m2 q)) (ha : small64 a = true) (h1 : 0 < m1) (h1' : m1 < 2 ^ 60) (h2 : 0 < m2) (h3 : 0 < q) (h3' : q < 1073741824) (n : Nat) (x y s : Int) (h0 : 0 < s) (hs : s < 1073741824) : ∃ x' y' d, P.call (n + 1) "_law_draw" [potD x y, .int s] = .ok (.int d) false [potD x' y', .non] ∧ 0 ≤ d ∧ d < s := by
  by_cases hx : 0 < x
  · refine ⟨x / s, y, x % s, call_fz (fn := drawG sd a b m1 m2 q) (ρ' := [some (.ow (.lst [.int (x / s), .int y])), some (.fz (.int s)), some (.fz (.int (x % s)))]) hP rfl ?_ rfl, Int.emod_nonneg _ (by omega), Int.emod_lt_of_pos _ h0⟩
    have hm := blt_divmod (a := x) h0 hs
    simp [drawG, startE, ev_eqs, evT_eqs, evs_eqs, evI_eqs, tgA_eqs, tgAs_eqs, exs, ex, bindR, ofO_some, deref_fz, deref_tmp, deref_var, derefC_ow, derefC_fz, derefs_nil, derefs_cons, freeze_fz, freeze_tmp, freeze_var, freezeC_fz, freezeC_ow, freezes_nil, freezes_cons, isRef_nil, isRef_zero, isRef_succ, store_fz', store_tmp', store_var', bin_add, bin_sub, cmp_lt, cmp_gt, cmp_le, cmp_ge, cmp_eq, cmp_ne, cmp_eqb, tru_b, blt_max2, blt_min2, blt_abs, blt_int, List.getElem?_cons_zero, List.getElem?_cons_succ, List.set_cons_zero, List.set_cons_succ, Option.bind_some, Option.map_some, idx_0, idx_1, set_0, set_1, hm, hx]
  · have y1 := Int.emod_nonneg (y * a + b) (show m1 ≠ 0 by omega)
    have y2 := Int.emod_lt_of_pos (y * a + b) h1
    generalize hz : (y * a + b) % m1 = z at *
    refine ⟨x, z, z * z % m2 / q % s, call_fz (fn := drawG sd a b m1 m2 q) (ρ' := [some (.ow (.lst [.int x, .int z])), some (.fz (.int s)), none]) hP rfl ?_ rfl, Int.emod_nonneg _ (by omega), Int.emod_lt_of_pos _ h0⟩
    have t1 : binD .Mult (.int y) (.int a) = some (.fz (.int (y * a))) := bin_mul (by rw [Bool.or_eq_true]; right; exact ha)
    have t2 : binD .Mult (.int z) (.int z) = some (.fz (.int (z * z))) := bin_mul (by rw [Bool.or_eq_true]; left; unfold small64; simp; omega)
    have t3 : binD .Mod (.int (y * a + b)) (.int m1) = some (.fz (.int z)) := by rw [← hz]; exact bin_mod h1
    have t4 : binD .Mod (.int (z * z)) (.int m2) = some (.fz (.int (z * z % m2))) := bin_mod h2
    have t5 : binD .FloorDiv (.int (z * z % m2)) (.int q) = some (.fz (.int (z * z % m2 / q))) := bin_fdiv h3 h3'
    have t6 : binD .Mod (.int (z * z % m2 / q)) (.int s) = some (.fz (.int (z * z % m2 / q % s))) := bin_mod h0
    simp [drawG, startE, ev_eqs, evT_eqs, evs_eqs, evI_eqs, tgA_eqs, tgAs_eqs, exs, ex, bindR, ofO_some, deref_fz, deref_tmp, deref_var, derefC_ow, derefC_fz, derefs_nil, derefs_cons, freeze_fz, freeze_tmp, freeze_var, freezeC_fz, freezeC_ow, freezes_nil, freezes_cons, isRef_nil, isRef_zero, isRef_succ, store_fz', store_tmp', store_var', bin_add, bin_sub, cmp_lt, cmp_gt, cmp_le, cmp_ge, cmp_eq, cmp_ne, cmp_eqb, tru_b, blt_max2, blt_min2, blt_abs, blt_int, List.getElem?_cons_zero, List.getElem?_cons_succ, List.set_cons_zero, List.set_cons_succ, Option.bind_some, Option.map_some, idx_0, idx_1, set_0, set_1, t1, t2, t3, t4, t5, t6, hx]
end Mp

set_option maxRecDepth 100000
set_option maxHeartbeats 4000000
namespace Mp
open PySem
theorem QSa : type_of% (And.intro @evQ_const (And.intro @evQ_glob (And.intro @evQ_bin (And.intro @evQ_neg (And.intro @evQ_not (And.intro @evQ_and (And.intro @evQ_or (And.intro @evQ_cmp (And.intro @evQ_chain (And.intro @evQ_ite (And.intro @evQ_tup (And.intro @evQ_lst (And.intro @evQ_dct0 (And.intro @evQ_idx (And.intro @evQ_slc (And.intro @evQ_rev (And.intro @evQ_call (And.intro @evQ_callk (And.intro @evQ_blt (And.intro @evQ_isi (And.intro @evQ_lof (And.intro @evQ_mth (And.intro @evQ_comp (And.intro @evTQ_not (And.intro @evTQ_and (And.intro @evTQ_or (And.intro @evTQ_const (And.intro @evTQ_var (And.intro @evTQ_glob (And.intro @evTQ_bin (And.intro @evTQ_neg (And.intro @evTQ_cmp (And.intro @evTQ_chain (And.intro @evTQ_ite (And.intro @evTQ_tup (And.intro @evTQ_lst (And.intro @evTQ_dct (And.intro @evTQ_idx (And.intro @evTQ_slc (And.intro @evTQ_rev (And.intro @evTQ_call (And.intro @evTQ_callk (And.intro @evTQ_blt (And.intro @evTQ_isi (And.intro @evTQ_lof (And.intro @evTQ_mth (And.intro @evTQ_comp (And.intro @evsQ_nil (And.intro @evsQ_cons (And.intro @evIQ_val (And.intro @evIQ_range1 (And.intro @evIQ_range2 (And.intro @evIQ_range3 (And.intro @evIQ_enum (And.intro @evIQ_zip (And.intro @tgAQ_name (And.intro @tgAQ_sub (And.intro @tgAQ_tup (And.intro @tgAsQ_nil (@tgAsQ_cons)))))))))))))))))))))))))))))))))))))))))))))))))))))))))))) := And.intro @evQ_const (And.intro @evQ_glob (And.intro @evQ_bin (And.intro @evQ_neg (And.intro @evQ_not (And.intro @evQ_and (And.intro @evQ_or (And.intro @evQ_cmp (And.intro @evQ_chain (And.intro @evQ_ite (And.intro @evQ_tup (And.intro @evQ_lst (And.intro @evQ_dct0 (And.intro @evQ_idx (And.intro @evQ_slc (And.intro @evQ_rev (And.intro @evQ_call (And.intro @evQ_callk (And.intro @evQ_blt (And.intro @evQ_isi (And.intro @evQ_lof (And.intro @evQ_mth (And.intro @evQ_comp (And.intro @evTQ_not (And.intro @evTQ_and (And.intro @evTQ_or (And.intro @evTQ_const (And.intro @evTQ_var (And.intro @evTQ_glob (And.intro @evTQ_bin (And.intro @evTQ_neg (And.intro @evTQ_cmp (And.intro @evTQ_chain (And.intro @evTQ_ite (And.intro @evTQ_tup (And.intro @evTQ_lst (And.intro @evTQ_dct (And.intro @evTQ_idx (And.intro @evTQ_slc (And.intro @evTQ_rev (And.intro @evTQ_call (And.intro @evTQ_callk (And.intro @evTQ_blt (And.intro @evTQ_isi (And.intro @evTQ_lof (And.intro @evTQ_mth (And.intro @evTQ_comp (And.intro @evsQ_nil (And.intro @evsQ_cons (And.intro @evIQ_val (And.intro @evIQ_range1 (And.intro @evIQ_range2 (And.intro @evIQ_range3 (And.intro @evIQ_enum (And.intro @evIQ_zip (And.intro @tgAQ_name (And.intro @tgAQ_sub (And.intro @tgAQ_tup (And.intro @tgAsQ_nil (@tgAsQ_cons)))))))))))))))))))))))))))))))))))))))))))))))))))))))))))
theorem QSb : type_of% (And.intro @exsQ_nil (And.intro @exsQ_cons (And.intro @exQ_asg (And.intro @exQ_par (And.intro @exQ_expr (And.intro @exQ_ret (And.intro @exQ_ite (And.intro @exQ_for (And.intro @exQ_while (And.intro @exQ_raise (And.intro @exQ_cont (And.intro @exQ_brk (And.intro @exQ_pass (And.intro @kNegQ0 (And.intro @ofRQ0 (And.intro @ofBQ0 (And.intro @ofFQ0 (And.intro @binOQ0 (And.intro @cmpOQ0 (And.intro @idxOQ0 (And.intro @truOQ0 (And.intro @oNotQ0 (And.intro @oTbQ0 (And.intro @slcOQ0 (And.intro @revOQ0 (And.intro @bltOQ0 (And.intro @isiOQ0 (And.intro @mthOQ0 (And.intro @oTupQ0 (And.intro @oLstQ0 (And.intro @kNotQ (And.intro @kTQ (And.intro @kTnotQ (And.intro @kTupQ (And.intro @kLstQ (And.intro @kRevQ (And.intro @kBltQ (And.intro @kIsiQ (And.intro @kLofQ (And.intro @kEs2Q (And.intro @oIv2Q0 (And.intro @oIv1Q0 (And.intro @kIvQ (And.intro @kR1Q0 (And.intro @kR2bQ0 (And.intro @oEn2Q0 (And.intro @oEn2Q1 (And.intro @oEn1Q0 (And.intro @kEnQ (And.intro @oZ3Q0 (And.intro @oZ3Q1 (And.intro @oZ2Q0 (And.intro @oZ1Q0 (And.intro @kZ2Q (And.intro @kBin2Q (And.intro @kCmp2Q (And.intro @kIdx2Q (And.intro @kS3Q (And.intro @oMfQ0 (@oMdQ0)))))))))))))))))))))))))))))))))))))))))))))))))))))))))))) := And.intro @exsQ_nil (And.intro @exsQ_cons (And.intro @exQ_asg (And.intro @exQ_par (And.intro @exQ_expr (And.intro @exQ_ret (And.intro @exQ_ite (And.intro @exQ_for (And.intro @exQ_while (And.intro @exQ_raise (And.intro @exQ_cont (And.intro @exQ_brk (And.intro @exQ_pass (And.intro @kNegQ0 (And.intro @ofRQ0 (And.intro @ofBQ0 (And.intro @ofFQ0 (And.intro @binOQ0 (And.intro @cmpOQ0 (And.intro @idxOQ0 (And.intro @truOQ0 (And.intro @oNotQ0 (And.intro @oTbQ0 (And.intro @slcOQ0 (And.intro @revOQ0 (And.intro @bltOQ0 (And.intro @isiOQ0 (And.intro @mthOQ0 (And.intro @oTupQ0 (And.intro @oLstQ0 (And.intro @kNotQ (And.intro @kTQ (And.intro @kTnotQ (And.intro @kTupQ (And.intro @kLstQ (And.intro @kRevQ (And.intro @kBltQ (And.intro @kIsiQ (And.intro @kLofQ (And.intro @kEs2Q (And.intro @oIv2Q0 (And.intro @oIv1Q0 (And.intro @kIvQ (And.intro @kR1Q0 (And.intro @kR2bQ0 (And.intro @oEn2Q0 (And.intro @oEn2Q1 (And.intro @oEn1Q0 (And.intro @kEnQ (And.intro @oZ3Q0 (And.intro @oZ3Q1 (And.intro @oZ2Q0 (And.intro @oZ1Q0 (And.intro @kZ2Q (And.intro @kBin2Q (And.intro @kCmp2Q (And.intro @kIdx2Q (And.intro @kS3Q (And.intro @oMfQ0 (@oMdQ0)))))))))))))))))))))))))))))))))))))))))))))))))))))))))))
theorem QSc : type_of% (And.intro @oMmQ0 (And.intro @kMmQ0 (And.intro @kMgQ (And.intro @oStoreQ0 (And.intro @oSub6Q0 (And.intro @oSub5Q0 (And.intro @oSub4Q0 (And.intro @kSub3Q (And.intro @oPar2Q0 (And.intro @oPar1Q0 (And.intro @kParQ (And.intro @kNextQ (And.intro @kRetQ (And.intro @oRaiseQ0 (And.intro @kRaiseQ (And.intro @oC3Q0 (And.intro @kC3Q (And.intro @kBin1Q (And.intro @kCmp1Q (And.intro @kIdx1Q (And.intro @kAndQ0 (And.intro @kOrQ0 (And.intro @kCh3Q (And.intro @oChQ0 (And.intro @kCh2Q (And.intro @kCh1Q (And.intro @kIteQ (And.intro @kS2Q (And.intro @kS1Q (And.intro @oK3Q0 (And.intro @oK2Q0 (And.intro @oK1Q0 (And.intro @kK2Q (And.intro @kK1Q (And.intro @oM1Q0 (And.intro @kM1Q (And.intro @kTandQ (And.intro @kTorQ (And.intro @kEs1Q (And.intro @kR2aQ (And.intro @kR3cQ0 (And.intro @kR3bQ (And.intro @kR3aQ (And.intro @kZ1Q (And.intro @kSub2Q (And.intro @oSub1Q0 (And.intro @oTt2Q0 (And.intro @oTt1Q0 (And.intro @kTgsQ (And.intro @seqKQ0 (And.intro @seqKQ1 (And.intro @seqKQ2 (And.intro @seqKQ3 (And.intro @kAsgQ (And.intro @kSiteQ (And.intro @kForBQ (And.intro @forStepQ (And.intro @kC2Q (And.intro @kC1Q (@compStepQ)))))))))))))))))))))))))))))))))))))))))))))))))))))))))))) := And.intro @oMmQ0 (And.intro @kMmQ0 (And.intro @kMgQ (And.intro @oStoreQ0 (And.intro @oSub6Q0 (And.intro @oSub5Q0 (And.intro @oSub4Q0 (And.intro @kSub3Q (And.intro @oPar2Q0 (And.intro @oPar1Q0 (And.intro @kParQ (And.intro @kNextQ (And.intro @kRetQ (And.intro @oRaiseQ0 (And.intro @kRaiseQ (And.intro @oC3Q0 (And.intro @kC3Q (And.intro @kBin1Q (And.intro @kCmp1Q (And.intro @kIdx1Q (And.intro @kAndQ0 (And.intro @kOrQ0 (And.intro @kCh3Q (And.intro @oChQ0 (And.intro @kCh2Q (And.intro @kCh1Q (And.intro @kIteQ (And.intro @kS2Q (And.intro @kS1Q (And.intro @oK3Q0 (And.intro @oK2Q0 (And.intro @oK1Q0 (And.intro @kK2Q (And.intro @kK1Q (And.intro @oM1Q0 (And.intro @kM1Q (And.intro @kTandQ (And.intro @kTorQ (And.intro @kEs1Q (And.intro @kR2aQ (And.intro @kR3cQ0 (And.intro @kR3bQ (And.intro @kR3aQ (And.intro @kZ1Q (And.intro @kSub2Q (And.intro @oSub1Q0 (And.intro @oTt2Q0 (And.intro @oTt1Q0 (And.intro @kTgsQ (And.intro @seqKQ0 (And.intro @seqKQ1 (And.intro @seqKQ2 (And.intro @seqKQ3 (And.intro @kAsgQ (And.intro @kSiteQ (And.intro @kForBQ (And.intro @forStepQ (And.intro @kC2Q (And.intro @kC1Q (@compStepQ)))))))))))))))))))))))))))))))))))))))))))))))))))))))))))
theorem QSd : type_of% (And.intro @kCompQ (And.intro @oP2Q0 (And.intro @oP1Q0 (And.intro @oP3Q0 (And.intro @oCallQ0 (And.intro @padDQ (And.intro @oFnQ0 (And.intro @oDQ0 (And.intro @oF2Q0 (And.intro @oF1Q0 (And.intro @oStQ0 (And.intro @oSe2Q0 (And.intro @oSe1Q0 (And.intro @oSsQ0 (And.intro @oA1Q0 (And.intro @oA2Q0 (And.intro @evQ_var (And.intro @doCallQ (And.intro @passQ_nil (And.intro @passQ_val (And.intro @passQ_ref (And.intro @passQ_tmp (And.intro @ownC_ow (And.intro @distQ_nil (And.intro @distQ_none (And.intro @distQ_some (And.intro @stillQ_nil (And.intro @stillQ_none (And.intro @stillQ_some (And.intro @wbQ_nil (And.intro @wbQ_none (And.intro @wbQ_some (And.intro @callEndQ (And.intro @outEndQ (And.intro @settleQ_nil (And.intro @settleQ_fz (And.intro @settleQ_tmp (And.intro @settleQ_var (And.intro @storesQ_nil (And.intro @storesQ_cons (And.intro @inR_t (And.intro @okLen_t (And.intro @appQ (And.intro @extQ (And.intro @popAtQ (And.intro @popQ (And.intro @clQ_fn (And.intro @clQ_run (And.intro @clQ_turns (And.intro @compLoopQ_nil (And.intro @compLoopQ_cons (And.intro @compK_some (And.intro @compK_none (And.intro @wipeQ_nil (And.intro @wipeQ_cons (And.intro @compEndQ (And.intro @backQ_nil (And.intro @backQ_cons (And.intro @backC_some (@forLoopQ_nil)))))))))))))))))))))))))))))))))))))))))))))))))))))))))))) := And.intro @kCompQ (And.intro @oP2Q0 (And.intro @oP1Q0 (And.intro @oP3Q0 (And.intro @oCallQ0 (And.intro @padDQ (And.intro @oFnQ0 (And.intro @oDQ0 (And.intro @oF2Q0 (And.intro @oF1Q0 (And.intro @oStQ0 (And.intro @oSe2Q0 (And.intro @oSe1Q0 (And.intro @oSsQ0 (And.intro @oA1Q0 (And.intro @oA2Q0 (And.intro @evQ_var (And.intro @doCallQ (And.intro @passQ_nil (And.intro @passQ_val (And.intro @passQ_ref (And.intro @passQ_tmp (And.intro @ownC_ow (And.intro @distQ_nil (And.intro @distQ_none (And.intro @distQ_some (And.intro @stillQ_nil (And.intro @stillQ_none (And.intro @stillQ_some (And.intro @wbQ_nil (And.intro @wbQ_none (And.intro @wbQ_some (And.intro @callEndQ (And.intro @outEndQ (And.intro @settleQ_nil (And.intro @settleQ_fz (And.intro @settleQ_tmp (And.intro @settleQ_var (And.intro @storesQ_nil (And.intro @storesQ_cons (And.intro @inR_t (And.intro @okLen_t (And.intro @appQ (And.intro @extQ (And.intro @popAtQ (And.intro @popQ (And.intro @clQ_fn (And.intro @clQ_run (And.intro @clQ_turns (And.intro @compLoopQ_nil (And.intro @compLoopQ_cons (And.intro @compK_some (And.intro @compK_none (And.intro @wipeQ_nil (And.intro @wipeQ_cons (And.intro @compEndQ (And.intro @backQ_nil (And.intro @backQ_cons (And.intro @backC_some (@forLoopQ_nil)))))))))))))))))))))))))))))))))))))))))))))))))))))))))))
theorem QSe : type_of% (And.intro @forLoopQ_cons (And.intro @forKQ_next (And.intro @forKQ_cont (And.intro @forKQ_brk (And.intro @forKQ_ret (And.intro @whKQ_next (And.intro @whKQ_cont (And.intro @whKQ_brk (And.intro @whKQ_ret (And.intro @outsQ_nil (And.intro @outsQ_true (And.intro @outsQ_false (And.intro @iteR (And.intro @iteRb (And.intro @iteV (And.intro @iteB (And.intro @iteT (And.intro @iteF (And.intro @iteI (And.intro @bindR (And.intro @deref_fz (And.intro @deref_tmp (And.intro @deref_var (And.intro @derefC_ow (And.intro @derefC_fz (And.intro @derefs_nil (And.intro @varC_fz (And.intro @varC_ow (And.intro @freeze_fz (And.intro @freeze_tmp (And.intro @freeze_var (And.intro @freezeC_fz (And.intro @freezeU_ow (And.intro @freezes_nil (And.intro @isRef_nil (And.intro @isRef_zero (And.intro @isRef_succ (And.intro @storeU_fz (And.intro @storeU_tmp (And.intro @bin_add (And.intro @bin_sub (And.intro @cmp_lt (And.intro @cmp_gt (And.intro @cmp_le (And.intro @cmp_ge (And.intro @cmp_eq (And.intro @cmp_ne (And.intro @cmp_eqb (And.intro @tru_b (And.intro @blt_max2 (And.intro @blt_min2 (And.intro @blt_abs (And.intro @blt_int (And.intro @isiQ_non (And.intro @tyQ_int_non (And.intro @tyQ_bool_non (And.intro @tyQ_str_non (And.intro @tyQ_list_non (And.intro @tyQ_tuple_non (@tyQ_dict_non)))))))))))))))))))))))))))))))))))))))))))))))))))))))))))) := And.intro @forLoopQ_cons (And.intro @forKQ_next (And.intro @forKQ_cont (And.intro @forKQ_brk (And.intro @forKQ_ret (And.intro @whKQ_next (And.intro @whKQ_cont (And.intro @whKQ_brk (And.intro @whKQ_ret (And.intro @outsQ_nil (And.intro @outsQ_true (And.intro @outsQ_false (And.intro @iteR (And.intro @iteRb (And.intro @iteV (And.intro @iteB (And.intro @iteT (And.intro @iteF (And.intro @iteI (And.intro @bindR (And.intro @deref_fz (And.intro @deref_tmp (And.intro @deref_var (And.intro @derefC_ow (And.intro @derefC_fz (And.intro @derefs_nil (And.intro @varC_fz (And.intro @varC_ow (And.intro @freeze_fz (And.intro @freeze_tmp (And.intro @freeze_var (And.intro @freezeC_fz (And.intro @freezeU_ow (And.intro @freezes_nil (And.intro @isRef_nil (And.intro @isRef_zero (And.intro @isRef_succ (And.intro @storeU_fz (And.intro @storeU_tmp (And.intro @bin_add (And.intro @bin_sub (And.intro @cmp_lt (And.intro @cmp_gt (And.intro @cmp_le (And.intro @cmp_ge (And.intro @cmp_eq (And.intro @cmp_ne (And.intro @cmp_eqb (And.intro @tru_b (And.intro @blt_max2 (And.intro @blt_min2 (And.intro @blt_abs (And.intro @blt_int (And.intro @isiQ_non (And.intro @tyQ_int_non (And.intro @tyQ_bool_non (And.intro @tyQ_str_non (And.intro @tyQ_list_non (And.intro @tyQ_tuple_non (@tyQ_dict_non)))))))))))))))))))))))))))))))))))))))))))))))))))))))))))
theorem QSf : type_of% (And.intro @isiQ_bl (And.intro @tyQ_int_bl (And.intro @tyQ_bool_bl (And.intro @tyQ_str_bl (And.intro @tyQ_list_bl (And.intro @tyQ_tuple_bl (And.intro @tyQ_dict_bl (And.intro @isNQ_bl (And.intro @isnNQ_bl (And.intro @isiQ_int (And.intro @tyQ_int_int (And.intro @tyQ_bool_int (And.intro @tyQ_str_int (And.intro @tyQ_list_int (And.intro @tyQ_tuple_int (And.intro @tyQ_dict_int (And.intro @isNQ_int (And.intro @isnNQ_int (And.intro @isiQ_str (And.intro @tyQ_int_str (And.intro @tyQ_bool_str (And.intro @tyQ_str_str (And.intro @tyQ_list_str (And.intro @tyQ_tuple_str (And.intro @tyQ_dict_str (And.intro @isNQ_str (And.intro @isnNQ_str (And.intro @isiQ_lst (And.intro @tyQ_int_lst (And.intro @tyQ_bool_lst (And.intro @tyQ_str_lst (And.intro @tyQ_list_lst (And.intro @tyQ_tuple_lst (And.intro @tyQ_dict_lst (And.intro @isNQ_lst (And.intro @isnNQ_lst (And.intro @isiQ_tup (And.intro @tyQ_int_tup (And.intro @tyQ_bool_tup (And.intro @tyQ_str_tup (And.intro @tyQ_list_tup (And.intro @tyQ_tuple_tup (And.intro @tyQ_dict_tup (And.intro @isNQ_tup (And.intro @isnNQ_tup (And.intro @isiQ_dct (And.intro @tyQ_int_dct (And.intro @tyQ_bool_dct (And.intro @tyQ_str_dct (And.intro @tyQ_list_dct (And.intro @tyQ_tuple_dct (And.intro @tyQ_dict_dct (And.intro @isNQ_dct (And.intro @isnNQ_dct (And.intro @isNQ_non (And.intro @isnNQ_non (And.intro @isBQ (And.intro @isnBQ (And.intro @itemsQ_lst (@itemsQ_tup)))))))))))))))))))))))))))))))))))))))))))))))))))))))))))) := And.intro @isiQ_bl (And.intro @tyQ_int_bl (And.intro @tyQ_bool_bl (And.intro @tyQ_str_bl (And.intro @tyQ_list_bl (And.intro @tyQ_tuple_bl (And.intro @tyQ_dict_bl (And.intro @isNQ_bl (And.intro @isnNQ_bl (And.intro @isiQ_int (And.intro @tyQ_int_int (And.intro @tyQ_bool_int (And.intro @tyQ_str_int (And.intro @tyQ_list_int (And.intro @tyQ_tuple_int (And.intro @tyQ_dict_int (And.intro @isNQ_int (And.intro @isnNQ_int (And.intro @isiQ_str (And.intro @tyQ_int_str (And.intro @tyQ_bool_str (And.intro @tyQ_str_str (And.intro @tyQ_list_str (And.intro @tyQ_tuple_str (And.intro @tyQ_dict_str (And.intro @isNQ_str (And.intro @isnNQ_str (And.intro @isiQ_lst (And.intro @tyQ_int_lst (And.intro @tyQ_bool_lst (And.intro @tyQ_str_lst (And.intro @tyQ_list_lst (And.intro @tyQ_tuple_lst (And.intro @tyQ_dict_lst (And.intro @isNQ_lst (And.intro @isnNQ_lst (And.intro @isiQ_tup (And.intro @tyQ_int_tup (And.intro @tyQ_bool_tup (And.intro @tyQ_str_tup (And.intro @tyQ_list_tup (And.intro @tyQ_tuple_tup (And.intro @tyQ_dict_tup (And.intro @isNQ_tup (And.intro @isnNQ_tup (And.intro @isiQ_dct (And.intro @tyQ_int_dct (And.intro @tyQ_bool_dct (And.intro @tyQ_str_dct (And.intro @tyQ_list_dct (And.intro @tyQ_tuple_dct (And.intro @tyQ_dict_dct (And.intro @isNQ_dct (And.intro @isnNQ_dct (And.intro @isNQ_non (And.intro @isnNQ_non (And.intro @isBQ (And.intro @isnBQ (And.intro @itemsQ_lst (@itemsQ_tup)))))))))))))))))))))))))))))))))))))))))))))))))))))))))))
theorem QSg : type_of% (And.intro @lenQ_lst (And.intro @lenQ_tup (And.intro @lenQ_scr (And.intro @lenQ_dct (And.intro @tupleQ_lst (And.intro @tupleQ_tup (And.intro @listQ_lst (And.intro @listQ_tup (And.intro @truQ_non (And.intro @truQ_int (And.intro @truQ_lst (And.intro @truQ_tup (And.intro @mutQ_append (And.intro @mutQ_extend (And.intro @addQ_lst (And.intro @addQ_tup (And.intro @castQ_0 (And.intro @castQ_1 (And.intro @revQ (And.intro @kindQ_append (And.intro @kindQ_extend (And.intro @kindQ_pop (And.intro @kindQ_popAt (And.intro @kindQ_index (And.intro @imQ_append (And.intro @imQ_extend (And.intro @imQ_pop (And.intro @imQ_popAt (And.intro @imQ_index (And.intro @idxQ_lst0 (And.intro @idxQ_tup0 (And.intro @idxQ_lst1 (And.intro @idxQ_tup1 (And.intro @idxQ_lst2 (And.intro @idxQ_tup2 (And.intro @idxQ_lst3 (And.intro @idxQ_tup3 (And.intro @idxQ_lst4 (And.intro @idxQ_tup4 (And.intro @padQ (And.intro @derefsQ_cons (And.intro @freezesQ_cons (And.intro @storeU_var (And.intro @kWhQ (And.intro @rangeD_nat (And.intro @zipQ_cons (And.intro @zipQ_nil (And.intro @zipQ_nil' (And.intro @enumQ_cons (And.intro @enumQ_nil (And.intro @allQ3 (@sumQ3)))))))))))))))))))))))))))))))))))))))))))))))))))) := And.intro @lenQ_lst (And.intro @lenQ_tup (And.intro @lenQ_scr (And.intro @lenQ_dct (And.intro @tupleQ_lst (And.intro @tupleQ_tup (And.intro @listQ_lst (And.intro @listQ_tup (And.intro @truQ_non (And.intro @truQ_int (And.intro @truQ_lst (And.intro @truQ_tup (And.intro @mutQ_append (And.intro @mutQ_extend (And.intro @addQ_lst (And.intro @addQ_tup (And.intro @castQ_0 (And.intro @castQ_1 (And.intro @revQ (And.intro @kindQ_append (And.intro @kindQ_extend (And.intro @kindQ_pop (And.intro @kindQ_popAt (And.intro @kindQ_index (And.intro @imQ_append (And.intro @imQ_extend (And.intro @imQ_pop (And.intro @imQ_popAt (And.intro @imQ_index (And.intro @idxQ_lst0 (And.intro @idxQ_tup0 (And.intro @idxQ_lst1 (And.intro @idxQ_tup1 (And.intro @idxQ_lst2 (And.intro @idxQ_tup2 (And.intro @idxQ_lst3 (And.intro @idxQ_tup3 (And.intro @idxQ_lst4 (And.intro @idxQ_tup4 (And.intro @padQ (And.intro @derefsQ_cons (And.intro @freezesQ_cons (And.intro @storeU_var (And.intro @kWhQ (And.intro @rangeD_nat (And.intro @zipQ_cons (And.intro @zipQ_nil (And.intro @zipQ_nil' (And.intro @enumQ_cons (And.intro @enumQ_nil (And.intro @allQ3 (@sumQ3)))))))))))))))))))))))))))))))))))))))))))))))))))
end Mp

set_option maxRecDepth 100000
set_option maxHeartbeats 4000000
/-! Webs and formulas. -/
namespace Mp
open PySem
structure Web where
  cols : List Nat
  arcs : List (Nat × Nat)
def webD (W : Web) : D := .tup [.str "web", .tup (W.cols.map dI), .tup (W.arcs.map pairI)]
inductive Fo where
  | is (i c : Nat) | arc (i j : Nat) | same (i j : Nat)
  | not (f : Fo) | and (fs : List Fo) | or (fs : List Fo) | some (f : Fo) | all (f : Fo)
mutual
def foD : Fo → D
  | .is i c => .tup [.str "is", dI i, dI c]
  | .arc i j => .tup [.str "arc", dI i, dI j]
  | .same i j => .tup [.str "same", dI i, dI j]
  | .not f => .tup [.str "not", foD f]
  | .and fs => .tup [.str "and", .tup (foDs fs)]
  | .or fs => .tup [.str "or", .tup (foDs fs)]
  | .some f => .tup [.str "some", foD f]
  | .all f => .tup [.str "all", foD f]
def foDs : List Fo → List D
  | [] => []
  | f :: r => foD f :: foDs r
end
theorem foDs_map : ∀ fs, foDs fs = fs.map foD
  | [] => rfl
  | f :: r => by rw [foDs, foDs_map r]; rfl
mutual
/-- how high it stands -/
def hgt : Fo → Nat
  | .is _ _ => 0
  | .arc _ _ => 0
  | .same _ _ => 0
  | .not f => hgt f + 1
  | .and fs => hgts fs + 1
  | .or fs => hgts fs + 1
  | .some f => hgt f + 1
  | .all f => hgt f + 1
def hgts : List Fo → Nat
  | [] => 0
  | f :: r => max (hgt f) (hgts r)
end
theorem hgts_mem {fs : List Fo} {f : Fo} (h : f ∈ fs) : hgt f ≤ hgts fs := by
  induction fs with
  | nil => cases h
  | cons g r ih =>
    rw [hgts]
    rcases List.mem_cons.1 h with rfl | h
    · omega
    · have := ih h; omega
mutual
/-- over so many names; lists of at most 100 -/
def wfF : Nat → Fo → Bool
  | k, .is i _ => decide (i < k)
  | k, .arc i j => decide (i < k) && decide (j < k)
  | k, .same i j => decide (i < k) && decide (j < k)
  | k, .not f => wfF k f
  | k, .and fs => decide (fs.length ≤ 100) && wfFs k fs
  | k, .or fs => decide (fs.length ≤ 100) && wfFs k fs
  | k, .some f => wfF (k + 1) f
  | k, .all f => wfF (k + 1) f
def wfFs : Nat → List Fo → Bool
  | _, [] => true
  | k, f :: r => wfF k f && wfFs k r
end
theorem wfFs_mem {k : Nat} {fs : List Fo} {f : Fo} (h : wfFs k fs = true) (hf : f ∈ fs) : wfF k f = true := by
  induction fs with
  | nil => cases hf
  | cons g r ih =>
    rw [wfFs, Bool.and_eq_true] at h
    rcases List.mem_cons.1 hf with rfl | hf
    · exact h.1
    · exact ih h.2 hf
mutual
def holdsF (W : Web) : List Nat → Fo → Bool
  | s, .is i c => decide (W.cols.getD (s.getD i 0) 0 = c)
  | s, .arc i j => decide ((s.getD i 0, s.getD j 0) ∈ W.arcs)
  | s, .same i j => decide (s.getD i 0 = s.getD j 0)
  | s, .not f => !holdsF W s f
  | s, .and fs => holdsAll W s fs
  | s, .or fs => holdsAny W s fs
  | s, .some f => (List.range W.cols.length).any fun p => holdsF W (s ++ [p]) f
  | s, .all f => (List.range W.cols.length).all fun p => holdsF W (s ++ [p]) f
def holdsAll (W : Web) : List Nat → List Fo → Bool
  | _, [] => true
  | s, f :: r => holdsF W s f && holdsAll W s r
def holdsAny (W : Web) : List Nat → List Fo → Bool
  | _, [] => false
  | s, f :: r => holdsF W s f || holdsAny W s r
end
theorem holdsAll_all (W : Web) (s : List Nat) : ∀ fs, holdsAll W s fs = fs.all (holdsF W s)
  | [] => rfl
  | f :: r => by rw [holdsAll, holdsAll_all W s r]; rfl
theorem holdsAny_any (W : Web) (s : List Nat) : ∀ fs, holdsAny W s fs = fs.any (holdsF W s)
  | [] => rfl
  | f :: r => by rw [holdsAny, holdsAny_any W s r]; rfl
mutual
def depthF : Fo → Nat
  | .is _ _ => 0
  | .arc _ _ => 0
  | .same _ _ => 0
  | .not f => depthF f
  | .and fs => depthFs fs
  | .or fs => depthFs fs
  | .some f => 1 + depthF f
  | .all f => 1 + depthF f
def depthFs : List Fo → Nat
  | [] => 0
  | f :: r => max (depthF f) (depthFs r)
end
mutual
def nodesF : Fo → Nat
  | .is _ _ => 1
  | .arc _ _ => 1
  | .same _ _ => 1
  | .not f => 1 + nodesF f
  | .and fs => 1 + nodesFs fs
  | .or fs => 1 + nodesFs fs
  | .some f => 1 + nodesF f
  | .all f => 1 + nodesF f
def nodesFs : List Fo → Nat
  | [] => 0
  | f :: r => nodesF f + nodesFs r
end
/-! the words -/
def wordL : List Str := ["is", "arc", "same", "not", "and", "or", "some", "all"]
theorem wd_is_is : cmpD .Eq (.str "is") (.str "is") = some true := rfl
theorem wd_is_arc : cmpD .Eq (.str "is") (.str "arc") = some false := rfl
theorem wd_is_same : cmpD .Eq (.str "is") (.str "same") = some false := rfl
theorem wd_is_not : cmpD .Eq (.str "is") (.str "not") = some false := rfl
theorem wd_is_and : cmpD .Eq (.str "is") (.str "and") = some false := rfl
theorem wd_is_or : cmpD .Eq (.str "is") (.str "or") = some false := rfl
theorem wd_is_some : cmpD .Eq (.str "is") (.str "some") = some false := rfl
theorem wd_is_all : cmpD .Eq (.str "is") (.str "all") = some false := rfl
theorem wd_arc_is : cmpD .Eq (.str "arc") (.str "is") = some false := rfl
theorem wd_arc_arc : cmpD .Eq (.str "arc") (.str "arc") = some true := rfl
theorem wd_arc_same : cmpD .Eq (.str "arc") (.str "same") = some false := rfl
theorem wd_arc_not : cmpD .Eq (.str "arc") (.str "not") = some false := rfl
theorem wd_arc_and : cmpD .Eq (.str "arc") (.str "and") = some false := rfl
theorem wd_arc_or : cmpD .Eq (.str "arc") (.str "or") = some false := rfl
theorem wd_arc_some : cmpD .Eq (.str "arc") (.str "some") = some false := rfl
theorem wd_arc_all : cmpD .Eq (.str "arc") (.str "all") = some false := rfl
theorem wd_same_is : cmpD .Eq (.str "same") (.str "is") = some false := rfl
theorem wd_same_arc : cmpD .Eq (.str "same") (.str "arc") = some false := rfl
theorem wd_same_same : cmpD .Eq (.str "same") (.str "same") = some true := rfl
theorem wd_same_not : cmpD .Eq (.str "same") (.str "not") = some false := rfl
theorem wd_same_and : cmpD .Eq (.str "same") (.str "and") = some false := rfl
theorem wd_same_or : cmpD .Eq (.str "same") (.str "or") = some false := rfl
theorem wd_same_some : cmpD .Eq (.str "same") (.str "some") = some false := rfl
theorem wd_same_all : cmpD .Eq (.str "same") (.str "all") = some false := rfl
theorem wd_not_is : cmpD .Eq (.str "not") (.str "is") = some false := rfl
theorem wd_not_arc : cmpD .Eq (.str "not") (.str "arc") = some false := rfl
theorem wd_not_same : cmpD .Eq (.str "not") (.str "same") = some false := rfl
theorem wd_not_not : cmpD .Eq (.str "not") (.str "not") = some true := rfl
theorem wd_not_and : cmpD .Eq (.str "not") (.str "and") = some false := rfl
theorem wd_not_or : cmpD .Eq (.str "not") (.str "or") = some false := rfl
theorem wd_not_some : cmpD .Eq (.str "not") (.str "some") = some false := rfl
theorem wd_not_all : cmpD .Eq (.str "not") (.str "all") = some false := rfl
theorem wd_and_is : cmpD .Eq (.str "and") (.str "is") = some false := rfl
theorem wd_and_arc : cmpD .Eq (.str "and") (.str "arc") = some false := rfl
theorem wd_and_same : cmpD .Eq (.str "and") (.str "same") = some false := rfl
theorem wd_and_not : cmpD .Eq (.str "and") (.str "not") = some false := rfl
theorem wd_and_and : cmpD .Eq (.str "and") (.str "and") = some true := rfl
theorem wd_and_or : cmpD .Eq (.str "and") (.str "or") = some false := rfl
theorem wd_and_some : cmpD .Eq (.str "and") (.str "some") = some false := rfl
theorem wd_and_all : cmpD .Eq (.str "and") (.str "all") = some false := rfl
theorem wd_or_is : cmpD .Eq (.str "or") (.str "is") = some false := rfl
theorem wd_or_arc : cmpD .Eq (.str "or") (.str "arc") = some false := rfl
theorem wd_or_same : cmpD .Eq (.str "or") (.str "same") = some false := rfl
theorem wd_or_not : cmpD .Eq (.str "or") (.str "not") = some false := rfl
theorem wd_or_and : cmpD .Eq (.str "or") (.str "and") = some false := rfl
theorem wd_or_or : cmpD .Eq (.str "or") (.str "or") = some true := rfl
theorem wd_or_some : cmpD .Eq (.str "or") (.str "some") = some false := rfl
theorem wd_or_all : cmpD .Eq (.str "or") (.str "all") = some false := rfl
theorem wd_some_is : cmpD .Eq (.str "some") (.str "is") = some false := rfl
theorem wd_some_arc : cmpD .Eq (.str "some") (.str "arc") = some false := rfl
theorem wd_some_same : cmpD .Eq (.str "some") (.str "same") = some false := rfl
theorem wd_some_not : cmpD .Eq (.str "some") (.str "not") = some false := rfl
theorem wd_some_and : cmpD .Eq (.str "some") (.str "and") = some false := rfl
theorem wd_some_or : cmpD .Eq (.str "some") (.str "or") = some false := rfl
theorem wd_some_some : cmpD .Eq (.str "some") (.str "some") = some true := rfl
theorem wd_some_all : cmpD .Eq (.str "some") (.str "all") = some false := rfl
theorem wd_all_is : cmpD .Eq (.str "all") (.str "is") = some false := rfl
theorem wd_all_arc : cmpD .Eq (.str "all") (.str "arc") = some false := rfl
theorem wd_all_same : cmpD .Eq (.str "all") (.str "same") = some false := rfl
theorem wd_all_not : cmpD .Eq (.str "all") (.str "not") = some false := rfl
theorem wd_all_and : cmpD .Eq (.str "all") (.str "and") = some false := rfl
theorem wd_all_or : cmpD .Eq (.str "all") (.str "or") = some false := rfl
theorem wd_all_some : cmpD .Eq (.str "all") (.str "some") = some false := rfl
theorem wd_all_all : cmpD .Eq (.str "all") (.str "all") = some true := rfl
end Mp

set_option maxRecDepth 100000
set_option maxHeartbeats 4000000
/-! Rows, no program in sight. -/
namespace Lw
open PySem Mp
def near (m k d : Int) : Bool := decide (m = k) || decide (2 ^ d.toNat - 1 ≤ min m k)
theorem arcs_sorted : ∀ m, m < 9 → (rowArcs m).Pairwise fun p q => p.1 < q.1 ∨ (p.1 = q.1 ∧ p.2 ≤ q.2) := by decide +kernel
theorem arcs_few : ∀ m, m < 9 → (rowArcs m).length < 100 := by decide +kernel
theorem sorted_arcs (m : Nat) (hm : m ≤ 8) : bltD .sorted [.lst ((rowArcs m).map pairI)] = some (.tmp (.lst ((rowArcs m).map pairI))) := by
  show (if sortable ((rowArcs m).map pairI) && okLen ((rowArcs m).map pairI).length then some (RV.tmp (D.lst (sortD ((rowArcs m).map pairI)))) else none) = _
  have a : sortable ((rowArcs m).map pairI) = true := by
    unfold sortable
    have f : ∀ p, fair (pairI p) = true := fun _ => rfl
    have g : ∀ p q, PySem.W.alike (toPy (pairI p)) (toPy (pairI q)) = true := fun _ _ => rfl
    have k : ∀ p, (match pairI p with | .tup (_ :: _) => true | _ => false) = true := fun _ => rfl
    simp [f, g]
    exact .inl fun a b _ => rfl
  have b : okLen ((rowArcs m).map pairI).length = true := okLen_t (by have := arcs_few m (by omega); rw [List.length_map]; omega)
  have c : sortD ((rowArcs m).map pairI) = (rowArcs m).map pairI := by
    unfold sortD
    refine List.mergeSort_of_pairwise ?_
    rw [List.pairwise_map]
    refine (arcs_sorted m (by omega)).imp fun {p q} h => ?_
    have e := congrFun (congrFun (PySem.W.dataLe_ii (fun p : Nat × Nat => (p.1 : Int)) (fun p => (p.2 : Int))) p) q
    refine Eq.trans (b := decide ((p.1 : Int) < q.1 ∨ ((p.1 : Int) = q.1 ∧ (p.2 : Int) ≤ q.2))) e ?_
    exact decide_eq_true (by omega)
  rw [a, b, c]
  rfl
theorem exists_lev (μ : Int) (h1 : μ ≤ 999) : ∃ L : Nat, L ≤ 10 ∧ (∀ d : Nat, d < L → (2 : Int) ^ d - 1 ≤ μ) ∧ μ < 2 ^ L - 1 := by
  have go : ∀ n : Nat, (∃ L : Nat, L ≤ n ∧ (∀ d : Nat, d < L → (2 : Int) ^ d - 1 ≤ μ) ∧ μ < 2 ^ L - 1) ∨ ∀ d : Nat, d ≤ n → (2 : Int) ^ d - 1 ≤ μ := by
    intro n
    induction n with
    | zero =>
      by_cases h : μ < 2 ^ 0 - 1
      · exact .inl ⟨0, Nat.le_refl _, fun d hd => absurd hd (Nat.not_lt_zero d), h⟩
      · refine .inr fun d hd => ?_
        have : d = 0 := by omega
        subst this
        omega
    | succ n ih =>
      rcases ih with ⟨L, l1, l2, l3⟩ | ih
      · exact .inl ⟨L, by omega, l2, l3⟩
      · by_cases h : μ < 2 ^ (n + 1) - 1
        · exact .inl ⟨n + 1, Nat.le_refl _, fun d hd => ih d (by omega), h⟩
        · refine .inr fun d hd => ?_
          by_cases e : d = n + 1
          · subst e; omega
          · exact ih d (by omega)
  rcases go 10 with h | h
  · exact h
  · have := h 10 (Nat.le_refl _)
    omega
theorem near_ne {m k : Int} (h : m ≠ k) (d : Nat) : near m k d = decide ((2 : Int) ^ d - 1 ≤ min m k) := by
  unfold near
  simp [h]
end Lw

set_option maxRecDepth 100000
set_option maxHeartbeats 4000000
/-! How many places between two: sentences of rows. -/
namespace Lw
open PySem Mp
def oN : Option Nat → D
  | none => .non
  | some i => dI i
def rowF : Nat → Nat → Nat → Option Nat → Option Nat → Fo
  | 0, _, _, _, _ => .and []
  | f + 1, m, k, lo, hi => if m = 0 then .and [] else
      .some (.and ((lo.toList.map fun l => .arc l k) ++ (hi.toList.map fun h => .arc k h) ++ (if (m - 1) / 2 = 0 then [] else [rowF f ((m - 1) / 2) (k + 1) lo (some k)]) ++ (if m - 1 - (m - 1) / 2 = 0 then [] else [rowF f (m - 1 - (m - 1) / 2) (k + 1) (some k) hi])))
theorem rowF_wf : ∀ (f m k : Nat) (lo hi : Option Nat), (∀ l, lo = some l → l < k) → (∀ h, hi = some h → h < k) → wfF k (rowF f m k lo hi) = true
  | 0, m, k, lo, hi, _, _ => rfl
  | f + 1, m, k, lo, hi, h1, h2 => by
    rw [rowF]
    split
    · rfl
    · have a := rowF_wf f ((m - 1) / 2) (k + 1) lo (some k) (fun l h => Nat.lt_succ_of_lt (h1 l h)) (fun l h => by cases h; exact Nat.lt_succ_self _)
      have b := rowF_wf f (m - 1 - (m - 1) / 2) (k + 1) (some k) hi (fun l h => by cases h; exact Nat.lt_succ_self _) (fun l h => Nat.lt_succ_of_lt (h2 l h))
      have ap : ∀ (n : Nat) (xs ys : List Fo), wfFs n (xs ++ ys) = (wfFs n xs && wfFs n ys) := by
        intro n xs ys
        induction xs with
        | nil => simp [wfFs]
        | cons x r ih => simp [wfFs, ih, Bool.and_assoc]
      have c1 : wfFs (k + 1) (lo.toList.map fun l => Fo.arc l k) = true := by
        cases lo with
        | none => rfl
        | some l => have := h1 l rfl; simp [wfFs, wfF]; omega
      have c2 : wfFs (k + 1) (hi.toList.map fun h => Fo.arc k h) = true := by
        cases hi with
        | none => rfl
        | some l => have := h2 l rfl; simp [wfFs, wfF]; omega
      have c3 : wfFs (k + 1) (if (m - 1) / 2 = 0 then [] else [rowF f ((m - 1) / 2) (k + 1) lo (some k)]) = true := by
        split
        · rfl
        · simp [wfFs, a]
      have c4 : wfFs (k + 1) (if m - 1 - (m - 1) / 2 = 0 then [] else [rowF f (m - 1 - (m - 1) / 2) (k + 1) (some k) hi]) = true := by
        split
        · rfl
        · simp [wfFs, b]
      rw [wfF, wfF, ap, ap, ap, c1, c2, c3, c4]
      simp only [Bool.and_true, Bool.and_self, decide_eq_true_eq, List.length_append, List.length_map]
      have l1 : lo.toList.length ≤ 1 := by cases lo <;> simp
      have l2 : hi.toList.length ≤ 1 := by cases hi <;> simp
      split <;> split <;> simp <;> omega
/-- places in a row, wherever they stand in the web -/
structure Ord (W : Web) (pos : Nat → Nat) : Prop where
  lt : ∀ a, a < W.cols.length → pos a < W.cols.length
  all : ∀ q, q < W.cols.length → ∃ a, a < W.cols.length ∧ pos a = q
  arc : ∀ a b, a < W.cols.length → b < W.cols.length → ((a, b) ∈ W.arcs ↔ pos a < pos b)
def lowP (pos : Nat → Nat) (s : List Nat) : Option Nat → Nat
  | none => 0
  | some l => pos (s.getD l 0) + 1
def highP (W : Web) (pos : Nat → Nat) (s : List Nat) : Option Nat → Nat
  | none => W.cols.length
  | some h => pos (s.getD h 0)
theorem getD_snoc {s : List Nat} {p i : Nat} (h : i < s.length) : (s ++ [p]).getD i 0 = s.getD i 0 := by
  rw [List.getD_eq_getElem?_getD, List.getD_eq_getElem?_getD, List.getElem?_append_left h]
theorem getD_last {s : List Nat} {p : Nat} : (s ++ [p]).getD s.length 0 = p := by
  rw [List.getD_eq_getElem?_getD, List.getElem?_append_right (Nat.le_refl _), Nat.sub_self]
  rfl
theorem getD_mem {s : List Nat} {i : Nat} (h : i < s.length) : s.getD i 0 ∈ s := by
  rw [List.getD_eq_getElem?_getD, List.getElem?_eq_getElem h]
  exact List.getElem_mem h
theorem rowF_holds {W : Web} {pos : Nat → Nat} (O : Ord W pos) : ∀ (f m : Nat) (s : List Nat) (lo hi : Option Nat), m ≤ f → (∀ a ∈ s, a < W.cols.length) → (∀ l, lo = some l → l < s.length) → (∀ h, hi = some h → h < s.length) →
    (holdsF W s (rowF f m s.length lo hi) = true ↔ m = 0 ∨ lowP pos s lo + m ≤ highP W pos s hi)
  | 0, m, s, lo, hi, hm, _, _, _ => by
    have : m = 0 := by omega
    simp [rowF, holdsF, holdsAll, this]
  | f + 1, m, s, lo, hi, hm, hs, h1, h2 => by
    rw [rowF]
    split
    · rename_i e
      simp [holdsF, holdsAll, e]
    · rename_i e
      rw [holdsF, List.any_eq_true]
      have key : ∀ p, p < W.cols.length → (holdsF W (s ++ [p]) (.and ((lo.toList.map fun l => .arc l s.length) ++ (hi.toList.map fun h => .arc s.length h) ++ (if (m - 1) / 2 = 0 then [] else [rowF f ((m - 1) / 2) (s.length + 1) lo (some s.length)]) ++ (if m - 1 - (m - 1) / 2 = 0 then [] else [rowF f (m - 1 - (m - 1) / 2) (s.length + 1) (some s.length) hi]))) = true ↔
          lowP pos s lo + (m - 1) / 2 ≤ pos p ∧ pos p + 1 + (m - 1 - (m - 1) / 2) ≤ highP W pos s hi) := by
        intro p hp
        have ss : (s ++ [p]).length = s.length + 1 := by simp
        have hs' : ∀ a ∈ s ++ [p], a < W.cols.length := fun a ha => by
          rcases List.mem_append.1 ha with h | h
          · exact hs a h
          · rw [List.mem_singleton.1 h]; exact hp
        have lowS : ∀ lo, (∀ l, lo = some l → l < s.length) → lowP pos (s ++ [p]) lo = lowP pos s lo := fun lo h => by
          cases lo with
          | none => rfl
          | some l => unfold lowP; simp only; rw [getD_snoc (h l rfl)]
        have highS : ∀ hi, (∀ l, hi = some l → l < s.length) → highP W pos (s ++ [p]) hi = highP W pos s hi := fun hi h => by
          cases hi with
          | none => rfl
          | some l => unfold highP; simp only; rw [getD_snoc (h l rfl)]
        have a := rowF_holds O f ((m - 1) / 2) (s ++ [p]) lo (some s.length) (by omega) hs' (fun l h => by have := h1 l h; omega) (fun l h => by cases h; omega)
        have b := rowF_holds O f (m - 1 - (m - 1) / 2) (s ++ [p]) (some s.length) hi (by omega) hs' (fun l h => by cases h; omega) (fun l h => by have := h2 l h; omega)
        rw [ss, lowS lo h1] at a
        rw [ss, highS hi h2] at b
        have e1 : highP W pos (s ++ [p]) (some s.length) = pos p := by unfold highP; simp only; rw [getD_last]
        have e2 : lowP pos (s ++ [p]) (some s.length) = pos p + 1 := by unfold lowP; simp only; rw [getD_last]
        rw [e1] at a
        rw [e2] at b
        have pl := O.lt p hp
        have al : ((lo.toList.map fun l => Fo.arc l s.length).all (holdsF W (s ++ [p])) = true ↔ lowP pos s lo ≤ pos p) := by
          cases lo with
          | none => simp [lowP]
          | some l =>
            have hl := h1 l rfl
            have := O.arc (s.getD l 0) p (hs _ (getD_mem hl)) hp
            simp only [Option.toList_some, List.map_cons, List.map_nil, List.all_cons, List.all_nil, Bool.and_true, holdsF, decide_eq_true_eq, lowP]
            rw [getD_snoc hl, getD_last, this]
            omega
        have ah : ((hi.toList.map fun h => Fo.arc s.length h).all (holdsF W (s ++ [p])) = true ↔ pos p + 1 ≤ highP W pos s hi) := by
          cases hi with
          | none => simp [highP]; omega
          | some l =>
            have hl := h2 l rfl
            have := O.arc p (s.getD l 0) hp (hs _ (getD_mem hl))
            simp only [Option.toList_some, List.map_cons, List.map_nil, List.all_cons, List.all_nil, Bool.and_true, holdsF, decide_eq_true_eq, highP]
            rw [getD_snoc hl, getD_last, this]
            omega
        rw [holdsF, holdsAll_all, List.all_append, List.all_append, List.all_append, Bool.and_eq_true, Bool.and_eq_true, Bool.and_eq_true, al, ah]
        have c3 : ((if (m - 1) / 2 = 0 then [] else [rowF f ((m - 1) / 2) (s.length + 1) lo (some s.length)]).all (holdsF W (s ++ [p])) = true ↔ ((m - 1) / 2 = 0 ∨ lowP pos s lo + (m - 1) / 2 ≤ pos p)) := by
          split
          · rename_i h; simp [h]
          · simp only [List.all_cons, List.all_nil, Bool.and_true]; exact a
        have c4 : ((if m - 1 - (m - 1) / 2 = 0 then [] else [rowF f (m - 1 - (m - 1) / 2) (s.length + 1) (some s.length) hi]).all (holdsF W (s ++ [p])) = true ↔ (m - 1 - (m - 1) / 2 = 0 ∨ pos p + 1 + (m - 1 - (m - 1) / 2) ≤ highP W pos s hi)) := by
          split
          · rename_i h; simp [h]
          · simp only [List.all_cons, List.all_nil, Bool.and_true]; exact b
        rw [c3, c4]
        omega
      have hh : highP W pos s hi ≤ W.cols.length := by
        cases hi with
        | none => exact Nat.le_refl _
        | some h => exact Nat.le_of_lt (O.lt _ (hs _ (getD_mem (h2 h rfl))))
      constructor
      · rintro ⟨p, hp, h⟩
        have := (key p (List.mem_range.1 hp)).1 h
        right
        omega
      · rintro (h | h)
        · exact absurd h e
        · obtain ⟨p, hp, hq⟩ := O.all (lowP pos s lo + (m - 1) / 2) (by omega)
          exact ⟨p, List.mem_range.2 hp, (key p hp).2 (by omega)⟩
end Lw

set_option maxRecDepth 100000
set_option maxHeartbeats 4000000
namespace Lw
open PySem Mp
/-- the row's web -/
def rowW (m : Nat) : Web := ⟨List.replicate m 0, rowArcs m⟩
theorem rowW_D (m : Nat) : webD (rowW m) = rowD m := by
  unfold webD rowW rowD
  rw [List.map_replicate]
  rfl
theorem rowW_len (m : Nat) : (rowW m).cols.length = m := by simp [rowW]
theorem ord_row (m : Nat) : Ord (rowW m) id where
  lt := fun a h => h
  all := fun q h => ⟨q, h, rfl⟩
  arc := fun a b h1 h2 => by
    rw [rowW_len] at h1 h2
    show (a, b) ∈ rowArcs m ↔ a < b
    rw [rowArcs_mem]
    omega
/-- the row with its places in another sequence -/
theorem ord_mixed (m : Nat) (r : List Nat) (hr : r.Perm (List.range m)) (L : List (Nat × Nat)) (hL : L.Perm ((rowArcs m).map fun p => (r.getD p.1 0, r.getD p.2 0))) : Ord ⟨List.replicate m 0, L⟩ (fun p => r.idxOf p) := by
  have nd : r.Nodup := hr.nodup_iff.2 List.nodup_range
  have ln : r.length = m := by rw [hr.length_eq, List.length_range]
  have me : ∀ a, a ∈ r ↔ a < m := fun a => by rw [hr.mem_iff, List.mem_range]
  have gd : ∀ a (h : a < r.length), r.getD a 0 = r[a] := fun a h => by rw [List.getD_eq_getElem?_getD, List.getElem?_eq_getElem h]; rfl
  refine ⟨fun a h => ?_, fun q h => ?_, fun a b h1 h2 => ?_⟩
  · simp only [List.length_replicate] at h ⊢
    have := List.idxOf_lt_length_of_mem ((me a).2 h)
    omega
  · simp only [List.length_replicate] at h ⊢
    have hq : q < r.length := by omega
    exact ⟨r[q], (me _).1 (List.getElem_mem hq), nd.idxOf_getElem q hq⟩
  · simp only [List.length_replicate] at h1 h2
    show (a, b) ∈ L ↔ _
    rw [hL.mem_iff, List.mem_map]
    have ha := (me a).2 h1
    have hb := (me b).2 h2
    constructor
    · rintro ⟨⟨i, j⟩, hij, e⟩
      rw [rowArcs_mem] at hij
      simp only [Prod.mk.injEq] at e
      have hi : i < r.length := by omega
      have hj : j < r.length := by omega
      rw [gd i hi, gd j hj] at e
      rw [← e.1, ← e.2, nd.idxOf_getElem i hi, nd.idxOf_getElem j hj]
      exact hij.1
    · intro h
      have l1 := List.idxOf_lt_length_of_mem ha
      have l2 := List.idxOf_lt_length_of_mem hb
      refine ⟨(r.idxOf a, r.idxOf b), ?_, ?_⟩
      · rw [rowArcs_mem]; omega
      · simp only
        rw [gd _ l1, gd _ l2, List.getElem_idxOf l1, List.getElem_idxOf l2]
theorem sorted_pairs (L : List (Nat × Nat)) (hl : L.length < 1000000) : ∃ L' : List (Nat × Nat), L'.Perm L ∧ bltD .sorted [.lst (L.map pairI)] = some (.tmp (.lst (L'.map pairI))) := by
  refine ⟨L.mergeSort fun p q => PySem.W.dataLe false toPy (pairI p) (pairI q), List.mergeSort_perm _ _, ?_⟩
  show (if sortable (L.map pairI) && okLen (L.map pairI).length then some (RV.tmp (D.lst (sortD (L.map pairI)))) else none) = _
  have a : sortable (L.map pairI) = true := by
    unfold sortable
    have f : ∀ p, fair (pairI p) = true := fun _ => rfl
    have g : ∀ p q, PySem.W.alike (toPy (pairI p)) (toPy (pairI q)) = true := fun _ _ => rfl
    have k : ∀ p, (match pairI p with | .tup (_ :: _) => true | _ => false) = true := fun _ => rfl
    simp [f, g]
    exact .inl fun a b _ => rfl
  have b : okLen (L.map pairI).length = true := okLen_t (by rw [List.length_map]; omega)
  rw [a, b]
  unfold sortD
  rw [List.map_mergeSort (f := pairI) (r := fun p q => PySem.W.dataLe false toPy (pairI p) (pairI q)) (s := PySem.W.dataLe false toPy) (l := L) fun _ _ _ _ => rfl]
  rfl
theorem map_erase {α β : Type} (f : α → β) : ∀ (l : List α) (d : Nat), (l.map f).eraseIdx d = (l.eraseIdx d).map f
  | [], d => by simp
  | a :: l, 0 => by simp
  | a :: l, d + 1 => by simp [map_erase f l d]
theorem erase_perm {α : Type} : ∀ (l : List α) (d : Nat) (h : d < l.length), (l[d] :: l.eraseIdx d).Perm l
  | [], d, h => absurd h (Nat.not_lt_zero _)
  | a :: l, 0, h => by simp
  | a :: l, d + 1, h => by
    simp only [List.getElem_cons_succ, List.eraseIdx_cons_succ]
    exact (List.Perm.swap _ _ _).trans (List.Perm.cons a (erase_perm l d (by simpa using h)))
theorem mutQ_popAt {xs : List D} {d : Nat} (h : d < xs.length) (hl : xs.length < 1000000) : mutD .popAt (.lst xs) [dI d] = some (xs[d], .lst (xs.eraseIdx d)) := by
  have e : seqIndex? (d : Int) xs.length = some d := by
    unfold seqIndex?
    simp
    omega
  have c : (decide (-(2 ^ 63) ≤ (d : Int)) && decide ((d : Int) < 2 ^ 63)) = true := by
    rw [Bool.and_eq_true, decide_eq_true_eq, decide_eq_true_eq]
    constructor <;> omega
  rw [mutD, if_pos c, e, Option.bind_some, List.getElem?_eq_getElem h]
  rfl
end Lw

set_option maxRecDepth 100000
set_option maxHeartbeats 4000000
namespace Lw
open PySem PySem.Spec PyProof.Rows L2 Mp
def top (i : Nat) : Stmt := PySem.Challenge.pw_askedsodeep_k63_whole_sentences_of_rows.main.body.getD i (.Pass ⟨0, 0, 0, 0⟩)
def F_is_integer : Fn := ⟨"is_integer", ["value"], [false], [], 1, (.cons (.ret (.and (.isi (.var 0) [.int]) (.not (.isi (.var 0) [.bool])))) .nil)⟩
def F_is_count : Fn := ⟨"is_count", ["value"], [false], [], 1, (.cons (.ret (.and (.call "is_integer" (.cons (.var 0) .nil)) (.cmp .GtE (.var 0) (.const (.int 0))))) .nil)⟩
def F_want_many : Fn := ⟨"want_many", ["value", "most", "least"], [false, false, false], [(.int 0)], 3, (.cons (.ite (.or (.not (.call "is_count" (.cons (.var 0) .nil))) (.not (.chain .LtE .LtE (.var 2) (.var 0) (.var 1)))) (.cons (.raise "InvalidMany" (.cons (.var 0) .nil)) .nil) .nil) .nil)⟩
def F_plain_web : Fn := ⟨"plain_web", ["many", "arcs"], [false, false], [], 2, (.cons (.ret (.tup (.cons (.glob "WEB") (.cons (.bin .Mult (.tup (.cons (.const (.int 0)) .nil)) (.var 0)) (.cons (.blt .tuple (.cons (.blt .sorted (.cons (.var 1) .nil)) .nil)) .nil))))) .nil)⟩
def F_row_arcs : Fn := ⟨"row_arcs", ["many"], [false], [], 4, (.cons (.asg (.name 1) (.lst .nil)) (.cons (.for (.name 2) (.range1 (.var 0)) (.cons (.expr (.mth .extend (.var 1) (.cons (.comp [3] (.name 3) (.range2 (.bin .Add (.var 2) (.const (.int 1))) (.var 0)) (.const (.bl true)) (.tup (.cons (.var 2) (.cons (.var 3) .nil)))) .nil))) .nil)) (.cons (.ret (.var 1)) .nil)))⟩
def F_long_enough : Fn := ⟨"long_enough", ["depth"], [false], [], 3, (.cons (.asg (.name 1) (.const (.int 1))) (.cons (.for (.name 2) (.range1 (.var 0)) (.cons (.asg (.name 1) (.bin .Mult (.const (.int 2)) (.var 1))) .nil)) (.cons (.ret (.bin .Sub (.var 1) (.const (.int 1)))) .nil)))⟩
def F_are_near : Fn := ⟨"are_near", ["many", "number", "depth"], [false, false, false], [], 3, (.cons (.ret (.or (.cmp .Eq (.var 0) (.var 1)) (.cmp .GtE (.blt .min2 (.cons (.var 0) (.cons (.var 1) .nil))) (.call "long_enough" (.cons (.var 2) .nil))))) .nil)⟩
def F_part_depth : Fn := ⟨"part_depth", ["many", "number"], [false, false], [], 3, (.cons (.ite (.cmp .Eq (.var 0) (.var 1)) (.cons (.ret (.const .non)) .nil) .nil) (.cons (.asg (.name 2) (.const (.int 0))) (.cons (.while (.call "are_near" (.cons (.var 0) (.cons (.var 1) (.cons (.var 2) .nil)))) (.cons (.asg (.name 2) (.bin .Add (.var 2) (.const (.int 1)))) .nil)) (.cons (.ret (.var 2)) .nil))))⟩
def F_at_least : Fn := ⟨"at_least", ["many", "names", "low", "high"], [false, false, false, false], [], 7, (.cons (.ite (.cmp .Eq (.var 0) (.const (.int 0))) (.cons (.ret (.tup (.cons (.const (.str "and")) (.cons (.tup .nil) .nil)))) .nil) .nil) (.cons (.asg (.name 4) (.bin .FloorDiv (.bin .Sub (.var 0) (.const (.int 1))) (.const (.int 2)))) (.cons (.asg (.name 5) (.ite (.cmp .Is (.var 2) (.const .non)) (.lst .nil) (.lst (.cons (.tup (.cons (.const (.str "arc")) (.cons (.var 2) (.cons (.var 1) .nil)))) .nil)))) (.cons (.expr (.mth .extend (.var 5) (.cons (.ite (.cmp .Is (.var 3) (.const .non)) (.lst .nil) (.lst (.cons (.tup (.cons (.const (.str "arc")) (.cons (.var 1) (.cons (.var 3) .nil)))) .nil))) .nil))) (.cons (.expr (.mth .extend (.var 5) (.cons (.ite (.cmp .Eq (.var 4) (.const (.int 0))) (.lst .nil) (.lst (.cons (.call "at_least" (.cons (.var 4) (.cons (.bin .Add (.var 1) (.const (.int 1))) (.cons (.var 2) (.cons (.var 1) .nil))))) .nil))) .nil))) (.cons (.asg (.name 6) (.bin .Sub (.bin .Sub (.var 0) (.const (.int 1))) (.var 4))) (.cons (.expr (.mth .extend (.var 5) (.cons (.ite (.cmp .Eq (.var 6) (.const (.int 0))) (.lst .nil) (.lst (.cons (.call "at_least" (.cons (.var 6) (.cons (.bin .Add (.var 1) (.const (.int 1))) (.cons (.var 1) (.cons (.var 3) .nil))))) .nil))) .nil))) (.cons (.ret (.tup (.cons (.const (.str "some")) (.cons (.tup (.cons (.const (.str "and")) (.cons (.blt .tuple (.cons (.var 5) .nil)) .nil))) .nil)))) .nil))))))))⟩
def F_row_web : Fn := ⟨"row_web", ["many"], [false], [], 1, (.cons (.expr (.call "want_many" (.cons (.var 0) (.cons (.glob "MOST_PLACES") .nil)))) (.cons (.ret (.call "plain_web" (.cons (.var 0) (.cons (.call "row_arcs" (.cons (.var 0) .nil)) .nil)))) .nil))⟩
def F_rows_part_at : Fn := ⟨"rows_part_at", ["many", "number"], [false, false], [], 2, (.cons (.expr (.call "want_many" (.cons (.var 0) (.cons (.glob "MOST_NUMBER") .nil)))) (.cons (.expr (.call "want_many" (.cons (.var 1) (.cons (.glob "MOST_NUMBER") .nil)))) (.cons (.ret (.call "part_depth" (.cons (.var 0) (.cons (.var 1) .nil)))) .nil)))⟩
def F_at_least_row : Fn := ⟨"at_least_row", ["many"], [false], [], 1, (.cons (.expr (.call "want_many" (.cons (.var 0) (.cons (.glob "MOST_SENTENCE") .nil)))) (.cons (.ret (.call "at_least" (.cons (.var 0) (.cons (.const (.int 0)) (.cons (.const .non) (.cons (.const .non) .nil)))))) .nil))⟩
def F_just_row : Fn := ⟨"just_row", ["many"], [false], [], 1, (.cons (.expr (.call "want_many" (.cons (.var 0) (.cons (.bin .Sub (.glob "MOST_SENTENCE") (.const (.int 1))) .nil)))) (.cons (.ret (.tup (.cons (.const (.str "and")) (.cons (.tup (.cons (.call "at_least" (.cons (.var 0) (.cons (.const (.int 0)) (.cons (.const .non) (.cons (.const .non) .nil))))) (.cons (.tup (.cons (.const (.str "not")) (.cons (.call "at_least" (.cons (.bin .Add (.var 0) (.const (.int 1))) (.cons (.const (.int 0)) (.cons (.const .non) (.cons (.const .non) .nil))))) .nil))) .nil))) .nil)))) .nil))⟩
def F__law_pot : Fn := ⟨"_law_pot", ["script", "k"], [false, false], [], 4, (.cons (.asg (.name 2) (.ite (.cmp .Lt (.var 1) (.blt .len (.cons (.var 0) .nil))) (.blt .abs (.cons (.idx (.var 0) (.var 1)) .nil)) (.bin .Add (.bin .Add (.bin .Mult (.const (.int 311)) (.var 1)) (.const (.int 227))) (.bin .Mod (.blt .abs (.cons (.blt .sum (.cons (.slc (.var 0) (.const .non) (.const (.int 1))) .nil)) .nil)) (.const (.int 1000003)))))) (.cons (.asg (.name 3) (.bin .Add (.bin .Mod (.blt .int (.cons (.bin .Add (.bin .Add (.bin .Mult (.bin .Mod (.blt .int (.cons (.var 2) .nil)) (.const (.int 2147483549))) (.const (.int 40507))) (.bin .Mult (.const (.int 8623)) (.var 1))) (.const (.int 157))) .nil)) (.const (.int 2147483563))) (.const (.int 1)))) (.cons (.ret (.lst (.cons (.blt .max2 (.cons (.const (.int 0)) (.cons (.bin .Sub (.var 2) (.bin .Pow (.const (.int 10)) (.const (.int 18)))) .nil))) (.cons (.var 3) .nil)))) .nil)))⟩
def F__law_draw : Fn := ⟨"_law_draw", ["pot", "sides"], [true, false], [], 3, (.cons (.ite (.cmp .Gt (.idx (.var 0) (.const (.int 0))) (.const (.int 0))) (.cons (.asg (.tup (.cons (.sub (.var 0) (.const (.int 0))) (.cons (.name 2) .nil))) (.blt .divmod (.cons (.idx (.var 0) (.const (.int 0))) (.cons (.var 1) .nil)))) (.cons (.ret (.var 2)) .nil)) .nil) (.cons (.asg (.sub (.var 0) (.const (.int 1))) (.bin .Mod (.blt .int (.cons (.bin .Add (.bin .Mult (.idx (.var 0) (.const (.int 1))) (.const (.int 40709))) (.const (.int 8623))) .nil)) (.const (.int 2147483587)))) (.cons (.ret (.bin .Mod (.blt .int (.cons (.bin .FloorDiv (.bin .Mod (.blt .int (.cons (.bin .Mult (.idx (.var 0) (.const (.int 1))) (.idx (.var 0) (.const (.int 1)))) .nil)) (.const (.int 2147483629))) (.const (.int 23))) .nil)) (.var 1))) .nil)))⟩
def F__law_is : Fn := ⟨"_law_is", ["told", "due"], [false, false], [], 4, (.cons (.ite (.cmp .Is (.var 1) (.const .non)) (.cons (.ret (.cmp .Is (.var 0) (.const .non))) .nil) .nil) (.cons (.ite (.isi (.var 1) [.bool]) (.cons (.ret (.and (.isi (.var 0) [.bool]) (.cmp .Eq (.var 0) (.var 1)))) .nil) .nil) (.cons (.ite (.isi (.var 1) [.int]) (.cons (.ret (.and (.isi (.var 0) [.int]) (.and (.not (.isi (.var 0) [.bool])) (.cmp .Eq (.var 0) (.var 1))))) .nil) .nil) (.cons (.ite (.isi (.var 1) [.str]) (.cons (.ret (.and (.isi (.var 0) [.str]) (.cmp .Eq (.var 0) (.var 1)))) .nil) .nil) (.cons (.asg (.name 2) (.ite (.isi (.var 1) [.list]) (.isi (.var 0) [.list]) (.isi (.var 0) [.tuple]))) (.cons (.ite (.or (.not (.var 2)) (.cmp .NotEq (.blt .len (.cons (.var 0) .nil)) (.blt .len (.cons (.var 1) .nil)))) (.cons (.ret (.const (.bl false))) .nil) .nil) (.cons (.ret (.cmp .Eq (.comp [3] (.name 3) (.range1 (.blt .len (.cons (.var 1) .nil))) (.not (.call "_law_is" (.cons (.idx (.var 0) (.var 3)) (.cons (.idx (.var 1) (.var 3)) .nil)))) (.var 3)) (.lst .nil))) .nil)))))))⟩
def F__law_holds : Fn := ⟨"_law_holds", ["web", "spots", "formula"], [false, false, false], [], 7, (.cons (.asg (.name 3) (.idx (.var 2) (.const (.int 0)))) (.cons (.ite (.cmp .Eq (.var 3) (.const (.str "is"))) (.cons (.ret (.cmp .Eq (.idx (.idx (.var 0) (.const (.int 1))) (.idx (.var 1) (.idx (.var 2) (.const (.int 1))))) (.idx (.var 2) (.const (.int 2))))) .nil) .nil) (.cons (.ite (.cmp .Eq (.var 3) (.const (.str "arc"))) (.cons (.ret (.cmp .In (.tup (.cons (.idx (.var 1) (.idx (.var 2) (.const (.int 1)))) (.cons (.idx (.var 1) (.idx (.var 2) (.const (.int 2)))) .nil))) (.idx (.var 0) (.const (.int 2))))) .nil) .nil) (.cons (.ite (.cmp .Eq (.var 3) (.const (.str "same"))) (.cons (.ret (.cmp .Eq (.idx (.var 1) (.idx (.var 2) (.const (.int 1)))) (.idx (.var 1) (.idx (.var 2) (.const (.int 2)))))) .nil) .nil) (.cons (.ite (.cmp .Eq (.var 3) (.const (.str "not"))) (.cons (.ret (.not (.call "_law_holds" (.cons (.var 0) (.cons (.var 1) (.cons (.idx (.var 2) (.const (.int 1))) .nil)))))) .nil) .nil) (.cons (.ite (.cmp .Eq (.var 3) (.const (.str "and"))) (.cons (.ret (.cmp .Eq (.comp [6] (.name 6) (.val (.idx (.var 2) (.const (.int 1)))) (.not (.call "_law_holds" (.cons (.var 0) (.cons (.var 1) (.cons (.var 6) .nil))))) (.var 6)) (.lst .nil))) .nil) .nil) (.cons (.ite (.cmp .Eq (.var 3) (.const (.str "or"))) (.cons (.ret (.cmp .NotEq (.comp [6] (.name 6) (.val (.idx (.var 2) (.const (.int 1)))) (.call "_law_holds" (.cons (.var 0) (.cons (.var 1) (.cons (.var 6) .nil)))) (.var 6)) (.lst .nil))) .nil) .nil) (.cons (.asg (.name 4) (.comp [5] (.name 5) (.range1 (.blt .len (.cons (.idx (.var 0) (.const (.int 1))) .nil))) (.call "_law_holds" (.cons (.var 0) (.cons (.bin .Add (.var 1) (.tup (.cons (.var 5) .nil))) (.cons (.idx (.var 2) (.const (.int 1))) .nil)))) (.var 5))) (.cons (.ret (.ite (.cmp .Eq (.var 3) (.const (.str "some"))) (.cmp .NotEq (.var 4) (.lst .nil)) (.cmp .Eq (.blt .len (.cons (.var 4) .nil)) (.blt .len (.cons (.idx (.var 0) (.const (.int 1))) .nil))))) .nil)))))))))⟩
def F__law_depth : Fn := ⟨"_law_depth", ["formula"], [false], [], 2, (.cons (.ite (.cmp .In (.idx (.var 0) (.const (.int 0))) (.lst (.cons (.const (.str "is")) (.cons (.const (.str "arc")) (.cons (.const (.str "same")) .nil))))) (.cons (.ret (.const (.int 0))) .nil) .nil) (.cons (.ite (.cmp .Eq (.idx (.var 0) (.const (.int 0))) (.const (.str "not"))) (.cons (.ret (.call "_law_depth" (.cons (.idx (.var 0) (.const (.int 1))) .nil))) .nil) .nil) (.cons (.ite (.cmp .In (.idx (.var 0) (.const (.int 0))) (.lst (.cons (.const (.str "and")) (.cons (.const (.str "or")) .nil)))) (.cons (.ret (.blt .max1 (.cons (.bin .Add (.lst (.cons (.const (.int 0)) .nil)) (.comp [1] (.name 1) (.val (.idx (.var 0) (.const (.int 1)))) (.const (.bl true)) (.call "_law_depth" (.cons (.var 1) .nil)))) .nil))) .nil) .nil) (.cons (.ret (.bin .Add (.const (.int 1)) (.call "_law_depth" (.cons (.idx (.var 0) (.const (.int 1))) .nil)))) .nil))))⟩
def F__law_nodes : Fn := ⟨"_law_nodes", ["formula"], [false], [], 2, (.cons (.ite (.cmp .In (.idx (.var 0) (.const (.int 0))) (.lst (.cons (.const (.str "is")) (.cons (.const (.str "arc")) (.cons (.const (.str "same")) .nil))))) (.cons (.ret (.const (.int 1))) .nil) .nil) (.cons (.ite (.cmp .In (.idx (.var 0) (.const (.int 0))) (.lst (.cons (.const (.str "and")) (.cons (.const (.str "or")) .nil)))) (.cons (.ret (.bin .Add (.const (.int 1)) (.blt .sum (.cons (.comp [1] (.name 1) (.val (.idx (.var 0) (.const (.int 1)))) (.const (.bl true)) (.call "_law_nodes" (.cons (.var 1) .nil))) .nil)))) .nil) .nil) (.cons (.ret (.bin .Add (.const (.int 1)) (.call "_law_nodes" (.cons (.idx (.var 0) (.const (.int 1))) .nil)))) .nil)))⟩
def F__law_told : Fn := ⟨"_law_told", ["many", "names", "low", "high"], [false, false, false, false], [], 6, (.cons (.ite (.cmp .Eq (.var 0) (.const (.int 0))) (.cons (.ret (.tup (.cons (.const (.str "and")) (.cons (.tup .nil) .nil)))) .nil) .nil) (.cons (.asg (.name 4) (.tup .nil)) (.cons (.ite (.cmp .IsNot (.var 2) (.const .non)) (.cons (.asg (.name 4) (.bin .Add (.var 4) (.tup (.cons (.tup (.cons (.const (.str "arc")) (.cons (.var 2) (.cons (.var 1) .nil)))) .nil)))) .nil) .nil) (.cons (.ite (.cmp .IsNot (.var 3) (.const .non)) (.cons (.asg (.name 4) (.bin .Add (.var 4) (.tup (.cons (.tup (.cons (.const (.str "arc")) (.cons (.var 1) (.cons (.var 3) .nil)))) .nil)))) .nil) .nil) (.cons (.asg (.name 5) (.bin .FloorDiv (.bin .Sub (.var 0) (.const (.int 1))) (.const (.int 2)))) (.cons (.ite (.cmp .Gt (.var 5) (.const (.int 0))) (.cons (.asg (.name 4) (.bin .Add (.var 4) (.tup (.cons (.call "_law_told" (.cons (.var 5) (.cons (.bin .Add (.var 1) (.const (.int 1))) (.cons (.var 2) (.cons (.var 1) .nil))))) .nil)))) .nil) .nil) (.cons (.ite (.cmp .Gt (.bin .Sub (.bin .Sub (.var 0) (.const (.int 1))) (.var 5)) (.const (.int 0))) (.cons (.asg (.name 4) (.bin .Add (.var 4) (.tup (.cons (.call "_law_told" (.cons (.bin .Sub (.bin .Sub (.var 0) (.const (.int 1))) (.var 5)) (.cons (.bin .Add (.var 1) (.const (.int 1))) (.cons (.var 1) (.cons (.var 3) .nil))))) .nil)))) .nil) .nil) (.cons (.ret (.tup (.cons (.const (.str "some")) (.cons (.tup (.cons (.const (.str "and")) (.cons (.var 4) .nil))) .nil)))) .nil))))))))⟩
def F__law_mixed : Fn := ⟨"_law_mixed", ["pot", "many"], [true, false], [], 4, (.cons (.par [2, 3] (.cons (.lof (.range1 (.var 1))) (.cons (.lst .nil) .nil))) (.cons (.while (.cmp .NotEq (.var 2) (.lst .nil)) (.cons (.expr (.mth .append (.var 3) (.cons (.mth .popAt (.var 2) (.cons (.call "_law_draw" (.cons (.var 0) (.cons (.blt .len (.cons (.var 2) .nil)) .nil))) .nil)) .nil))) .nil)) (.cons (.ret (.var 3)) .nil)))⟩
def F__law_right : Fn := ⟨"_law_right", ["pot"], [true], [], 12, (.cons (.asg (.name 1) (.call "_law_draw" (.cons (.var 0) (.cons (.const (.int 16)) .nil)))) (.cons (.asg (.name 2) (.call "_law_told" (.cons (.var 1) (.cons (.const (.int 0)) (.cons (.const .non) (.cons (.const .non) .nil)))))) (.cons (.ite (.not (.call "_law_is" (.cons (.lst (.cons (.call "at_least_row" (.cons (.var 1) .nil)) (.cons (.callk "at_least_row" .nil ["many"] (.cons (.var 1) .nil)) .nil))) (.cons (.lst (.cons (.var 2) (.cons (.var 2) .nil))) .nil)))) (.cons (.ret (.const (.bl false))) .nil) .nil) (.cons (.asg (.name 3) (.const (.int 0))) (.cons (.while (.cmp .Gt (.var 1) (.idx (.lst (.cons (.const (.int 0)) (.cons (.const (.int 1)) (.cons (.const (.int 3)) (.cons (.const (.int 7)) (.cons (.const (.int 15)) .nil)))))) (.var 3))) (.cons (.asg (.name 3) (.bin .Add (.var 3) (.const (.int 1)))) .nil)) (.cons (.ite (.or (.cmp .NotEq (.call "_law_depth" (.cons (.var 2) .nil)) (.var 3)) (.cmp .Gt (.call "_law_nodes" (.cons (.var 2) .nil)) (.const (.int 300)))) (.cons (.ret (.const (.bl false))) .nil) .nil) (.cons (.ite (.and (.cmp .Gt (.var 1) (.const (.int 0))) (.cmp .NotEq (.call "rows_part_at" (.cons (.var 1) (.cons (.bin .Sub (.var 1) (.const (.int 1))) .nil))) (.var 3))) (.cons (.ret (.const (.bl false))) .nil) .nil) (.cons (.asg (.name 4) (.call "_law_draw" (.cons (.var 0) (.cons (.const (.int 8)) .nil)))) (.cons (.asg (.name 5) (.call "row_web" (.cons (.var 4) .nil))) (.cons (.asg (.name 6) (.call "_law_mixed" (.cons (.var 0) (.cons (.var 4) .nil)))) (.cons (.asg (.name 7) (.tup (.cons (.const (.str "web")) (.cons (.idx (.var 5) (.const (.int 1))) (.cons (.blt .tuple (.cons (.blt .sorted (.cons (.comp [10, 11] (.tup (.cons (.name 10) (.cons (.name 11) .nil))) (.val (.idx (.var 5) (.const (.int 2)))) (.const (.bl true)) (.tup (.cons (.idx (.var 6) (.var 10)) (.cons (.idx (.var 6) (.var 11)) .nil)))) .nil)) .nil)) .nil))))) (.cons (.ite (.not (.call "_law_is" (.cons (.lst (.cons (.call "_law_holds" (.cons (.var 5) (.cons (.tup .nil) (.cons (.var 2) .nil)))) (.cons (.call "_law_holds" (.cons (.var 7) (.cons (.tup .nil) (.cons (.var 2) .nil)))) .nil))) (.cons (.bin .Mult (.lst (.cons (.cmp .GtE (.var 4) (.var 1)) .nil)) (.const (.int 2))) .nil)))) (.cons (.ret (.const (.bl false))) .nil) .nil) (.cons (.ite (.cmp .Gt (.var 1) (.const (.int 14))) (.cons (.ret (.const (.bl true))) .nil) .nil) (.cons (.asg (.name 8) (.tup (.cons (.const (.str "and")) (.cons (.tup (.cons (.var 2) (.cons (.tup (.cons (.const (.str "not")) (.cons (.call "_law_told" (.cons (.bin .Add (.var 1) (.const (.int 1))) (.cons (.const (.int 0)) (.cons (.const .non) (.cons (.const .non) .nil))))) .nil))) .nil))) .nil)))) (.cons (.ite (.or (.not (.call "_law_is" (.cons (.lst (.cons (.call "just_row" (.cons (.var 1) .nil)) (.cons (.callk "just_row" .nil ["many"] (.cons (.var 1) .nil)) .nil))) (.cons (.lst (.cons (.var 8) (.cons (.var 8) .nil))) .nil)))) (.or (.cmp .Gt (.call "_law_nodes" (.cons (.var 8) .nil)) (.const (.int 300))) (.cmp .Gt (.call "_law_depth" (.cons (.var 8) .nil)) (.const (.int 4))))) (.cons (.ret (.const (.bl false))) .nil) .nil) (.cons (.ite (.cmp .NotEq (.call "_law_depth" (.cons (.var 8) .nil)) (.call "rows_part_at" (.cons (.var 1) (.cons (.bin .Add (.var 1) (.const (.int 1))) .nil)))) (.cons (.ret (.const (.bl false))) .nil) .nil) (.cons (.asg (.name 9) (.comp [10] (.name 10) (.range2 (.blt .max2 (.cons (.const (.int 0)) (.cons (.bin .Sub (.var 1) (.const (.int 1))) .nil))) (.bin .Add (.blt .min2 (.cons (.const (.int 8)) (.cons (.bin .Add (.var 1) (.const (.int 1))) .nil))) (.const (.int 1)))) (.const (.bl true)) (.call "_law_holds" (.cons (.call "row_web" (.cons (.var 10) .nil)) (.cons (.tup .nil) (.cons (.var 8) .nil)))))) (.cons (.ret (.cmp .Eq (.var 9) (.comp [10] (.name 10) (.range2 (.blt .max2 (.cons (.const (.int 0)) (.cons (.bin .Sub (.var 1) (.const (.int 1))) .nil))) (.bin .Add (.blt .min2 (.cons (.const (.int 8)) (.cons (.bin .Add (.var 1) (.const (.int 1))) .nil))) (.const (.int 1)))) (.const (.bl true)) (.cmp .Eq (.var 10) (.var 1))))) .nil))))))))))))))))))⟩
def F_law : Fn := ⟨"law", ["script"], [false], [], 2, (.cons (.ret (.blt .all (.cons (.comp [1] (.name 1) (.range1 (.blt .max2 (.cons (.const (.int 1)) (.cons (.blt .min2 (.cons (.const (.int 3)) (.cons (.blt .len (.cons (.var 0) .nil)) .nil))) .nil)))) (.const (.bl true)) (.call "_law_right" (.cons (.call "_law_pot" (.cons (.var 0) (.cons (.var 1) .nil))) .nil))) .nil))) .nil)⟩
def prog : Pg := ⟨[F_is_integer, F_is_count, F_want_many, F_plain_web, F_row_arcs, F_long_enough, F_are_near, F_part_depth, F_at_least, F_row_web, F_rows_part_at, F_at_least_row, F_just_row, F__law_pot, F__law_draw, F__law_is, F__law_holds, F__law_depth, F__law_nodes, F__law_told, F__law_mixed, F__law_right, F_law], [("WEB", (.str "web")), ("MOST_PLACES", (.int 8)), ("MOST_NUMBER", (.int 999)), ("MOST_SENTENCE", (.int 15))], 100000⟩
def shapes : List (Str × Nat × List Str) := [("is_integer", 1, []), ("is_count", 1, []), ("long_enough", 1, []), ("are_near", 3, []), ("at_least", 4, []), ("want_many", 2, []), ("plain_web", 2, []), ("row_arcs", 1, []), ("part_depth", 2, []), ("_law_is", 2, []), ("_law_holds", 3, []), ("_law_depth", 1, []), ("_law_nodes", 1, []), ("_law_told", 4, []), ("_law_draw", 2, []), ("row_web", 1, []), ("_law_mixed", 2, []), ("rows_part_at", 2, []), ("at_least_row", 1, []), ("at_least_row", 0, ["many"]), ("just_row", 1, []), ("just_row", 0, ["many"]), ("_law_right", 1, []), ("_law_pot", 2, [])]
def zs : List Str := ["abs", "all", "bool", "divmod", "int", "isinstance", "len", "list", "max", "min", "range", "sorted", "str", "sum", "tuple"]
def gi : Gi := ⟨prog, zs, shapes⟩
def d0 : Df := ⟨"is_integer", top 4, ["value"]⟩
theorem ok0 : DfOk gi d0 F_is_integer := ⟨rfl, ⟨rfl, rfl, rfl, by decide +kernel, rfl, by decide +kernel, by decide +kernel⟩, rfl, rfl, rfl⟩
def d1 : Df := ⟨"is_count", top 5, ["value"]⟩
theorem ok1 : DfOk gi d1 F_is_count := ⟨rfl, ⟨rfl, rfl, rfl, by decide +kernel, rfl, by decide +kernel, by decide +kernel⟩, rfl, rfl, rfl⟩
def d2 : Df := ⟨"want_many", top 6, ["value", "most", "least"]⟩
theorem ok2 : DfOk gi d2 F_want_many := ⟨rfl, ⟨rfl, rfl, rfl, by decide +kernel, rfl, by decide +kernel, by decide +kernel⟩, rfl, rfl, rfl⟩
def d3 : Df := ⟨"plain_web", top 12, ["many", "arcs"]⟩
theorem ok3 : DfOk gi d3 F_plain_web := ⟨rfl, ⟨rfl, rfl, rfl, by decide +kernel, rfl, by decide +kernel, by decide +kernel⟩, rfl, rfl, rfl⟩
def d4 : Df := ⟨"row_arcs", top 13, ["many", "found", "one", "other"]⟩
theorem ok4 : DfOk gi d4 F_row_arcs := ⟨rfl, ⟨rfl, rfl, rfl, by decide +kernel, rfl, by decide +kernel, by decide +kernel⟩, rfl, rfl, rfl⟩
def d5 : Df := ⟨"long_enough", top 14, ["depth", "found", "turn"]⟩
theorem ok5 : DfOk gi d5 F_long_enough := ⟨rfl, ⟨rfl, rfl, rfl, by decide +kernel, rfl, by decide +kernel, by decide +kernel⟩, rfl, rfl, rfl⟩
def d6 : Df := ⟨"are_near", top 15, ["many", "number", "depth"]⟩
theorem ok6 : DfOk gi d6 F_are_near := ⟨rfl, ⟨rfl, rfl, rfl, by decide +kernel, rfl, by decide +kernel, by decide +kernel⟩, rfl, rfl, rfl⟩
def d7 : Df := ⟨"part_depth", top 16, ["many", "number", "depth"]⟩
theorem ok7 : DfOk gi d7 F_part_depth := ⟨rfl, ⟨rfl, rfl, rfl, by decide +kernel, rfl, by decide +kernel, by decide +kernel⟩, rfl, rfl, rfl⟩
def d8 : Df := ⟨"at_least", top 17, ["many", "names", "low", "high", "near", "parts", "far"]⟩
theorem ok8 : DfOk gi d8 F_at_least := ⟨rfl, ⟨rfl, rfl, rfl, by decide +kernel, rfl, by decide +kernel, by decide +kernel⟩, rfl, rfl, rfl⟩
def d9 : Df := ⟨"row_web", top 18, ["many"]⟩
theorem ok9 : DfOk gi d9 F_row_web := ⟨rfl, ⟨rfl, rfl, rfl, by decide +kernel, rfl, by decide +kernel, by decide +kernel⟩, rfl, rfl, rfl⟩
def d10 : Df := ⟨"rows_part_at", top 19, ["many", "number"]⟩
theorem ok10 : DfOk gi d10 F_rows_part_at := ⟨rfl, ⟨rfl, rfl, rfl, by decide +kernel, rfl, by decide +kernel, by decide +kernel⟩, rfl, rfl, rfl⟩
def d11 : Df := ⟨"at_least_row", top 20, ["many"]⟩
theorem ok11 : DfOk gi d11 F_at_least_row := ⟨rfl, ⟨rfl, rfl, rfl, by decide +kernel, rfl, by decide +kernel, by decide +kernel⟩, rfl, rfl, rfl⟩
def d12 : Df := ⟨"just_row", top 21, ["many"]⟩
theorem ok12 : DfOk gi d12 F_just_row := ⟨rfl, ⟨rfl, rfl, rfl, by decide +kernel, rfl, by decide +kernel, by decide +kernel⟩, rfl, rfl, rfl⟩
def d13 : Df := ⟨"_law_pot", top 23, ["script", "k", "cell", "some"]⟩
theorem ok13 : DfOk gi d13 F__law_pot := ⟨rfl, ⟨rfl, rfl, rfl, by decide +kernel, rfl, by decide +kernel, by decide +kernel⟩, rfl, rfl, rfl⟩
def d14 : Df := ⟨"_law_draw", top 24, ["pot", "sides", "digit"]⟩
theorem ok14 : DfOk gi d14 F__law_draw := ⟨rfl, ⟨rfl, rfl, rfl, by decide +kernel, rfl, by decide +kernel, by decide +kernel⟩, rfl, rfl, rfl⟩
def d15 : Df := ⟨"_law_is", top 26, ["told", "due", "alike", "at"]⟩
theorem ok15 : DfOk gi d15 F__law_is := ⟨rfl, ⟨rfl, rfl, rfl, by decide +kernel, rfl, by decide +kernel, by decide +kernel⟩, rfl, rfl, rfl⟩
def d16 : Df := ⟨"_law_holds", top 27, ["web", "spots", "formula", "word", "some", "place", "one"]⟩
theorem ok16 : DfOk gi d16 F__law_holds := ⟨rfl, ⟨rfl, rfl, rfl, by decide +kernel, rfl, by decide +kernel, by decide +kernel⟩, rfl, rfl, rfl⟩
def d17 : Df := ⟨"_law_depth", top 28, ["formula", "one"]⟩
theorem ok17 : DfOk gi d17 F__law_depth := ⟨rfl, ⟨rfl, rfl, rfl, by decide +kernel, rfl, by decide +kernel, by decide +kernel⟩, rfl, rfl, rfl⟩
def d18 : Df := ⟨"_law_nodes", top 29, ["formula", "one"]⟩
theorem ok18 : DfOk gi d18 F__law_nodes := ⟨rfl, ⟨rfl, rfl, rfl, by decide +kernel, rfl, by decide +kernel, by decide +kernel⟩, rfl, rfl, rfl⟩
def d19 : Df := ⟨"_law_told", top 30, ["many", "names", "low", "high", "parts", "half"]⟩
theorem ok19 : DfOk gi d19 F__law_told := ⟨rfl, ⟨rfl, rfl, rfl, by decide +kernel, rfl, by decide +kernel, by decide +kernel⟩, rfl, rfl, rfl⟩
def d20 : Df := ⟨"_law_mixed", top 31, ["pot", "many", "left", "found"]⟩
theorem ok20 : DfOk gi d20 F__law_mixed := ⟨rfl, ⟨rfl, rfl, rfl, by decide +kernel, rfl, by decide +kernel, by decide +kernel⟩, rfl, rfl, rfl⟩
def d21 : Df := ⟨"_law_right", top 32, ["pot", "many", "least", "deep", "number", "web", "names", "late", "just", "told", "one", "other"]⟩
theorem ok21 : DfOk gi d21 F__law_right := ⟨rfl, ⟨rfl, rfl, rfl, by decide +kernel, rfl, by decide +kernel, by decide +kernel⟩, rfl, rfl, rfl⟩
def d22 : Df := ⟨"law", top 33, ["script", "k"]⟩
theorem ok22 : DfOk gi d22 F_law := ⟨rfl, ⟨rfl, rfl, rfl, by decide +kernel, rfl, by decide +kernel, by decide +kernel⟩, rfl, rfl, rfl⟩
section
variable {K : PySem.W.Frag} {w : World} {mg : Str → Option Value} {h : Heap}
theorem at0 {f : Addr} {fd : FuncData} (F : FnAt K d0 F_is_integer f fd) (hm : mg "is_integer" = some (.ref f)) : Rec.Ok gi K w mg ⟨F_is_integer, d0, f, fd⟩ where
  base := ⟨rfl, hm, ok0, F⟩
  pos := fun _ _ => pos_none (F.bindsN fun _ _ _ _ _ _ us hl => match us, hl with | [_], _ => rfl) rfl
  key := fun s hs => absurd (show s ∈ ([] : List (Str × Nat × List Str)) from hs) List.not_mem_nil
theorem at1 {f : Addr} {fd : FuncData} (F : FnAt K d1 F_is_count f fd) (hm : mg "is_count" = some (.ref f)) : Rec.Ok gi K w mg ⟨F_is_count, d1, f, fd⟩ where
  base := ⟨rfl, hm, ok1, F⟩
  pos := fun _ _ => pos_none (F.bindsN fun _ _ _ _ _ _ us hl => match us, hl with | [_], _ => rfl) rfl
  key := fun s hs => absurd (show s ∈ ([] : List (Str × Nat × List Str)) from hs) List.not_mem_nil
theorem at2 {f : Addr} {fd : FuncData} (F : FnAt K d2 F_want_many f fd) (hm : mg "want_many" = some (.ref f)) : Rec.Ok gi K w mg ⟨F_want_many, d2, f, fd⟩ where
  base := ⟨rfl, hm, ok2, F⟩
  pos := fun s hs => by
    replace hs : s ∈ ([("want_many", 2, [])] : List (Str × Nat × List Str)) := hs
    simp only [List.mem_cons, List.not_mem_nil, or_false] at hs
    rcases hs with rfl
    · obtain ⟨dsv, v, b⟩ := F.binds1 (ps := F_want_many.ps) 2 0 (fun z => nomatch z) rfl fun _ _ _ _ _ _ _ us its h1 h2 => match us, its, h1, h2 with | [_, _], [_], _, _ => ⟨_, rfl, rfl⟩
      exact ⟨dsv, _, b, v, fun F => dV_rp (ds := F_want_many.dfl.drop 0) (by simp [F_want_many])⟩
  key := fun s hs => absurd (show s ∈ ([] : List (Str × Nat × List Str)) from hs) List.not_mem_nil
theorem at3 {f : Addr} {fd : FuncData} (F : FnAt K d3 F_plain_web f fd) (hm : mg "plain_web" = some (.ref f)) : Rec.Ok gi K w mg ⟨F_plain_web, d3, f, fd⟩ where
  base := ⟨rfl, hm, ok3, F⟩
  pos := fun _ _ => pos_none (F.bindsN fun _ _ _ _ _ _ us hl => match us, hl with | [_, _], _ => rfl) rfl
  key := fun s hs => absurd (show s ∈ ([] : List (Str × Nat × List Str)) from hs) List.not_mem_nil
theorem at4 {f : Addr} {fd : FuncData} (F : FnAt K d4 F_row_arcs f fd) (hm : mg "row_arcs" = some (.ref f)) : Rec.Ok gi K w mg ⟨F_row_arcs, d4, f, fd⟩ where
  base := ⟨rfl, hm, ok4, F⟩
  pos := fun _ _ => pos_none (F.bindsN fun _ _ _ _ _ _ us hl => match us, hl with | [_], _ => rfl) rfl
  key := fun s hs => absurd (show s ∈ ([] : List (Str × Nat × List Str)) from hs) List.not_mem_nil
theorem at5 {f : Addr} {fd : FuncData} (F : FnAt K d5 F_long_enough f fd) (hm : mg "long_enough" = some (.ref f)) : Rec.Ok gi K w mg ⟨F_long_enough, d5, f, fd⟩ where
  base := ⟨rfl, hm, ok5, F⟩
  pos := fun _ _ => pos_none (F.bindsN fun _ _ _ _ _ _ us hl => match us, hl with | [_], _ => rfl) rfl
  key := fun s hs => absurd (show s ∈ ([] : List (Str × Nat × List Str)) from hs) List.not_mem_nil
theorem at6 {f : Addr} {fd : FuncData} (F : FnAt K d6 F_are_near f fd) (hm : mg "are_near" = some (.ref f)) : Rec.Ok gi K w mg ⟨F_are_near, d6, f, fd⟩ where
  base := ⟨rfl, hm, ok6, F⟩
  pos := fun _ _ => pos_none (F.bindsN fun _ _ _ _ _ _ us hl => match us, hl with | [_, _, _], _ => rfl) rfl
  key := fun s hs => absurd (show s ∈ ([] : List (Str × Nat × List Str)) from hs) List.not_mem_nil
theorem at7 {f : Addr} {fd : FuncData} (F : FnAt K d7 F_part_depth f fd) (hm : mg "part_depth" = some (.ref f)) : Rec.Ok gi K w mg ⟨F_part_depth, d7, f, fd⟩ where
  base := ⟨rfl, hm, ok7, F⟩
  pos := fun _ _ => pos_none (F.bindsN fun _ _ _ _ _ _ us hl => match us, hl with | [_, _], _ => rfl) rfl
  key := fun s hs => absurd (show s ∈ ([] : List (Str × Nat × List Str)) from hs) List.not_mem_nil
theorem at8 {f : Addr} {fd : FuncData} (F : FnAt K d8 F_at_least f fd) (hm : mg "at_least" = some (.ref f)) : Rec.Ok gi K w mg ⟨F_at_least, d8, f, fd⟩ where
  base := ⟨rfl, hm, ok8, F⟩
  pos := fun _ _ => pos_none (F.bindsN fun _ _ _ _ _ _ us hl => match us, hl with | [_, _, _, _], _ => rfl) rfl
  key := fun s hs => absurd (show s ∈ ([] : List (Str × Nat × List Str)) from hs) List.not_mem_nil
theorem at9 {f : Addr} {fd : FuncData} (F : FnAt K d9 F_row_web f fd) (hm : mg "row_web" = some (.ref f)) : Rec.Ok gi K w mg ⟨F_row_web, d9, f, fd⟩ where
  base := ⟨rfl, hm, ok9, F⟩
  pos := fun _ _ => pos_none (F.bindsN fun _ _ _ _ _ _ us hl => match us, hl with | [_], _ => rfl) rfl
  key := fun s hs => absurd (show s ∈ ([] : List (Str × Nat × List Str)) from hs) List.not_mem_nil
theorem at10 {f : Addr} {fd : FuncData} (F : FnAt K d10 F_rows_part_at f fd) (hm : mg "rows_part_at" = some (.ref f)) : Rec.Ok gi K w mg ⟨F_rows_part_at, d10, f, fd⟩ where
  base := ⟨rfl, hm, ok10, F⟩
  pos := fun _ _ => pos_none (F.bindsN fun _ _ _ _ _ _ us hl => match us, hl with | [_, _], _ => rfl) rfl
  key := fun s hs => absurd (show s ∈ ([] : List (Str × Nat × List Str)) from hs) List.not_mem_nil
theorem at11 {f : Addr} {fd : FuncData} (F : FnAt K d11 F_at_least_row f fd) (hm : mg "at_least_row" = some (.ref f)) : Rec.Ok gi K w mg ⟨F_at_least_row, d11, f, fd⟩ where
  base := ⟨rfl, hm, ok11, F⟩
  pos := fun _ _ => pos_none (F.bindsN fun _ _ _ _ _ _ us hl => match us, hl with | [_], _ => rfl) rfl
  key := fun s hs => by
    replace hs : s ∈ ([("at_least_row", 0, ["many"])] : List (Str × Nat × List Str)) := hs
    simp only [List.mem_cons, List.not_mem_nil, or_false] at hs
    rcases hs with rfl
    · exact FunD.kb F fun _ _ _ _ _ _ us ws all ix h1 h2 h3 h4 => by
        rw [show orderIx F_at_least_row.ps 0 ["many"] = some [0] from rfl] at h3
        cases h3
        match us, ws, h1, h2, h4 with
        | [], [v0], _, _, h4 => cases h4; rfl
theorem at12 {f : Addr} {fd : FuncData} (F : FnAt K d12 F_just_row f fd) (hm : mg "just_row" = some (.ref f)) : Rec.Ok gi K w mg ⟨F_just_row, d12, f, fd⟩ where
  base := ⟨rfl, hm, ok12, F⟩
  pos := fun _ _ => pos_none (F.bindsN fun _ _ _ _ _ _ us hl => match us, hl with | [_], _ => rfl) rfl
  key := fun s hs => by
    replace hs : s ∈ ([("just_row", 0, ["many"])] : List (Str × Nat × List Str)) := hs
    simp only [List.mem_cons, List.not_mem_nil, or_false] at hs
    rcases hs with rfl
    · exact FunD.kb F fun _ _ _ _ _ _ us ws all ix h1 h2 h3 h4 => by
        rw [show orderIx F_just_row.ps 0 ["many"] = some [0] from rfl] at h3
        cases h3
        match us, ws, h1, h2, h4 with
        | [], [v0], _, _, h4 => cases h4; rfl
theorem at13 {f : Addr} {fd : FuncData} (F : FnAt K d13 F__law_pot f fd) (hm : mg "_law_pot" = some (.ref f)) : Rec.Ok gi K w mg ⟨F__law_pot, d13, f, fd⟩ where
  base := ⟨rfl, hm, ok13, F⟩
  pos := fun _ _ => pos_none (F.bindsN fun _ _ _ _ _ _ us hl => match us, hl with | [_, _], _ => rfl) rfl
  key := fun s hs => absurd (show s ∈ ([] : List (Str × Nat × List Str)) from hs) List.not_mem_nil
theorem at14 {f : Addr} {fd : FuncData} (F : FnAt K d14 F__law_draw f fd) (hm : mg "_law_draw" = some (.ref f)) : Rec.Ok gi K w mg ⟨F__law_draw, d14, f, fd⟩ where
  base := ⟨rfl, hm, ok14, F⟩
  pos := fun _ _ => pos_none (F.bindsN fun _ _ _ _ _ _ us hl => match us, hl with | [_, _], _ => rfl) rfl
  key := fun s hs => absurd (show s ∈ ([] : List (Str × Nat × List Str)) from hs) List.not_mem_nil
theorem at15 {f : Addr} {fd : FuncData} (F : FnAt K d15 F__law_is f fd) (hm : mg "_law_is" = some (.ref f)) : Rec.Ok gi K w mg ⟨F__law_is, d15, f, fd⟩ where
  base := ⟨rfl, hm, ok15, F⟩
  pos := fun _ _ => pos_none (F.bindsN fun _ _ _ _ _ _ us hl => match us, hl with | [_, _], _ => rfl) rfl
  key := fun s hs => absurd (show s ∈ ([] : List (Str × Nat × List Str)) from hs) List.not_mem_nil
theorem at16 {f : Addr} {fd : FuncData} (F : FnAt K d16 F__law_holds f fd) (hm : mg "_law_holds" = some (.ref f)) : Rec.Ok gi K w mg ⟨F__law_holds, d16, f, fd⟩ where
  base := ⟨rfl, hm, ok16, F⟩
  pos := fun _ _ => pos_none (F.bindsN fun _ _ _ _ _ _ us hl => match us, hl with | [_, _, _], _ => rfl) rfl
  key := fun s hs => absurd (show s ∈ ([] : List (Str × Nat × List Str)) from hs) List.not_mem_nil
theorem at17 {f : Addr} {fd : FuncData} (F : FnAt K d17 F__law_depth f fd) (hm : mg "_law_depth" = some (.ref f)) : Rec.Ok gi K w mg ⟨F__law_depth, d17, f, fd⟩ where
  base := ⟨rfl, hm, ok17, F⟩
  pos := fun _ _ => pos_none (F.bindsN fun _ _ _ _ _ _ us hl => match us, hl with | [_], _ => rfl) rfl
  key := fun s hs => absurd (show s ∈ ([] : List (Str × Nat × List Str)) from hs) List.not_mem_nil
theorem at18 {f : Addr} {fd : FuncData} (F : FnAt K d18 F__law_nodes f fd) (hm : mg "_law_nodes" = some (.ref f)) : Rec.Ok gi K w mg ⟨F__law_nodes, d18, f, fd⟩ where
  base := ⟨rfl, hm, ok18, F⟩
  pos := fun _ _ => pos_none (F.bindsN fun _ _ _ _ _ _ us hl => match us, hl with | [_], _ => rfl) rfl
  key := fun s hs => absurd (show s ∈ ([] : List (Str × Nat × List Str)) from hs) List.not_mem_nil
theorem at19 {f : Addr} {fd : FuncData} (F : FnAt K d19 F__law_told f fd) (hm : mg "_law_told" = some (.ref f)) : Rec.Ok gi K w mg ⟨F__law_told, d19, f, fd⟩ where
  base := ⟨rfl, hm, ok19, F⟩
  pos := fun _ _ => pos_none (F.bindsN fun _ _ _ _ _ _ us hl => match us, hl with | [_, _, _, _], _ => rfl) rfl
  key := fun s hs => absurd (show s ∈ ([] : List (Str × Nat × List Str)) from hs) List.not_mem_nil
theorem at20 {f : Addr} {fd : FuncData} (F : FnAt K d20 F__law_mixed f fd) (hm : mg "_law_mixed" = some (.ref f)) : Rec.Ok gi K w mg ⟨F__law_mixed, d20, f, fd⟩ where
  base := ⟨rfl, hm, ok20, F⟩
  pos := fun _ _ => pos_none (F.bindsN fun _ _ _ _ _ _ us hl => match us, hl with | [_, _], _ => rfl) rfl
  key := fun s hs => absurd (show s ∈ ([] : List (Str × Nat × List Str)) from hs) List.not_mem_nil
theorem at21 {f : Addr} {fd : FuncData} (F : FnAt K d21 F__law_right f fd) (hm : mg "_law_right" = some (.ref f)) : Rec.Ok gi K w mg ⟨F__law_right, d21, f, fd⟩ where
  base := ⟨rfl, hm, ok21, F⟩
  pos := fun _ _ => pos_none (F.bindsN fun _ _ _ _ _ _ us hl => match us, hl with | [_], _ => rfl) rfl
  key := fun s hs => absurd (show s ∈ ([] : List (Str × Nat × List Str)) from hs) List.not_mem_nil
theorem at22 {f : Addr} {fd : FuncData} (F : FnAt K d22 F_law f fd) (hm : mg "law" = some (.ref f)) : Rec.Ok gi K w mg ⟨F_law, d22, f, fd⟩ where
  base := ⟨rfl, hm, ok22, F⟩
  pos := fun _ _ => pos_none (F.bindsN fun _ _ _ _ _ _ us hl => match us, hl with | [_], _ => rfl) rfl
  key := fun s hs => absurd (show s ∈ ([] : List (Str × Nat × List Str)) from hs) List.not_mem_nil
end
theorem all_mk {l : PySem.W.OpenLaw} {w : World} {K : PySem.W.Frag} {h : Heap} {mg : Str → Option Value} {fa : Addr} (X : K.In h) (G : h.Ns mainGlobals mg) (hfa : mg "law" = some (.ref fa))
    {f0 f1 f2 T2 f3 f4 f5 f6 f7 f8 f9 f10 f11 f12 f13 f14 f15 f16 f17 f18 f19 f20 f21 f22 : Addr} {od0 an0 od1 an1 od2 an2 td2 od3 an3 od4 an4 od5 an5 od6 an6 od7 an7 od8 an8 od9 an9 od10 an10 od11 an11 od12 an12 od13 an13 od14 an14 od15 an15 od16 an16 od17 an17 od18 an18 od19 an19 od20 an20 od21 an21 od22 an22 : Option Addr} {sl0 sl1 sl2 tsl2 sl3 sl4 sl5 sl6 sl7 sl8 sl9 sl10 sl11 sl12 sl13 sl14 sl15 sl16 sl17 sl18 sl19 sl20 sl21 sl22 : Array (Option Value)} {oc0 kV0 dc0 pm0 cd0 ct0 oc1 kV1 dc1 pm1 cd1 ct1 oc2 kV2 dc2 pm2 cd2 ct2 tc2 oc3 kV3 dc3 pm3 cd3 ct3 oc4 kV4 dc4 pm4 cd4 ct4 oc5 kV5 dc5 pm5 cd5 ct5 oc6 kV6 dc6 pm6 cd6 ct6 oc7 kV7 dc7 pm7 cd7 ct7 oc8 kV8 dc8 pm8 cd8 ct8 oc9 kV9 dc9 pm9 cd9 ct9 oc10 kV10 dc10 pm10 cd10 ct10 oc11 kV11 dc11 pm11 cd11 ct11 oc12 kV12 dc12 pm12 cd12 ct12 oc13 kV13 dc13 pm13 cd13 ct13 oc14 kV14 dc14 pm14 cd14 ct14 oc15 kV15 dc15 pm15 cd15 ct15 oc16 kV16 dc16 pm16 cd16 ct16 oc17 kV17 dc17 pm17 cd17 ct17 oc18 kV18 dc18 pm18 cd18 ct18 oc19 kV19 dc19 pm19 cd19 ct19 oc20 kV20 dc20 pm20 cd20 ct20 oc21 kV21 dc21 pm21 cd21 ct21 oc22 kV22 dc22 pm22 cd22 ct22 : Value} {tk2_0 g0 g1 g2 g3 : Tok} {n2 : Nat}
    (a0 : PySem.W.nsIn K mainGlobals "is_integer" = some (some (.ref f0))) (l0 : K.lookup f0 = some ⟨oc0, od0, .func (PySem.W.fnOf "is_integer" "is_integer" (defArgs d0.st) (defBody d0.st) (defScope d0.st) .none kV0 dc0 pm0 an0 cd0 ct0), sl0⟩) (c0 : PySem.W.codeIn K cd0 "is_integer" = true) (k0 : PySem.W.keepIn K (.ref f0) = true)
    (a1 : PySem.W.nsIn K mainGlobals "is_count" = some (some (.ref f1))) (l1 : K.lookup f1 = some ⟨oc1, od1, .func (PySem.W.fnOf "is_count" "is_count" (defArgs d1.st) (defBody d1.st) (defScope d1.st) .none kV1 dc1 pm1 an1 cd1 ct1), sl1⟩) (c1 : PySem.W.codeIn K cd1 "is_count" = true) (k1 : PySem.W.keepIn K (.ref f1) = true)
    (a2 : PySem.W.nsIn K mainGlobals "want_many" = some (some (.ref f2))) (l2 : K.lookup f2 = some ⟨oc2, od2, .func (PySem.W.fnOf "want_many" "want_many" (defArgs d2.st) (defBody d2.st) (defScope d2.st) (.ref T2) kV2 dc2 pm2 an2 cd2 ct2), sl2⟩) (c2 : PySem.W.codeIn K cd2 "want_many" = true) (k2 : PySem.W.keepIn K (.ref f2) = true)
    (t2 : K.lookup T2 = some ⟨tc2, td2, .seq #[.int 0 tk2_0] n2, tsl2⟩)
    (a3 : PySem.W.nsIn K mainGlobals "plain_web" = some (some (.ref f3))) (l3 : K.lookup f3 = some ⟨oc3, od3, .func (PySem.W.fnOf "plain_web" "plain_web" (defArgs d3.st) (defBody d3.st) (defScope d3.st) .none kV3 dc3 pm3 an3 cd3 ct3), sl3⟩) (c3 : PySem.W.codeIn K cd3 "plain_web" = true) (k3 : PySem.W.keepIn K (.ref f3) = true)
    (a4 : PySem.W.nsIn K mainGlobals "row_arcs" = some (some (.ref f4))) (l4 : K.lookup f4 = some ⟨oc4, od4, .func (PySem.W.fnOf "row_arcs" "row_arcs" (defArgs d4.st) (defBody d4.st) (defScope d4.st) .none kV4 dc4 pm4 an4 cd4 ct4), sl4⟩) (c4 : PySem.W.codeIn K cd4 "row_arcs" = true) (k4 : PySem.W.keepIn K (.ref f4) = true)
    (a5 : PySem.W.nsIn K mainGlobals "long_enough" = some (some (.ref f5))) (l5 : K.lookup f5 = some ⟨oc5, od5, .func (PySem.W.fnOf "long_enough" "long_enough" (defArgs d5.st) (defBody d5.st) (defScope d5.st) .none kV5 dc5 pm5 an5 cd5 ct5), sl5⟩) (c5 : PySem.W.codeIn K cd5 "long_enough" = true) (k5 : PySem.W.keepIn K (.ref f5) = true)
    (a6 : PySem.W.nsIn K mainGlobals "are_near" = some (some (.ref f6))) (l6 : K.lookup f6 = some ⟨oc6, od6, .func (PySem.W.fnOf "are_near" "are_near" (defArgs d6.st) (defBody d6.st) (defScope d6.st) .none kV6 dc6 pm6 an6 cd6 ct6), sl6⟩) (c6 : PySem.W.codeIn K cd6 "are_near" = true) (k6 : PySem.W.keepIn K (.ref f6) = true)
    (a7 : PySem.W.nsIn K mainGlobals "part_depth" = some (some (.ref f7))) (l7 : K.lookup f7 = some ⟨oc7, od7, .func (PySem.W.fnOf "part_depth" "part_depth" (defArgs d7.st) (defBody d7.st) (defScope d7.st) .none kV7 dc7 pm7 an7 cd7 ct7), sl7⟩) (c7 : PySem.W.codeIn K cd7 "part_depth" = true) (k7 : PySem.W.keepIn K (.ref f7) = true)
    (a8 : PySem.W.nsIn K mainGlobals "at_least" = some (some (.ref f8))) (l8 : K.lookup f8 = some ⟨oc8, od8, .func (PySem.W.fnOf "at_least" "at_least" (defArgs d8.st) (defBody d8.st) (defScope d8.st) .none kV8 dc8 pm8 an8 cd8 ct8), sl8⟩) (c8 : PySem.W.codeIn K cd8 "at_least" = true) (k8 : PySem.W.keepIn K (.ref f8) = true)
    (a9 : PySem.W.nsIn K mainGlobals "row_web" = some (some (.ref f9))) (l9 : K.lookup f9 = some ⟨oc9, od9, .func (PySem.W.fnOf "row_web" "row_web" (defArgs d9.st) (defBody d9.st) (defScope d9.st) .none kV9 dc9 pm9 an9 cd9 ct9), sl9⟩) (c9 : PySem.W.codeIn K cd9 "row_web" = true) (k9 : PySem.W.keepIn K (.ref f9) = true)
    (a10 : PySem.W.nsIn K mainGlobals "rows_part_at" = some (some (.ref f10))) (l10 : K.lookup f10 = some ⟨oc10, od10, .func (PySem.W.fnOf "rows_part_at" "rows_part_at" (defArgs d10.st) (defBody d10.st) (defScope d10.st) .none kV10 dc10 pm10 an10 cd10 ct10), sl10⟩) (c10 : PySem.W.codeIn K cd10 "rows_part_at" = true) (k10 : PySem.W.keepIn K (.ref f10) = true)
    (a11 : PySem.W.nsIn K mainGlobals "at_least_row" = some (some (.ref f11))) (l11 : K.lookup f11 = some ⟨oc11, od11, .func (PySem.W.fnOf "at_least_row" "at_least_row" (defArgs d11.st) (defBody d11.st) (defScope d11.st) .none kV11 dc11 pm11 an11 cd11 ct11), sl11⟩) (c11 : PySem.W.codeIn K cd11 "at_least_row" = true) (k11 : PySem.W.keepIn K (.ref f11) = true)
    (a12 : PySem.W.nsIn K mainGlobals "just_row" = some (some (.ref f12))) (l12 : K.lookup f12 = some ⟨oc12, od12, .func (PySem.W.fnOf "just_row" "just_row" (defArgs d12.st) (defBody d12.st) (defScope d12.st) .none kV12 dc12 pm12 an12 cd12 ct12), sl12⟩) (c12 : PySem.W.codeIn K cd12 "just_row" = true) (k12 : PySem.W.keepIn K (.ref f12) = true)
    (a13 : PySem.W.nsIn K mainGlobals "_law_pot" = some (some (.ref f13))) (l13 : K.lookup f13 = some ⟨oc13, od13, .func (PySem.W.fnOf "_law_pot" "_law_pot" (defArgs d13.st) (defBody d13.st) (defScope d13.st) .none kV13 dc13 pm13 an13 cd13 ct13), sl13⟩) (c13 : PySem.W.codeIn K cd13 "_law_pot" = true) (k13 : PySem.W.keepIn K (.ref f13) = true)
    (a14 : PySem.W.nsIn K mainGlobals "_law_draw" = some (some (.ref f14))) (l14 : K.lookup f14 = some ⟨oc14, od14, .func (PySem.W.fnOf "_law_draw" "_law_draw" (defArgs d14.st) (defBody d14.st) (defScope d14.st) .none kV14 dc14 pm14 an14 cd14 ct14), sl14⟩) (c14 : PySem.W.codeIn K cd14 "_law_draw" = true) (k14 : PySem.W.keepIn K (.ref f14) = true)
    (a15 : PySem.W.nsIn K mainGlobals "_law_is" = some (some (.ref f15))) (l15 : K.lookup f15 = some ⟨oc15, od15, .func (PySem.W.fnOf "_law_is" "_law_is" (defArgs d15.st) (defBody d15.st) (defScope d15.st) .none kV15 dc15 pm15 an15 cd15 ct15), sl15⟩) (c15 : PySem.W.codeIn K cd15 "_law_is" = true) (k15 : PySem.W.keepIn K (.ref f15) = true)
    (a16 : PySem.W.nsIn K mainGlobals "_law_holds" = some (some (.ref f16))) (l16 : K.lookup f16 = some ⟨oc16, od16, .func (PySem.W.fnOf "_law_holds" "_law_holds" (defArgs d16.st) (defBody d16.st) (defScope d16.st) .none kV16 dc16 pm16 an16 cd16 ct16), sl16⟩) (c16 : PySem.W.codeIn K cd16 "_law_holds" = true) (k16 : PySem.W.keepIn K (.ref f16) = true)
    (a17 : PySem.W.nsIn K mainGlobals "_law_depth" = some (some (.ref f17))) (l17 : K.lookup f17 = some ⟨oc17, od17, .func (PySem.W.fnOf "_law_depth" "_law_depth" (defArgs d17.st) (defBody d17.st) (defScope d17.st) .none kV17 dc17 pm17 an17 cd17 ct17), sl17⟩) (c17 : PySem.W.codeIn K cd17 "_law_depth" = true) (k17 : PySem.W.keepIn K (.ref f17) = true)
    (a18 : PySem.W.nsIn K mainGlobals "_law_nodes" = some (some (.ref f18))) (l18 : K.lookup f18 = some ⟨oc18, od18, .func (PySem.W.fnOf "_law_nodes" "_law_nodes" (defArgs d18.st) (defBody d18.st) (defScope d18.st) .none kV18 dc18 pm18 an18 cd18 ct18), sl18⟩) (c18 : PySem.W.codeIn K cd18 "_law_nodes" = true) (k18 : PySem.W.keepIn K (.ref f18) = true)
    (a19 : PySem.W.nsIn K mainGlobals "_law_told" = some (some (.ref f19))) (l19 : K.lookup f19 = some ⟨oc19, od19, .func (PySem.W.fnOf "_law_told" "_law_told" (defArgs d19.st) (defBody d19.st) (defScope d19.st) .none kV19 dc19 pm19 an19 cd19 ct19), sl19⟩) (c19 : PySem.W.codeIn K cd19 "_law_told" = true) (k19 : PySem.W.keepIn K (.ref f19) = true)
    (a20 : PySem.W.nsIn K mainGlobals "_law_mixed" = some (some (.ref f20))) (l20 : K.lookup f20 = some ⟨oc20, od20, .func (PySem.W.fnOf "_law_mixed" "_law_mixed" (defArgs d20.st) (defBody d20.st) (defScope d20.st) .none kV20 dc20 pm20 an20 cd20 ct20), sl20⟩) (c20 : PySem.W.codeIn K cd20 "_law_mixed" = true) (k20 : PySem.W.keepIn K (.ref f20) = true)
    (a21 : PySem.W.nsIn K mainGlobals "_law_right" = some (some (.ref f21))) (l21 : K.lookup f21 = some ⟨oc21, od21, .func (PySem.W.fnOf "_law_right" "_law_right" (defArgs d21.st) (defBody d21.st) (defScope d21.st) .none kV21 dc21 pm21 an21 cd21 ct21), sl21⟩) (c21 : PySem.W.codeIn K cd21 "_law_right" = true) (k21 : PySem.W.keepIn K (.ref f21) = true)
    (a22 : PySem.W.nsIn K mainGlobals "law" = some (some (.ref f22))) (l22 : K.lookup f22 = some ⟨oc22, od22, .func (PySem.W.fnOf "law" "law" (defArgs d22.st) (defBody d22.st) (defScope d22.st) .none kV22 dc22 pm22 an22 cd22 ct22), sl22⟩) (c22 : PySem.W.codeIn K cd22 "law" = true) (k22 : PySem.W.keepIn K (.ref f22) = true)
    (q0 : PySem.W.nsIn K mainGlobals "WEB" = some (some (.str "web" g0)))
    (q1 : PySem.W.nsIn K mainGlobals "MOST_PLACES" = some (some (.int 8 g1)))
    (q2 : PySem.W.nsIn K mainGlobals "MOST_NUMBER" = some (some (.int 999 g2)))
    (q3 : PySem.W.nsIn K mainGlobals "MOST_SENTENCE" = some (some (.int 15 g3)))
    (z0 : PySem.W.nsIn K mainGlobals "abs" = some none)
    (z1 : PySem.W.nsIn K mainGlobals "all" = some none)
    (z2 : PySem.W.nsIn K mainGlobals "bool" = some none)
    (z3 : PySem.W.nsIn K mainGlobals "divmod" = some none)
    (z4 : PySem.W.nsIn K mainGlobals "int" = some none)
    (z5 : PySem.W.nsIn K mainGlobals "isinstance" = some none)
    (z6 : PySem.W.nsIn K mainGlobals "len" = some none)
    (z7 : PySem.W.nsIn K mainGlobals "list" = some none)
    (z8 : PySem.W.nsIn K mainGlobals "max" = some none)
    (z9 : PySem.W.nsIn K mainGlobals "min" = some none)
    (z10 : PySem.W.nsIn K mainGlobals "range" = some none)
    (z11 : PySem.W.nsIn K mainGlobals "sorted" = some none)
    (z12 : PySem.W.nsIn K mainGlobals "str" = some none)
    (z13 : PySem.W.nsIn K mainGlobals "sum" = some none)
    (z14 : PySem.W.nsIn K mainGlobals "tuple" = some none)
    : ∃ fd : FuncData, (∀ (s : Shared) (u : Value), BindsTo s fd ⟨[u], []⟩ [("script", u)]) ∧ ∀ base : Heap, K.In base → base.Ns mainGlobals mg → GOk l.prog w K mg base 100 fa fd ["script"] (spD K w (prog.call 100 "law") [false]) := by
  obtain rfl : f22 = fa := by
    have e := (PySem.W.mg_of X G a22).symm.trans hfa
    cases e
    rfl
  have F0 : FnAt K d0 F_is_integer f0 (PySem.W.fnOf "is_integer" "is_integer" (defArgs d0.st) (defBody d0.st) (defScope d0.st) .none kV0 dc0 pm0 an0 cd0 ct0) := funD_none l0 c0 k0
  have F1 : FnAt K d1 F_is_count f1 (PySem.W.fnOf "is_count" "is_count" (defArgs d1.st) (defBody d1.st) (defScope d1.st) .none kV1 dc1 pm1 an1 cd1 ct1) := funD_none l1 c1 k1
  have F2 : FnAt K d2 F_want_many f2 (PySem.W.fnOf "want_many" "want_many" (defArgs d2.st) (defBody d2.st) (defScope d2.st) (.ref T2) kV2 dc2 pm2 an2 cd2 ct2) := funD_some (its := [.int 0 tk2_0]) l2 c2 k2 t2 (.cons ⟨_, rfl⟩ .nil) (fun z => nomatch z)
  have F3 : FnAt K d3 F_plain_web f3 (PySem.W.fnOf "plain_web" "plain_web" (defArgs d3.st) (defBody d3.st) (defScope d3.st) .none kV3 dc3 pm3 an3 cd3 ct3) := funD_none l3 c3 k3
  have F4 : FnAt K d4 F_row_arcs f4 (PySem.W.fnOf "row_arcs" "row_arcs" (defArgs d4.st) (defBody d4.st) (defScope d4.st) .none kV4 dc4 pm4 an4 cd4 ct4) := funD_none l4 c4 k4
  have F5 : FnAt K d5 F_long_enough f5 (PySem.W.fnOf "long_enough" "long_enough" (defArgs d5.st) (defBody d5.st) (defScope d5.st) .none kV5 dc5 pm5 an5 cd5 ct5) := funD_none l5 c5 k5
  have F6 : FnAt K d6 F_are_near f6 (PySem.W.fnOf "are_near" "are_near" (defArgs d6.st) (defBody d6.st) (defScope d6.st) .none kV6 dc6 pm6 an6 cd6 ct6) := funD_none l6 c6 k6
  have F7 : FnAt K d7 F_part_depth f7 (PySem.W.fnOf "part_depth" "part_depth" (defArgs d7.st) (defBody d7.st) (defScope d7.st) .none kV7 dc7 pm7 an7 cd7 ct7) := funD_none l7 c7 k7
  have F8 : FnAt K d8 F_at_least f8 (PySem.W.fnOf "at_least" "at_least" (defArgs d8.st) (defBody d8.st) (defScope d8.st) .none kV8 dc8 pm8 an8 cd8 ct8) := funD_none l8 c8 k8
  have F9 : FnAt K d9 F_row_web f9 (PySem.W.fnOf "row_web" "row_web" (defArgs d9.st) (defBody d9.st) (defScope d9.st) .none kV9 dc9 pm9 an9 cd9 ct9) := funD_none l9 c9 k9
  have F10 : FnAt K d10 F_rows_part_at f10 (PySem.W.fnOf "rows_part_at" "rows_part_at" (defArgs d10.st) (defBody d10.st) (defScope d10.st) .none kV10 dc10 pm10 an10 cd10 ct10) := funD_none l10 c10 k10
  have F11 : FnAt K d11 F_at_least_row f11 (PySem.W.fnOf "at_least_row" "at_least_row" (defArgs d11.st) (defBody d11.st) (defScope d11.st) .none kV11 dc11 pm11 an11 cd11 ct11) := funD_none l11 c11 k11
  have F12 : FnAt K d12 F_just_row f12 (PySem.W.fnOf "just_row" "just_row" (defArgs d12.st) (defBody d12.st) (defScope d12.st) .none kV12 dc12 pm12 an12 cd12 ct12) := funD_none l12 c12 k12
  have F13 : FnAt K d13 F__law_pot f13 (PySem.W.fnOf "_law_pot" "_law_pot" (defArgs d13.st) (defBody d13.st) (defScope d13.st) .none kV13 dc13 pm13 an13 cd13 ct13) := funD_none l13 c13 k13
  have F14 : FnAt K d14 F__law_draw f14 (PySem.W.fnOf "_law_draw" "_law_draw" (defArgs d14.st) (defBody d14.st) (defScope d14.st) .none kV14 dc14 pm14 an14 cd14 ct14) := funD_none l14 c14 k14
  have F15 : FnAt K d15 F__law_is f15 (PySem.W.fnOf "_law_is" "_law_is" (defArgs d15.st) (defBody d15.st) (defScope d15.st) .none kV15 dc15 pm15 an15 cd15 ct15) := funD_none l15 c15 k15
  have F16 : FnAt K d16 F__law_holds f16 (PySem.W.fnOf "_law_holds" "_law_holds" (defArgs d16.st) (defBody d16.st) (defScope d16.st) .none kV16 dc16 pm16 an16 cd16 ct16) := funD_none l16 c16 k16
  have F17 : FnAt K d17 F__law_depth f17 (PySem.W.fnOf "_law_depth" "_law_depth" (defArgs d17.st) (defBody d17.st) (defScope d17.st) .none kV17 dc17 pm17 an17 cd17 ct17) := funD_none l17 c17 k17
  have F18 : FnAt K d18 F__law_nodes f18 (PySem.W.fnOf "_law_nodes" "_law_nodes" (defArgs d18.st) (defBody d18.st) (defScope d18.st) .none kV18 dc18 pm18 an18 cd18 ct18) := funD_none l18 c18 k18
  have F19 : FnAt K d19 F__law_told f19 (PySem.W.fnOf "_law_told" "_law_told" (defArgs d19.st) (defBody d19.st) (defScope d19.st) .none kV19 dc19 pm19 an19 cd19 ct19) := funD_none l19 c19 k19
  have F20 : FnAt K d20 F__law_mixed f20 (PySem.W.fnOf "_law_mixed" "_law_mixed" (defArgs d20.st) (defBody d20.st) (defScope d20.st) .none kV20 dc20 pm20 an20 cd20 ct20) := funD_none l20 c20 k20
  have F21 : FnAt K d21 F__law_right f21 (PySem.W.fnOf "_law_right" "_law_right" (defArgs d21.st) (defBody d21.st) (defScope d21.st) .none kV21 dc21 pm21 an21 cd21 ct21) := funD_none l21 c21 k21
  have F22 : FnAt K d22 F_law f22 (PySem.W.fnOf "law" "law" (defArgs d22.st) (defBody d22.st) (defScope d22.st) .none kV22 dc22 pm22 an22 cd22 ct22) := funD_none l22 c22 k22
  let L : List Rec := [⟨F_is_integer, d0, f0, (PySem.W.fnOf "is_integer" "is_integer" (defArgs d0.st) (defBody d0.st) (defScope d0.st) .none kV0 dc0 pm0 an0 cd0 ct0)⟩, ⟨F_is_count, d1, f1, (PySem.W.fnOf "is_count" "is_count" (defArgs d1.st) (defBody d1.st) (defScope d1.st) .none kV1 dc1 pm1 an1 cd1 ct1)⟩, ⟨F_want_many, d2, f2, (PySem.W.fnOf "want_many" "want_many" (defArgs d2.st) (defBody d2.st) (defScope d2.st) (.ref T2) kV2 dc2 pm2 an2 cd2 ct2)⟩, ⟨F_plain_web, d3, f3, (PySem.W.fnOf "plain_web" "plain_web" (defArgs d3.st) (defBody d3.st) (defScope d3.st) .none kV3 dc3 pm3 an3 cd3 ct3)⟩, ⟨F_row_arcs, d4, f4, (PySem.W.fnOf "row_arcs" "row_arcs" (defArgs d4.st) (defBody d4.st) (defScope d4.st) .none kV4 dc4 pm4 an4 cd4 ct4)⟩, ⟨F_long_enough, d5, f5, (PySem.W.fnOf "long_enough" "long_enough" (defArgs d5.st) (defBody d5.st) (defScope d5.st) .none kV5 dc5 pm5 an5 cd5 ct5)⟩, ⟨F_are_near, d6, f6, (PySem.W.fnOf "are_near" "are_near" (defArgs d6.st) (defBody d6.st) (defScope d6.st) .none kV6 dc6 pm6 an6 cd6 ct6)⟩, ⟨F_part_depth, d7, f7, (PySem.W.fnOf "part_depth" "part_depth" (defArgs d7.st) (defBody d7.st) (defScope d7.st) .none kV7 dc7 pm7 an7 cd7 ct7)⟩, ⟨F_at_least, d8, f8, (PySem.W.fnOf "at_least" "at_least" (defArgs d8.st) (defBody d8.st) (defScope d8.st) .none kV8 dc8 pm8 an8 cd8 ct8)⟩, ⟨F_row_web, d9, f9, (PySem.W.fnOf "row_web" "row_web" (defArgs d9.st) (defBody d9.st) (defScope d9.st) .none kV9 dc9 pm9 an9 cd9 ct9)⟩, ⟨F_rows_part_at, d10, f10, (PySem.W.fnOf "rows_part_at" "rows_part_at" (defArgs d10.st) (defBody d10.st) (defScope d10.st) .none kV10 dc10 pm10 an10 cd10 ct10)⟩, ⟨F_at_least_row, d11, f11, (PySem.W.fnOf "at_least_row" "at_least_row" (defArgs d11.st) (defBody d11.st) (defScope d11.st) .none kV11 dc11 pm11 an11 cd11 ct11)⟩, ⟨F_just_row, d12, f12, (PySem.W.fnOf "just_row" "just_row" (defArgs d12.st) (defBody d12.st) (defScope d12.st) .none kV12 dc12 pm12 an12 cd12 ct12)⟩, ⟨F__law_pot, d13, f13, (PySem.W.fnOf "_law_pot" "_law_pot" (defArgs d13.st) (defBody d13.st) (defScope d13.st) .none kV13 dc13 pm13 an13 cd13 ct13)⟩, ⟨F__law_draw, d14, f14, (PySem.W.fnOf "_law_draw" "_law_draw" (defArgs d14.st) (defBody d14.st) (defScope d14.st) .none kV14 dc14 pm14 an14 cd14 ct14)⟩, ⟨F__law_is, d15, f15, (PySem.W.fnOf "_law_is" "_law_is" (defArgs d15.st) (defBody d15.st) (defScope d15.st) .none kV15 dc15 pm15 an15 cd15 ct15)⟩, ⟨F__law_holds, d16, f16, (PySem.W.fnOf "_law_holds" "_law_holds" (defArgs d16.st) (defBody d16.st) (defScope d16.st) .none kV16 dc16 pm16 an16 cd16 ct16)⟩, ⟨F__law_depth, d17, f17, (PySem.W.fnOf "_law_depth" "_law_depth" (defArgs d17.st) (defBody d17.st) (defScope d17.st) .none kV17 dc17 pm17 an17 cd17 ct17)⟩, ⟨F__law_nodes, d18, f18, (PySem.W.fnOf "_law_nodes" "_law_nodes" (defArgs d18.st) (defBody d18.st) (defScope d18.st) .none kV18 dc18 pm18 an18 cd18 ct18)⟩, ⟨F__law_told, d19, f19, (PySem.W.fnOf "_law_told" "_law_told" (defArgs d19.st) (defBody d19.st) (defScope d19.st) .none kV19 dc19 pm19 an19 cd19 ct19)⟩, ⟨F__law_mixed, d20, f20, (PySem.W.fnOf "_law_mixed" "_law_mixed" (defArgs d20.st) (defBody d20.st) (defScope d20.st) .none kV20 dc20 pm20 an20 cd20 ct20)⟩, ⟨F__law_right, d21, f21, (PySem.W.fnOf "_law_right" "_law_right" (defArgs d21.st) (defBody d21.st) (defScope d21.st) .none kV21 dc21 pm21 an21 cd21 ct21)⟩, ⟨F_law, d22, f22, (PySem.W.fnOf "law" "law" (defArgs d22.st) (defBody d22.st) (defScope d22.st) .none kV22 dc22 pm22 an22 cd22 ct22)⟩]
  have T : Top gi (adrOf L) K w mg := by
    refine top_by (L := L) rfl (fun r hr => ?_) (fun z hz => ?_) (fun p hp => ?_)
    · simp only [L, List.mem_cons, List.not_mem_nil, or_false] at hr
      rcases hr with rfl | rfl | rfl | rfl | rfl | rfl | rfl | rfl | rfl | rfl | rfl | rfl | rfl | rfl | rfl | rfl | rfl | rfl | rfl | rfl | rfl | rfl | rfl
      · exact at0 F0 (PySem.W.mg_of X G a0)
      · exact at1 F1 (PySem.W.mg_of X G a1)
      · exact at2 F2 (PySem.W.mg_of X G a2)
      · exact at3 F3 (PySem.W.mg_of X G a3)
      · exact at4 F4 (PySem.W.mg_of X G a4)
      · exact at5 F5 (PySem.W.mg_of X G a5)
      · exact at6 F6 (PySem.W.mg_of X G a6)
      · exact at7 F7 (PySem.W.mg_of X G a7)
      · exact at8 F8 (PySem.W.mg_of X G a8)
      · exact at9 F9 (PySem.W.mg_of X G a9)
      · exact at10 F10 (PySem.W.mg_of X G a10)
      · exact at11 F11 (PySem.W.mg_of X G a11)
      · exact at12 F12 (PySem.W.mg_of X G a12)
      · exact at13 F13 (PySem.W.mg_of X G a13)
      · exact at14 F14 (PySem.W.mg_of X G a14)
      · exact at15 F15 (PySem.W.mg_of X G a15)
      · exact at16 F16 (PySem.W.mg_of X G a16)
      · exact at17 F17 (PySem.W.mg_of X G a17)
      · exact at18 F18 (PySem.W.mg_of X G a18)
      · exact at19 F19 (PySem.W.mg_of X G a19)
      · exact at20 F20 (PySem.W.mg_of X G a20)
      · exact at21 F21 (PySem.W.mg_of X G a21)
      · exact at22 F22 (PySem.W.mg_of X G a22)
    · simp only [gi, zs, List.mem_cons, List.not_mem_nil, or_false] at hz
      rcases hz with rfl | rfl | rfl | rfl | rfl | rfl | rfl | rfl | rfl | rfl | rfl | rfl | rfl | rfl | rfl
      · exact PySem.W.mg_none_of X G z0
      · exact PySem.W.mg_none_of X G z1
      · exact PySem.W.mg_none_of X G z2
      · exact PySem.W.mg_none_of X G z3
      · exact PySem.W.mg_none_of X G z4
      · exact PySem.W.mg_none_of X G z5
      · exact PySem.W.mg_none_of X G z6
      · exact PySem.W.mg_none_of X G z7
      · exact PySem.W.mg_none_of X G z8
      · exact PySem.W.mg_none_of X G z9
      · exact PySem.W.mg_none_of X G z10
      · exact PySem.W.mg_none_of X G z11
      · exact PySem.W.mg_none_of X G z12
      · exact PySem.W.mg_none_of X G z13
      · exact PySem.W.mg_none_of X G z14
    · simp only [gi, prog, List.mem_cons, List.not_mem_nil, or_false] at hp
      rcases hp with rfl | rfl | rfl | rfl
      · exact ⟨.str "web", _, PySem.W.mg_of X G q0, ⟨_, rfl⟩, fun _ => .str _⟩
      · exact ⟨.int 8, _, PySem.W.mg_of X G q1, ⟨_, rfl⟩, fun _ => .int _⟩
      · exact ⟨.int 999, _, PySem.W.mg_of X G q2, ⟨_, rfl⟩, fun _ => .int _⟩
      · exact ⟨.int 15, _, PySem.W.mg_of X G q3, ⟨_, rfl⟩, fun _ => .int _⟩
  refine ⟨_, fun s v => F22.bindsA (ps := ["script"]) (fun _ _ _ _ _ _ us hl => match us, hl with | [_], _ => rfl) s [v] rfl, fun base _ _ => ?_⟩
  exact all_ok (P := l.prog) (base := base) T 100 "law" F_law rfl
end Lw

set_option maxRecDepth 100000
set_option maxHeartbeats 4000000
namespace Lw
open PySem Mp
theorem fq_is_integer : prog.fn "is_integer" = some F_is_integer := rfl
theorem rq_is_integer : F_is_integer.refs = [false] := rfl
theorem dq_is_integer : F_is_integer.dfl = [] := rfl
theorem cq_is_integer {n : Nat} {ds : List D} (h : ds.length = 1) : prog.call (n + 1) "is_integer" ds = endFn [false] (exs (prog.cl (prog.call n)) [false] F_is_integer.body (startE [false] ds ++ List.replicate (F_is_integer.slots - ds.length) none)) := callQ fq_is_integer h
theorem fq_is_count : prog.fn "is_count" = some F_is_count := rfl
theorem rq_is_count : F_is_count.refs = [false] := rfl
theorem dq_is_count : F_is_count.dfl = [] := rfl
theorem cq_is_count {n : Nat} {ds : List D} (h : ds.length = 1) : prog.call (n + 1) "is_count" ds = endFn [false] (exs (prog.cl (prog.call n)) [false] F_is_count.body (startE [false] ds ++ List.replicate (F_is_count.slots - ds.length) none)) := callQ fq_is_count h
theorem fq_want_many : prog.fn "want_many" = some F_want_many := rfl
theorem rq_want_many : F_want_many.refs = [false, false, false] := rfl
theorem dq_want_many : F_want_many.dfl = [(.int 0)] := rfl
theorem cq_want_many {n : Nat} {ds : List D} (h : ds.length = 3) : prog.call (n + 1) "want_many" ds = endFn [false, false, false] (exs (prog.cl (prog.call n)) [false, false, false] F_want_many.body (startE [false, false, false] ds ++ List.replicate (F_want_many.slots - ds.length) none)) := callQ fq_want_many h
theorem fq_plain_web : prog.fn "plain_web" = some F_plain_web := rfl
theorem rq_plain_web : F_plain_web.refs = [false, false] := rfl
theorem dq_plain_web : F_plain_web.dfl = [] := rfl
theorem cq_plain_web {n : Nat} {ds : List D} (h : ds.length = 2) : prog.call (n + 1) "plain_web" ds = endFn [false, false] (exs (prog.cl (prog.call n)) [false, false] F_plain_web.body (startE [false, false] ds ++ List.replicate (F_plain_web.slots - ds.length) none)) := callQ fq_plain_web h
theorem fq_row_arcs : prog.fn "row_arcs" = some F_row_arcs := rfl
theorem rq_row_arcs : F_row_arcs.refs = [false] := rfl
theorem dq_row_arcs : F_row_arcs.dfl = [] := rfl
theorem cq_row_arcs {n : Nat} {ds : List D} (h : ds.length = 1) : prog.call (n + 1) "row_arcs" ds = endFn [false] (exs (prog.cl (prog.call n)) [false] F_row_arcs.body (startE [false] ds ++ List.replicate (F_row_arcs.slots - ds.length) none)) := callQ fq_row_arcs h
theorem fq_long_enough : prog.fn "long_enough" = some F_long_enough := rfl
theorem rq_long_enough : F_long_enough.refs = [false] := rfl
theorem dq_long_enough : F_long_enough.dfl = [] := rfl
theorem cq_long_enough {n : Nat} {ds : List D} (h : ds.length = 1) : prog.call (n + 1) "long_enough" ds = endFn [false] (exs (prog.cl (prog.call n)) [false] F_long_enough.body (startE [false] ds ++ List.replicate (F_long_enough.slots - ds.length) none)) := callQ fq_long_enough h
theorem fq_are_near : prog.fn "are_near" = some F_are_near := rfl
theorem rq_are_near : F_are_near.refs = [false, false, false] := rfl
theorem dq_are_near : F_are_near.dfl = [] := rfl
theorem cq_are_near {n : Nat} {ds : List D} (h : ds.length = 3) : prog.call (n + 1) "are_near" ds = endFn [false, false, false] (exs (prog.cl (prog.call n)) [false, false, false] F_are_near.body (startE [false, false, false] ds ++ List.replicate (F_are_near.slots - ds.length) none)) := callQ fq_are_near h
theorem fq_part_depth : prog.fn "part_depth" = some F_part_depth := rfl
theorem rq_part_depth : F_part_depth.refs = [false, false] := rfl
theorem dq_part_depth : F_part_depth.dfl = [] := rfl
theorem cq_part_depth {n : Nat} {ds : List D} (h : ds.length = 2) : prog.call (n + 1) "part_depth" ds = endFn [false, false] (exs (prog.cl (prog.call n)) [false, false] F_part_depth.body (startE [false, false] ds ++ List.replicate (F_part_depth.slots - ds.length) none)) := callQ fq_part_depth h
theorem fq_at_least : prog.fn "at_least" = some F_at_least := rfl
theorem rq_at_least : F_at_least.refs = [false, false, false, false] := rfl
theorem dq_at_least : F_at_least.dfl = [] := rfl
theorem cq_at_least {n : Nat} {ds : List D} (h : ds.length = 4) : prog.call (n + 1) "at_least" ds = endFn [false, false, false, false] (exs (prog.cl (prog.call n)) [false, false, false, false] F_at_least.body (startE [false, false, false, false] ds ++ List.replicate (F_at_least.slots - ds.length) none)) := callQ fq_at_least h
theorem fq_row_web : prog.fn "row_web" = some F_row_web := rfl
theorem rq_row_web : F_row_web.refs = [false] := rfl
theorem dq_row_web : F_row_web.dfl = [] := rfl
theorem cq_row_web {n : Nat} {ds : List D} (h : ds.length = 1) : prog.call (n + 1) "row_web" ds = endFn [false] (exs (prog.cl (prog.call n)) [false] F_row_web.body (startE [false] ds ++ List.replicate (F_row_web.slots - ds.length) none)) := callQ fq_row_web h
theorem fq_rows_part_at : prog.fn "rows_part_at" = some F_rows_part_at := rfl
theorem rq_rows_part_at : F_rows_part_at.refs = [false, false] := rfl
theorem dq_rows_part_at : F_rows_part_at.dfl = [] := rfl
theorem cq_rows_part_at {n : Nat} {ds : List D} (h : ds.length = 2) : prog.call (n + 1) "rows_part_at" ds = endFn [false, false] (exs (prog.cl (prog.call n)) [false, false] F_rows_part_at.body (startE [false, false] ds ++ List.replicate (F_rows_part_at.slots - ds.length) none)) := callQ fq_rows_part_at h
theorem fq_at_least_row : prog.fn "at_least_row" = some F_at_least_row := rfl
theorem rq_at_least_row : F_at_least_row.refs = [false] := rfl
theorem dq_at_least_row : F_at_least_row.dfl = [] := rfl
theorem cq_at_least_row {n : Nat} {ds : List D} (h : ds.length = 1) : prog.call (n + 1) "at_least_row" ds = endFn [false] (exs (prog.cl (prog.call n)) [false] F_at_least_row.body (startE [false] ds ++ List.replicate (F_at_least_row.slots - ds.length) none)) := callQ fq_at_least_row h
theorem fq_just_row : prog.fn "just_row" = some F_just_row := rfl
theorem rq_just_row : F_just_row.refs = [false] := rfl
theorem dq_just_row : F_just_row.dfl = [] := rfl
theorem cq_just_row {n : Nat} {ds : List D} (h : ds.length = 1) : prog.call (n + 1) "just_row" ds = endFn [false] (exs (prog.cl (prog.call n)) [false] F_just_row.body (startE [false] ds ++ List.replicate (F_just_row.slots - ds.length) none)) := callQ fq_just_row h
theorem fq__law_pot : prog.fn "_law_pot" = some F__law_pot := rfl
theorem rq__law_pot : F__law_pot.refs = [false, false] := rfl
theorem dq__law_pot : F__law_pot.dfl = [] := rfl
theorem cq__law_pot {n : Nat} {ds : List D} (h : ds.length = 2) : prog.call (n + 1) "_law_pot" ds = endFn [false, false] (exs (prog.cl (prog.call n)) [false, false] F__law_pot.body (startE [false, false] ds ++ List.replicate (F__law_pot.slots - ds.length) none)) := callQ fq__law_pot h
theorem fq__law_draw : prog.fn "_law_draw" = some F__law_draw := rfl
theorem rq__law_draw : F__law_draw.refs = [true, false] := rfl
theorem dq__law_draw : F__law_draw.dfl = [] := rfl
theorem cq__law_draw {n : Nat} {ds : List D} (h : ds.length = 2) : prog.call (n + 1) "_law_draw" ds = endFn [true, false] (exs (prog.cl (prog.call n)) [true, false] F__law_draw.body (startE [true, false] ds ++ List.replicate (F__law_draw.slots - ds.length) none)) := callQ fq__law_draw h
theorem fq__law_is : prog.fn "_law_is" = some F__law_is := rfl
theorem rq__law_is : F__law_is.refs = [false, false] := rfl
theorem dq__law_is : F__law_is.dfl = [] := rfl
theorem cq__law_is {n : Nat} {ds : List D} (h : ds.length = 2) : prog.call (n + 1) "_law_is" ds = endFn [false, false] (exs (prog.cl (prog.call n)) [false, false] F__law_is.body (startE [false, false] ds ++ List.replicate (F__law_is.slots - ds.length) none)) := callQ fq__law_is h
theorem fq__law_holds : prog.fn "_law_holds" = some F__law_holds := rfl
theorem rq__law_holds : F__law_holds.refs = [false, false, false] := rfl
theorem dq__law_holds : F__law_holds.dfl = [] := rfl
theorem cq__law_holds {n : Nat} {ds : List D} (h : ds.length = 3) : prog.call (n + 1) "_law_holds" ds = endFn [false, false, false] (exs (prog.cl (prog.call n)) [false, false, false] F__law_holds.body (startE [false, false, false] ds ++ List.replicate (F__law_holds.slots - ds.length) none)) := callQ fq__law_holds h
theorem fq__law_depth : prog.fn "_law_depth" = some F__law_depth := rfl
theorem rq__law_depth : F__law_depth.refs = [false] := rfl
theorem dq__law_depth : F__law_depth.dfl = [] := rfl
theorem cq__law_depth {n : Nat} {ds : List D} (h : ds.length = 1) : prog.call (n + 1) "_law_depth" ds = endFn [false] (exs (prog.cl (prog.call n)) [false] F__law_depth.body (startE [false] ds ++ List.replicate (F__law_depth.slots - ds.length) none)) := callQ fq__law_depth h
theorem fq__law_nodes : prog.fn "_law_nodes" = some F__law_nodes := rfl
theorem rq__law_nodes : F__law_nodes.refs = [false] := rfl
theorem dq__law_nodes : F__law_nodes.dfl = [] := rfl
theorem cq__law_nodes {n : Nat} {ds : List D} (h : ds.length = 1) : prog.call (n + 1) "_law_nodes" ds = endFn [false] (exs (prog.cl (prog.call n)) [false] F__law_nodes.body (startE [false] ds ++ List.replicate (F__law_nodes.slots - ds.length) none)) := callQ fq__law_nodes h
theorem fq__law_told : prog.fn "_law_told" = some F__law_told := rfl
theorem rq__law_told : F__law_told.refs = [false, false, false, false] := rfl
theorem dq__law_told : F__law_told.dfl = [] := rfl
theorem cq__law_told {n : Nat} {ds : List D} (h : ds.length = 4) : prog.call (n + 1) "_law_told" ds = endFn [false, false, false, false] (exs (prog.cl (prog.call n)) [false, false, false, false] F__law_told.body (startE [false, false, false, false] ds ++ List.replicate (F__law_told.slots - ds.length) none)) := callQ fq__law_told h
theorem fq__law_mixed : prog.fn "_law_mixed" = some F__law_mixed := rfl
theorem rq__law_mixed : F__law_mixed.refs = [true, false] := rfl
theorem dq__law_mixed : F__law_mixed.dfl = [] := rfl
theorem cq__law_mixed {n : Nat} {ds : List D} (h : ds.length = 2) : prog.call (n + 1) "_law_mixed" ds = endFn [true, false] (exs (prog.cl (prog.call n)) [true, false] F__law_mixed.body (startE [true, false] ds ++ List.replicate (F__law_mixed.slots - ds.length) none)) := callQ fq__law_mixed h
theorem fq__law_right : prog.fn "_law_right" = some F__law_right := rfl
theorem rq__law_right : F__law_right.refs = [true] := rfl
theorem dq__law_right : F__law_right.dfl = [] := rfl
theorem cq__law_right {n : Nat} {ds : List D} (h : ds.length = 1) : prog.call (n + 1) "_law_right" ds = endFn [true] (exs (prog.cl (prog.call n)) [true] F__law_right.body (startE [true] ds ++ List.replicate (F__law_right.slots - ds.length) none)) := callQ fq__law_right h
theorem fq_law : prog.fn "law" = some F_law := rfl
theorem rq_law : F_law.refs = [false] := rfl
theorem dq_law : F_law.dfl = [] := rfl
theorem cq_law {n : Nat} {ds : List D} (h : ds.length = 1) : prog.call (n + 1) "law" ds = endFn [false] (exs (prog.cl (prog.call n)) [false] F_law.body (startE [false] ds ++ List.replicate (F_law.slots - ds.length) none)) := callQ fq_law h
theorem kq_0 : orderIx F_at_least_row.ps 0 ["many"] = some [0] := rfl
theorem kq_1 : orderIx F_just_row.ps 0 ["many"] = some [0] := rfl
theorem gq_WEB {r : Str → List D → CR} : (prog.cl r).glob "WEB" = some (.str "web") := rfl
theorem gq_MOST_PLACES {r : Str → List D → CR} : (prog.cl r).glob "MOST_PLACES" = some (.int 8) := rfl
theorem gq_MOST_NUMBER {r : Str → List D → CR} : (prog.cl r).glob "MOST_NUMBER" = some (.int 999) := rfl
theorem gq_MOST_SENTENCE {r : Str → List D → CR} : (prog.cl r).glob "MOST_SENTENCE" = some (.int 15) := rfl
theorem turnsQ : prog.turns = 100000 := rfl
theorem FX : type_of% (And.intro @fq_is_integer (And.intro @rq_is_integer (And.intro @dq_is_integer (And.intro @fq_is_count (And.intro @rq_is_count (And.intro @dq_is_count (And.intro @fq_want_many (And.intro @rq_want_many (And.intro @dq_want_many (And.intro @fq_plain_web (And.intro @rq_plain_web (And.intro @dq_plain_web (And.intro @fq_row_arcs (And.intro @rq_row_arcs (And.intro @dq_row_arcs (And.intro @fq_long_enough (And.intro @rq_long_enough (And.intro @dq_long_enough (And.intro @fq_are_near (And.intro @rq_are_near (And.intro @dq_are_near (And.intro @fq_part_depth (And.intro @rq_part_depth (And.intro @dq_part_depth (And.intro @fq_at_least (And.intro @rq_at_least (And.intro @dq_at_least (And.intro @fq_row_web (And.intro @rq_row_web (And.intro @dq_row_web (And.intro @fq_rows_part_at (And.intro @rq_rows_part_at (And.intro @dq_rows_part_at (And.intro @fq_at_least_row (And.intro @rq_at_least_row (And.intro @dq_at_least_row (And.intro @fq_just_row (And.intro @rq_just_row (And.intro @dq_just_row (And.intro @fq__law_pot (And.intro @rq__law_pot (And.intro @dq__law_pot (And.intro @fq__law_draw (And.intro @rq__law_draw (And.intro @dq__law_draw (And.intro @fq__law_is (And.intro @rq__law_is (And.intro @dq__law_is (And.intro @fq__law_holds (And.intro @rq__law_holds (And.intro @dq__law_holds (And.intro @fq__law_depth (And.intro @rq__law_depth (And.intro @dq__law_depth (And.intro @fq__law_nodes (And.intro @rq__law_nodes (And.intro @dq__law_nodes (And.intro @fq__law_told (And.intro @rq__law_told (And.intro @dq__law_told (And.intro @fq__law_mixed (And.intro @rq__law_mixed (And.intro @dq__law_mixed (And.intro @fq__law_right (And.intro @rq__law_right (And.intro @dq__law_right (And.intro @fq_law (And.intro @rq_law (And.intro @dq_law (And.intro @kq_0 (And.intro @kq_1 (And.intro @gq_WEB (And.intro @gq_MOST_PLACES (And.intro @gq_MOST_NUMBER (And.intro @gq_MOST_SENTENCE (@turnsQ)))))))))))))))))))))))))))))))))))))))))))))))))))))))))))))))))))))))))))) := And.intro @fq_is_integer (And.intro @rq_is_integer (And.intro @dq_is_integer (And.intro @fq_is_count (And.intro @rq_is_count (And.intro @dq_is_count (And.intro @fq_want_many (And.intro @rq_want_many (And.intro @dq_want_many (And.intro @fq_plain_web (And.intro @rq_plain_web (And.intro @dq_plain_web (And.intro @fq_row_arcs (And.intro @rq_row_arcs (And.intro @dq_row_arcs (And.intro @fq_long_enough (And.intro @rq_long_enough (And.intro @dq_long_enough (And.intro @fq_are_near (And.intro @rq_are_near (And.intro @dq_are_near (And.intro @fq_part_depth (And.intro @rq_part_depth (And.intro @dq_part_depth (And.intro @fq_at_least (And.intro @rq_at_least (And.intro @dq_at_least (And.intro @fq_row_web (And.intro @rq_row_web (And.intro @dq_row_web (And.intro @fq_rows_part_at (And.intro @rq_rows_part_at (And.intro @dq_rows_part_at (And.intro @fq_at_least_row (And.intro @rq_at_least_row (And.intro @dq_at_least_row (And.intro @fq_just_row (And.intro @rq_just_row (And.intro @dq_just_row (And.intro @fq__law_pot (And.intro @rq__law_pot (And.intro @dq__law_pot (And.intro @fq__law_draw (And.intro @rq__law_draw (And.intro @dq__law_draw (And.intro @fq__law_is (And.intro @rq__law_is (And.intro @dq__law_is (And.intro @fq__law_holds (And.intro @rq__law_holds (And.intro @dq__law_holds (And.intro @fq__law_depth (And.intro @rq__law_depth (And.intro @dq__law_depth (And.intro @fq__law_nodes (And.intro @rq__law_nodes (And.intro @dq__law_nodes (And.intro @fq__law_told (And.intro @rq__law_told (And.intro @dq__law_told (And.intro @fq__law_mixed (And.intro @rq__law_mixed (And.intro @dq__law_mixed (And.intro @fq__law_right (And.intro @rq__law_right (And.intro @dq__law_right (And.intro @fq_law (And.intro @rq_law (And.intro @dq_law (And.intro @kq_0 (And.intro @kq_1 (And.intro @gq_WEB (And.intro @gq_MOST_PLACES (And.intro @gq_MOST_NUMBER (And.intro @gq_MOST_SENTENCE (@turnsQ)))))))))))))))))))))))))))))))))))))))))))))))))))))))))))))))))))))))))))
end Lw

-- LAW 63
set_option maxRecDepth 100000
set_option maxHeartbeats 4000000
namespace Lw
open PySem Mp
theorem c_is_integer {n : Nat} {v : Int} (hn : 1 ≤ n) : prog.call n "is_integer" [.int v] = .ok (.bl true) false [.non] := by
  obtain ⟨n, rfl, hn⟩ := succ_of hn
  rw [cq_is_integer rfl]
  simp -implicitDefEqProofs (disch := omega) only [F_is_integer, QSa, QSb, QSc, QSd, QSe, QSf, QSg, List.getElem?_cons_zero, List.getElem?_cons_succ, List.set_cons_zero, List.set_cons_succ, Option.bind_some, Option.map_some, getAll, startE, List.cons_append, List.nil_append, List.append_nil, List.map_cons, List.map_nil, List.length_cons, List.length_nil, List.any_cons, List.any_nil, Bool.or_false, Bool.and_true, Bool.true_and, Bool.or_self, Bool.false_or, Bool.false_eq_true, ↓reduceIte, eq_self, Bool.not_true, Bool.not_false, decide_true, decide_false, decide_eq_true_eq, List.contains_nil, List.contains_cons, Option.some_beq_none, Option.some_beq_some, Nat.reduceBEq, Bool.or_true, Bool.true_or, Bool.and_false, Bool.false_and, Option.isSome_some, Int.cast_ofNat_Int, Nat.reduceAdd, Nat.reduceSub, List.drop_nil, List.reduceReplicate, ↓bindR, Int.reduceAdd, Int.reduceSub, Int.reduceMul, Nat.reduceLT, Nat.reduceLeDiff, Int.reduceLT, Int.reduceLE, Nat.reduceEqDiff, Int.reduceEq, Int.reduceBNe, Bool.decide_eq_true, Bool.decide_eq_false, not_true_eq_false, not_false_eq_true, ne_eq, Nat.zero_add, Int.reduceNeg, List.isEmpty_cons, List.isEmpty_nil, List.length_map, List.length_range, List.length_append, List.length_replicate, List.drop_zero, List.drop_succ_cons, reduceCtorEq, FX]
  rfl
theorem c_is_count {n : Nat} {v : Int} (hn : 2 ≤ n) : prog.call n "is_count" [.int v] = .ok (.bl (decide (0 ≤ v))) false [.non] := by
  obtain ⟨n, rfl, hn⟩ := succ_of hn
  rw [cq_is_count rfl]
  simp -implicitDefEqProofs (disch := omega) only [F_is_count, QSa, QSb, QSc, QSd, QSe, QSf, QSg, List.getElem?_cons_zero, List.getElem?_cons_succ, List.set_cons_zero, List.set_cons_succ, Option.bind_some, Option.map_some, getAll, startE, List.cons_append, List.nil_append, List.append_nil, List.map_cons, List.map_nil, List.length_cons, List.length_nil, List.any_cons, List.any_nil, Bool.or_false, Bool.and_true, Bool.true_and, Bool.or_self, Bool.false_or, Bool.false_eq_true, ↓reduceIte, eq_self, Bool.not_true, Bool.not_false, decide_true, decide_false, decide_eq_true_eq, List.contains_nil, List.contains_cons, Option.some_beq_none, Option.some_beq_some, Nat.reduceBEq, Bool.or_true, Bool.true_or, Bool.and_false, Bool.false_and, Option.isSome_some, Int.cast_ofNat_Int, Nat.reduceAdd, Nat.reduceSub, List.drop_nil, List.reduceReplicate, ↓bindR, Int.reduceAdd, Int.reduceSub, Int.reduceMul, Nat.reduceLT, Nat.reduceLeDiff, Int.reduceLT, Int.reduceLE, Nat.reduceEqDiff, Int.reduceEq, Int.reduceBNe, Bool.decide_eq_true, Bool.decide_eq_false, not_true_eq_false, not_false_eq_true, ne_eq, Nat.zero_add, Int.reduceNeg, List.isEmpty_cons, List.isEmpty_nil, List.length_map, List.length_range, List.length_append, List.length_replicate, List.drop_zero, List.drop_succ_cons, reduceCtorEq, FX, c_is_integer]
  rfl
theorem c_want_many {n : Nat} {v m l : Int} (hn : 3 ≤ n) (h0 : 0 ≤ v) (h1 : v ≤ m) (h2 : l ≤ v) : prog.call n "want_many" [.int v, .int m, .int l] = .ok .non false [.non, .non, .non] := by
  obtain ⟨n, rfl, hn⟩ := succ_of hn
  rw [cq_want_many rfl]
  simp -implicitDefEqProofs (disch := omega) only [F_want_many, QSa, QSb, QSc, QSd, QSe, QSf, QSg, List.getElem?_cons_zero, List.getElem?_cons_succ, List.set_cons_zero, List.set_cons_succ, Option.bind_some, Option.map_some, getAll, startE, List.cons_append, List.nil_append, List.append_nil, List.map_cons, List.map_nil, List.length_cons, List.length_nil, List.any_cons, List.any_nil, Bool.or_false, Bool.and_true, Bool.true_and, Bool.or_self, Bool.false_or, Bool.false_eq_true, ↓reduceIte, eq_self, Bool.not_true, Bool.not_false, decide_true, decide_false, decide_eq_true_eq, List.contains_nil, List.contains_cons, Option.some_beq_none, Option.some_beq_some, Nat.reduceBEq, Bool.or_true, Bool.true_or, Bool.and_false, Bool.false_and, Option.isSome_some, Int.cast_ofNat_Int, Nat.reduceAdd, Nat.reduceSub, List.drop_nil, List.reduceReplicate, ↓bindR, Int.reduceAdd, Int.reduceSub, Int.reduceMul, Nat.reduceLT, Nat.reduceLeDiff, Int.reduceLT, Int.reduceLE, Nat.reduceEqDiff, Int.reduceEq, Int.reduceBNe, Bool.decide_eq_true, Bool.decide_eq_false, not_true_eq_false, not_false_eq_true, ne_eq, Nat.zero_add, Int.reduceNeg, List.isEmpty_cons, List.isEmpty_nil, List.length_map, List.length_range, List.length_append, List.length_replicate, List.drop_zero, List.drop_succ_cons, reduceCtorEq, FX, c_is_count, h0, h1, h2]
  rfl
end Lw

-- LAW 63
set_option maxRecDepth 100000
set_option maxHeartbeats 4000000
namespace Lw
open PySem Mp
abbrev nT (s : List Nat) : D := .tup (s.map dI)
theorem getD_of {s : List Nat} {i : Nat} (h : i < s.length) : s.getD i 0 = s[i] := by
  rw [List.getD_eq_getElem?_getD, List.getElem?_eq_getElem h]; rfl
theorem cmp_nat (a b : Nat) : cmpD .Eq (dI a) (dI b) = some (decide (a = b)) := by
  rw [show dI a = D.int (a : Int) from rfl, show dI b = D.int (b : Int) from rfl, cmp_eq]
  congr 1
  rw [decide_eq_decide]
  omega
theorem web1 (W : Web) : idxD (webD W) (.int 1) = some (.tup (W.cols.map dI)) := idxQ_tup1
theorem web2 (W : Web) : idxD (webD W) (.int 2) = some (.tup (W.arcs.map pairI)) := idxQ_tup2
theorem in_arcs (a b : Nat) (l : List (Nat × Nat)) : cmpD .In (.tup [dI a, dI b]) (.tup (l.map pairI)) = some (decide ((a, b) ∈ l)) := in_pairs a b l
theorem h_is (W : Web) {n i c : Nat} {s : List Nat} (hn : 1 ≤ n) (hi : i < s.length) (hs : ∀ a ∈ s, a < W.cols.length) : prog.call n "_law_holds" [webD W, nT s, foD (.is i c)] = .ok (.bl (holdsF W s (.is i c))) false [.non, .non, .non] := by
  obtain ⟨n, rfl, hn⟩ := succ_of hn
  have b := hs s[i] (List.getElem_mem hi)
  rw [cq__law_holds rfl, holdsF, getD_of hi, getD_of b, foD]
  have i1 : idxD (nT s) (dI i) = some (dI s[i]) := idxQ_tm hi
  have i2 : idxD (.tup (W.cols.map dI)) (dI s[i]) = some (dI W.cols[s[i]]) := idxQ_tm b
  have e := cmp_nat W.cols[s[i]] c
  have w1 := web1 W
  generalize webD W = w at *
  generalize nT s = t at *
  generalize D.tup (W.cols.map dI) = cs at *
  generalize dI s[i] = si at *
  generalize dI W.cols[s[i]] = ci at *
  simp -implicitDefEqProofs (disch := omega) only [F__law_holds, QSa, QSb, QSc, QSd, QSe, QSf, QSg, List.getElem?_cons_zero, List.getElem?_cons_succ, List.set_cons_zero, List.set_cons_succ, Option.bind_some, Option.map_some, getAll, startE, List.cons_append, List.nil_append, List.append_nil, List.map_cons, List.map_nil, List.length_cons, List.length_nil, List.any_cons, List.any_nil, Bool.or_false, Bool.and_true, Bool.true_and, Bool.or_self, Bool.false_or, Bool.false_eq_true, ↓reduceIte, eq_self, Bool.not_true, Bool.not_false, decide_true, decide_false, decide_eq_true_eq, List.contains_nil, List.contains_cons, Option.some_beq_none, Option.some_beq_some, Nat.reduceBEq, Bool.or_true, Bool.true_or, Bool.and_false, Bool.false_and, Option.isSome_some, Int.cast_ofNat_Int, Nat.reduceAdd, Nat.reduceSub, List.drop_nil, List.reduceReplicate, ↓bindR, Int.reduceAdd, Int.reduceSub, Int.reduceMul, Nat.reduceLT, Nat.reduceLeDiff, Int.reduceLT, Int.reduceLE, Nat.reduceEqDiff, Int.reduceEq, Int.reduceBNe, Bool.decide_eq_true, Bool.decide_eq_false, not_true_eq_false, not_false_eq_true, ne_eq, Nat.zero_add, Int.reduceNeg, List.isEmpty_cons, List.isEmpty_nil, List.length_map, List.length_range, List.length_append, List.length_replicate, List.drop_zero, List.drop_succ_cons, reduceCtorEq, FX, wd_is_is, wd_is_arc, wd_is_same, wd_is_not, wd_is_and, wd_is_or, wd_is_some, wd_is_all, wd_arc_is, wd_arc_arc, wd_arc_same, wd_arc_not, wd_arc_and, wd_arc_or, wd_arc_some, wd_arc_all, wd_same_is, wd_same_arc, wd_same_same, wd_same_not, wd_same_and, wd_same_or, wd_same_some, wd_same_all, wd_not_is, wd_not_arc, wd_not_same, wd_not_not, wd_not_and, wd_not_or, wd_not_some, wd_not_all, wd_and_is, wd_and_arc, wd_and_same, wd_and_not, wd_and_and, wd_and_or, wd_and_some, wd_and_all, wd_or_is, wd_or_arc, wd_or_same, wd_or_not, wd_or_and, wd_or_or, wd_or_some, wd_or_all, wd_some_is, wd_some_arc, wd_some_same, wd_some_not, wd_some_and, wd_some_or, wd_some_some, wd_some_all, wd_all_is, wd_all_arc, wd_all_same, wd_all_not, wd_all_and, wd_all_or, wd_all_some, wd_all_all, i1, i2, e, w1]
  rfl
theorem h_same (W : Web) {n i j : Nat} {s : List Nat} (hn : 1 ≤ n) (hi : i < s.length) (hj : j < s.length) : prog.call n "_law_holds" [webD W, nT s, foD (.same i j)] = .ok (.bl (holdsF W s (.same i j))) false [.non, .non, .non] := by
  obtain ⟨n, rfl, hn⟩ := succ_of hn
  rw [cq__law_holds rfl, holdsF, getD_of hi, getD_of hj, foD]
  have i1 : idxD (nT s) (dI i) = some (dI s[i]) := idxQ_tm hi
  have i2 : idxD (nT s) (dI j) = some (dI s[j]) := idxQ_tm hj
  have e := cmp_nat s[i] s[j]
  generalize webD W = w at *
  generalize nT s = t at *
  generalize dI s[i] = si at *
  generalize dI s[j] = sj at *
  simp -implicitDefEqProofs (disch := omega) only [F__law_holds, QSa, QSb, QSc, QSd, QSe, QSf, QSg, List.getElem?_cons_zero, List.getElem?_cons_succ, List.set_cons_zero, List.set_cons_succ, Option.bind_some, Option.map_some, getAll, startE, List.cons_append, List.nil_append, List.append_nil, List.map_cons, List.map_nil, List.length_cons, List.length_nil, List.any_cons, List.any_nil, Bool.or_false, Bool.and_true, Bool.true_and, Bool.or_self, Bool.false_or, Bool.false_eq_true, ↓reduceIte, eq_self, Bool.not_true, Bool.not_false, decide_true, decide_false, decide_eq_true_eq, List.contains_nil, List.contains_cons, Option.some_beq_none, Option.some_beq_some, Nat.reduceBEq, Bool.or_true, Bool.true_or, Bool.and_false, Bool.false_and, Option.isSome_some, Int.cast_ofNat_Int, Nat.reduceAdd, Nat.reduceSub, List.drop_nil, List.reduceReplicate, ↓bindR, Int.reduceAdd, Int.reduceSub, Int.reduceMul, Nat.reduceLT, Nat.reduceLeDiff, Int.reduceLT, Int.reduceLE, Nat.reduceEqDiff, Int.reduceEq, Int.reduceBNe, Bool.decide_eq_true, Bool.decide_eq_false, not_true_eq_false, not_false_eq_true, ne_eq, Nat.zero_add, Int.reduceNeg, List.isEmpty_cons, List.isEmpty_nil, List.length_map, List.length_range, List.length_append, List.length_replicate, List.drop_zero, List.drop_succ_cons, reduceCtorEq, FX, wd_is_is, wd_is_arc, wd_is_same, wd_is_not, wd_is_and, wd_is_or, wd_is_some, wd_is_all, wd_arc_is, wd_arc_arc, wd_arc_same, wd_arc_not, wd_arc_and, wd_arc_or, wd_arc_some, wd_arc_all, wd_same_is, wd_same_arc, wd_same_same, wd_same_not, wd_same_and, wd_same_or, wd_same_some, wd_same_all, wd_not_is, wd_not_arc, wd_not_same, wd_not_not, wd_not_and, wd_not_or, wd_not_some, wd_not_all, wd_and_is, wd_and_arc, wd_and_same, wd_and_not, wd_and_and, wd_and_or, wd_and_some, wd_and_all, wd_or_is, wd_or_arc, wd_or_same, wd_or_not, wd_or_and, wd_or_or, wd_or_some, wd_or_all, wd_some_is, wd_some_arc, wd_some_same, wd_some_not, wd_some_and, wd_some_or, wd_some_some, wd_some_all, wd_all_is, wd_all_arc, wd_all_same, wd_all_not, wd_all_and, wd_all_or, wd_all_some, wd_all_all, i1, i2, e]
  rfl
theorem h_arc (W : Web) {n i j : Nat} {s : List Nat} (hn : 1 ≤ n) (hi : i < s.length) (hj : j < s.length) : prog.call n "_law_holds" [webD W, nT s, foD (.arc i j)] = .ok (.bl (holdsF W s (.arc i j))) false [.non, .non, .non] := by
  obtain ⟨n, rfl, hn⟩ := succ_of hn
  rw [cq__law_holds rfl, holdsF, getD_of hi, getD_of hj, foD]
  have i1 : idxD (nT s) (dI i) = some (dI s[i]) := idxQ_tm hi
  have i2 : idxD (nT s) (dI j) = some (dI s[j]) := idxQ_tm hj
  have e := in_arcs s[i] s[j] W.arcs
  have w2 := web2 W
  generalize webD W = w at *
  generalize nT s = t at *
  generalize D.tup (W.arcs.map pairI) = cs at *
  generalize dI s[i] = si at *
  generalize dI s[j] = sj at *
  simp -implicitDefEqProofs (disch := omega) only [F__law_holds, QSa, QSb, QSc, QSd, QSe, QSf, QSg, List.getElem?_cons_zero, List.getElem?_cons_succ, List.set_cons_zero, List.set_cons_succ, Option.bind_some, Option.map_some, getAll, startE, List.cons_append, List.nil_append, List.append_nil, List.map_cons, List.map_nil, List.length_cons, List.length_nil, List.any_cons, List.any_nil, Bool.or_false, Bool.and_true, Bool.true_and, Bool.or_self, Bool.false_or, Bool.false_eq_true, ↓reduceIte, eq_self, Bool.not_true, Bool.not_false, decide_true, decide_false, decide_eq_true_eq, List.contains_nil, List.contains_cons, Option.some_beq_none, Option.some_beq_some, Nat.reduceBEq, Bool.or_true, Bool.true_or, Bool.and_false, Bool.false_and, Option.isSome_some, Int.cast_ofNat_Int, Nat.reduceAdd, Nat.reduceSub, List.drop_nil, List.reduceReplicate, ↓bindR, Int.reduceAdd, Int.reduceSub, Int.reduceMul, Nat.reduceLT, Nat.reduceLeDiff, Int.reduceLT, Int.reduceLE, Nat.reduceEqDiff, Int.reduceEq, Int.reduceBNe, Bool.decide_eq_true, Bool.decide_eq_false, not_true_eq_false, not_false_eq_true, ne_eq, Nat.zero_add, Int.reduceNeg, List.isEmpty_cons, List.isEmpty_nil, List.length_map, List.length_range, List.length_append, List.length_replicate, List.drop_zero, List.drop_succ_cons, reduceCtorEq, FX, wd_is_is, wd_is_arc, wd_is_same, wd_is_not, wd_is_and, wd_is_or, wd_is_some, wd_is_all, wd_arc_is, wd_arc_arc, wd_arc_same, wd_arc_not, wd_arc_and, wd_arc_or, wd_arc_some, wd_arc_all, wd_same_is, wd_same_arc, wd_same_same, wd_same_not, wd_same_and, wd_same_or, wd_same_some, wd_same_all, wd_not_is, wd_not_arc, wd_not_same, wd_not_not, wd_not_and, wd_not_or, wd_not_some, wd_not_all, wd_and_is, wd_and_arc, wd_and_same, wd_and_not, wd_and_and, wd_and_or, wd_and_some, wd_and_all, wd_or_is, wd_or_arc, wd_or_same, wd_or_not, wd_or_and, wd_or_or, wd_or_some, wd_or_all, wd_some_is, wd_some_arc, wd_some_same, wd_some_not, wd_some_and, wd_some_or, wd_some_some, wd_some_all, wd_all_is, wd_all_arc, wd_all_same, wd_all_not, wd_all_and, wd_all_or, wd_all_some, wd_all_all, i1, i2, e, w2]
  rfl
/-- lists of those kept, beside the empty one -/
theorem eq_nil {α : Type} (l : List α) (f : α → D) (hf : ∀ x ∈ l, fair (.lst [f x]) = true) (hl : fair (.lst (l.map f)) = true) : cmpD .Eq (.lst (l.map f)) (.lst []) = some l.isEmpty := by
  show (if (fair (.lst (l.map f)) && fair (.lst [])) = true then some (eqvD (.lst (l.map f)) (.lst [])) else none) = _
  rw [if_pos (by rw [hl]; rfl)]
  cases l with
  | nil => rfl
  | cons a l => rfl
end Lw

-- LAW 63
set_option maxRecDepth 100000
set_option maxHeartbeats 4000000
namespace Lw
open PySem Mp
mutual
theorem fo_plain : ∀ f : Fo, plain (foD f) = true
  | .is _ _ => rfl
  | .arc _ _ => rfl
  | .same _ _ => rfl
  | .not f => by rw [foD]; simp [Mp.plain, plains, fo_plain f]
  | .and fs => by rw [foD]; simp [Mp.plain, plains, fos_plain fs]
  | .or fs => by rw [foD]; simp [Mp.plain, plains, fos_plain fs]
  | .some f => by rw [foD]; simp [Mp.plain, plains, fo_plain f]
  | .all f => by rw [foD]; simp [Mp.plain, plains, fo_plain f]
theorem fos_plain : ∀ fs : List Fo, plains (foDs fs) = true
  | [] => rfl
  | f :: r => by rw [foDs, plains, fo_plain f, fos_plain r]; rfl
end
mutual
theorem fo_deep : ∀ f : Fo, deep (foD f) ≤ 2 * hgt f + 1
  | .is _ _ => by simp [foD, deep, deeps]
  | .arc _ _ => by simp [foD, deep, deeps]
  | .same _ _ => by simp [foD, deep, deeps]
  | .not f => by have := fo_deep f; rw [foD, hgt]; simp only [deep, deeps]; omega
  | .and fs => by have := fos_deep fs; rw [foD, hgt]; simp only [deep, deeps]; omega
  | .or fs => by have := fos_deep fs; rw [foD, hgt]; simp only [deep, deeps]; omega
  | .some f => by have := fo_deep f; rw [foD, hgt]; simp only [deep, deeps]; omega
  | .all f => by have := fo_deep f; rw [foD, hgt]; simp only [deep, deeps]; omega
theorem fos_deep : ∀ fs : List Fo, deeps (foDs fs) ≤ 2 * hgts fs + 1
  | [] => by simp [foDs, deeps]
  | f :: r => by
    have h1 := fo_deep f
    have h2 := fos_deep r
    rw [foDs, deeps, hgts]
    omega
end
theorem plains_all : ∀ l : List D, (∀ x ∈ l, plain x = true) → plains l = true
  | [], _ => rfl
  | x :: r, h => by rw [plains, h x (List.mem_cons_self ..), plains_all r fun y hy => h y (List.mem_cons_of_mem _ hy)]; rfl
theorem deeps_all {B : Nat} : ∀ l : List D, (∀ x ∈ l, deep x ≤ B) → deeps l ≤ B
  | [], _ => by simp [deeps]
  | x :: r, h => by
    have h1 := h x (List.mem_cons_self ..)
    have h2 := deeps_all r fun y hy => h y (List.mem_cons_of_mem _ hy)
    rw [deeps]
    omega
theorem fair_l {l : List D} {B : Nat} (hB : B ≤ 39) (h : ∀ x ∈ l, plain x = true ∧ deep x ≤ B) : fair (.lst l) = true := by
  unfold fair
  have a := plains_all l fun x hx => (h x hx).1
  have b := deeps_all l fun x hx => (h x hx).2
  simp only [Mp.plain, deep, a, Bool.true_and]
  exact decide_eq_true (by omega)
theorem eq_none {l : List D} (h : fair (.lst l) = true) : cmpD .Eq (.lst l) (.lst []) = some l.isEmpty := by
  show (if (fair (.lst l) && fair (.lst [])) = true then some (eqvD (.lst l) (.lst [])) else none) = _
  rw [if_pos (by rw [h]; rfl)]
  cases l <;> rfl
theorem ne_none {l : List D} (h : fair (.lst l) = true) : cmpD .NotEq (.lst l) (.lst []) = some (!l.isEmpty) := by
  show (if (fair (.lst l) && fair (.lst [])) = true then some (!eqvD (.lst l) (.lst [])) else none) = _
  rw [if_pos (by rw [h]; rfl)]
  cases l <;> rfl
theorem kept_empty {α : Type} (l : List α) (b : α → Bool) (g : α → D) : (l.filterMap fun x => if b x = true then some (g x) else none).isEmpty = l.all fun x => !b x := by
  induction l with
  | nil => rfl
  | cons a l ih =>
    rw [List.filterMap_cons]
    cases h : b a <;> simp [h, ih]
theorem kept_len {α : Type} (l : List α) (b : α → Bool) (g : α → D) : (l.filterMap fun x => if b x = true then some (g x) else none).length = (l.filter b).length := by
  induction l with
  | nil => rfl
  | cons a l ih =>
    rw [List.filterMap_cons]
    cases h : b a <;> simp [h, ih]
theorem kept_few {α : Type} (l : List α) (o : α → Option D) : (l.filterMap o).length ≤ l.length := List.length_filterMap_le o l
theorem any_all {α : Type} (l : List α) (b : α → Bool) : (!l.all fun x => !b x) = l.any b := by
  induction l with
  | nil => rfl
  | cons a l ih => simp [← ih]
theorem c_holds (W : Web) (hW : W.cols.length ≤ 8) : ∀ (h n : Nat) (f : Fo) (s : List Nat), hgt f ≤ h → h ≤ 15 → h + 1 ≤ n → wfF s.length f = true → s.length + h ≤ 50 → (∀ a ∈ s, a < W.cols.length) →
    prog.call n "_law_holds" [webD W, nT s, foD f] = .ok (.bl (holdsF W s f)) false [.non, .non, .non] := by
  intro h
  induction h with
  | zero =>
    intro n f s hf h15 hn wf hl hs
    cases f with
    | is i c => simp only [wfF, decide_eq_true_eq] at wf; exact h_is W hn wf hs
    | same i j => simp only [wfF, Bool.and_eq_true, decide_eq_true_eq] at wf; exact h_same W hn wf.1 wf.2
    | arc i j => simp only [wfF, Bool.and_eq_true, decide_eq_true_eq] at wf; exact h_arc W hn wf.1 wf.2
    | _ => simp [hgt] at hf
  | succ h ih =>
    intro n f s hf h15 hn wf hl hs
    cases f with
    | is i c => simp only [wfF, decide_eq_true_eq] at wf; exact h_is W (by omega) wf hs
    | same i j => simp only [wfF, Bool.and_eq_true, decide_eq_true_eq] at wf; exact h_same W (by omega) wf.1 wf.2
    | arc i j => simp only [wfF, Bool.and_eq_true, decide_eq_true_eq] at wf; exact h_arc W (by omega) wf.1 wf.2
    | not f =>
      simp only [hgt] at hf
      simp only [wfF] at wf
      obtain ⟨n, rfl, hn⟩ := succ_of hn
      have q := ih n f s (by omega) (by omega) (by omega) wf (by omega) hs
      rw [cq__law_holds rfl, holdsF, foD]
      generalize webD W = w at *
      generalize nT s = t at *
      generalize foD f = fd at *
      simp -implicitDefEqProofs (disch := omega) only [F__law_holds, QSa, QSb, QSc, QSd, QSe, QSf, QSg, List.getElem?_cons_zero, List.getElem?_cons_succ, List.set_cons_zero, List.set_cons_succ, Option.bind_some, Option.map_some, getAll, startE, List.cons_append, List.nil_append, List.append_nil, List.map_cons, List.map_nil, List.length_cons, List.length_nil, List.any_cons, List.any_nil, Bool.or_false, Bool.and_true, Bool.true_and, Bool.or_self, Bool.false_or, Bool.false_eq_true, ↓reduceIte, eq_self, Bool.not_true, Bool.not_false, decide_true, decide_false, decide_eq_true_eq, List.contains_nil, List.contains_cons, Option.some_beq_none, Option.some_beq_some, Nat.reduceBEq, Bool.or_true, Bool.true_or, Bool.and_false, Bool.false_and, Option.isSome_some, Int.cast_ofNat_Int, Nat.reduceAdd, Nat.reduceSub, List.drop_nil, List.reduceReplicate, ↓bindR, Int.reduceAdd, Int.reduceSub, Int.reduceMul, Nat.reduceLT, Nat.reduceLeDiff, Int.reduceLT, Int.reduceLE, Nat.reduceEqDiff, Int.reduceEq, Int.reduceBNe, Bool.decide_eq_true, Bool.decide_eq_false, not_true_eq_false, not_false_eq_true, ne_eq, Nat.zero_add, Int.reduceNeg, List.isEmpty_cons, List.isEmpty_nil, List.length_map, List.length_range, List.length_append, List.length_replicate, List.drop_zero, List.drop_succ_cons, reduceCtorEq, FX, wd_is_is, wd_is_arc, wd_is_same, wd_is_not, wd_is_and, wd_is_or, wd_is_some, wd_is_all, wd_arc_is, wd_arc_arc, wd_arc_same, wd_arc_not, wd_arc_and, wd_arc_or, wd_arc_some, wd_arc_all, wd_same_is, wd_same_arc, wd_same_same, wd_same_not, wd_same_and, wd_same_or, wd_same_some, wd_same_all, wd_not_is, wd_not_arc, wd_not_same, wd_not_not, wd_not_and, wd_not_or, wd_not_some, wd_not_all, wd_and_is, wd_and_arc, wd_and_same, wd_and_not, wd_and_and, wd_and_or, wd_and_some, wd_and_all, wd_or_is, wd_or_arc, wd_or_same, wd_or_not, wd_or_and, wd_or_or, wd_or_some, wd_or_all, wd_some_is, wd_some_arc, wd_some_same, wd_some_not, wd_some_and, wd_some_or, wd_some_some, wd_some_all, wd_all_is, wd_all_arc, wd_all_same, wd_all_not, wd_all_and, wd_all_or, wd_all_some, wd_all_all, q]
      rfl
    | and fs =>
      simp only [hgt] at hf
      simp only [wfF, Bool.and_eq_true, decide_eq_true_eq] at wf
      obtain ⟨n, rfl, hn⟩ := succ_of hn
      have q : ∀ f ∈ fs, prog.call n "_law_holds" [webD W, nT s, foD f] = .ok (.bl (holdsF W s f)) false [.non, .non, .non] := fun f hm => ih n f s (by have := hgts_mem hm; omega) (by omega) (by omega) (wfFs_mem wf.2 hm) (by omega) hs
      have fr : ∀ o : Fo → Bool, fair (.lst (fs.filterMap fun f => if o f = true then some (foD f) else none)) = true := fun o => fair_l (B := 33) (by omega) (by
        intro x hx
        obtain ⟨f, hm, e⟩ := List.mem_filterMap.1 hx
        split at e
        · cases e
          have := hgts_mem hm
          exact ⟨fo_plain f, Nat.le_trans (fo_deep f) (by omega)⟩
        · cases e)
      have e := eq_none (fr fun f => !holdsF W s f)
      rw [kept_empty] at e
      rw [cq__law_holds rfl, holdsF, foD, foDs_map, holdsAll_all]
      generalize webD W = w at *
      generalize nT s = t at *
      simp -implicitDefEqProofs (disch := omega) only [F__law_holds, QSa, QSb, QSc, QSd, QSe, QSf, QSg, List.getElem?_cons_zero, List.getElem?_cons_succ, List.set_cons_zero, List.set_cons_succ, Option.bind_some, Option.map_some, getAll, startE, List.cons_append, List.nil_append, List.append_nil, List.map_cons, List.map_nil, List.length_cons, List.length_nil, List.any_cons, List.any_nil, Bool.or_false, Bool.and_true, Bool.true_and, Bool.or_self, Bool.false_or, Bool.false_eq_true, ↓reduceIte, eq_self, Bool.not_true, Bool.not_false, decide_true, decide_false, decide_eq_true_eq, List.contains_nil, List.contains_cons, Option.some_beq_none, Option.some_beq_some, Nat.reduceBEq, Bool.or_true, Bool.true_or, Bool.and_false, Bool.false_and, Option.isSome_some, Int.cast_ofNat_Int, Nat.reduceAdd, Nat.reduceSub, List.drop_nil, List.reduceReplicate, ↓bindR, Int.reduceAdd, Int.reduceSub, Int.reduceMul, Nat.reduceLT, Nat.reduceLeDiff, Int.reduceLT, Int.reduceLE, Nat.reduceEqDiff, Int.reduceEq, Int.reduceBNe, Bool.decide_eq_true, Bool.decide_eq_false, not_true_eq_false, not_false_eq_true, ne_eq, Nat.zero_add, Int.reduceNeg, List.isEmpty_cons, List.isEmpty_nil, List.length_map, List.length_range, List.length_append, List.length_replicate, List.drop_zero, List.drop_succ_cons, reduceCtorEq, FX, wd_is_is, wd_is_arc, wd_is_same, wd_is_not, wd_is_and, wd_is_or, wd_is_some, wd_is_all, wd_arc_is, wd_arc_arc, wd_arc_same, wd_arc_not, wd_arc_and, wd_arc_or, wd_arc_some, wd_arc_all, wd_same_is, wd_same_arc, wd_same_same, wd_same_not, wd_same_and, wd_same_or, wd_same_some, wd_same_all, wd_not_is, wd_not_arc, wd_not_same, wd_not_not, wd_not_and, wd_not_or, wd_not_some, wd_not_all, wd_and_is, wd_and_arc, wd_and_same, wd_and_not, wd_and_and, wd_and_or, wd_and_some, wd_and_all, wd_or_is, wd_or_arc, wd_or_same, wd_or_not, wd_or_and, wd_or_or, wd_or_some, wd_or_all, wd_some_is, wd_some_arc, wd_some_same, wd_some_not, wd_some_and, wd_some_or, wd_some_some, wd_some_all, wd_all_is, wd_all_arc, wd_all_same, wd_all_not, wd_all_and, wd_all_or, wd_all_some, wd_all_all]
      rw [compR (enc := foD) (fun f => if (!holdsF W s f) = true then some (foD f) else none) fs ?hj ?he ?hh ?hl]
      case hj => rfl
      case he => rfl
      case hl => exact Nat.lt_of_le_of_lt (kept_few _ _) (by omega)
      case hh =>
        intro f hm
        have q := q f hm
        refine ⟨some (.fz (foD f)), ?_⟩
        simp -implicitDefEqProofs (disch := omega) only [QSa, QSb, QSc, QSd, QSe, QSf, QSg, List.getElem?_cons_zero, List.getElem?_cons_succ, List.set_cons_zero, List.set_cons_succ, Option.bind_some, Option.map_some, getAll, startE, List.cons_append, List.nil_append, List.append_nil, List.map_cons, List.map_nil, List.length_cons, List.length_nil, List.any_cons, List.any_nil, Bool.or_false, Bool.and_true, Bool.true_and, Bool.or_self, Bool.false_or, Bool.false_eq_true, ↓reduceIte, eq_self, Bool.not_true, Bool.not_false, decide_true, decide_false, decide_eq_true_eq, List.contains_nil, List.contains_cons, Option.some_beq_none, Option.some_beq_some, Nat.reduceBEq, Bool.or_true, Bool.true_or, Bool.and_false, Bool.false_and, Option.isSome_some, Int.cast_ofNat_Int, Nat.reduceAdd, Nat.reduceSub, List.drop_nil, List.reduceReplicate, ↓bindR, Int.reduceAdd, Int.reduceSub, Int.reduceMul, Nat.reduceLT, Nat.reduceLeDiff, Int.reduceLT, Int.reduceLE, Nat.reduceEqDiff, Int.reduceEq, Int.reduceBNe, Bool.decide_eq_true, Bool.decide_eq_false, not_true_eq_false, not_false_eq_true, ne_eq, Nat.zero_add, Int.reduceNeg, List.isEmpty_cons, List.isEmpty_nil, List.length_map, List.length_range, List.length_append, List.length_replicate, List.drop_zero, List.drop_succ_cons, reduceCtorEq, FX, q]
        cases holdsF W s f <;> simp -implicitDefEqProofs (disch := omega) only [QSa, QSb, QSc, QSd, QSe, QSf, QSg, List.getElem?_cons_zero, List.getElem?_cons_succ, List.set_cons_zero, List.set_cons_succ, Option.bind_some, Option.map_some, getAll, startE, List.cons_append, List.nil_append, List.append_nil, List.map_cons, List.map_nil, List.length_cons, List.length_nil, List.any_cons, List.any_nil, Bool.or_false, Bool.and_true, Bool.true_and, Bool.or_self, Bool.false_or, Bool.false_eq_true, ↓reduceIte, eq_self, Bool.not_true, Bool.not_false, decide_true, decide_false, decide_eq_true_eq, List.contains_nil, List.contains_cons, Option.some_beq_none, Option.some_beq_some, Nat.reduceBEq, Bool.or_true, Bool.true_or, Bool.and_false, Bool.false_and, Option.isSome_some, Int.cast_ofNat_Int, Nat.reduceAdd, Nat.reduceSub, List.drop_nil, List.reduceReplicate, ↓bindR, Int.reduceAdd, Int.reduceSub, Int.reduceMul, Nat.reduceLT, Nat.reduceLeDiff, Int.reduceLT, Int.reduceLE, Nat.reduceEqDiff, Int.reduceEq, Int.reduceBNe, Bool.decide_eq_true, Bool.decide_eq_false, not_true_eq_false, not_false_eq_true, ne_eq, Nat.zero_add, Int.reduceNeg, List.isEmpty_cons, List.isEmpty_nil, List.length_map, List.length_range, List.length_append, List.length_replicate, List.drop_zero, List.drop_succ_cons, reduceCtorEq]
      simp -implicitDefEqProofs (disch := omega) only [QSa, QSb, QSc, QSd, QSe, QSf, QSg, List.getElem?_cons_zero, List.getElem?_cons_succ, List.set_cons_zero, List.set_cons_succ, Option.bind_some, Option.map_some, getAll, startE, List.cons_append, List.nil_append, List.append_nil, List.map_cons, List.map_nil, List.length_cons, List.length_nil, List.any_cons, List.any_nil, Bool.or_false, Bool.and_true, Bool.true_and, Bool.or_self, Bool.false_or, Bool.false_eq_true, ↓reduceIte, eq_self, Bool.not_true, Bool.not_false, decide_true, decide_false, decide_eq_true_eq, List.contains_nil, List.contains_cons, Option.some_beq_none, Option.some_beq_some, Nat.reduceBEq, Bool.or_true, Bool.true_or, Bool.and_false, Bool.false_and, Option.isSome_some, Int.cast_ofNat_Int, Nat.reduceAdd, Nat.reduceSub, List.drop_nil, List.reduceReplicate, ↓bindR, Int.reduceAdd, Int.reduceSub, Int.reduceMul, Nat.reduceLT, Nat.reduceLeDiff, Int.reduceLT, Int.reduceLE, Nat.reduceEqDiff, Int.reduceEq, Int.reduceBNe, Bool.decide_eq_true, Bool.decide_eq_false, not_true_eq_false, not_false_eq_true, ne_eq, Nat.zero_add, Int.reduceNeg, List.isEmpty_cons, List.isEmpty_nil, List.length_map, List.length_range, List.length_append, List.length_replicate, List.drop_zero, List.drop_succ_cons, reduceCtorEq, FX, e]
      simp only [Bool.not_not]
      rfl
    | or fs =>
      simp only [hgt] at hf
      simp only [wfF, Bool.and_eq_true, decide_eq_true_eq] at wf
      obtain ⟨n, rfl, hn⟩ := succ_of hn
      have q : ∀ f ∈ fs, prog.call n "_law_holds" [webD W, nT s, foD f] = .ok (.bl (holdsF W s f)) false [.non, .non, .non] := fun f hm => ih n f s (by have := hgts_mem hm; omega) (by omega) (by omega) (wfFs_mem wf.2 hm) (by omega) hs
      have fr : ∀ o : Fo → Bool, fair (.lst (fs.filterMap fun f => if o f = true then some (foD f) else none)) = true := fun o => fair_l (B := 33) (by omega) (by
        intro x hx
        obtain ⟨f, hm, e⟩ := List.mem_filterMap.1 hx
        split at e
        · cases e
          have := hgts_mem hm
          exact ⟨fo_plain f, Nat.le_trans (fo_deep f) (by omega)⟩
        · cases e)
      have e := ne_none (fr fun f => holdsF W s f)
      rw [kept_empty, any_all] at e
      rw [cq__law_holds rfl, holdsF, foD, foDs_map, holdsAny_any]
      generalize webD W = w at *
      generalize nT s = t at *
      simp -implicitDefEqProofs (disch := omega) only [F__law_holds, QSa, QSb, QSc, QSd, QSe, QSf, QSg, List.getElem?_cons_zero, List.getElem?_cons_succ, List.set_cons_zero, List.set_cons_succ, Option.bind_some, Option.map_some, getAll, startE, List.cons_append, List.nil_append, List.append_nil, List.map_cons, List.map_nil, List.length_cons, List.length_nil, List.any_cons, List.any_nil, Bool.or_false, Bool.and_true, Bool.true_and, Bool.or_self, Bool.false_or, Bool.false_eq_true, ↓reduceIte, eq_self, Bool.not_true, Bool.not_false, decide_true, decide_false, decide_eq_true_eq, List.contains_nil, List.contains_cons, Option.some_beq_none, Option.some_beq_some, Nat.reduceBEq, Bool.or_true, Bool.true_or, Bool.and_false, Bool.false_and, Option.isSome_some, Int.cast_ofNat_Int, Nat.reduceAdd, Nat.reduceSub, List.drop_nil, List.reduceReplicate, ↓bindR, Int.reduceAdd, Int.reduceSub, Int.reduceMul, Nat.reduceLT, Nat.reduceLeDiff, Int.reduceLT, Int.reduceLE, Nat.reduceEqDiff, Int.reduceEq, Int.reduceBNe, Bool.decide_eq_true, Bool.decide_eq_false, not_true_eq_false, not_false_eq_true, ne_eq, Nat.zero_add, Int.reduceNeg, List.isEmpty_cons, List.isEmpty_nil, List.length_map, List.length_range, List.length_append, List.length_replicate, List.drop_zero, List.drop_succ_cons, reduceCtorEq, FX, wd_is_is, wd_is_arc, wd_is_same, wd_is_not, wd_is_and, wd_is_or, wd_is_some, wd_is_all, wd_arc_is, wd_arc_arc, wd_arc_same, wd_arc_not, wd_arc_and, wd_arc_or, wd_arc_some, wd_arc_all, wd_same_is, wd_same_arc, wd_same_same, wd_same_not, wd_same_and, wd_same_or, wd_same_some, wd_same_all, wd_not_is, wd_not_arc, wd_not_same, wd_not_not, wd_not_and, wd_not_or, wd_not_some, wd_not_all, wd_and_is, wd_and_arc, wd_and_same, wd_and_not, wd_and_and, wd_and_or, wd_and_some, wd_and_all, wd_or_is, wd_or_arc, wd_or_same, wd_or_not, wd_or_and, wd_or_or, wd_or_some, wd_or_all, wd_some_is, wd_some_arc, wd_some_same, wd_some_not, wd_some_and, wd_some_or, wd_some_some, wd_some_all, wd_all_is, wd_all_arc, wd_all_same, wd_all_not, wd_all_and, wd_all_or, wd_all_some, wd_all_all]
      rw [compR (enc := foD) (fun f => if (holdsF W s f) = true then some (foD f) else none) fs ?hj ?he ?hh ?hl]
      case hj => rfl
      case he => rfl
      case hl => exact Nat.lt_of_le_of_lt (kept_few _ _) (by omega)
      case hh =>
        intro f hm
        have q := q f hm
        refine ⟨some (.fz (foD f)), ?_⟩
        simp -implicitDefEqProofs (disch := omega) only [QSa, QSb, QSc, QSd, QSe, QSf, QSg, List.getElem?_cons_zero, List.getElem?_cons_succ, List.set_cons_zero, List.set_cons_succ, Option.bind_some, Option.map_some, getAll, startE, List.cons_append, List.nil_append, List.append_nil, List.map_cons, List.map_nil, List.length_cons, List.length_nil, List.any_cons, List.any_nil, Bool.or_false, Bool.and_true, Bool.true_and, Bool.or_self, Bool.false_or, Bool.false_eq_true, ↓reduceIte, eq_self, Bool.not_true, Bool.not_false, decide_true, decide_false, decide_eq_true_eq, List.contains_nil, List.contains_cons, Option.some_beq_none, Option.some_beq_some, Nat.reduceBEq, Bool.or_true, Bool.true_or, Bool.and_false, Bool.false_and, Option.isSome_some, Int.cast_ofNat_Int, Nat.reduceAdd, Nat.reduceSub, List.drop_nil, List.reduceReplicate, ↓bindR, Int.reduceAdd, Int.reduceSub, Int.reduceMul, Nat.reduceLT, Nat.reduceLeDiff, Int.reduceLT, Int.reduceLE, Nat.reduceEqDiff, Int.reduceEq, Int.reduceBNe, Bool.decide_eq_true, Bool.decide_eq_false, not_true_eq_false, not_false_eq_true, ne_eq, Nat.zero_add, Int.reduceNeg, List.isEmpty_cons, List.isEmpty_nil, List.length_map, List.length_range, List.length_append, List.length_replicate, List.drop_zero, List.drop_succ_cons, reduceCtorEq, FX, q]
        cases holdsF W s f <;> simp -implicitDefEqProofs (disch := omega) only [QSa, QSb, QSc, QSd, QSe, QSf, QSg, List.getElem?_cons_zero, List.getElem?_cons_succ, List.set_cons_zero, List.set_cons_succ, Option.bind_some, Option.map_some, getAll, startE, List.cons_append, List.nil_append, List.append_nil, List.map_cons, List.map_nil, List.length_cons, List.length_nil, List.any_cons, List.any_nil, Bool.or_false, Bool.and_true, Bool.true_and, Bool.or_self, Bool.false_or, Bool.false_eq_true, ↓reduceIte, eq_self, Bool.not_true, Bool.not_false, decide_true, decide_false, decide_eq_true_eq, List.contains_nil, List.contains_cons, Option.some_beq_none, Option.some_beq_some, Nat.reduceBEq, Bool.or_true, Bool.true_or, Bool.and_false, Bool.false_and, Option.isSome_some, Int.cast_ofNat_Int, Nat.reduceAdd, Nat.reduceSub, List.drop_nil, List.reduceReplicate, ↓bindR, Int.reduceAdd, Int.reduceSub, Int.reduceMul, Nat.reduceLT, Nat.reduceLeDiff, Int.reduceLT, Int.reduceLE, Nat.reduceEqDiff, Int.reduceEq, Int.reduceBNe, Bool.decide_eq_true, Bool.decide_eq_false, not_true_eq_false, not_false_eq_true, ne_eq, Nat.zero_add, Int.reduceNeg, List.isEmpty_cons, List.isEmpty_nil, List.length_map, List.length_range, List.length_append, List.length_replicate, List.drop_zero, List.drop_succ_cons, reduceCtorEq]
      simp -implicitDefEqProofs (disch := omega) only [QSa, QSb, QSc, QSd, QSe, QSf, QSg, List.getElem?_cons_zero, List.getElem?_cons_succ, List.set_cons_zero, List.set_cons_succ, Option.bind_some, Option.map_some, getAll, startE, List.cons_append, List.nil_append, List.append_nil, List.map_cons, List.map_nil, List.length_cons, List.length_nil, List.any_cons, List.any_nil, Bool.or_false, Bool.and_true, Bool.true_and, Bool.or_self, Bool.false_or, Bool.false_eq_true, ↓reduceIte, eq_self, Bool.not_true, Bool.not_false, decide_true, decide_false, decide_eq_true_eq, List.contains_nil, List.contains_cons, Option.some_beq_none, Option.some_beq_some, Nat.reduceBEq, Bool.or_true, Bool.true_or, Bool.and_false, Bool.false_and, Option.isSome_some, Int.cast_ofNat_Int, Nat.reduceAdd, Nat.reduceSub, List.drop_nil, List.reduceReplicate, ↓bindR, Int.reduceAdd, Int.reduceSub, Int.reduceMul, Nat.reduceLT, Nat.reduceLeDiff, Int.reduceLT, Int.reduceLE, Nat.reduceEqDiff, Int.reduceEq, Int.reduceBNe, Bool.decide_eq_true, Bool.decide_eq_false, not_true_eq_false, not_false_eq_true, ne_eq, Nat.zero_add, Int.reduceNeg, List.isEmpty_cons, List.isEmpty_nil, List.length_map, List.length_range, List.length_append, List.length_replicate, List.drop_zero, List.drop_succ_cons, reduceCtorEq, FX, e]
      rfl
    | some f =>
      simp only [hgt] at hf
      simp only [wfF] at wf
      obtain ⟨n, rfl, hn⟩ := succ_of hn
      have q : ∀ p, p < W.cols.length → prog.call n "_law_holds" [webD W, .tup (s.map dI ++ [dI p]), foD f] = .ok (.bl (holdsF W (s ++ [p]) f)) false [.non, .non, .non] := fun p hp => by
        have := ih n f (s ++ [p]) (by omega) (by omega) (by omega) (by simpa using wf) (by simp; omega) (fun a ha => by
          rcases List.mem_append.1 ha with h | h
          · exact hs a h
          · rw [List.mem_singleton.1 h]; exact hp)
        rwa [nT, List.map_append] at this
      have fr := fair_l (B := 0) (l := (List.range W.cols.length).filterMap fun p => if holdsF W (s ++ [p]) f = true then some (dI p) else none) (by omega) (by
        intro x hx
        obtain ⟨p, _, e⟩ := List.mem_filterMap.1 hx
        split at e
        · cases e; exact ⟨rfl, Nat.le_refl _⟩
        · cases e)
      have e := ne_none fr
      rw [kept_empty, any_all] at e
      have w1 := web1 W
      rw [cq__law_holds rfl, holdsF, foD]
      generalize webD W = w at *
      generalize foD f = fd at *
      simp -implicitDefEqProofs (disch := omega) only [F__law_holds, QSa, QSb, QSc, QSd, QSe, QSf, QSg, List.getElem?_cons_zero, List.getElem?_cons_succ, List.set_cons_zero, List.set_cons_succ, Option.bind_some, Option.map_some, getAll, startE, List.cons_append, List.nil_append, List.append_nil, List.map_cons, List.map_nil, List.length_cons, List.length_nil, List.any_cons, List.any_nil, Bool.or_false, Bool.and_true, Bool.true_and, Bool.or_self, Bool.false_or, Bool.false_eq_true, ↓reduceIte, eq_self, Bool.not_true, Bool.not_false, decide_true, decide_false, decide_eq_true_eq, List.contains_nil, List.contains_cons, Option.some_beq_none, Option.some_beq_some, Nat.reduceBEq, Bool.or_true, Bool.true_or, Bool.and_false, Bool.false_and, Option.isSome_some, Int.cast_ofNat_Int, Nat.reduceAdd, Nat.reduceSub, List.drop_nil, List.reduceReplicate, ↓bindR, Int.reduceAdd, Int.reduceSub, Int.reduceMul, Nat.reduceLT, Nat.reduceLeDiff, Int.reduceLT, Int.reduceLE, Nat.reduceEqDiff, Int.reduceEq, Int.reduceBNe, Bool.decide_eq_true, Bool.decide_eq_false, not_true_eq_false, not_false_eq_true, ne_eq, Nat.zero_add, Int.reduceNeg, List.isEmpty_cons, List.isEmpty_nil, List.length_map, List.length_range, List.length_append, List.length_replicate, List.drop_zero, List.drop_succ_cons, reduceCtorEq, FX, wd_is_is, wd_is_arc, wd_is_same, wd_is_not, wd_is_and, wd_is_or, wd_is_some, wd_is_all, wd_arc_is, wd_arc_arc, wd_arc_same, wd_arc_not, wd_arc_and, wd_arc_or, wd_arc_some, wd_arc_all, wd_same_is, wd_same_arc, wd_same_same, wd_same_not, wd_same_and, wd_same_or, wd_same_some, wd_same_all, wd_not_is, wd_not_arc, wd_not_same, wd_not_not, wd_not_and, wd_not_or, wd_not_some, wd_not_all, wd_and_is, wd_and_arc, wd_and_same, wd_and_not, wd_and_and, wd_and_or, wd_and_some, wd_and_all, wd_or_is, wd_or_arc, wd_or_same, wd_or_not, wd_or_and, wd_or_or, wd_or_some, wd_or_all, wd_some_is, wd_some_arc, wd_some_same, wd_some_not, wd_some_and, wd_some_or, wd_some_some, wd_some_all, wd_all_is, wd_all_arc, wd_all_same, wd_all_not, wd_all_and, wd_all_or, wd_all_some, wd_all_all, w1]
      rw [compR (enc := dI) (fun p => if (holdsF W (s ++ [p]) f) = true then some (dI p) else none) (List.range W.cols.length) ?hj ?he ?hh ?hl]
      case hj => rfl
      case he => rfl
      case hl => exact Nat.lt_of_le_of_lt (kept_few _ _) (by simp; omega)
      case hh =>
        intro p hm
        have q := q p (List.mem_range.1 hm)
        refine ⟨some (.fz (dI p)), ?_⟩
        simp -implicitDefEqProofs (disch := omega) only [QSa, QSb, QSc, QSd, QSe, QSf, QSg, List.getElem?_cons_zero, List.getElem?_cons_succ, List.set_cons_zero, List.set_cons_succ, Option.bind_some, Option.map_some, getAll, startE, List.cons_append, List.nil_append, List.append_nil, List.map_cons, List.map_nil, List.length_cons, List.length_nil, List.any_cons, List.any_nil, Bool.or_false, Bool.and_true, Bool.true_and, Bool.or_self, Bool.false_or, Bool.false_eq_true, ↓reduceIte, eq_self, Bool.not_true, Bool.not_false, decide_true, decide_false, decide_eq_true_eq, List.contains_nil, List.contains_cons, Option.some_beq_none, Option.some_beq_some, Nat.reduceBEq, Bool.or_true, Bool.true_or, Bool.and_false, Bool.false_and, Option.isSome_some, Int.cast_ofNat_Int, Nat.reduceAdd, Nat.reduceSub, List.drop_nil, List.reduceReplicate, ↓bindR, Int.reduceAdd, Int.reduceSub, Int.reduceMul, Nat.reduceLT, Nat.reduceLeDiff, Int.reduceLT, Int.reduceLE, Nat.reduceEqDiff, Int.reduceEq, Int.reduceBNe, Bool.decide_eq_true, Bool.decide_eq_false, not_true_eq_false, not_false_eq_true, ne_eq, Nat.zero_add, Int.reduceNeg, List.isEmpty_cons, List.isEmpty_nil, List.length_map, List.length_range, List.length_append, List.length_replicate, List.drop_zero, List.drop_succ_cons, reduceCtorEq, FX, q]
        cases holdsF W (s ++ [p]) f <;> simp -implicitDefEqProofs (disch := omega) only [QSa, QSb, QSc, QSd, QSe, QSf, QSg, List.getElem?_cons_zero, List.getElem?_cons_succ, List.set_cons_zero, List.set_cons_succ, Option.bind_some, Option.map_some, getAll, startE, List.cons_append, List.nil_append, List.append_nil, List.map_cons, List.map_nil, List.length_cons, List.length_nil, List.any_cons, List.any_nil, Bool.or_false, Bool.and_true, Bool.true_and, Bool.or_self, Bool.false_or, Bool.false_eq_true, ↓reduceIte, eq_self, Bool.not_true, Bool.not_false, decide_true, decide_false, decide_eq_true_eq, List.contains_nil, List.contains_cons, Option.some_beq_none, Option.some_beq_some, Nat.reduceBEq, Bool.or_true, Bool.true_or, Bool.and_false, Bool.false_and, Option.isSome_some, Int.cast_ofNat_Int, Nat.reduceAdd, Nat.reduceSub, List.drop_nil, List.reduceReplicate, ↓bindR, Int.reduceAdd, Int.reduceSub, Int.reduceMul, Nat.reduceLT, Nat.reduceLeDiff, Int.reduceLT, Int.reduceLE, Nat.reduceEqDiff, Int.reduceEq, Int.reduceBNe, Bool.decide_eq_true, Bool.decide_eq_false, not_true_eq_false, not_false_eq_true, ne_eq, Nat.zero_add, Int.reduceNeg, List.isEmpty_cons, List.isEmpty_nil, List.length_map, List.length_range, List.length_append, List.length_replicate, List.drop_zero, List.drop_succ_cons, reduceCtorEq]
      simp -implicitDefEqProofs (disch := omega) only [QSa, QSb, QSc, QSd, QSe, QSf, QSg, List.getElem?_cons_zero, List.getElem?_cons_succ, List.set_cons_zero, List.set_cons_succ, Option.bind_some, Option.map_some, getAll, startE, List.cons_append, List.nil_append, List.append_nil, List.map_cons, List.map_nil, List.length_cons, List.length_nil, List.any_cons, List.any_nil, Bool.or_false, Bool.and_true, Bool.true_and, Bool.or_self, Bool.false_or, Bool.false_eq_true, ↓reduceIte, eq_self, Bool.not_true, Bool.not_false, decide_true, decide_false, decide_eq_true_eq, List.contains_nil, List.contains_cons, Option.some_beq_none, Option.some_beq_some, Nat.reduceBEq, Bool.or_true, Bool.true_or, Bool.and_false, Bool.false_and, Option.isSome_some, Int.cast_ofNat_Int, Nat.reduceAdd, Nat.reduceSub, List.drop_nil, List.reduceReplicate, ↓bindR, Int.reduceAdd, Int.reduceSub, Int.reduceMul, Nat.reduceLT, Nat.reduceLeDiff, Int.reduceLT, Int.reduceLE, Nat.reduceEqDiff, Int.reduceEq, Int.reduceBNe, Bool.decide_eq_true, Bool.decide_eq_false, not_true_eq_false, not_false_eq_true, ne_eq, Nat.zero_add, Int.reduceNeg, List.isEmpty_cons, List.isEmpty_nil, List.length_map, List.length_range, List.length_append, List.length_replicate, List.drop_zero, List.drop_succ_cons, reduceCtorEq, FX, wd_is_is, wd_is_arc, wd_is_same, wd_is_not, wd_is_and, wd_is_or, wd_is_some, wd_is_all, wd_arc_is, wd_arc_arc, wd_arc_same, wd_arc_not, wd_arc_and, wd_arc_or, wd_arc_some, wd_arc_all, wd_same_is, wd_same_arc, wd_same_same, wd_same_not, wd_same_and, wd_same_or, wd_same_some, wd_same_all, wd_not_is, wd_not_arc, wd_not_same, wd_not_not, wd_not_and, wd_not_or, wd_not_some, wd_not_all, wd_and_is, wd_and_arc, wd_and_same, wd_and_not, wd_and_and, wd_and_or, wd_and_some, wd_and_all, wd_or_is, wd_or_arc, wd_or_same, wd_or_not, wd_or_and, wd_or_or, wd_or_some, wd_or_all, wd_some_is, wd_some_arc, wd_some_same, wd_some_not, wd_some_and, wd_some_or, wd_some_some, wd_some_all, wd_all_is, wd_all_arc, wd_all_same, wd_all_not, wd_all_and, wd_all_or, wd_all_some, wd_all_all, e]
      rfl
    | all f =>
      simp only [hgt] at hf
      simp only [wfF] at wf
      obtain ⟨n, rfl, hn⟩ := succ_of hn
      have q : ∀ p, p < W.cols.length → prog.call n "_law_holds" [webD W, .tup (s.map dI ++ [dI p]), foD f] = .ok (.bl (holdsF W (s ++ [p]) f)) false [.non, .non, .non] := fun p hp => by
        have := ih n f (s ++ [p]) (by omega) (by omega) (by omega) (by simpa using wf) (by simp; omega) (fun a ha => by
          rcases List.mem_append.1 ha with h | h
          · exact hs a h
          · rw [List.mem_singleton.1 h]; exact hp)
        rwa [nT, List.map_append] at this
      have w1 := web1 W
      rw [cq__law_holds rfl, holdsF, foD]
      generalize webD W = w at *
      generalize foD f = fd at *
      simp -implicitDefEqProofs (disch := omega) only [F__law_holds, QSa, QSb, QSc, QSd, QSe, QSf, QSg, List.getElem?_cons_zero, List.getElem?_cons_succ, List.set_cons_zero, List.set_cons_succ, Option.bind_some, Option.map_some, getAll, startE, List.cons_append, List.nil_append, List.append_nil, List.map_cons, List.map_nil, List.length_cons, List.length_nil, List.any_cons, List.any_nil, Bool.or_false, Bool.and_true, Bool.true_and, Bool.or_self, Bool.false_or, Bool.false_eq_true, ↓reduceIte, eq_self, Bool.not_true, Bool.not_false, decide_true, decide_false, decide_eq_true_eq, List.contains_nil, List.contains_cons, Option.some_beq_none, Option.some_beq_some, Nat.reduceBEq, Bool.or_true, Bool.true_or, Bool.and_false, Bool.false_and, Option.isSome_some, Int.cast_ofNat_Int, Nat.reduceAdd, Nat.reduceSub, List.drop_nil, List.reduceReplicate, ↓bindR, Int.reduceAdd, Int.reduceSub, Int.reduceMul, Nat.reduceLT, Nat.reduceLeDiff, Int.reduceLT, Int.reduceLE, Nat.reduceEqDiff, Int.reduceEq, Int.reduceBNe, Bool.decide_eq_true, Bool.decide_eq_false, not_true_eq_false, not_false_eq_true, ne_eq, Nat.zero_add, Int.reduceNeg, List.isEmpty_cons, List.isEmpty_nil, List.length_map, List.length_range, List.length_append, List.length_replicate, List.drop_zero, List.drop_succ_cons, reduceCtorEq, FX, wd_is_is, wd_is_arc, wd_is_same, wd_is_not, wd_is_and, wd_is_or, wd_is_some, wd_is_all, wd_arc_is, wd_arc_arc, wd_arc_same, wd_arc_not, wd_arc_and, wd_arc_or, wd_arc_some, wd_arc_all, wd_same_is, wd_same_arc, wd_same_same, wd_same_not, wd_same_and, wd_same_or, wd_same_some, wd_same_all, wd_not_is, wd_not_arc, wd_not_same, wd_not_not, wd_not_and, wd_not_or, wd_not_some, wd_not_all, wd_and_is, wd_and_arc, wd_and_same, wd_and_not, wd_and_and, wd_and_or, wd_and_some, wd_and_all, wd_or_is, wd_or_arc, wd_or_same, wd_or_not, wd_or_and, wd_or_or, wd_or_some, wd_or_all, wd_some_is, wd_some_arc, wd_some_same, wd_some_not, wd_some_and, wd_some_or, wd_some_some, wd_some_all, wd_all_is, wd_all_arc, wd_all_same, wd_all_not, wd_all_and, wd_all_or, wd_all_some, wd_all_all, w1]
      rw [compR (enc := dI) (fun p => if (holdsF W (s ++ [p]) f) = true then some (dI p) else none) (List.range W.cols.length) ?hj ?he ?hh ?hl]
      case hj => rfl
      case he => rfl
      case hl => exact Nat.lt_of_le_of_lt (kept_few _ _) (by simp; omega)
      case hh =>
        intro p hm
        have q := q p (List.mem_range.1 hm)
        refine ⟨some (.fz (dI p)), ?_⟩
        simp -implicitDefEqProofs (disch := omega) only [QSa, QSb, QSc, QSd, QSe, QSf, QSg, List.getElem?_cons_zero, List.getElem?_cons_succ, List.set_cons_zero, List.set_cons_succ, Option.bind_some, Option.map_some, getAll, startE, List.cons_append, List.nil_append, List.append_nil, List.map_cons, List.map_nil, List.length_cons, List.length_nil, List.any_cons, List.any_nil, Bool.or_false, Bool.and_true, Bool.true_and, Bool.or_self, Bool.false_or, Bool.false_eq_true, ↓reduceIte, eq_self, Bool.not_true, Bool.not_false, decide_true, decide_false, decide_eq_true_eq, List.contains_nil, List.contains_cons, Option.some_beq_none, Option.some_beq_some, Nat.reduceBEq, Bool.or_true, Bool.true_or, Bool.and_false, Bool.false_and, Option.isSome_some, Int.cast_ofNat_Int, Nat.reduceAdd, Nat.reduceSub, List.drop_nil, List.reduceReplicate, ↓bindR, Int.reduceAdd, Int.reduceSub, Int.reduceMul, Nat.reduceLT, Nat.reduceLeDiff, Int.reduceLT, Int.reduceLE, Nat.reduceEqDiff, Int.reduceEq, Int.reduceBNe, Bool.decide_eq_true, Bool.decide_eq_false, not_true_eq_false, not_false_eq_true, ne_eq, Nat.zero_add, Int.reduceNeg, List.isEmpty_cons, List.isEmpty_nil, List.length_map, List.length_range, List.length_append, List.length_replicate, List.drop_zero, List.drop_succ_cons, reduceCtorEq, FX, q]
        cases holdsF W (s ++ [p]) f <;> simp -implicitDefEqProofs (disch := omega) only [QSa, QSb, QSc, QSd, QSe, QSf, QSg, List.getElem?_cons_zero, List.getElem?_cons_succ, List.set_cons_zero, List.set_cons_succ, Option.bind_some, Option.map_some, getAll, startE, List.cons_append, List.nil_append, List.append_nil, List.map_cons, List.map_nil, List.length_cons, List.length_nil, List.any_cons, List.any_nil, Bool.or_false, Bool.and_true, Bool.true_and, Bool.or_self, Bool.false_or, Bool.false_eq_true, ↓reduceIte, eq_self, Bool.not_true, Bool.not_false, decide_true, decide_false, decide_eq_true_eq, List.contains_nil, List.contains_cons, Option.some_beq_none, Option.some_beq_some, Nat.reduceBEq, Bool.or_true, Bool.true_or, Bool.and_false, Bool.false_and, Option.isSome_some, Int.cast_ofNat_Int, Nat.reduceAdd, Nat.reduceSub, List.drop_nil, List.reduceReplicate, ↓bindR, Int.reduceAdd, Int.reduceSub, Int.reduceMul, Nat.reduceLT, Nat.reduceLeDiff, Int.reduceLT, Int.reduceLE, Nat.reduceEqDiff, Int.reduceEq, Int.reduceBNe, Bool.decide_eq_true, Bool.decide_eq_false, not_true_eq_false, not_false_eq_true, ne_eq, Nat.zero_add, Int.reduceNeg, List.isEmpty_cons, List.isEmpty_nil, List.length_map, List.length_range, List.length_append, List.length_replicate, List.drop_zero, List.drop_succ_cons, reduceCtorEq]
      simp -implicitDefEqProofs (disch := omega) only [QSa, QSb, QSc, QSd, QSe, QSf, QSg, List.getElem?_cons_zero, List.getElem?_cons_succ, List.set_cons_zero, List.set_cons_succ, Option.bind_some, Option.map_some, getAll, startE, List.cons_append, List.nil_append, List.append_nil, List.map_cons, List.map_nil, List.length_cons, List.length_nil, List.any_cons, List.any_nil, Bool.or_false, Bool.and_true, Bool.true_and, Bool.or_self, Bool.false_or, Bool.false_eq_true, ↓reduceIte, eq_self, Bool.not_true, Bool.not_false, decide_true, decide_false, decide_eq_true_eq, List.contains_nil, List.contains_cons, Option.some_beq_none, Option.some_beq_some, Nat.reduceBEq, Bool.or_true, Bool.true_or, Bool.and_false, Bool.false_and, Option.isSome_some, Int.cast_ofNat_Int, Nat.reduceAdd, Nat.reduceSub, List.drop_nil, List.reduceReplicate, ↓bindR, Int.reduceAdd, Int.reduceSub, Int.reduceMul, Nat.reduceLT, Nat.reduceLeDiff, Int.reduceLT, Int.reduceLE, Nat.reduceEqDiff, Int.reduceEq, Int.reduceBNe, Bool.decide_eq_true, Bool.decide_eq_false, not_true_eq_false, not_false_eq_true, ne_eq, Nat.zero_add, Int.reduceNeg, List.isEmpty_cons, List.isEmpty_nil, List.length_map, List.length_range, List.length_append, List.length_replicate, List.drop_zero, List.drop_succ_cons, reduceCtorEq, FX, wd_is_is, wd_is_arc, wd_is_same, wd_is_not, wd_is_and, wd_is_or, wd_is_some, wd_is_all, wd_arc_is, wd_arc_arc, wd_arc_same, wd_arc_not, wd_arc_and, wd_arc_or, wd_arc_some, wd_arc_all, wd_same_is, wd_same_arc, wd_same_same, wd_same_not, wd_same_and, wd_same_or, wd_same_some, wd_same_all, wd_not_is, wd_not_arc, wd_not_same, wd_not_not, wd_not_and, wd_not_or, wd_not_some, wd_not_all, wd_and_is, wd_and_arc, wd_and_same, wd_and_not, wd_and_and, wd_and_or, wd_and_some, wd_and_all, wd_or_is, wd_or_arc, wd_or_same, wd_or_not, wd_or_and, wd_or_or, wd_or_some, wd_or_all, wd_some_is, wd_some_arc, wd_some_same, wd_some_not, wd_some_and, wd_some_or, wd_some_some, wd_some_all, wd_all_is, wd_all_arc, wd_all_same, wd_all_not, wd_all_and, wd_all_or, wd_all_some, wd_all_all, w1, kept_len]
      have e2 : decide ((((List.range W.cols.length).filter fun p => holdsF W (s ++ [p]) f).length : Int) = (W.cols.length : Int)) = (List.range W.cols.length).all fun p => holdsF W (s ++ [p]) f := by
        have l := List.length_filter_eq_length_iff (l := List.range W.cols.length) (p := fun p => holdsF W (s ++ [p]) f)
        rw [List.length_range] at l
        rw [Bool.eq_iff_iff, decide_eq_true_eq, List.all_eq_true, ← l]
        omega
      rw [e2]
      rfl
end Lw

-- LAW 63
set_option maxRecDepth 100000
set_option maxHeartbeats 4000000
namespace Lw
open PySem Mp
theorem maxL_max : ∀ (l : List Nat) (m : Nat), maxL (m : Int) (l.map fun n : Nat => (n : Int)) = ((l.foldl max m : Nat) : Int)
  | [], m => rfl
  | a :: l, m => by
    rw [List.map_cons, maxL, List.foldl_cons, ← maxL_max l (max m a)]
    congr 1
    split <;> omega
theorem foldl_max : ∀ (l : List Nat) (m : Nat), l.foldl max m = max m (l.foldl max 0)
  | [], m => by simp
  | a :: l, m => by rw [List.foldl_cons, List.foldl_cons, foldl_max l (max m a), foldl_max l (max 0 a)]; omega
theorem depthFs_fold : ∀ fs : List Fo, depthFs fs = (fs.map depthF).foldl max 0
  | [] => rfl
  | f :: r => by rw [depthFs, List.map_cons, List.foldl_cons, foldl_max, depthFs_fold r]; omega
theorem nodesFs_sum : ∀ fs : List Fo, ((nodesFs fs : Nat) : Int) = (fs.map fun f => ((nodesF f : Nat) : Int)).sum
  | [] => rfl
  | f :: r => by rw [nodesFs, List.map_cons, List.sum_cons, ← nodesFs_sum r]; omega
theorem max1Q (fs : List Fo) : bltD .max1 [.lst (.int 0 :: fs.map fun f => dI (depthF f))] = some (.fz (dI (depthFs fs))) := by
  have : allInt (.int 0 :: fs.map fun f => dI (depthF f)) = some (0 :: (fs.map depthF).map fun n : Nat => (n : Int)) := by
    have := allInt_map (0 :: (fs.map depthF).map fun n : Nat => (n : Int))
    rw [List.map_cons, List.map_map, List.map_map] at this
    exact this
  show (allInt (.int 0 :: fs.map fun f => dI (depthF f))).bind _ = _
  rw [this]
  show some (RV.fz (.int (maxL 0 ((fs.map depthF).map fun n : Nat => (n : Int))))) = _
  rw [show (0 : Int) = ((0 : Nat) : Int) from rfl, maxL_max, ← depthFs_fold]
theorem sum1Q (fs : List Fo) : bltD .sum [.lst (fs.map fun f => dI (nodesF f))] = some (.fz (dI (nodesFs fs))) := by
  have e := sumQ (fs.map fun f => ((nodesF f : Nat) : Int))
  rw [← nodesFs_sum, List.map_map] at e
  exact e
theorem wi_l_is : cmpD .In (.str "is") (.lst [.str "is", .str "arc", .str "same"]) = some true := rfl
theorem wi_l_arc : cmpD .In (.str "arc") (.lst [.str "is", .str "arc", .str "same"]) = some true := rfl
theorem wi_l_same : cmpD .In (.str "same") (.lst [.str "is", .str "arc", .str "same"]) = some true := rfl
theorem wi_l_not : cmpD .In (.str "not") (.lst [.str "is", .str "arc", .str "same"]) = some false := rfl
theorem wi_l_and : cmpD .In (.str "and") (.lst [.str "is", .str "arc", .str "same"]) = some false := rfl
theorem wi_l_or : cmpD .In (.str "or") (.lst [.str "is", .str "arc", .str "same"]) = some false := rfl
theorem wi_l_some : cmpD .In (.str "some") (.lst [.str "is", .str "arc", .str "same"]) = some false := rfl
theorem wi_l_all : cmpD .In (.str "all") (.lst [.str "is", .str "arc", .str "same"]) = some false := rfl
theorem wi_j_is : cmpD .In (.str "is") (.lst [.str "and", .str "or"]) = some false := rfl
theorem wi_j_arc : cmpD .In (.str "arc") (.lst [.str "and", .str "or"]) = some false := rfl
theorem wi_j_same : cmpD .In (.str "same") (.lst [.str "and", .str "or"]) = some false := rfl
theorem wi_j_not : cmpD .In (.str "not") (.lst [.str "and", .str "or"]) = some false := rfl
theorem wi_j_and : cmpD .In (.str "and") (.lst [.str "and", .str "or"]) = some true := rfl
theorem wi_j_or : cmpD .In (.str "or") (.lst [.str "and", .str "or"]) = some true := rfl
theorem wi_j_some : cmpD .In (.str "some") (.lst [.str "and", .str "or"]) = some false := rfl
theorem wi_j_all : cmpD .In (.str "all") (.lst [.str "and", .str "or"]) = some false := rfl
theorem c_depth : ∀ (h n : Nat) (k : Nat) (f : Fo), hgt f ≤ h → h + 1 ≤ n → wfF k f = true → prog.call n "_law_depth" [foD f] = .ok (dI (depthF f)) false [.non] := by
  intro h
  induction h with
  | zero =>
    intro n k f hf hn wf
    obtain ⟨n, rfl, hn⟩ := succ_of hn
    cases f with
    | is i c => rw [cq__law_depth rfl, depthF, foD]; simp -implicitDefEqProofs (disch := omega) only [F__law_depth, QSa, QSb, QSc, QSd, QSe, QSf, QSg, List.getElem?_cons_zero, List.getElem?_cons_succ, List.set_cons_zero, List.set_cons_succ, Option.bind_some, Option.map_some, getAll, startE, List.cons_append, List.nil_append, List.append_nil, List.map_cons, List.map_nil, List.length_cons, List.length_nil, List.any_cons, List.any_nil, Bool.or_false, Bool.and_true, Bool.true_and, Bool.or_self, Bool.false_or, Bool.false_eq_true, ↓reduceIte, eq_self, Bool.not_true, Bool.not_false, decide_true, decide_false, decide_eq_true_eq, List.contains_nil, List.contains_cons, Option.some_beq_none, Option.some_beq_some, Nat.reduceBEq, Bool.or_true, Bool.true_or, Bool.and_false, Bool.false_and, Option.isSome_some, Int.cast_ofNat_Int, Nat.reduceAdd, Nat.reduceSub, List.drop_nil, List.reduceReplicate, ↓bindR, Int.reduceAdd, Int.reduceSub, Int.reduceMul, Nat.reduceLT, Nat.reduceLeDiff, Int.reduceLT, Int.reduceLE, Nat.reduceEqDiff, Int.reduceEq, Int.reduceBNe, Bool.decide_eq_true, Bool.decide_eq_false, not_true_eq_false, not_false_eq_true, ne_eq, Nat.zero_add, Int.reduceNeg, List.isEmpty_cons, List.isEmpty_nil, List.length_map, List.length_range, List.length_append, List.length_replicate, List.drop_zero, List.drop_succ_cons, reduceCtorEq, FX, wd_is_is, wd_is_arc, wd_is_same, wd_is_not, wd_is_and, wd_is_or, wd_is_some, wd_is_all, wd_arc_is, wd_arc_arc, wd_arc_same, wd_arc_not, wd_arc_and, wd_arc_or, wd_arc_some, wd_arc_all, wd_same_is, wd_same_arc, wd_same_same, wd_same_not, wd_same_and, wd_same_or, wd_same_some, wd_same_all, wd_not_is, wd_not_arc, wd_not_same, wd_not_not, wd_not_and, wd_not_or, wd_not_some, wd_not_all, wd_and_is, wd_and_arc, wd_and_same, wd_and_not, wd_and_and, wd_and_or, wd_and_some, wd_and_all, wd_or_is, wd_or_arc, wd_or_same, wd_or_not, wd_or_and, wd_or_or, wd_or_some, wd_or_all, wd_some_is, wd_some_arc, wd_some_same, wd_some_not, wd_some_and, wd_some_or, wd_some_some, wd_some_all, wd_all_is, wd_all_arc, wd_all_same, wd_all_not, wd_all_and, wd_all_or, wd_all_some, wd_all_all, wi_l_is, wi_l_arc, wi_l_same, wi_l_not, wi_l_and, wi_l_or, wi_l_some, wi_l_all, wi_j_is, wi_j_arc, wi_j_same, wi_j_not, wi_j_and, wi_j_or, wi_j_some, wi_j_all]; rfl
    | same i c => rw [cq__law_depth rfl, depthF, foD]; simp -implicitDefEqProofs (disch := omega) only [F__law_depth, QSa, QSb, QSc, QSd, QSe, QSf, QSg, List.getElem?_cons_zero, List.getElem?_cons_succ, List.set_cons_zero, List.set_cons_succ, Option.bind_some, Option.map_some, getAll, startE, List.cons_append, List.nil_append, List.append_nil, List.map_cons, List.map_nil, List.length_cons, List.length_nil, List.any_cons, List.any_nil, Bool.or_false, Bool.and_true, Bool.true_and, Bool.or_self, Bool.false_or, Bool.false_eq_true, ↓reduceIte, eq_self, Bool.not_true, Bool.not_false, decide_true, decide_false, decide_eq_true_eq, List.contains_nil, List.contains_cons, Option.some_beq_none, Option.some_beq_some, Nat.reduceBEq, Bool.or_true, Bool.true_or, Bool.and_false, Bool.false_and, Option.isSome_some, Int.cast_ofNat_Int, Nat.reduceAdd, Nat.reduceSub, List.drop_nil, List.reduceReplicate, ↓bindR, Int.reduceAdd, Int.reduceSub, Int.reduceMul, Nat.reduceLT, Nat.reduceLeDiff, Int.reduceLT, Int.reduceLE, Nat.reduceEqDiff, Int.reduceEq, Int.reduceBNe, Bool.decide_eq_true, Bool.decide_eq_false, not_true_eq_false, not_false_eq_true, ne_eq, Nat.zero_add, Int.reduceNeg, List.isEmpty_cons, List.isEmpty_nil, List.length_map, List.length_range, List.length_append, List.length_replicate, List.drop_zero, List.drop_succ_cons, reduceCtorEq, FX, wd_is_is, wd_is_arc, wd_is_same, wd_is_not, wd_is_and, wd_is_or, wd_is_some, wd_is_all, wd_arc_is, wd_arc_arc, wd_arc_same, wd_arc_not, wd_arc_and, wd_arc_or, wd_arc_some, wd_arc_all, wd_same_is, wd_same_arc, wd_same_same, wd_same_not, wd_same_and, wd_same_or, wd_same_some, wd_same_all, wd_not_is, wd_not_arc, wd_not_same, wd_not_not, wd_not_and, wd_not_or, wd_not_some, wd_not_all, wd_and_is, wd_and_arc, wd_and_same, wd_and_not, wd_and_and, wd_and_or, wd_and_some, wd_and_all, wd_or_is, wd_or_arc, wd_or_same, wd_or_not, wd_or_and, wd_or_or, wd_or_some, wd_or_all, wd_some_is, wd_some_arc, wd_some_same, wd_some_not, wd_some_and, wd_some_or, wd_some_some, wd_some_all, wd_all_is, wd_all_arc, wd_all_same, wd_all_not, wd_all_and, wd_all_or, wd_all_some, wd_all_all, wi_l_is, wi_l_arc, wi_l_same, wi_l_not, wi_l_and, wi_l_or, wi_l_some, wi_l_all, wi_j_is, wi_j_arc, wi_j_same, wi_j_not, wi_j_and, wi_j_or, wi_j_some, wi_j_all]; rfl
    | arc i c => rw [cq__law_depth rfl, depthF, foD]; simp -implicitDefEqProofs (disch := omega) only [F__law_depth, QSa, QSb, QSc, QSd, QSe, QSf, QSg, List.getElem?_cons_zero, List.getElem?_cons_succ, List.set_cons_zero, List.set_cons_succ, Option.bind_some, Option.map_some, getAll, startE, List.cons_append, List.nil_append, List.append_nil, List.map_cons, List.map_nil, List.length_cons, List.length_nil, List.any_cons, List.any_nil, Bool.or_false, Bool.and_true, Bool.true_and, Bool.or_self, Bool.false_or, Bool.false_eq_true, ↓reduceIte, eq_self, Bool.not_true, Bool.not_false, decide_true, decide_false, decide_eq_true_eq, List.contains_nil, List.contains_cons, Option.some_beq_none, Option.some_beq_some, Nat.reduceBEq, Bool.or_true, Bool.true_or, Bool.and_false, Bool.false_and, Option.isSome_some, Int.cast_ofNat_Int, Nat.reduceAdd, Nat.reduceSub, List.drop_nil, List.reduceReplicate, ↓bindR, Int.reduceAdd, Int.reduceSub, Int.reduceMul, Nat.reduceLT, Nat.reduceLeDiff, Int.reduceLT, Int.reduceLE, Nat.reduceEqDiff, Int.reduceEq, Int.reduceBNe, Bool.decide_eq_true, Bool.decide_eq_false, not_true_eq_false, not_false_eq_true, ne_eq, Nat.zero_add, Int.reduceNeg, List.isEmpty_cons, List.isEmpty_nil, List.length_map, List.length_range, List.length_append, List.length_replicate, List.drop_zero, List.drop_succ_cons, reduceCtorEq, FX, wd_is_is, wd_is_arc, wd_is_same, wd_is_not, wd_is_and, wd_is_or, wd_is_some, wd_is_all, wd_arc_is, wd_arc_arc, wd_arc_same, wd_arc_not, wd_arc_and, wd_arc_or, wd_arc_some, wd_arc_all, wd_same_is, wd_same_arc, wd_same_same, wd_same_not, wd_same_and, wd_same_or, wd_same_some, wd_same_all, wd_not_is, wd_not_arc, wd_not_same, wd_not_not, wd_not_and, wd_not_or, wd_not_some, wd_not_all, wd_and_is, wd_and_arc, wd_and_same, wd_and_not, wd_and_and, wd_and_or, wd_and_some, wd_and_all, wd_or_is, wd_or_arc, wd_or_same, wd_or_not, wd_or_and, wd_or_or, wd_or_some, wd_or_all, wd_some_is, wd_some_arc, wd_some_same, wd_some_not, wd_some_and, wd_some_or, wd_some_some, wd_some_all, wd_all_is, wd_all_arc, wd_all_same, wd_all_not, wd_all_and, wd_all_or, wd_all_some, wd_all_all, wi_l_is, wi_l_arc, wi_l_same, wi_l_not, wi_l_and, wi_l_or, wi_l_some, wi_l_all, wi_j_is, wi_j_arc, wi_j_same, wi_j_not, wi_j_and, wi_j_or, wi_j_some, wi_j_all]; rfl
    | _ => simp [hgt] at hf
  | succ h ih =>
    intro n k f hf hn wf
    obtain ⟨n, rfl, hn⟩ := succ_of hn
    cases f with
    | is i c => rw [cq__law_depth rfl, depthF, foD]; simp -implicitDefEqProofs (disch := omega) only [F__law_depth, QSa, QSb, QSc, QSd, QSe, QSf, QSg, List.getElem?_cons_zero, List.getElem?_cons_succ, List.set_cons_zero, List.set_cons_succ, Option.bind_some, Option.map_some, getAll, startE, List.cons_append, List.nil_append, List.append_nil, List.map_cons, List.map_nil, List.length_cons, List.length_nil, List.any_cons, List.any_nil, Bool.or_false, Bool.and_true, Bool.true_and, Bool.or_self, Bool.false_or, Bool.false_eq_true, ↓reduceIte, eq_self, Bool.not_true, Bool.not_false, decide_true, decide_false, decide_eq_true_eq, List.contains_nil, List.contains_cons, Option.some_beq_none, Option.some_beq_some, Nat.reduceBEq, Bool.or_true, Bool.true_or, Bool.and_false, Bool.false_and, Option.isSome_some, Int.cast_ofNat_Int, Nat.reduceAdd, Nat.reduceSub, List.drop_nil, List.reduceReplicate, ↓bindR, Int.reduceAdd, Int.reduceSub, Int.reduceMul, Nat.reduceLT, Nat.reduceLeDiff, Int.reduceLT, Int.reduceLE, Nat.reduceEqDiff, Int.reduceEq, Int.reduceBNe, Bool.decide_eq_true, Bool.decide_eq_false, not_true_eq_false, not_false_eq_true, ne_eq, Nat.zero_add, Int.reduceNeg, List.isEmpty_cons, List.isEmpty_nil, List.length_map, List.length_range, List.length_append, List.length_replicate, List.drop_zero, List.drop_succ_cons, reduceCtorEq, FX, wd_is_is, wd_is_arc, wd_is_same, wd_is_not, wd_is_and, wd_is_or, wd_is_some, wd_is_all, wd_arc_is, wd_arc_arc, wd_arc_same, wd_arc_not, wd_arc_and, wd_arc_or, wd_arc_some, wd_arc_all, wd_same_is, wd_same_arc, wd_same_same, wd_same_not, wd_same_and, wd_same_or, wd_same_some, wd_same_all, wd_not_is, wd_not_arc, wd_not_same, wd_not_not, wd_not_and, wd_not_or, wd_not_some, wd_not_all, wd_and_is, wd_and_arc, wd_and_same, wd_and_not, wd_and_and, wd_and_or, wd_and_some, wd_and_all, wd_or_is, wd_or_arc, wd_or_same, wd_or_not, wd_or_and, wd_or_or, wd_or_some, wd_or_all, wd_some_is, wd_some_arc, wd_some_same, wd_some_not, wd_some_and, wd_some_or, wd_some_some, wd_some_all, wd_all_is, wd_all_arc, wd_all_same, wd_all_not, wd_all_and, wd_all_or, wd_all_some, wd_all_all, wi_l_is, wi_l_arc, wi_l_same, wi_l_not, wi_l_and, wi_l_or, wi_l_some, wi_l_all, wi_j_is, wi_j_arc, wi_j_same, wi_j_not, wi_j_and, wi_j_or, wi_j_some, wi_j_all]; rfl
    | same i c => rw [cq__law_depth rfl, depthF, foD]; simp -implicitDefEqProofs (disch := omega) only [F__law_depth, QSa, QSb, QSc, QSd, QSe, QSf, QSg, List.getElem?_cons_zero, List.getElem?_cons_succ, List.set_cons_zero, List.set_cons_succ, Option.bind_some, Option.map_some, getAll, startE, List.cons_append, List.nil_append, List.append_nil, List.map_cons, List.map_nil, List.length_cons, List.length_nil, List.any_cons, List.any_nil, Bool.or_false, Bool.and_true, Bool.true_and, Bool.or_self, Bool.false_or, Bool.false_eq_true, ↓reduceIte, eq_self, Bool.not_true, Bool.not_false, decide_true, decide_false, decide_eq_true_eq, List.contains_nil, List.contains_cons, Option.some_beq_none, Option.some_beq_some, Nat.reduceBEq, Bool.or_true, Bool.true_or, Bool.and_false, Bool.false_and, Option.isSome_some, Int.cast_ofNat_Int, Nat.reduceAdd, Nat.reduceSub, List.drop_nil, List.reduceReplicate, ↓bindR, Int.reduceAdd, Int.reduceSub, Int.reduceMul, Nat.reduceLT, Nat.reduceLeDiff, Int.reduceLT, Int.reduceLE, Nat.reduceEqDiff, Int.reduceEq, Int.reduceBNe, Bool.decide_eq_true, Bool.decide_eq_false, not_true_eq_false, not_false_eq_true, ne_eq, Nat.zero_add, Int.reduceNeg, List.isEmpty_cons, List.isEmpty_nil, List.length_map, List.length_range, List.length_append, List.length_replicate, List.drop_zero, List.drop_succ_cons, reduceCtorEq, FX, wd_is_is, wd_is_arc, wd_is_same, wd_is_not, wd_is_and, wd_is_or, wd_is_some, wd_is_all, wd_arc_is, wd_arc_arc, wd_arc_same, wd_arc_not, wd_arc_and, wd_arc_or, wd_arc_some, wd_arc_all, wd_same_is, wd_same_arc, wd_same_same, wd_same_not, wd_same_and, wd_same_or, wd_same_some, wd_same_all, wd_not_is, wd_not_arc, wd_not_same, wd_not_not, wd_not_and, wd_not_or, wd_not_some, wd_not_all, wd_and_is, wd_and_arc, wd_and_same, wd_and_not, wd_and_and, wd_and_or, wd_and_some, wd_and_all, wd_or_is, wd_or_arc, wd_or_same, wd_or_not, wd_or_and, wd_or_or, wd_or_some, wd_or_all, wd_some_is, wd_some_arc, wd_some_same, wd_some_not, wd_some_and, wd_some_or, wd_some_some, wd_some_all, wd_all_is, wd_all_arc, wd_all_same, wd_all_not, wd_all_and, wd_all_or, wd_all_some, wd_all_all, wi_l_is, wi_l_arc, wi_l_same, wi_l_not, wi_l_and, wi_l_or, wi_l_some, wi_l_all, wi_j_is, wi_j_arc, wi_j_same, wi_j_not, wi_j_and, wi_j_or, wi_j_some, wi_j_all]; rfl
    | arc i c => rw [cq__law_depth rfl, depthF, foD]; simp -implicitDefEqProofs (disch := omega) only [F__law_depth, QSa, QSb, QSc, QSd, QSe, QSf, QSg, List.getElem?_cons_zero, List.getElem?_cons_succ, List.set_cons_zero, List.set_cons_succ, Option.bind_some, Option.map_some, getAll, startE, List.cons_append, List.nil_append, List.append_nil, List.map_cons, List.map_nil, List.length_cons, List.length_nil, List.any_cons, List.any_nil, Bool.or_false, Bool.and_true, Bool.true_and, Bool.or_self, Bool.false_or, Bool.false_eq_true, ↓reduceIte, eq_self, Bool.not_true, Bool.not_false, decide_true, decide_false, decide_eq_true_eq, List.contains_nil, List.contains_cons, Option.some_beq_none, Option.some_beq_some, Nat.reduceBEq, Bool.or_true, Bool.true_or, Bool.and_false, Bool.false_and, Option.isSome_some, Int.cast_ofNat_Int, Nat.reduceAdd, Nat.reduceSub, List.drop_nil, List.reduceReplicate, ↓bindR, Int.reduceAdd, Int.reduceSub, Int.reduceMul, Nat.reduceLT, Nat.reduceLeDiff, Int.reduceLT, Int.reduceLE, Nat.reduceEqDiff, Int.reduceEq, Int.reduceBNe, Bool.decide_eq_true, Bool.decide_eq_false, not_true_eq_false, not_false_eq_true, ne_eq, Nat.zero_add, Int.reduceNeg, List.isEmpty_cons, List.isEmpty_nil, List.length_map, List.length_range, List.length_append, List.length_replicate, List.drop_zero, List.drop_succ_cons, reduceCtorEq, FX, wd_is_is, wd_is_arc, wd_is_same, wd_is_not, wd_is_and, wd_is_or, wd_is_some, wd_is_all, wd_arc_is, wd_arc_arc, wd_arc_same, wd_arc_not, wd_arc_and, wd_arc_or, wd_arc_some, wd_arc_all, wd_same_is, wd_same_arc, wd_same_same, wd_same_not, wd_same_and, wd_same_or, wd_same_some, wd_same_all, wd_not_is, wd_not_arc, wd_not_same, wd_not_not, wd_not_and, wd_not_or, wd_not_some, wd_not_all, wd_and_is, wd_and_arc, wd_and_same, wd_and_not, wd_and_and, wd_and_or, wd_and_some, wd_and_all, wd_or_is, wd_or_arc, wd_or_same, wd_or_not, wd_or_and, wd_or_or, wd_or_some, wd_or_all, wd_some_is, wd_some_arc, wd_some_same, wd_some_not, wd_some_and, wd_some_or, wd_some_some, wd_some_all, wd_all_is, wd_all_arc, wd_all_same, wd_all_not, wd_all_and, wd_all_or, wd_all_some, wd_all_all, wi_l_is, wi_l_arc, wi_l_same, wi_l_not, wi_l_and, wi_l_or, wi_l_some, wi_l_all, wi_j_is, wi_j_arc, wi_j_same, wi_j_not, wi_j_and, wi_j_or, wi_j_some, wi_j_all]; rfl
    | not f =>
      simp only [hgt] at hf
      simp only [wfF] at wf
      have q := ih n k f (by omega) (by omega) wf
      rw [cq__law_depth rfl, depthF, foD]
      generalize foD f = fd at *
      simp -implicitDefEqProofs (disch := omega) only [F__law_depth, QSa, QSb, QSc, QSd, QSe, QSf, QSg, List.getElem?_cons_zero, List.getElem?_cons_succ, List.set_cons_zero, List.set_cons_succ, Option.bind_some, Option.map_some, getAll, startE, List.cons_append, List.nil_append, List.append_nil, List.map_cons, List.map_nil, List.length_cons, List.length_nil, List.any_cons, List.any_nil, Bool.or_false, Bool.and_true, Bool.true_and, Bool.or_self, Bool.false_or, Bool.false_eq_true, ↓reduceIte, eq_self, Bool.not_true, Bool.not_false, decide_true, decide_false, decide_eq_true_eq, List.contains_nil, List.contains_cons, Option.some_beq_none, Option.some_beq_some, Nat.reduceBEq, Bool.or_true, Bool.true_or, Bool.and_false, Bool.false_and, Option.isSome_some, Int.cast_ofNat_Int, Nat.reduceAdd, Nat.reduceSub, List.drop_nil, List.reduceReplicate, ↓bindR, Int.reduceAdd, Int.reduceSub, Int.reduceMul, Nat.reduceLT, Nat.reduceLeDiff, Int.reduceLT, Int.reduceLE, Nat.reduceEqDiff, Int.reduceEq, Int.reduceBNe, Bool.decide_eq_true, Bool.decide_eq_false, not_true_eq_false, not_false_eq_true, ne_eq, Nat.zero_add, Int.reduceNeg, List.isEmpty_cons, List.isEmpty_nil, List.length_map, List.length_range, List.length_append, List.length_replicate, List.drop_zero, List.drop_succ_cons, reduceCtorEq, FX, wd_is_is, wd_is_arc, wd_is_same, wd_is_not, wd_is_and, wd_is_or, wd_is_some, wd_is_all, wd_arc_is, wd_arc_arc, wd_arc_same, wd_arc_not, wd_arc_and, wd_arc_or, wd_arc_some, wd_arc_all, wd_same_is, wd_same_arc, wd_same_same, wd_same_not, wd_same_and, wd_same_or, wd_same_some, wd_same_all, wd_not_is, wd_not_arc, wd_not_same, wd_not_not, wd_not_and, wd_not_or, wd_not_some, wd_not_all, wd_and_is, wd_and_arc, wd_and_same, wd_and_not, wd_and_and, wd_and_or, wd_and_some, wd_and_all, wd_or_is, wd_or_arc, wd_or_same, wd_or_not, wd_or_and, wd_or_or, wd_or_some, wd_or_all, wd_some_is, wd_some_arc, wd_some_same, wd_some_not, wd_some_and, wd_some_or, wd_some_some, wd_some_all, wd_all_is, wd_all_arc, wd_all_same, wd_all_not, wd_all_and, wd_all_or, wd_all_some, wd_all_all, wi_l_is, wi_l_arc, wi_l_same, wi_l_not, wi_l_and, wi_l_or, wi_l_some, wi_l_all, wi_j_is, wi_j_arc, wi_j_same, wi_j_not, wi_j_and, wi_j_or, wi_j_some, wi_j_all, q]; rfl
    | some f =>
      simp only [hgt] at hf
      simp only [wfF] at wf
      have q := ih n (k + 1) f (by omega) (by omega) wf
      rw [cq__law_depth rfl, depthF, foD]
      generalize foD f = fd at *
      simp -implicitDefEqProofs (disch := omega) only [F__law_depth, QSa, QSb, QSc, QSd, QSe, QSf, QSg, List.getElem?_cons_zero, List.getElem?_cons_succ, List.set_cons_zero, List.set_cons_succ, Option.bind_some, Option.map_some, getAll, startE, List.cons_append, List.nil_append, List.append_nil, List.map_cons, List.map_nil, List.length_cons, List.length_nil, List.any_cons, List.any_nil, Bool.or_false, Bool.and_true, Bool.true_and, Bool.or_self, Bool.false_or, Bool.false_eq_true, ↓reduceIte, eq_self, Bool.not_true, Bool.not_false, decide_true, decide_false, decide_eq_true_eq, List.contains_nil, List.contains_cons, Option.some_beq_none, Option.some_beq_some, Nat.reduceBEq, Bool.or_true, Bool.true_or, Bool.and_false, Bool.false_and, Option.isSome_some, Int.cast_ofNat_Int, Nat.reduceAdd, Nat.reduceSub, List.drop_nil, List.reduceReplicate, ↓bindR, Int.reduceAdd, Int.reduceSub, Int.reduceMul, Nat.reduceLT, Nat.reduceLeDiff, Int.reduceLT, Int.reduceLE, Nat.reduceEqDiff, Int.reduceEq, Int.reduceBNe, Bool.decide_eq_true, Bool.decide_eq_false, not_true_eq_false, not_false_eq_true, ne_eq, Nat.zero_add, Int.reduceNeg, List.isEmpty_cons, List.isEmpty_nil, List.length_map, List.length_range, List.length_append, List.length_replicate, List.drop_zero, List.drop_succ_cons, reduceCtorEq, FX, wd_is_is, wd_is_arc, wd_is_same, wd_is_not, wd_is_and, wd_is_or, wd_is_some, wd_is_all, wd_arc_is, wd_arc_arc, wd_arc_same, wd_arc_not, wd_arc_and, wd_arc_or, wd_arc_some, wd_arc_all, wd_same_is, wd_same_arc, wd_same_same, wd_same_not, wd_same_and, wd_same_or, wd_same_some, wd_same_all, wd_not_is, wd_not_arc, wd_not_same, wd_not_not, wd_not_and, wd_not_or, wd_not_some, wd_not_all, wd_and_is, wd_and_arc, wd_and_same, wd_and_not, wd_and_and, wd_and_or, wd_and_some, wd_and_all, wd_or_is, wd_or_arc, wd_or_same, wd_or_not, wd_or_and, wd_or_or, wd_or_some, wd_or_all, wd_some_is, wd_some_arc, wd_some_same, wd_some_not, wd_some_and, wd_some_or, wd_some_some, wd_some_all, wd_all_is, wd_all_arc, wd_all_same, wd_all_not, wd_all_and, wd_all_or, wd_all_some, wd_all_all, wi_l_is, wi_l_arc, wi_l_same, wi_l_not, wi_l_and, wi_l_or, wi_l_some, wi_l_all, wi_j_is, wi_j_arc, wi_j_same, wi_j_not, wi_j_and, wi_j_or, wi_j_some, wi_j_all, q]
      rw [show dI (1 + depthF f) = D.int (1 + (depthF f : Int)) by simp]
      rfl
    | all f =>
      simp only [hgt] at hf
      simp only [wfF] at wf
      have q := ih n (k + 1) f (by omega) (by omega) wf
      rw [cq__law_depth rfl, depthF, foD]
      generalize foD f = fd at *
      simp -implicitDefEqProofs (disch := omega) only [F__law_depth, QSa, QSb, QSc, QSd, QSe, QSf, QSg, List.getElem?_cons_zero, List.getElem?_cons_succ, List.set_cons_zero, List.set_cons_succ, Option.bind_some, Option.map_some, getAll, startE, List.cons_append, List.nil_append, List.append_nil, List.map_cons, List.map_nil, List.length_cons, List.length_nil, List.any_cons, List.any_nil, Bool.or_false, Bool.and_true, Bool.true_and, Bool.or_self, Bool.false_or, Bool.false_eq_true, ↓reduceIte, eq_self, Bool.not_true, Bool.not_false, decide_true, decide_false, decide_eq_true_eq, List.contains_nil, List.contains_cons, Option.some_beq_none, Option.some_beq_some, Nat.reduceBEq, Bool.or_true, Bool.true_or, Bool.and_false, Bool.false_and, Option.isSome_some, Int.cast_ofNat_Int, Nat.reduceAdd, Nat.reduceSub, List.drop_nil, List.reduceReplicate, ↓bindR, Int.reduceAdd, Int.reduceSub, Int.reduceMul, Nat.reduceLT, Nat.reduceLeDiff, Int.reduceLT, Int.reduceLE, Nat.reduceEqDiff, Int.reduceEq, Int.reduceBNe, Bool.decide_eq_true, Bool.decide_eq_false, not_true_eq_false, not_false_eq_true, ne_eq, Nat.zero_add, Int.reduceNeg, List.isEmpty_cons, List.isEmpty_nil, List.length_map, List.length_range, List.length_append, List.length_replicate, List.drop_zero, List.drop_succ_cons, reduceCtorEq, FX, wd_is_is, wd_is_arc, wd_is_same, wd_is_not, wd_is_and, wd_is_or, wd_is_some, wd_is_all, wd_arc_is, wd_arc_arc, wd_arc_same, wd_arc_not, wd_arc_and, wd_arc_or, wd_arc_some, wd_arc_all, wd_same_is, wd_same_arc, wd_same_same, wd_same_not, wd_same_and, wd_same_or, wd_same_some, wd_same_all, wd_not_is, wd_not_arc, wd_not_same, wd_not_not, wd_not_and, wd_not_or, wd_not_some, wd_not_all, wd_and_is, wd_and_arc, wd_and_same, wd_and_not, wd_and_and, wd_and_or, wd_and_some, wd_and_all, wd_or_is, wd_or_arc, wd_or_same, wd_or_not, wd_or_and, wd_or_or, wd_or_some, wd_or_all, wd_some_is, wd_some_arc, wd_some_same, wd_some_not, wd_some_and, wd_some_or, wd_some_some, wd_some_all, wd_all_is, wd_all_arc, wd_all_same, wd_all_not, wd_all_and, wd_all_or, wd_all_some, wd_all_all, wi_l_is, wi_l_arc, wi_l_same, wi_l_not, wi_l_and, wi_l_or, wi_l_some, wi_l_all, wi_j_is, wi_j_arc, wi_j_same, wi_j_not, wi_j_and, wi_j_or, wi_j_some, wi_j_all, q]
      rw [show dI (1 + depthF f) = D.int (1 + (depthF f : Int)) by simp]
      rfl
    | and fs =>
      simp only [hgt] at hf
      simp only [wfF, Bool.and_eq_true, decide_eq_true_eq] at wf
      have q : ∀ f ∈ fs, prog.call n "_law_depth" [foD f] = .ok (dI (depthF f)) false [.non] := fun f hm => ih n k f (by have := hgts_mem hm; omega) (by omega) (wfFs_mem wf.2 hm)
      have e := max1Q fs
      rw [cq__law_depth rfl, depthF, foD, foDs_map]
      simp -implicitDefEqProofs (disch := omega) only [F__law_depth, QSa, QSb, QSc, QSd, QSe, QSf, QSg, List.getElem?_cons_zero, List.getElem?_cons_succ, List.set_cons_zero, List.set_cons_succ, Option.bind_some, Option.map_some, getAll, startE, List.cons_append, List.nil_append, List.append_nil, List.map_cons, List.map_nil, List.length_cons, List.length_nil, List.any_cons, List.any_nil, Bool.or_false, Bool.and_true, Bool.true_and, Bool.or_self, Bool.false_or, Bool.false_eq_true, ↓reduceIte, eq_self, Bool.not_true, Bool.not_false, decide_true, decide_false, decide_eq_true_eq, List.contains_nil, List.contains_cons, Option.some_beq_none, Option.some_beq_some, Nat.reduceBEq, Bool.or_true, Bool.true_or, Bool.and_false, Bool.false_and, Option.isSome_some, Int.cast_ofNat_Int, Nat.reduceAdd, Nat.reduceSub, List.drop_nil, List.reduceReplicate, ↓bindR, Int.reduceAdd, Int.reduceSub, Int.reduceMul, Nat.reduceLT, Nat.reduceLeDiff, Int.reduceLT, Int.reduceLE, Nat.reduceEqDiff, Int.reduceEq, Int.reduceBNe, Bool.decide_eq_true, Bool.decide_eq_false, not_true_eq_false, not_false_eq_true, ne_eq, Nat.zero_add, Int.reduceNeg, List.isEmpty_cons, List.isEmpty_nil, List.length_map, List.length_range, List.length_append, List.length_replicate, List.drop_zero, List.drop_succ_cons, reduceCtorEq, FX, wd_is_is, wd_is_arc, wd_is_same, wd_is_not, wd_is_and, wd_is_or, wd_is_some, wd_is_all, wd_arc_is, wd_arc_arc, wd_arc_same, wd_arc_not, wd_arc_and, wd_arc_or, wd_arc_some, wd_arc_all, wd_same_is, wd_same_arc, wd_same_same, wd_same_not, wd_same_and, wd_same_or, wd_same_some, wd_same_all, wd_not_is, wd_not_arc, wd_not_same, wd_not_not, wd_not_and, wd_not_or, wd_not_some, wd_not_all, wd_and_is, wd_and_arc, wd_and_same, wd_and_not, wd_and_and, wd_and_or, wd_and_some, wd_and_all, wd_or_is, wd_or_arc, wd_or_same, wd_or_not, wd_or_and, wd_or_or, wd_or_some, wd_or_all, wd_some_is, wd_some_arc, wd_some_same, wd_some_not, wd_some_and, wd_some_or, wd_some_some, wd_some_all, wd_all_is, wd_all_arc, wd_all_same, wd_all_not, wd_all_and, wd_all_or, wd_all_some, wd_all_all, wi_l_is, wi_l_arc, wi_l_same, wi_l_not, wi_l_and, wi_l_or, wi_l_some, wi_l_all, wi_j_is, wi_j_arc, wi_j_same, wi_j_not, wi_j_and, wi_j_or, wi_j_some, wi_j_all]
      rw [compRm (enc := foD) (fun f => dI (depthF f)) fs ?hj ?he ?hh ?hl]
      case hj => rfl
      case he => rfl
      case hl => omega
      case hh =>
        intro f hm
        exact ⟨some (.fz (foD f)), by simp -implicitDefEqProofs (disch := omega) only [QSa, QSb, QSc, QSd, QSe, QSf, QSg, List.getElem?_cons_zero, List.getElem?_cons_succ, List.set_cons_zero, List.set_cons_succ, Option.bind_some, Option.map_some, getAll, startE, List.cons_append, List.nil_append, List.append_nil, List.map_cons, List.map_nil, List.length_cons, List.length_nil, List.any_cons, List.any_nil, Bool.or_false, Bool.and_true, Bool.true_and, Bool.or_self, Bool.false_or, Bool.false_eq_true, ↓reduceIte, eq_self, Bool.not_true, Bool.not_false, decide_true, decide_false, decide_eq_true_eq, List.contains_nil, List.contains_cons, Option.some_beq_none, Option.some_beq_some, Nat.reduceBEq, Bool.or_true, Bool.true_or, Bool.and_false, Bool.false_and, Option.isSome_some, Int.cast_ofNat_Int, Nat.reduceAdd, Nat.reduceSub, List.drop_nil, List.reduceReplicate, ↓bindR, Int.reduceAdd, Int.reduceSub, Int.reduceMul, Nat.reduceLT, Nat.reduceLeDiff, Int.reduceLT, Int.reduceLE, Nat.reduceEqDiff, Int.reduceEq, Int.reduceBNe, Bool.decide_eq_true, Bool.decide_eq_false, not_true_eq_false, not_false_eq_true, ne_eq, Nat.zero_add, Int.reduceNeg, List.isEmpty_cons, List.isEmpty_nil, List.length_map, List.length_range, List.length_append, List.length_replicate, List.drop_zero, List.drop_succ_cons, reduceCtorEq, FX, q f hm]⟩
      simp -implicitDefEqProofs (disch := omega) only [QSa, QSb, QSc, QSd, QSe, QSf, QSg, List.getElem?_cons_zero, List.getElem?_cons_succ, List.set_cons_zero, List.set_cons_succ, Option.bind_some, Option.map_some, getAll, startE, List.cons_append, List.nil_append, List.append_nil, List.map_cons, List.map_nil, List.length_cons, List.length_nil, List.any_cons, List.any_nil, Bool.or_false, Bool.and_true, Bool.true_and, Bool.or_self, Bool.false_or, Bool.false_eq_true, ↓reduceIte, eq_self, Bool.not_true, Bool.not_false, decide_true, decide_false, decide_eq_true_eq, List.contains_nil, List.contains_cons, Option.some_beq_none, Option.some_beq_some, Nat.reduceBEq, Bool.or_true, Bool.true_or, Bool.and_false, Bool.false_and, Option.isSome_some, Int.cast_ofNat_Int, Nat.reduceAdd, Nat.reduceSub, List.drop_nil, List.reduceReplicate, ↓bindR, Int.reduceAdd, Int.reduceSub, Int.reduceMul, Nat.reduceLT, Nat.reduceLeDiff, Int.reduceLT, Int.reduceLE, Nat.reduceEqDiff, Int.reduceEq, Int.reduceBNe, Bool.decide_eq_true, Bool.decide_eq_false, not_true_eq_false, not_false_eq_true, ne_eq, Nat.zero_add, Int.reduceNeg, List.isEmpty_cons, List.isEmpty_nil, List.length_map, List.length_range, List.length_append, List.length_replicate, List.drop_zero, List.drop_succ_cons, reduceCtorEq, FX, e]
      rfl
    | or fs =>
      simp only [hgt] at hf
      simp only [wfF, Bool.and_eq_true, decide_eq_true_eq] at wf
      have q : ∀ f ∈ fs, prog.call n "_law_depth" [foD f] = .ok (dI (depthF f)) false [.non] := fun f hm => ih n k f (by have := hgts_mem hm; omega) (by omega) (wfFs_mem wf.2 hm)
      have e := max1Q fs
      rw [cq__law_depth rfl, depthF, foD, foDs_map]
      simp -implicitDefEqProofs (disch := omega) only [F__law_depth, QSa, QSb, QSc, QSd, QSe, QSf, QSg, List.getElem?_cons_zero, List.getElem?_cons_succ, List.set_cons_zero, List.set_cons_succ, Option.bind_some, Option.map_some, getAll, startE, List.cons_append, List.nil_append, List.append_nil, List.map_cons, List.map_nil, List.length_cons, List.length_nil, List.any_cons, List.any_nil, Bool.or_false, Bool.and_true, Bool.true_and, Bool.or_self, Bool.false_or, Bool.false_eq_true, ↓reduceIte, eq_self, Bool.not_true, Bool.not_false, decide_true, decide_false, decide_eq_true_eq, List.contains_nil, List.contains_cons, Option.some_beq_none, Option.some_beq_some, Nat.reduceBEq, Bool.or_true, Bool.true_or, Bool.and_false, Bool.false_and, Option.isSome_some, Int.cast_ofNat_Int, Nat.reduceAdd, Nat.reduceSub, List.drop_nil, List.reduceReplicate, ↓bindR, Int.reduceAdd, Int.reduceSub, Int.reduceMul, Nat.reduceLT, Nat.reduceLeDiff, Int.reduceLT, Int.reduceLE, Nat.reduceEqDiff, Int.reduceEq, Int.reduceBNe, Bool.decide_eq_true, Bool.decide_eq_false, not_true_eq_false, not_false_eq_true, ne_eq, Nat.zero_add, Int.reduceNeg, List.isEmpty_cons, List.isEmpty_nil, List.length_map, List.length_range, List.length_append, List.length_replicate, List.drop_zero, List.drop_succ_cons, reduceCtorEq, FX, wd_is_is, wd_is_arc, wd_is_same, wd_is_not, wd_is_and, wd_is_or, wd_is_some, wd_is_all, wd_arc_is, wd_arc_arc, wd_arc_same, wd_arc_not, wd_arc_and, wd_arc_or, wd_arc_some, wd_arc_all, wd_same_is, wd_same_arc, wd_same_same, wd_same_not, wd_same_and, wd_same_or, wd_same_some, wd_same_all, wd_not_is, wd_not_arc, wd_not_same, wd_not_not, wd_not_and, wd_not_or, wd_not_some, wd_not_all, wd_and_is, wd_and_arc, wd_and_same, wd_and_not, wd_and_and, wd_and_or, wd_and_some, wd_and_all, wd_or_is, wd_or_arc, wd_or_same, wd_or_not, wd_or_and, wd_or_or, wd_or_some, wd_or_all, wd_some_is, wd_some_arc, wd_some_same, wd_some_not, wd_some_and, wd_some_or, wd_some_some, wd_some_all, wd_all_is, wd_all_arc, wd_all_same, wd_all_not, wd_all_and, wd_all_or, wd_all_some, wd_all_all, wi_l_is, wi_l_arc, wi_l_same, wi_l_not, wi_l_and, wi_l_or, wi_l_some, wi_l_all, wi_j_is, wi_j_arc, wi_j_same, wi_j_not, wi_j_and, wi_j_or, wi_j_some, wi_j_all]
      rw [compRm (enc := foD) (fun f => dI (depthF f)) fs ?hj ?he ?hh ?hl]
      case hj => rfl
      case he => rfl
      case hl => omega
      case hh =>
        intro f hm
        exact ⟨some (.fz (foD f)), by simp -implicitDefEqProofs (disch := omega) only [QSa, QSb, QSc, QSd, QSe, QSf, QSg, List.getElem?_cons_zero, List.getElem?_cons_succ, List.set_cons_zero, List.set_cons_succ, Option.bind_some, Option.map_some, getAll, startE, List.cons_append, List.nil_append, List.append_nil, List.map_cons, List.map_nil, List.length_cons, List.length_nil, List.any_cons, List.any_nil, Bool.or_false, Bool.and_true, Bool.true_and, Bool.or_self, Bool.false_or, Bool.false_eq_true, ↓reduceIte, eq_self, Bool.not_true, Bool.not_false, decide_true, decide_false, decide_eq_true_eq, List.contains_nil, List.contains_cons, Option.some_beq_none, Option.some_beq_some, Nat.reduceBEq, Bool.or_true, Bool.true_or, Bool.and_false, Bool.false_and, Option.isSome_some, Int.cast_ofNat_Int, Nat.reduceAdd, Nat.reduceSub, List.drop_nil, List.reduceReplicate, ↓bindR, Int.reduceAdd, Int.reduceSub, Int.reduceMul, Nat.reduceLT, Nat.reduceLeDiff, Int.reduceLT, Int.reduceLE, Nat.reduceEqDiff, Int.reduceEq, Int.reduceBNe, Bool.decide_eq_true, Bool.decide_eq_false, not_true_eq_false, not_false_eq_true, ne_eq, Nat.zero_add, Int.reduceNeg, List.isEmpty_cons, List.isEmpty_nil, List.length_map, List.length_range, List.length_append, List.length_replicate, List.drop_zero, List.drop_succ_cons, reduceCtorEq, FX, q f hm]⟩
      simp -implicitDefEqProofs (disch := omega) only [QSa, QSb, QSc, QSd, QSe, QSf, QSg, List.getElem?_cons_zero, List.getElem?_cons_succ, List.set_cons_zero, List.set_cons_succ, Option.bind_some, Option.map_some, getAll, startE, List.cons_append, List.nil_append, List.append_nil, List.map_cons, List.map_nil, List.length_cons, List.length_nil, List.any_cons, List.any_nil, Bool.or_false, Bool.and_true, Bool.true_and, Bool.or_self, Bool.false_or, Bool.false_eq_true, ↓reduceIte, eq_self, Bool.not_true, Bool.not_false, decide_true, decide_false, decide_eq_true_eq, List.contains_nil, List.contains_cons, Option.some_beq_none, Option.some_beq_some, Nat.reduceBEq, Bool.or_true, Bool.true_or, Bool.and_false, Bool.false_and, Option.isSome_some, Int.cast_ofNat_Int, Nat.reduceAdd, Nat.reduceSub, List.drop_nil, List.reduceReplicate, ↓bindR, Int.reduceAdd, Int.reduceSub, Int.reduceMul, Nat.reduceLT, Nat.reduceLeDiff, Int.reduceLT, Int.reduceLE, Nat.reduceEqDiff, Int.reduceEq, Int.reduceBNe, Bool.decide_eq_true, Bool.decide_eq_false, not_true_eq_false, not_false_eq_true, ne_eq, Nat.zero_add, Int.reduceNeg, List.isEmpty_cons, List.isEmpty_nil, List.length_map, List.length_range, List.length_append, List.length_replicate, List.drop_zero, List.drop_succ_cons, reduceCtorEq, FX, e]
      rfl
theorem c_nodes : ∀ (h n : Nat) (k : Nat) (f : Fo), hgt f ≤ h → h + 1 ≤ n → wfF k f = true → prog.call n "_law_nodes" [foD f] = .ok (dI (nodesF f)) false [.non] := by
  intro h
  induction h with
  | zero =>
    intro n k f hf hn wf
    obtain ⟨n, rfl, hn⟩ := succ_of hn
    cases f with
    | is i c => rw [cq__law_nodes rfl, nodesF, foD]; simp -implicitDefEqProofs (disch := omega) only [F__law_nodes, QSa, QSb, QSc, QSd, QSe, QSf, QSg, List.getElem?_cons_zero, List.getElem?_cons_succ, List.set_cons_zero, List.set_cons_succ, Option.bind_some, Option.map_some, getAll, startE, List.cons_append, List.nil_append, List.append_nil, List.map_cons, List.map_nil, List.length_cons, List.length_nil, List.any_cons, List.any_nil, Bool.or_false, Bool.and_true, Bool.true_and, Bool.or_self, Bool.false_or, Bool.false_eq_true, ↓reduceIte, eq_self, Bool.not_true, Bool.not_false, decide_true, decide_false, decide_eq_true_eq, List.contains_nil, List.contains_cons, Option.some_beq_none, Option.some_beq_some, Nat.reduceBEq, Bool.or_true, Bool.true_or, Bool.and_false, Bool.false_and, Option.isSome_some, Int.cast_ofNat_Int, Nat.reduceAdd, Nat.reduceSub, List.drop_nil, List.reduceReplicate, ↓bindR, Int.reduceAdd, Int.reduceSub, Int.reduceMul, Nat.reduceLT, Nat.reduceLeDiff, Int.reduceLT, Int.reduceLE, Nat.reduceEqDiff, Int.reduceEq, Int.reduceBNe, Bool.decide_eq_true, Bool.decide_eq_false, not_true_eq_false, not_false_eq_true, ne_eq, Nat.zero_add, Int.reduceNeg, List.isEmpty_cons, List.isEmpty_nil, List.length_map, List.length_range, List.length_append, List.length_replicate, List.drop_zero, List.drop_succ_cons, reduceCtorEq, FX, wd_is_is, wd_is_arc, wd_is_same, wd_is_not, wd_is_and, wd_is_or, wd_is_some, wd_is_all, wd_arc_is, wd_arc_arc, wd_arc_same, wd_arc_not, wd_arc_and, wd_arc_or, wd_arc_some, wd_arc_all, wd_same_is, wd_same_arc, wd_same_same, wd_same_not, wd_same_and, wd_same_or, wd_same_some, wd_same_all, wd_not_is, wd_not_arc, wd_not_same, wd_not_not, wd_not_and, wd_not_or, wd_not_some, wd_not_all, wd_and_is, wd_and_arc, wd_and_same, wd_and_not, wd_and_and, wd_and_or, wd_and_some, wd_and_all, wd_or_is, wd_or_arc, wd_or_same, wd_or_not, wd_or_and, wd_or_or, wd_or_some, wd_or_all, wd_some_is, wd_some_arc, wd_some_same, wd_some_not, wd_some_and, wd_some_or, wd_some_some, wd_some_all, wd_all_is, wd_all_arc, wd_all_same, wd_all_not, wd_all_and, wd_all_or, wd_all_some, wd_all_all, wi_l_is, wi_l_arc, wi_l_same, wi_l_not, wi_l_and, wi_l_or, wi_l_some, wi_l_all, wi_j_is, wi_j_arc, wi_j_same, wi_j_not, wi_j_and, wi_j_or, wi_j_some, wi_j_all]; rfl
    | same i c => rw [cq__law_nodes rfl, nodesF, foD]; simp -implicitDefEqProofs (disch := omega) only [F__law_nodes, QSa, QSb, QSc, QSd, QSe, QSf, QSg, List.getElem?_cons_zero, List.getElem?_cons_succ, List.set_cons_zero, List.set_cons_succ, Option.bind_some, Option.map_some, getAll, startE, List.cons_append, List.nil_append, List.append_nil, List.map_cons, List.map_nil, List.length_cons, List.length_nil, List.any_cons, List.any_nil, Bool.or_false, Bool.and_true, Bool.true_and, Bool.or_self, Bool.false_or, Bool.false_eq_true, ↓reduceIte, eq_self, Bool.not_true, Bool.not_false, decide_true, decide_false, decide_eq_true_eq, List.contains_nil, List.contains_cons, Option.some_beq_none, Option.some_beq_some, Nat.reduceBEq, Bool.or_true, Bool.true_or, Bool.and_false, Bool.false_and, Option.isSome_some, Int.cast_ofNat_Int, Nat.reduceAdd, Nat.reduceSub, List.drop_nil, List.reduceReplicate, ↓bindR, Int.reduceAdd, Int.reduceSub, Int.reduceMul, Nat.reduceLT, Nat.reduceLeDiff, Int.reduceLT, Int.reduceLE, Nat.reduceEqDiff, Int.reduceEq, Int.reduceBNe, Bool.decide_eq_true, Bool.decide_eq_false, not_true_eq_false, not_false_eq_true, ne_eq, Nat.zero_add, Int.reduceNeg, List.isEmpty_cons, List.isEmpty_nil, List.length_map, List.length_range, List.length_append, List.length_replicate, List.drop_zero, List.drop_succ_cons, reduceCtorEq, FX, wd_is_is, wd_is_arc, wd_is_same, wd_is_not, wd_is_and, wd_is_or, wd_is_some, wd_is_all, wd_arc_is, wd_arc_arc, wd_arc_same, wd_arc_not, wd_arc_and, wd_arc_or, wd_arc_some, wd_arc_all, wd_same_is, wd_same_arc, wd_same_same, wd_same_not, wd_same_and, wd_same_or, wd_same_some, wd_same_all, wd_not_is, wd_not_arc, wd_not_same, wd_not_not, wd_not_and, wd_not_or, wd_not_some, wd_not_all, wd_and_is, wd_and_arc, wd_and_same, wd_and_not, wd_and_and, wd_and_or, wd_and_some, wd_and_all, wd_or_is, wd_or_arc, wd_or_same, wd_or_not, wd_or_and, wd_or_or, wd_or_some, wd_or_all, wd_some_is, wd_some_arc, wd_some_same, wd_some_not, wd_some_and, wd_some_or, wd_some_some, wd_some_all, wd_all_is, wd_all_arc, wd_all_same, wd_all_not, wd_all_and, wd_all_or, wd_all_some, wd_all_all, wi_l_is, wi_l_arc, wi_l_same, wi_l_not, wi_l_and, wi_l_or, wi_l_some, wi_l_all, wi_j_is, wi_j_arc, wi_j_same, wi_j_not, wi_j_and, wi_j_or, wi_j_some, wi_j_all]; rfl
    | arc i c => rw [cq__law_nodes rfl, nodesF, foD]; simp -implicitDefEqProofs (disch := omega) only [F__law_nodes, QSa, QSb, QSc, QSd, QSe, QSf, QSg, List.getElem?_cons_zero, List.getElem?_cons_succ, List.set_cons_zero, List.set_cons_succ, Option.bind_some, Option.map_some, getAll, startE, List.cons_append, List.nil_append, List.append_nil, List.map_cons, List.map_nil, List.length_cons, List.length_nil, List.any_cons, List.any_nil, Bool.or_false, Bool.and_true, Bool.true_and, Bool.or_self, Bool.false_or, Bool.false_eq_true, ↓reduceIte, eq_self, Bool.not_true, Bool.not_false, decide_true, decide_false, decide_eq_true_eq, List.contains_nil, List.contains_cons, Option.some_beq_none, Option.some_beq_some, Nat.reduceBEq, Bool.or_true, Bool.true_or, Bool.and_false, Bool.false_and, Option.isSome_some, Int.cast_ofNat_Int, Nat.reduceAdd, Nat.reduceSub, List.drop_nil, List.reduceReplicate, ↓bindR, Int.reduceAdd, Int.reduceSub, Int.reduceMul, Nat.reduceLT, Nat.reduceLeDiff, Int.reduceLT, Int.reduceLE, Nat.reduceEqDiff, Int.reduceEq, Int.reduceBNe, Bool.decide_eq_true, Bool.decide_eq_false, not_true_eq_false, not_false_eq_true, ne_eq, Nat.zero_add, Int.reduceNeg, List.isEmpty_cons, List.isEmpty_nil, List.length_map, List.length_range, List.length_append, List.length_replicate, List.drop_zero, List.drop_succ_cons, reduceCtorEq, FX, wd_is_is, wd_is_arc, wd_is_same, wd_is_not, wd_is_and, wd_is_or, wd_is_some, wd_is_all, wd_arc_is, wd_arc_arc, wd_arc_same, wd_arc_not, wd_arc_and, wd_arc_or, wd_arc_some, wd_arc_all, wd_same_is, wd_same_arc, wd_same_same, wd_same_not, wd_same_and, wd_same_or, wd_same_some, wd_same_all, wd_not_is, wd_not_arc, wd_not_same, wd_not_not, wd_not_and, wd_not_or, wd_not_some, wd_not_all, wd_and_is, wd_and_arc, wd_and_same, wd_and_not, wd_and_and, wd_and_or, wd_and_some, wd_and_all, wd_or_is, wd_or_arc, wd_or_same, wd_or_not, wd_or_and, wd_or_or, wd_or_some, wd_or_all, wd_some_is, wd_some_arc, wd_some_same, wd_some_not, wd_some_and, wd_some_or, wd_some_some, wd_some_all, wd_all_is, wd_all_arc, wd_all_same, wd_all_not, wd_all_and, wd_all_or, wd_all_some, wd_all_all, wi_l_is, wi_l_arc, wi_l_same, wi_l_not, wi_l_and, wi_l_or, wi_l_some, wi_l_all, wi_j_is, wi_j_arc, wi_j_same, wi_j_not, wi_j_and, wi_j_or, wi_j_some, wi_j_all]; rfl
    | _ => simp [hgt] at hf
  | succ h ih =>
    intro n k f hf hn wf
    obtain ⟨n, rfl, hn⟩ := succ_of hn
    cases f with
    | is i c => rw [cq__law_nodes rfl, nodesF, foD]; simp -implicitDefEqProofs (disch := omega) only [F__law_nodes, QSa, QSb, QSc, QSd, QSe, QSf, QSg, List.getElem?_cons_zero, List.getElem?_cons_succ, List.set_cons_zero, List.set_cons_succ, Option.bind_some, Option.map_some, getAll, startE, List.cons_append, List.nil_append, List.append_nil, List.map_cons, List.map_nil, List.length_cons, List.length_nil, List.any_cons, List.any_nil, Bool.or_false, Bool.and_true, Bool.true_and, Bool.or_self, Bool.false_or, Bool.false_eq_true, ↓reduceIte, eq_self, Bool.not_true, Bool.not_false, decide_true, decide_false, decide_eq_true_eq, List.contains_nil, List.contains_cons, Option.some_beq_none, Option.some_beq_some, Nat.reduceBEq, Bool.or_true, Bool.true_or, Bool.and_false, Bool.false_and, Option.isSome_some, Int.cast_ofNat_Int, Nat.reduceAdd, Nat.reduceSub, List.drop_nil, List.reduceReplicate, ↓bindR, Int.reduceAdd, Int.reduceSub, Int.reduceMul, Nat.reduceLT, Nat.reduceLeDiff, Int.reduceLT, Int.reduceLE, Nat.reduceEqDiff, Int.reduceEq, Int.reduceBNe, Bool.decide_eq_true, Bool.decide_eq_false, not_true_eq_false, not_false_eq_true, ne_eq, Nat.zero_add, Int.reduceNeg, List.isEmpty_cons, List.isEmpty_nil, List.length_map, List.length_range, List.length_append, List.length_replicate, List.drop_zero, List.drop_succ_cons, reduceCtorEq, FX, wd_is_is, wd_is_arc, wd_is_same, wd_is_not, wd_is_and, wd_is_or, wd_is_some, wd_is_all, wd_arc_is, wd_arc_arc, wd_arc_same, wd_arc_not, wd_arc_and, wd_arc_or, wd_arc_some, wd_arc_all, wd_same_is, wd_same_arc, wd_same_same, wd_same_not, wd_same_and, wd_same_or, wd_same_some, wd_same_all, wd_not_is, wd_not_arc, wd_not_same, wd_not_not, wd_not_and, wd_not_or, wd_not_some, wd_not_all, wd_and_is, wd_and_arc, wd_and_same, wd_and_not, wd_and_and, wd_and_or, wd_and_some, wd_and_all, wd_or_is, wd_or_arc, wd_or_same, wd_or_not, wd_or_and, wd_or_or, wd_or_some, wd_or_all, wd_some_is, wd_some_arc, wd_some_same, wd_some_not, wd_some_and, wd_some_or, wd_some_some, wd_some_all, wd_all_is, wd_all_arc, wd_all_same, wd_all_not, wd_all_and, wd_all_or, wd_all_some, wd_all_all, wi_l_is, wi_l_arc, wi_l_same, wi_l_not, wi_l_and, wi_l_or, wi_l_some, wi_l_all, wi_j_is, wi_j_arc, wi_j_same, wi_j_not, wi_j_and, wi_j_or, wi_j_some, wi_j_all]; rfl
    | same i c => rw [cq__law_nodes rfl, nodesF, foD]; simp -implicitDefEqProofs (disch := omega) only [F__law_nodes, QSa, QSb, QSc, QSd, QSe, QSf, QSg, List.getElem?_cons_zero, List.getElem?_cons_succ, List.set_cons_zero, List.set_cons_succ, Option.bind_some, Option.map_some, getAll, startE, List.cons_append, List.nil_append, List.append_nil, List.map_cons, List.map_nil, List.length_cons, List.length_nil, List.any_cons, List.any_nil, Bool.or_false, Bool.and_true, Bool.true_and, Bool.or_self, Bool.false_or, Bool.false_eq_true, ↓reduceIte, eq_self, Bool.not_true, Bool.not_false, decide_true, decide_false, decide_eq_true_eq, List.contains_nil, List.contains_cons, Option.some_beq_none, Option.some_beq_some, Nat.reduceBEq, Bool.or_true, Bool.true_or, Bool.and_false, Bool.false_and, Option.isSome_some, Int.cast_ofNat_Int, Nat.reduceAdd, Nat.reduceSub, List.drop_nil, List.reduceReplicate, ↓bindR, Int.reduceAdd, Int.reduceSub, Int.reduceMul, Nat.reduceLT, Nat.reduceLeDiff, Int.reduceLT, Int.reduceLE, Nat.reduceEqDiff, Int.reduceEq, Int.reduceBNe, Bool.decide_eq_true, Bool.decide_eq_false, not_true_eq_false, not_false_eq_true, ne_eq, Nat.zero_add, Int.reduceNeg, List.isEmpty_cons, List.isEmpty_nil, List.length_map, List.length_range, List.length_append, List.length_replicate, List.drop_zero, List.drop_succ_cons, reduceCtorEq, FX, wd_is_is, wd_is_arc, wd_is_same, wd_is_not, wd_is_and, wd_is_or, wd_is_some, wd_is_all, wd_arc_is, wd_arc_arc, wd_arc_same, wd_arc_not, wd_arc_and, wd_arc_or, wd_arc_some, wd_arc_all, wd_same_is, wd_same_arc, wd_same_same, wd_same_not, wd_same_and, wd_same_or, wd_same_some, wd_same_all, wd_not_is, wd_not_arc, wd_not_same, wd_not_not, wd_not_and, wd_not_or, wd_not_some, wd_not_all, wd_and_is, wd_and_arc, wd_and_same, wd_and_not, wd_and_and, wd_and_or, wd_and_some, wd_and_all, wd_or_is, wd_or_arc, wd_or_same, wd_or_not, wd_or_and, wd_or_or, wd_or_some, wd_or_all, wd_some_is, wd_some_arc, wd_some_same, wd_some_not, wd_some_and, wd_some_or, wd_some_some, wd_some_all, wd_all_is, wd_all_arc, wd_all_same, wd_all_not, wd_all_and, wd_all_or, wd_all_some, wd_all_all, wi_l_is, wi_l_arc, wi_l_same, wi_l_not, wi_l_and, wi_l_or, wi_l_some, wi_l_all, wi_j_is, wi_j_arc, wi_j_same, wi_j_not, wi_j_and, wi_j_or, wi_j_some, wi_j_all]; rfl
    | arc i c => rw [cq__law_nodes rfl, nodesF, foD]; simp -implicitDefEqProofs (disch := omega) only [F__law_nodes, QSa, QSb, QSc, QSd, QSe, QSf, QSg, List.getElem?_cons_zero, List.getElem?_cons_succ, List.set_cons_zero, List.set_cons_succ, Option.bind_some, Option.map_some, getAll, startE, List.cons_append, List.nil_append, List.append_nil, List.map_cons, List.map_nil, List.length_cons, List.length_nil, List.any_cons, List.any_nil, Bool.or_false, Bool.and_true, Bool.true_and, Bool.or_self, Bool.false_or, Bool.false_eq_true, ↓reduceIte, eq_self, Bool.not_true, Bool.not_false, decide_true, decide_false, decide_eq_true_eq, List.contains_nil, List.contains_cons, Option.some_beq_none, Option.some_beq_some, Nat.reduceBEq, Bool.or_true, Bool.true_or, Bool.and_false, Bool.false_and, Option.isSome_some, Int.cast_ofNat_Int, Nat.reduceAdd, Nat.reduceSub, List.drop_nil, List.reduceReplicate, ↓bindR, Int.reduceAdd, Int.reduceSub, Int.reduceMul, Nat.reduceLT, Nat.reduceLeDiff, Int.reduceLT, Int.reduceLE, Nat.reduceEqDiff, Int.reduceEq, Int.reduceBNe, Bool.decide_eq_true, Bool.decide_eq_false, not_true_eq_false, not_false_eq_true, ne_eq, Nat.zero_add, Int.reduceNeg, List.isEmpty_cons, List.isEmpty_nil, List.length_map, List.length_range, List.length_append, List.length_replicate, List.drop_zero, List.drop_succ_cons, reduceCtorEq, FX, wd_is_is, wd_is_arc, wd_is_same, wd_is_not, wd_is_and, wd_is_or, wd_is_some, wd_is_all, wd_arc_is, wd_arc_arc, wd_arc_same, wd_arc_not, wd_arc_and, wd_arc_or, wd_arc_some, wd_arc_all, wd_same_is, wd_same_arc, wd_same_same, wd_same_not, wd_same_and, wd_same_or, wd_same_some, wd_same_all, wd_not_is, wd_not_arc, wd_not_same, wd_not_not, wd_not_and, wd_not_or, wd_not_some, wd_not_all, wd_and_is, wd_and_arc, wd_and_same, wd_and_not, wd_and_and, wd_and_or, wd_and_some, wd_and_all, wd_or_is, wd_or_arc, wd_or_same, wd_or_not, wd_or_and, wd_or_or, wd_or_some, wd_or_all, wd_some_is, wd_some_arc, wd_some_same, wd_some_not, wd_some_and, wd_some_or, wd_some_some, wd_some_all, wd_all_is, wd_all_arc, wd_all_same, wd_all_not, wd_all_and, wd_all_or, wd_all_some, wd_all_all, wi_l_is, wi_l_arc, wi_l_same, wi_l_not, wi_l_and, wi_l_or, wi_l_some, wi_l_all, wi_j_is, wi_j_arc, wi_j_same, wi_j_not, wi_j_and, wi_j_or, wi_j_some, wi_j_all]; rfl
    | not f =>
      simp only [hgt] at hf
      simp only [wfF] at wf
      have q := ih n k f (by omega) (by omega) wf
      rw [cq__law_nodes rfl, nodesF, foD]
      generalize foD f = fd at *
      simp -implicitDefEqProofs (disch := omega) only [F__law_nodes, QSa, QSb, QSc, QSd, QSe, QSf, QSg, List.getElem?_cons_zero, List.getElem?_cons_succ, List.set_cons_zero, List.set_cons_succ, Option.bind_some, Option.map_some, getAll, startE, List.cons_append, List.nil_append, List.append_nil, List.map_cons, List.map_nil, List.length_cons, List.length_nil, List.any_cons, List.any_nil, Bool.or_false, Bool.and_true, Bool.true_and, Bool.or_self, Bool.false_or, Bool.false_eq_true, ↓reduceIte, eq_self, Bool.not_true, Bool.not_false, decide_true, decide_false, decide_eq_true_eq, List.contains_nil, List.contains_cons, Option.some_beq_none, Option.some_beq_some, Nat.reduceBEq, Bool.or_true, Bool.true_or, Bool.and_false, Bool.false_and, Option.isSome_some, Int.cast_ofNat_Int, Nat.reduceAdd, Nat.reduceSub, List.drop_nil, List.reduceReplicate, ↓bindR, Int.reduceAdd, Int.reduceSub, Int.reduceMul, Nat.reduceLT, Nat.reduceLeDiff, Int.reduceLT, Int.reduceLE, Nat.reduceEqDiff, Int.reduceEq, Int.reduceBNe, Bool.decide_eq_true, Bool.decide_eq_false, not_true_eq_false, not_false_eq_true, ne_eq, Nat.zero_add, Int.reduceNeg, List.isEmpty_cons, List.isEmpty_nil, List.length_map, List.length_range, List.length_append, List.length_replicate, List.drop_zero, List.drop_succ_cons, reduceCtorEq, FX, wd_is_is, wd_is_arc, wd_is_same, wd_is_not, wd_is_and, wd_is_or, wd_is_some, wd_is_all, wd_arc_is, wd_arc_arc, wd_arc_same, wd_arc_not, wd_arc_and, wd_arc_or, wd_arc_some, wd_arc_all, wd_same_is, wd_same_arc, wd_same_same, wd_same_not, wd_same_and, wd_same_or, wd_same_some, wd_same_all, wd_not_is, wd_not_arc, wd_not_same, wd_not_not, wd_not_and, wd_not_or, wd_not_some, wd_not_all, wd_and_is, wd_and_arc, wd_and_same, wd_and_not, wd_and_and, wd_and_or, wd_and_some, wd_and_all, wd_or_is, wd_or_arc, wd_or_same, wd_or_not, wd_or_and, wd_or_or, wd_or_some, wd_or_all, wd_some_is, wd_some_arc, wd_some_same, wd_some_not, wd_some_and, wd_some_or, wd_some_some, wd_some_all, wd_all_is, wd_all_arc, wd_all_same, wd_all_not, wd_all_and, wd_all_or, wd_all_some, wd_all_all, wi_l_is, wi_l_arc, wi_l_same, wi_l_not, wi_l_and, wi_l_or, wi_l_some, wi_l_all, wi_j_is, wi_j_arc, wi_j_same, wi_j_not, wi_j_and, wi_j_or, wi_j_some, wi_j_all, q]
      rw [show dI (1 + nodesF f) = D.int (1 + (nodesF f : Int)) by simp]
      rfl
    | some f =>
      simp only [hgt] at hf
      simp only [wfF] at wf
      have q := ih n (k + 1) f (by omega) (by omega) wf
      rw [cq__law_nodes rfl, nodesF, foD]
      generalize foD f = fd at *
      simp -implicitDefEqProofs (disch := omega) only [F__law_nodes, QSa, QSb, QSc, QSd, QSe, QSf, QSg, List.getElem?_cons_zero, List.getElem?_cons_succ, List.set_cons_zero, List.set_cons_succ, Option.bind_some, Option.map_some, getAll, startE, List.cons_append, List.nil_append, List.append_nil, List.map_cons, List.map_nil, List.length_cons, List.length_nil, List.any_cons, List.any_nil, Bool.or_false, Bool.and_true, Bool.true_and, Bool.or_self, Bool.false_or, Bool.false_eq_true, ↓reduceIte, eq_self, Bool.not_true, Bool.not_false, decide_true, decide_false, decide_eq_true_eq, List.contains_nil, List.contains_cons, Option.some_beq_none, Option.some_beq_some, Nat.reduceBEq, Bool.or_true, Bool.true_or, Bool.and_false, Bool.false_and, Option.isSome_some, Int.cast_ofNat_Int, Nat.reduceAdd, Nat.reduceSub, List.drop_nil, List.reduceReplicate, ↓bindR, Int.reduceAdd, Int.reduceSub, Int.reduceMul, Nat.reduceLT, Nat.reduceLeDiff, Int.reduceLT, Int.reduceLE, Nat.reduceEqDiff, Int.reduceEq, Int.reduceBNe, Bool.decide_eq_true, Bool.decide_eq_false, not_true_eq_false, not_false_eq_true, ne_eq, Nat.zero_add, Int.reduceNeg, List.isEmpty_cons, List.isEmpty_nil, List.length_map, List.length_range, List.length_append, List.length_replicate, List.drop_zero, List.drop_succ_cons, reduceCtorEq, FX, wd_is_is, wd_is_arc, wd_is_same, wd_is_not, wd_is_and, wd_is_or, wd_is_some, wd_is_all, wd_arc_is, wd_arc_arc, wd_arc_same, wd_arc_not, wd_arc_and, wd_arc_or, wd_arc_some, wd_arc_all, wd_same_is, wd_same_arc, wd_same_same, wd_same_not, wd_same_and, wd_same_or, wd_same_some, wd_same_all, wd_not_is, wd_not_arc, wd_not_same, wd_not_not, wd_not_and, wd_not_or, wd_not_some, wd_not_all, wd_and_is, wd_and_arc, wd_and_same, wd_and_not, wd_and_and, wd_and_or, wd_and_some, wd_and_all, wd_or_is, wd_or_arc, wd_or_same, wd_or_not, wd_or_and, wd_or_or, wd_or_some, wd_or_all, wd_some_is, wd_some_arc, wd_some_same, wd_some_not, wd_some_and, wd_some_or, wd_some_some, wd_some_all, wd_all_is, wd_all_arc, wd_all_same, wd_all_not, wd_all_and, wd_all_or, wd_all_some, wd_all_all, wi_l_is, wi_l_arc, wi_l_same, wi_l_not, wi_l_and, wi_l_or, wi_l_some, wi_l_all, wi_j_is, wi_j_arc, wi_j_same, wi_j_not, wi_j_and, wi_j_or, wi_j_some, wi_j_all, q]
      rw [show dI (1 + nodesF f) = D.int (1 + (nodesF f : Int)) by simp]
      rfl
    | all f =>
      simp only [hgt] at hf
      simp only [wfF] at wf
      have q := ih n (k + 1) f (by omega) (by omega) wf
      rw [cq__law_nodes rfl, nodesF, foD]
      generalize foD f = fd at *
      simp -implicitDefEqProofs (disch := omega) only [F__law_nodes, QSa, QSb, QSc, QSd, QSe, QSf, QSg, List.getElem?_cons_zero, List.getElem?_cons_succ, List.set_cons_zero, List.set_cons_succ, Option.bind_some, Option.map_some, getAll, startE, List.cons_append, List.nil_append, List.append_nil, List.map_cons, List.map_nil, List.length_cons, List.length_nil, List.any_cons, List.any_nil, Bool.or_false, Bool.and_true, Bool.true_and, Bool.or_self, Bool.false_or, Bool.false_eq_true, ↓reduceIte, eq_self, Bool.not_true, Bool.not_false, decide_true, decide_false, decide_eq_true_eq, List.contains_nil, List.contains_cons, Option.some_beq_none, Option.some_beq_some, Nat.reduceBEq, Bool.or_true, Bool.true_or, Bool.and_false, Bool.false_and, Option.isSome_some, Int.cast_ofNat_Int, Nat.reduceAdd, Nat.reduceSub, List.drop_nil, List.reduceReplicate, ↓bindR, Int.reduceAdd, Int.reduceSub, Int.reduceMul, Nat.reduceLT, Nat.reduceLeDiff, Int.reduceLT, Int.reduceLE, Nat.reduceEqDiff, Int.reduceEq, Int.reduceBNe, Bool.decide_eq_true, Bool.decide_eq_false, not_true_eq_false, not_false_eq_true, ne_eq, Nat.zero_add, Int.reduceNeg, List.isEmpty_cons, List.isEmpty_nil, List.length_map, List.length_range, List.length_append, List.length_replicate, List.drop_zero, List.drop_succ_cons, reduceCtorEq, FX, wd_is_is, wd_is_arc, wd_is_same, wd_is_not, wd_is_and, wd_is_or, wd_is_some, wd_is_all, wd_arc_is, wd_arc_arc, wd_arc_same, wd_arc_not, wd_arc_and, wd_arc_or, wd_arc_some, wd_arc_all, wd_same_is, wd_same_arc, wd_same_same, wd_same_not, wd_same_and, wd_same_or, wd_same_some, wd_same_all, wd_not_is, wd_not_arc, wd_not_same, wd_not_not, wd_not_and, wd_not_or, wd_not_some, wd_not_all, wd_and_is, wd_and_arc, wd_and_same, wd_and_not, wd_and_and, wd_and_or, wd_and_some, wd_and_all, wd_or_is, wd_or_arc, wd_or_same, wd_or_not, wd_or_and, wd_or_or, wd_or_some, wd_or_all, wd_some_is, wd_some_arc, wd_some_same, wd_some_not, wd_some_and, wd_some_or, wd_some_some, wd_some_all, wd_all_is, wd_all_arc, wd_all_same, wd_all_not, wd_all_and, wd_all_or, wd_all_some, wd_all_all, wi_l_is, wi_l_arc, wi_l_same, wi_l_not, wi_l_and, wi_l_or, wi_l_some, wi_l_all, wi_j_is, wi_j_arc, wi_j_same, wi_j_not, wi_j_and, wi_j_or, wi_j_some, wi_j_all, q]
      rw [show dI (1 + nodesF f) = D.int (1 + (nodesF f : Int)) by simp]
      rfl
    | and fs =>
      simp only [hgt] at hf
      simp only [wfF, Bool.and_eq_true, decide_eq_true_eq] at wf
      have q : ∀ f ∈ fs, prog.call n "_law_nodes" [foD f] = .ok (dI (nodesF f)) false [.non] := fun f hm => ih n k f (by have := hgts_mem hm; omega) (by omega) (wfFs_mem wf.2 hm)
      have e := sum1Q fs
      rw [cq__law_nodes rfl, nodesF, foD, foDs_map]
      simp -implicitDefEqProofs (disch := omega) only [F__law_nodes, QSa, QSb, QSc, QSd, QSe, QSf, QSg, List.getElem?_cons_zero, List.getElem?_cons_succ, List.set_cons_zero, List.set_cons_succ, Option.bind_some, Option.map_some, getAll, startE, List.cons_append, List.nil_append, List.append_nil, List.map_cons, List.map_nil, List.length_cons, List.length_nil, List.any_cons, List.any_nil, Bool.or_false, Bool.and_true, Bool.true_and, Bool.or_self, Bool.false_or, Bool.false_eq_true, ↓reduceIte, eq_self, Bool.not_true, Bool.not_false, decide_true, decide_false, decide_eq_true_eq, List.contains_nil, List.contains_cons, Option.some_beq_none, Option.some_beq_some, Nat.reduceBEq, Bool.or_true, Bool.true_or, Bool.and_false, Bool.false_and, Option.isSome_some, Int.cast_ofNat_Int, Nat.reduceAdd, Nat.reduceSub, List.drop_nil, List.reduceReplicate, ↓bindR, Int.reduceAdd, Int.reduceSub, Int.reduceMul, Nat.reduceLT, Nat.reduceLeDiff, Int.reduceLT, Int.reduceLE, Nat.reduceEqDiff, Int.reduceEq, Int.reduceBNe, Bool.decide_eq_true, Bool.decide_eq_false, not_true_eq_false, not_false_eq_true, ne_eq, Nat.zero_add, Int.reduceNeg, List.isEmpty_cons, List.isEmpty_nil, List.length_map, List.length_range, List.length_append, List.length_replicate, List.drop_zero, List.drop_succ_cons, reduceCtorEq, FX, wd_is_is, wd_is_arc, wd_is_same, wd_is_not, wd_is_and, wd_is_or, wd_is_some, wd_is_all, wd_arc_is, wd_arc_arc, wd_arc_same, wd_arc_not, wd_arc_and, wd_arc_or, wd_arc_some, wd_arc_all, wd_same_is, wd_same_arc, wd_same_same, wd_same_not, wd_same_and, wd_same_or, wd_same_some, wd_same_all, wd_not_is, wd_not_arc, wd_not_same, wd_not_not, wd_not_and, wd_not_or, wd_not_some, wd_not_all, wd_and_is, wd_and_arc, wd_and_same, wd_and_not, wd_and_and, wd_and_or, wd_and_some, wd_and_all, wd_or_is, wd_or_arc, wd_or_same, wd_or_not, wd_or_and, wd_or_or, wd_or_some, wd_or_all, wd_some_is, wd_some_arc, wd_some_same, wd_some_not, wd_some_and, wd_some_or, wd_some_some, wd_some_all, wd_all_is, wd_all_arc, wd_all_same, wd_all_not, wd_all_and, wd_all_or, wd_all_some, wd_all_all, wi_l_is, wi_l_arc, wi_l_same, wi_l_not, wi_l_and, wi_l_or, wi_l_some, wi_l_all, wi_j_is, wi_j_arc, wi_j_same, wi_j_not, wi_j_and, wi_j_or, wi_j_some, wi_j_all]
      rw [compRm (enc := foD) (fun f => dI (nodesF f)) fs ?hj ?he ?hh ?hl]
      case hj => rfl
      case he => rfl
      case hl => omega
      case hh =>
        intro f hm
        exact ⟨some (.fz (foD f)), by simp -implicitDefEqProofs (disch := omega) only [QSa, QSb, QSc, QSd, QSe, QSf, QSg, List.getElem?_cons_zero, List.getElem?_cons_succ, List.set_cons_zero, List.set_cons_succ, Option.bind_some, Option.map_some, getAll, startE, List.cons_append, List.nil_append, List.append_nil, List.map_cons, List.map_nil, List.length_cons, List.length_nil, List.any_cons, List.any_nil, Bool.or_false, Bool.and_true, Bool.true_and, Bool.or_self, Bool.false_or, Bool.false_eq_true, ↓reduceIte, eq_self, Bool.not_true, Bool.not_false, decide_true, decide_false, decide_eq_true_eq, List.contains_nil, List.contains_cons, Option.some_beq_none, Option.some_beq_some, Nat.reduceBEq, Bool.or_true, Bool.true_or, Bool.and_false, Bool.false_and, Option.isSome_some, Int.cast_ofNat_Int, Nat.reduceAdd, Nat.reduceSub, List.drop_nil, List.reduceReplicate, ↓bindR, Int.reduceAdd, Int.reduceSub, Int.reduceMul, Nat.reduceLT, Nat.reduceLeDiff, Int.reduceLT, Int.reduceLE, Nat.reduceEqDiff, Int.reduceEq, Int.reduceBNe, Bool.decide_eq_true, Bool.decide_eq_false, not_true_eq_false, not_false_eq_true, ne_eq, Nat.zero_add, Int.reduceNeg, List.isEmpty_cons, List.isEmpty_nil, List.length_map, List.length_range, List.length_append, List.length_replicate, List.drop_zero, List.drop_succ_cons, reduceCtorEq, FX, q f hm]⟩
      simp -implicitDefEqProofs (disch := omega) only [QSa, QSb, QSc, QSd, QSe, QSf, QSg, List.getElem?_cons_zero, List.getElem?_cons_succ, List.set_cons_zero, List.set_cons_succ, Option.bind_some, Option.map_some, getAll, startE, List.cons_append, List.nil_append, List.append_nil, List.map_cons, List.map_nil, List.length_cons, List.length_nil, List.any_cons, List.any_nil, Bool.or_false, Bool.and_true, Bool.true_and, Bool.or_self, Bool.false_or, Bool.false_eq_true, ↓reduceIte, eq_self, Bool.not_true, Bool.not_false, decide_true, decide_false, decide_eq_true_eq, List.contains_nil, List.contains_cons, Option.some_beq_none, Option.some_beq_some, Nat.reduceBEq, Bool.or_true, Bool.true_or, Bool.and_false, Bool.false_and, Option.isSome_some, Int.cast_ofNat_Int, Nat.reduceAdd, Nat.reduceSub, List.drop_nil, List.reduceReplicate, ↓bindR, Int.reduceAdd, Int.reduceSub, Int.reduceMul, Nat.reduceLT, Nat.reduceLeDiff, Int.reduceLT, Int.reduceLE, Nat.reduceEqDiff, Int.reduceEq, Int.reduceBNe, Bool.decide_eq_true, Bool.decide_eq_false, not_true_eq_false, not_false_eq_true, ne_eq, Nat.zero_add, Int.reduceNeg, List.isEmpty_cons, List.isEmpty_nil, List.length_map, List.length_range, List.length_append, List.length_replicate, List.drop_zero, List.drop_succ_cons, reduceCtorEq, FX, e]
      rw [show dI (1 + nodesFs fs) = D.int (1 + (nodesFs fs : Int)) by simp]
      rfl
    | or fs =>
      simp only [hgt] at hf
      simp only [wfF, Bool.and_eq_true, decide_eq_true_eq] at wf
      have q : ∀ f ∈ fs, prog.call n "_law_nodes" [foD f] = .ok (dI (nodesF f)) false [.non] := fun f hm => ih n k f (by have := hgts_mem hm; omega) (by omega) (wfFs_mem wf.2 hm)
      have e := sum1Q fs
      rw [cq__law_nodes rfl, nodesF, foD, foDs_map]
      simp -implicitDefEqProofs (disch := omega) only [F__law_nodes, QSa, QSb, QSc, QSd, QSe, QSf, QSg, List.getElem?_cons_zero, List.getElem?_cons_succ, List.set_cons_zero, List.set_cons_succ, Option.bind_some, Option.map_some, getAll, startE, List.cons_append, List.nil_append, List.append_nil, List.map_cons, List.map_nil, List.length_cons, List.length_nil, List.any_cons, List.any_nil, Bool.or_false, Bool.and_true, Bool.true_and, Bool.or_self, Bool.false_or, Bool.false_eq_true, ↓reduceIte, eq_self, Bool.not_true, Bool.not_false, decide_true, decide_false, decide_eq_true_eq, List.contains_nil, List.contains_cons, Option.some_beq_none, Option.some_beq_some, Nat.reduceBEq, Bool.or_true, Bool.true_or, Bool.and_false, Bool.false_and, Option.isSome_some, Int.cast_ofNat_Int, Nat.reduceAdd, Nat.reduceSub, List.drop_nil, List.reduceReplicate, ↓bindR, Int.reduceAdd, Int.reduceSub, Int.reduceMul, Nat.reduceLT, Nat.reduceLeDiff, Int.reduceLT, Int.reduceLE, Nat.reduceEqDiff, Int.reduceEq, Int.reduceBNe, Bool.decide_eq_true, Bool.decide_eq_false, not_true_eq_false, not_false_eq_true, ne_eq, Nat.zero_add, Int.reduceNeg, List.isEmpty_cons, List.isEmpty_nil, List.length_map, List.length_range, List.length_append, List.length_replicate, List.drop_zero, List.drop_succ_cons, reduceCtorEq, FX, wd_is_is, wd_is_arc, wd_is_same, wd_is_not, wd_is_and, wd_is_or, wd_is_some, wd_is_all, wd_arc_is, wd_arc_arc, wd_arc_same, wd_arc_not, wd_arc_and, wd_arc_or, wd_arc_some, wd_arc_all, wd_same_is, wd_same_arc, wd_same_same, wd_same_not, wd_same_and, wd_same_or, wd_same_some, wd_same_all, wd_not_is, wd_not_arc, wd_not_same, wd_not_not, wd_not_and, wd_not_or, wd_not_some, wd_not_all, wd_and_is, wd_and_arc, wd_and_same, wd_and_not, wd_and_and, wd_and_or, wd_and_some, wd_and_all, wd_or_is, wd_or_arc, wd_or_same, wd_or_not, wd_or_and, wd_or_or, wd_or_some, wd_or_all, wd_some_is, wd_some_arc, wd_some_same, wd_some_not, wd_some_and, wd_some_or, wd_some_some, wd_some_all, wd_all_is, wd_all_arc, wd_all_same, wd_all_not, wd_all_and, wd_all_or, wd_all_some, wd_all_all, wi_l_is, wi_l_arc, wi_l_same, wi_l_not, wi_l_and, wi_l_or, wi_l_some, wi_l_all, wi_j_is, wi_j_arc, wi_j_same, wi_j_not, wi_j_and, wi_j_or, wi_j_some, wi_j_all]
      rw [compRm (enc := foD) (fun f => dI (nodesF f)) fs ?hj ?he ?hh ?hl]
      case hj => rfl
      case he => rfl
      case hl => omega
      case hh =>
        intro f hm
        exact ⟨some (.fz (foD f)), by simp -implicitDefEqProofs (disch := omega) only [QSa, QSb, QSc, QSd, QSe, QSf, QSg, List.getElem?_cons_zero, List.getElem?_cons_succ, List.set_cons_zero, List.set_cons_succ, Option.bind_some, Option.map_some, getAll, startE, List.cons_append, List.nil_append, List.append_nil, List.map_cons, List.map_nil, List.length_cons, List.length_nil, List.any_cons, List.any_nil, Bool.or_false, Bool.and_true, Bool.true_and, Bool.or_self, Bool.false_or, Bool.false_eq_true, ↓reduceIte, eq_self, Bool.not_true, Bool.not_false, decide_true, decide_false, decide_eq_true_eq, List.contains_nil, List.contains_cons, Option.some_beq_none, Option.some_beq_some, Nat.reduceBEq, Bool.or_true, Bool.true_or, Bool.and_false, Bool.false_and, Option.isSome_some, Int.cast_ofNat_Int, Nat.reduceAdd, Nat.reduceSub, List.drop_nil, List.reduceReplicate, ↓bindR, Int.reduceAdd, Int.reduceSub, Int.reduceMul, Nat.reduceLT, Nat.reduceLeDiff, Int.reduceLT, Int.reduceLE, Nat.reduceEqDiff, Int.reduceEq, Int.reduceBNe, Bool.decide_eq_true, Bool.decide_eq_false, not_true_eq_false, not_false_eq_true, ne_eq, Nat.zero_add, Int.reduceNeg, List.isEmpty_cons, List.isEmpty_nil, List.length_map, List.length_range, List.length_append, List.length_replicate, List.drop_zero, List.drop_succ_cons, reduceCtorEq, FX, q f hm]⟩
      simp -implicitDefEqProofs (disch := omega) only [QSa, QSb, QSc, QSd, QSe, QSf, QSg, List.getElem?_cons_zero, List.getElem?_cons_succ, List.set_cons_zero, List.set_cons_succ, Option.bind_some, Option.map_some, getAll, startE, List.cons_append, List.nil_append, List.append_nil, List.map_cons, List.map_nil, List.length_cons, List.length_nil, List.any_cons, List.any_nil, Bool.or_false, Bool.and_true, Bool.true_and, Bool.or_self, Bool.false_or, Bool.false_eq_true, ↓reduceIte, eq_self, Bool.not_true, Bool.not_false, decide_true, decide_false, decide_eq_true_eq, List.contains_nil, List.contains_cons, Option.some_beq_none, Option.some_beq_some, Nat.reduceBEq, Bool.or_true, Bool.true_or, Bool.and_false, Bool.false_and, Option.isSome_some, Int.cast_ofNat_Int, Nat.reduceAdd, Nat.reduceSub, List.drop_nil, List.reduceReplicate, ↓bindR, Int.reduceAdd, Int.reduceSub, Int.reduceMul, Nat.reduceLT, Nat.reduceLeDiff, Int.reduceLT, Int.reduceLE, Nat.reduceEqDiff, Int.reduceEq, Int.reduceBNe, Bool.decide_eq_true, Bool.decide_eq_false, not_true_eq_false, not_false_eq_true, ne_eq, Nat.zero_add, Int.reduceNeg, List.isEmpty_cons, List.isEmpty_nil, List.length_map, List.length_range, List.length_append, List.length_replicate, List.drop_zero, List.drop_succ_cons, reduceCtorEq, FX, e]
      rw [show dI (1 + nodesFs fs) = D.int (1 + (nodesFs fs : Int)) by simp]
      rfl
end Lw

-- LAW 63
set_option maxRecDepth 100000
set_option maxHeartbeats 4000000
/-! `_law_is` on a value beside itself; on two values of one kind. -/
namespace Lw
open PySem Mp
theorem is_non {n : Nat} (hn : 1 ≤ n) : prog.call n "_law_is" [.non, .non] = .ok (.bl true) false [.non, .non] := by
  obtain ⟨n, rfl, hn⟩ := succ_of hn
  rw [cq__law_is rfl]
  simp -implicitDefEqProofs (disch := omega) only [F__law_is, QSa, QSb, QSc, QSd, QSe, QSf, QSg, List.getElem?_cons_zero, List.getElem?_cons_succ, List.set_cons_zero, List.set_cons_succ, Option.bind_some, Option.map_some, getAll, startE, List.cons_append, List.nil_append, List.append_nil, List.map_cons, List.map_nil, List.length_cons, List.length_nil, List.any_cons, List.any_nil, Bool.or_false, Bool.and_true, Bool.true_and, Bool.or_self, Bool.false_or, Bool.false_eq_true, ↓reduceIte, eq_self, Bool.not_true, Bool.not_false, decide_true, decide_false, decide_eq_true_eq, List.contains_nil, List.contains_cons, Option.some_beq_none, Option.some_beq_some, Nat.reduceBEq, Bool.or_true, Bool.true_or, Bool.and_false, Bool.false_and, Option.isSome_some, Int.cast_ofNat_Int, Nat.reduceAdd, Nat.reduceSub, List.drop_nil, List.reduceReplicate, ↓bindR, Int.reduceAdd, Int.reduceSub, Int.reduceMul, Nat.reduceLT, Nat.reduceLeDiff, Int.reduceLT, Int.reduceLE, Nat.reduceEqDiff, Int.reduceEq, Int.reduceBNe, Bool.decide_eq_true, Bool.decide_eq_false, not_true_eq_false, not_false_eq_true, ne_eq, Nat.zero_add, Int.reduceNeg, List.isEmpty_cons, List.isEmpty_nil, List.length_map, List.length_range, List.length_append, List.length_replicate, List.drop_zero, List.drop_succ_cons, reduceCtorEq, FX]
  rfl
theorem is_bl {n : Nat} {a b : Bool} (hn : 1 ≤ n) : prog.call n "_law_is" [.bl a, .bl b] = .ok (.bl (a == b)) false [.non, .non] := by
  obtain ⟨n, rfl, hn⟩ := succ_of hn
  rw [cq__law_is rfl]
  simp -implicitDefEqProofs (disch := omega) only [F__law_is, QSa, QSb, QSc, QSd, QSe, QSf, QSg, List.getElem?_cons_zero, List.getElem?_cons_succ, List.set_cons_zero, List.set_cons_succ, Option.bind_some, Option.map_some, getAll, startE, List.cons_append, List.nil_append, List.append_nil, List.map_cons, List.map_nil, List.length_cons, List.length_nil, List.any_cons, List.any_nil, Bool.or_false, Bool.and_true, Bool.true_and, Bool.or_self, Bool.false_or, Bool.false_eq_true, ↓reduceIte, eq_self, Bool.not_true, Bool.not_false, decide_true, decide_false, decide_eq_true_eq, List.contains_nil, List.contains_cons, Option.some_beq_none, Option.some_beq_some, Nat.reduceBEq, Bool.or_true, Bool.true_or, Bool.and_false, Bool.false_and, Option.isSome_some, Int.cast_ofNat_Int, Nat.reduceAdd, Nat.reduceSub, List.drop_nil, List.reduceReplicate, ↓bindR, Int.reduceAdd, Int.reduceSub, Int.reduceMul, Nat.reduceLT, Nat.reduceLeDiff, Int.reduceLT, Int.reduceLE, Nat.reduceEqDiff, Int.reduceEq, Int.reduceBNe, Bool.decide_eq_true, Bool.decide_eq_false, not_true_eq_false, not_false_eq_true, ne_eq, Nat.zero_add, Int.reduceNeg, List.isEmpty_cons, List.isEmpty_nil, List.length_map, List.length_range, List.length_append, List.length_replicate, List.drop_zero, List.drop_succ_cons, reduceCtorEq, FX]
  rfl
theorem is_int {n : Nat} {a b : Int} (hn : 1 ≤ n) : prog.call n "_law_is" [.int a, .int b] = .ok (.bl (decide (a = b))) false [.non, .non] := by
  obtain ⟨n, rfl, hn⟩ := succ_of hn
  rw [cq__law_is rfl]
  simp -implicitDefEqProofs (disch := omega) only [F__law_is, QSa, QSb, QSc, QSd, QSe, QSf, QSg, List.getElem?_cons_zero, List.getElem?_cons_succ, List.set_cons_zero, List.set_cons_succ, Option.bind_some, Option.map_some, getAll, startE, List.cons_append, List.nil_append, List.append_nil, List.map_cons, List.map_nil, List.length_cons, List.length_nil, List.any_cons, List.any_nil, Bool.or_false, Bool.and_true, Bool.true_and, Bool.or_self, Bool.false_or, Bool.false_eq_true, ↓reduceIte, eq_self, Bool.not_true, Bool.not_false, decide_true, decide_false, decide_eq_true_eq, List.contains_nil, List.contains_cons, Option.some_beq_none, Option.some_beq_some, Nat.reduceBEq, Bool.or_true, Bool.true_or, Bool.and_false, Bool.false_and, Option.isSome_some, Int.cast_ofNat_Int, Nat.reduceAdd, Nat.reduceSub, List.drop_nil, List.reduceReplicate, ↓bindR, Int.reduceAdd, Int.reduceSub, Int.reduceMul, Nat.reduceLT, Nat.reduceLeDiff, Int.reduceLT, Int.reduceLE, Nat.reduceEqDiff, Int.reduceEq, Int.reduceBNe, Bool.decide_eq_true, Bool.decide_eq_false, not_true_eq_false, not_false_eq_true, ne_eq, Nat.zero_add, Int.reduceNeg, List.isEmpty_cons, List.isEmpty_nil, List.length_map, List.length_range, List.length_append, List.length_replicate, List.drop_zero, List.drop_succ_cons, reduceCtorEq, FX]
  rfl
theorem is_str {n : Nat} {a b : Str} (hn : 1 ≤ n) : prog.call n "_law_is" [.str a, .str b] = .ok (.bl (decide (a = b))) false [.non, .non] := by
  obtain ⟨n, rfl, hn⟩ := succ_of hn
  rw [cq__law_is rfl]
  simp -implicitDefEqProofs (disch := omega) only [F__law_is, QSa, QSb, QSc, QSd, QSe, QSf, QSg, List.getElem?_cons_zero, List.getElem?_cons_succ, List.set_cons_zero, List.set_cons_succ, Option.bind_some, Option.map_some, getAll, startE, List.cons_append, List.nil_append, List.append_nil, List.map_cons, List.map_nil, List.length_cons, List.length_nil, List.any_cons, List.any_nil, Bool.or_false, Bool.and_true, Bool.true_and, Bool.or_self, Bool.false_or, Bool.false_eq_true, ↓reduceIte, eq_self, Bool.not_true, Bool.not_false, decide_true, decide_false, decide_eq_true_eq, List.contains_nil, List.contains_cons, Option.some_beq_none, Option.some_beq_some, Nat.reduceBEq, Bool.or_true, Bool.true_or, Bool.and_false, Bool.false_and, Option.isSome_some, Int.cast_ofNat_Int, Nat.reduceAdd, Nat.reduceSub, List.drop_nil, List.reduceReplicate, ↓bindR, Int.reduceAdd, Int.reduceSub, Int.reduceMul, Nat.reduceLT, Nat.reduceLeDiff, Int.reduceLT, Int.reduceLE, Nat.reduceEqDiff, Int.reduceEq, Int.reduceBNe, Bool.decide_eq_true, Bool.decide_eq_false, not_true_eq_false, not_false_eq_true, ne_eq, Nat.zero_add, Int.reduceNeg, List.isEmpty_cons, List.isEmpty_nil, List.length_map, List.length_range, List.length_append, List.length_replicate, List.drop_zero, List.drop_succ_cons, reduceCtorEq, FX, cmpQ_str]
  rfl
theorem filter_none {α : Type} (l : List α) : (l.filterMap fun _ => (none : Option D)) = [] := by induction l <;> simp_all
theorem is_tup {n : Nat} {xs : List D} (hl : xs.length ≤ 1000) (h : ∀ x ∈ xs, prog.call n "_law_is" [x, x] = .ok (.bl true) false [.non, .non]) : prog.call (n + 1) "_law_is" [.tup xs, .tup xs] = .ok (.bl true) false [.non, .non] := by
  rw [cq__law_is rfl]
  simp -implicitDefEqProofs (disch := omega) only [F__law_is, QSa, QSb, QSc, QSd, QSe, QSf, QSg, List.getElem?_cons_zero, List.getElem?_cons_succ, List.set_cons_zero, List.set_cons_succ, Option.bind_some, Option.map_some, getAll, startE, List.cons_append, List.nil_append, List.append_nil, List.map_cons, List.map_nil, List.length_cons, List.length_nil, List.any_cons, List.any_nil, Bool.or_false, Bool.and_true, Bool.true_and, Bool.or_self, Bool.false_or, Bool.false_eq_true, ↓reduceIte, eq_self, Bool.not_true, Bool.not_false, decide_true, decide_false, decide_eq_true_eq, List.contains_nil, List.contains_cons, Option.some_beq_none, Option.some_beq_some, Nat.reduceBEq, Bool.or_true, Bool.true_or, Bool.and_false, Bool.false_and, Option.isSome_some, Int.cast_ofNat_Int, Nat.reduceAdd, Nat.reduceSub, List.drop_nil, List.reduceReplicate, ↓bindR, Int.reduceAdd, Int.reduceSub, Int.reduceMul, Nat.reduceLT, Nat.reduceLeDiff, Int.reduceLT, Int.reduceLE, Nat.reduceEqDiff, Int.reduceEq, Int.reduceBNe, Bool.decide_eq_true, Bool.decide_eq_false, not_true_eq_false, not_false_eq_true, ne_eq, Nat.zero_add, Int.reduceNeg, List.isEmpty_cons, List.isEmpty_nil, List.length_map, List.length_range, List.length_append, List.length_replicate, List.drop_zero, List.drop_succ_cons, reduceCtorEq, FX]
  rw [compR (enc := dI) (fun _ => none) (List.range xs.length) ?hj ?he ?hh ?hl]
  case hj => rfl
  case he => rfl
  case hl => rw [filter_none]; simp
  case hh =>
    intro j hj
    have hj' := List.mem_range.1 hj
    have e : idxD (.tup xs) (dI j) = some xs[j] := idxQ_tup hj'
    have q := h _ (List.getElem_mem hj')
    refine ⟨some (.fz (dI j)), ?_⟩
    generalize dI j = z at *
    simp -implicitDefEqProofs (disch := omega) only [QSa, QSb, QSc, QSd, QSe, QSf, QSg, List.getElem?_cons_zero, List.getElem?_cons_succ, List.set_cons_zero, List.set_cons_succ, Option.bind_some, Option.map_some, getAll, startE, List.cons_append, List.nil_append, List.append_nil, List.map_cons, List.map_nil, List.length_cons, List.length_nil, List.any_cons, List.any_nil, Bool.or_false, Bool.and_true, Bool.true_and, Bool.or_self, Bool.false_or, Bool.false_eq_true, ↓reduceIte, eq_self, Bool.not_true, Bool.not_false, decide_true, decide_false, decide_eq_true_eq, List.contains_nil, List.contains_cons, Option.some_beq_none, Option.some_beq_some, Nat.reduceBEq, Bool.or_true, Bool.true_or, Bool.and_false, Bool.false_and, Option.isSome_some, Int.cast_ofNat_Int, Nat.reduceAdd, Nat.reduceSub, List.drop_nil, List.reduceReplicate, ↓bindR, Int.reduceAdd, Int.reduceSub, Int.reduceMul, Nat.reduceLT, Nat.reduceLeDiff, Int.reduceLT, Int.reduceLE, Nat.reduceEqDiff, Int.reduceEq, Int.reduceBNe, Bool.decide_eq_true, Bool.decide_eq_false, not_true_eq_false, not_false_eq_true, ne_eq, Nat.zero_add, Int.reduceNeg, List.isEmpty_cons, List.isEmpty_nil, List.length_map, List.length_range, List.length_append, List.length_replicate, List.drop_zero, List.drop_succ_cons, reduceCtorEq, FX, e, q]
  rw [filter_none]
  have e0 : cmpD .Eq (.lst []) (.lst []) = some true := rfl
  simp -implicitDefEqProofs (disch := omega) only [QSa, QSb, QSc, QSd, QSe, QSf, QSg, List.getElem?_cons_zero, List.getElem?_cons_succ, List.set_cons_zero, List.set_cons_succ, Option.bind_some, Option.map_some, getAll, startE, List.cons_append, List.nil_append, List.append_nil, List.map_cons, List.map_nil, List.length_cons, List.length_nil, List.any_cons, List.any_nil, Bool.or_false, Bool.and_true, Bool.true_and, Bool.or_self, Bool.false_or, Bool.false_eq_true, ↓reduceIte, eq_self, Bool.not_true, Bool.not_false, decide_true, decide_false, decide_eq_true_eq, List.contains_nil, List.contains_cons, Option.some_beq_none, Option.some_beq_some, Nat.reduceBEq, Bool.or_true, Bool.true_or, Bool.and_false, Bool.false_and, Option.isSome_some, Int.cast_ofNat_Int, Nat.reduceAdd, Nat.reduceSub, List.drop_nil, List.reduceReplicate, ↓bindR, Int.reduceAdd, Int.reduceSub, Int.reduceMul, Nat.reduceLT, Nat.reduceLeDiff, Int.reduceLT, Int.reduceLE, Nat.reduceEqDiff, Int.reduceEq, Int.reduceBNe, Bool.decide_eq_true, Bool.decide_eq_false, not_true_eq_false, not_false_eq_true, ne_eq, Nat.zero_add, Int.reduceNeg, List.isEmpty_cons, List.isEmpty_nil, List.length_map, List.length_range, List.length_append, List.length_replicate, List.drop_zero, List.drop_succ_cons, reduceCtorEq, FX, e0]
  rfl
theorem is_lst {n : Nat} {xs : List D} (hl : xs.length ≤ 1000) (h : ∀ x ∈ xs, prog.call n "_law_is" [x, x] = .ok (.bl true) false [.non, .non]) : prog.call (n + 1) "_law_is" [.lst xs, .lst xs] = .ok (.bl true) false [.non, .non] := by
  rw [cq__law_is rfl]
  simp -implicitDefEqProofs (disch := omega) only [F__law_is, QSa, QSb, QSc, QSd, QSe, QSf, QSg, List.getElem?_cons_zero, List.getElem?_cons_succ, List.set_cons_zero, List.set_cons_succ, Option.bind_some, Option.map_some, getAll, startE, List.cons_append, List.nil_append, List.append_nil, List.map_cons, List.map_nil, List.length_cons, List.length_nil, List.any_cons, List.any_nil, Bool.or_false, Bool.and_true, Bool.true_and, Bool.or_self, Bool.false_or, Bool.false_eq_true, ↓reduceIte, eq_self, Bool.not_true, Bool.not_false, decide_true, decide_false, decide_eq_true_eq, List.contains_nil, List.contains_cons, Option.some_beq_none, Option.some_beq_some, Nat.reduceBEq, Bool.or_true, Bool.true_or, Bool.and_false, Bool.false_and, Option.isSome_some, Int.cast_ofNat_Int, Nat.reduceAdd, Nat.reduceSub, List.drop_nil, List.reduceReplicate, ↓bindR, Int.reduceAdd, Int.reduceSub, Int.reduceMul, Nat.reduceLT, Nat.reduceLeDiff, Int.reduceLT, Int.reduceLE, Nat.reduceEqDiff, Int.reduceEq, Int.reduceBNe, Bool.decide_eq_true, Bool.decide_eq_false, not_true_eq_false, not_false_eq_true, ne_eq, Nat.zero_add, Int.reduceNeg, List.isEmpty_cons, List.isEmpty_nil, List.length_map, List.length_range, List.length_append, List.length_replicate, List.drop_zero, List.drop_succ_cons, reduceCtorEq, FX]
  rw [compR (enc := dI) (fun _ => none) (List.range xs.length) ?hj ?he ?hh ?hl]
  case hj => rfl
  case he => rfl
  case hl => rw [filter_none]; simp
  case hh =>
    intro j hj
    have hj' := List.mem_range.1 hj
    have e : idxD (.lst xs) (dI j) = some xs[j] := idxQ_lst hj'
    have q := h _ (List.getElem_mem hj')
    refine ⟨some (.fz (dI j)), ?_⟩
    generalize dI j = z at *
    simp -implicitDefEqProofs (disch := omega) only [QSa, QSb, QSc, QSd, QSe, QSf, QSg, List.getElem?_cons_zero, List.getElem?_cons_succ, List.set_cons_zero, List.set_cons_succ, Option.bind_some, Option.map_some, getAll, startE, List.cons_append, List.nil_append, List.append_nil, List.map_cons, List.map_nil, List.length_cons, List.length_nil, List.any_cons, List.any_nil, Bool.or_false, Bool.and_true, Bool.true_and, Bool.or_self, Bool.false_or, Bool.false_eq_true, ↓reduceIte, eq_self, Bool.not_true, Bool.not_false, decide_true, decide_false, decide_eq_true_eq, List.contains_nil, List.contains_cons, Option.some_beq_none, Option.some_beq_some, Nat.reduceBEq, Bool.or_true, Bool.true_or, Bool.and_false, Bool.false_and, Option.isSome_some, Int.cast_ofNat_Int, Nat.reduceAdd, Nat.reduceSub, List.drop_nil, List.reduceReplicate, ↓bindR, Int.reduceAdd, Int.reduceSub, Int.reduceMul, Nat.reduceLT, Nat.reduceLeDiff, Int.reduceLT, Int.reduceLE, Nat.reduceEqDiff, Int.reduceEq, Int.reduceBNe, Bool.decide_eq_true, Bool.decide_eq_false, not_true_eq_false, not_false_eq_true, ne_eq, Nat.zero_add, Int.reduceNeg, List.isEmpty_cons, List.isEmpty_nil, List.length_map, List.length_range, List.length_append, List.length_replicate, List.drop_zero, List.drop_succ_cons, reduceCtorEq, FX, e, q]
  rw [filter_none]
  have e0 : cmpD .Eq (.lst []) (.lst []) = some true := rfl
  simp -implicitDefEqProofs (disch := omega) only [QSa, QSb, QSc, QSd, QSe, QSf, QSg, List.getElem?_cons_zero, List.getElem?_cons_succ, List.set_cons_zero, List.set_cons_succ, Option.bind_some, Option.map_some, getAll, startE, List.cons_append, List.nil_append, List.append_nil, List.map_cons, List.map_nil, List.length_cons, List.length_nil, List.any_cons, List.any_nil, Bool.or_false, Bool.and_true, Bool.true_and, Bool.or_self, Bool.false_or, Bool.false_eq_true, ↓reduceIte, eq_self, Bool.not_true, Bool.not_false, decide_true, decide_false, decide_eq_true_eq, List.contains_nil, List.contains_cons, Option.some_beq_none, Option.some_beq_some, Nat.reduceBEq, Bool.or_true, Bool.true_or, Bool.and_false, Bool.false_and, Option.isSome_some, Int.cast_ofNat_Int, Nat.reduceAdd, Nat.reduceSub, List.drop_nil, List.reduceReplicate, ↓bindR, Int.reduceAdd, Int.reduceSub, Int.reduceMul, Nat.reduceLT, Nat.reduceLeDiff, Int.reduceLT, Int.reduceLE, Nat.reduceEqDiff, Int.reduceEq, Int.reduceBNe, Bool.decide_eq_true, Bool.decide_eq_false, not_true_eq_false, not_false_eq_true, ne_eq, Nat.zero_add, Int.reduceNeg, List.isEmpty_cons, List.isEmpty_nil, List.length_map, List.length_range, List.length_append, List.length_replicate, List.drop_zero, List.drop_succ_cons, reduceCtorEq, FX, e0]
  rfl
def isable : Nat → D → Bool
  | 0, d => match d with
    | .non => true
    | .bl _ => true
    | .int _ => true
    | .str _ => true
    | _ => false
  | k + 1, d => match d with
    | .non => true
    | .bl _ => true
    | .int _ => true
    | .str _ => true
    | .lst xs => decide (xs.length ≤ 1000) && xs.all (isable k)
    | .tup xs => decide (xs.length ≤ 1000) && xs.all (isable k)
    | _ => false
theorem isable_lst {k : Nat} {xs : List D} : isable (k + 1) (.lst xs) = (decide (xs.length ≤ 1000) && xs.all (isable k)) := rfl
theorem isable_tup {k : Nat} {xs : List D} : isable (k + 1) (.tup xs) = (decide (xs.length ≤ 1000) && xs.all (isable k)) := rfl
theorem isable_bl {k : Nat} {b : Bool} : isable k (.bl b) = true := by cases k <;> rfl
theorem isable_int {k : Nat} {b : Int} : isable k (.int b) = true := by cases k <;> rfl
theorem isable_str {k : Nat} {b : Str} : isable k (.str b) = true := by cases k <;> rfl
theorem isable_non {k : Nat} : isable k .non = true := by cases k <;> rfl
theorem is_refl : ∀ (k : Nat) (d : D) {n : Nat}, k + 1 ≤ n → isable k d = true → prog.call n "_law_is" [d, d] = .ok (.bl true) false [.non, .non]
  | 0, d, n, hn, h => by
    cases d with
    | non => exact is_non hn
    | bl b => exact (is_bl hn).trans (by simp)
    | int i => exact (is_int hn).trans (by simp)
    | str s => exact (is_str hn).trans (by simp)
    | _ => cases h
  | k + 1, d, n, hn, h => by
    cases d with
    | non => exact is_non (by omega)
    | bl b => exact (is_bl (by omega)).trans (by simp)
    | int i => exact (is_int (by omega)).trans (by simp)
    | str s => exact (is_str (by omega)).trans (by simp)
    | lst xs =>
      obtain ⟨n, rfl, hn⟩ := succ_of hn
      rw [isable_lst, Bool.and_eq_true, decide_eq_true_eq, List.all_eq_true] at h
      exact is_lst h.1 fun x hx => is_refl k x (by omega) (h.2 x hx)
    | tup xs =>
      obtain ⟨n, rfl, hn⟩ := succ_of hn
      rw [isable_tup, Bool.and_eq_true, decide_eq_true_eq, List.all_eq_true] at h
      exact is_tup h.1 fun x hx => is_refl k x (by omega) (h.2 x hx)
    | _ => cases h
theorem isable_more : ∀ {k : Nat} {d : D}, isable k d = true → isable (k + 1) d = true
  | 0, d, h => by cases d <;> first | rfl | cases h
  | k + 1, d, h => by
    cases d with
    | lst xs =>
      rw [isable_lst, Bool.and_eq_true, List.all_eq_true] at *
      exact ⟨h.1, fun x hx => isable_more (h.2 x hx)⟩
    | tup xs =>
      rw [isable_tup, Bool.and_eq_true, List.all_eq_true] at *
      exact ⟨h.1, fun x hx => isable_more (h.2 x hx)⟩
    | _ => first | rfl | cases h
theorem isable_le {k l : Nat} {d : D} (h : isable k d = true) (hl : k ≤ l) : isable l d = true := by
  induction hl with
  | refl => exact h
  | step _ ih => exact isable_more ih
end Lw

-- LAW 63
set_option maxRecDepth 100000
set_option maxHeartbeats 4000000
namespace Lw
open PySem Mp
theorem rangeD_fr (a m : Nat) : rangeD ((a : Int) + 1) (m : Int) = (List.range' (a + 1) (m - (a + 1))).map dI := rangeD_from a m
theorem flat_snoc {α β : Type} (f : α → List β) (pre : List α) (x : α) : (pre ++ [x]).flatMap f = pre.flatMap f ++ f x := by simp
def arcsTo (m : Nat) (pre : List Nat) : List (Nat × Nat) := pre.flatMap fun a => (List.range' (a + 1) (m - (a + 1))).map fun b => (a, b)
theorem arcsTo_len (m : Nat) (hm : m ≤ 8) : ∀ pre : List Nat, (arcsTo m pre).length ≤ 8 * pre.length
  | [] => by simp [arcsTo]
  | a :: r => by
    have h := arcsTo_len m hm r
    unfold arcsTo at *
    rw [List.flatMap_cons, List.length_append, List.length_map, List.length_range', List.length_cons]
    omega
theorem c_row_arcs {n m : Nat} (hn : 1 ≤ n) (hm : m ≤ 8) : prog.call n "row_arcs" [dI m] = .ok (.lst ((rowArcs m).map pairI)) true [.non] := by
  obtain ⟨n, rfl, hn⟩ := succ_of hn
  rw [cq_row_arcs rfl]
  simp -implicitDefEqProofs (disch := omega) only [F_row_arcs, QSa, QSb, QSc, QSd, QSe, QSf, QSg, List.getElem?_cons_zero, List.getElem?_cons_succ, List.set_cons_zero, List.set_cons_succ, Option.bind_some, Option.map_some, getAll, startE, List.cons_append, List.nil_append, List.append_nil, List.map_cons, List.map_nil, List.length_cons, List.length_nil, List.any_cons, List.any_nil, Bool.or_false, Bool.and_true, Bool.true_and, Bool.or_self, Bool.false_or, Bool.false_eq_true, ↓reduceIte, eq_self, Bool.not_true, Bool.not_false, decide_true, decide_false, decide_eq_true_eq, List.contains_nil, List.contains_cons, Option.some_beq_none, Option.some_beq_some, Nat.reduceBEq, Bool.or_true, Bool.true_or, Bool.and_false, Bool.false_and, Option.isSome_some, Int.cast_ofNat_Int, Nat.reduceAdd, Nat.reduceSub, List.drop_nil, List.reduceReplicate, ↓bindR, Int.reduceAdd, Int.reduceSub, Int.reduceMul, Nat.reduceLT, Nat.reduceLeDiff, Int.reduceLT, Int.reduceLE, Nat.reduceEqDiff, Int.reduceEq, Int.reduceBNe, Bool.decide_eq_true, Bool.decide_eq_false, not_true_eq_false, not_false_eq_true, ne_eq, Nat.zero_add, Int.reduceNeg, List.isEmpty_cons, List.isEmpty_nil, List.length_map, List.length_range, List.length_append, List.length_replicate, List.drop_zero, List.drop_succ_cons, reduceCtorEq, FX]
  refine for_go (endFn [false]) (List.range m) (fun pre (t : Option Cell) => [some (.fz (dI m)), some (.ow (.lst ((arcsTo m pre).map pairI))), t, none]) none rfl ?_ ?_
  · intro pre x post t hx
    have hl : pre.length + (post.length + 1) = m := by have := congrArg List.length hx; simpa using this.symm
    have hb := arcsTo_len m hm pre
    have hxm : x < m := List.mem_range.1 (hx ▸ List.mem_append_right _ (List.mem_cons_self ..))
    refine ⟨some (.fz (dI x)), ?_⟩
    simp -implicitDefEqProofs (disch := omega) only [QSa, QSb, QSc, QSd, QSe, QSf, QSg, List.getElem?_cons_zero, List.getElem?_cons_succ, List.set_cons_zero, List.set_cons_succ, Option.bind_some, Option.map_some, getAll, startE, List.cons_append, List.nil_append, List.append_nil, List.map_cons, List.map_nil, List.length_cons, List.length_nil, List.any_cons, List.any_nil, Bool.or_false, Bool.and_true, Bool.true_and, Bool.or_self, Bool.false_or, Bool.false_eq_true, ↓reduceIte, eq_self, Bool.not_true, Bool.not_false, decide_true, decide_false, decide_eq_true_eq, List.contains_nil, List.contains_cons, Option.some_beq_none, Option.some_beq_some, Nat.reduceBEq, Bool.or_true, Bool.true_or, Bool.and_false, Bool.false_and, Option.isSome_some, Int.cast_ofNat_Int, Nat.reduceAdd, Nat.reduceSub, List.drop_nil, List.reduceReplicate, ↓bindR, Int.reduceAdd, Int.reduceSub, Int.reduceMul, Nat.reduceLT, Nat.reduceLeDiff, Int.reduceLT, Int.reduceLE, Nat.reduceEqDiff, Int.reduceEq, Int.reduceBNe, Bool.decide_eq_true, Bool.decide_eq_false, not_true_eq_false, not_false_eq_true, ne_eq, Nat.zero_add, Int.reduceNeg, List.isEmpty_cons, List.isEmpty_nil, List.length_map, List.length_range, List.length_append, List.length_replicate, List.drop_zero, List.drop_succ_cons, reduceCtorEq, FX, rangeD_fr]
    rw [compRm (enc := dI) (fun b => pairI (x, b)) (List.range' (x + 1) (m - (x + 1))) ?hj ?he ?hh ?hl]
    case hj => rfl
    case he => rfl
    case hl => rw [List.length_range']; omega
    case hh =>
      intro b hb
      refine ⟨some (.fz (dI b)), ?_⟩
      simp -implicitDefEqProofs (disch := omega) only [QSa, QSb, QSc, QSd, QSe, QSf, QSg, List.getElem?_cons_zero, List.getElem?_cons_succ, List.set_cons_zero, List.set_cons_succ, Option.bind_some, Option.map_some, getAll, startE, List.cons_append, List.nil_append, List.append_nil, List.map_cons, List.map_nil, List.length_cons, List.length_nil, List.any_cons, List.any_nil, Bool.or_false, Bool.and_true, Bool.true_and, Bool.or_self, Bool.false_or, Bool.false_eq_true, ↓reduceIte, eq_self, Bool.not_true, Bool.not_false, decide_true, decide_false, decide_eq_true_eq, List.contains_nil, List.contains_cons, Option.some_beq_none, Option.some_beq_some, Nat.reduceBEq, Bool.or_true, Bool.true_or, Bool.and_false, Bool.false_and, Option.isSome_some, Int.cast_ofNat_Int, Nat.reduceAdd, Nat.reduceSub, List.drop_nil, List.reduceReplicate, ↓bindR, Int.reduceAdd, Int.reduceSub, Int.reduceMul, Nat.reduceLT, Nat.reduceLeDiff, Int.reduceLT, Int.reduceLE, Nat.reduceEqDiff, Int.reduceEq, Int.reduceBNe, Bool.decide_eq_true, Bool.decide_eq_false, not_true_eq_false, not_false_eq_true, ne_eq, Nat.zero_add, Int.reduceNeg, List.isEmpty_cons, List.isEmpty_nil, List.length_map, List.length_range, List.length_append, List.length_replicate, List.drop_zero, List.drop_succ_cons, reduceCtorEq, FX]
      rfl
    simp -implicitDefEqProofs (disch := omega) only [QSa, QSb, QSc, QSd, QSe, QSf, QSg, List.getElem?_cons_zero, List.getElem?_cons_succ, List.set_cons_zero, List.set_cons_succ, Option.bind_some, Option.map_some, getAll, startE, List.cons_append, List.nil_append, List.append_nil, List.map_cons, List.map_nil, List.length_cons, List.length_nil, List.any_cons, List.any_nil, Bool.or_false, Bool.and_true, Bool.true_and, Bool.or_self, Bool.false_or, Bool.false_eq_true, ↓reduceIte, eq_self, Bool.not_true, Bool.not_false, decide_true, decide_false, decide_eq_true_eq, List.contains_nil, List.contains_cons, Option.some_beq_none, Option.some_beq_some, Nat.reduceBEq, Bool.or_true, Bool.true_or, Bool.and_false, Bool.false_and, Option.isSome_some, Int.cast_ofNat_Int, Nat.reduceAdd, Nat.reduceSub, List.drop_nil, List.reduceReplicate, ↓bindR, Int.reduceAdd, Int.reduceSub, Int.reduceMul, Nat.reduceLT, Nat.reduceLeDiff, Int.reduceLT, Int.reduceLE, Nat.reduceEqDiff, Int.reduceEq, Int.reduceBNe, Bool.decide_eq_true, Bool.decide_eq_false, not_true_eq_false, not_false_eq_true, ne_eq, Nat.zero_add, Int.reduceNeg, List.isEmpty_cons, List.isEmpty_nil, List.length_map, List.length_range, List.length_append, List.length_replicate, List.drop_zero, List.drop_succ_cons, reduceCtorEq, FX, List.length_range']
    unfold arcsTo
    rw [flat_snoc, List.map_append, List.map_map]
    rfl
  · intro t'
    simp -implicitDefEqProofs (disch := omega) only [QSa, QSb, QSc, QSd, QSe, QSf, QSg, List.getElem?_cons_zero, List.getElem?_cons_succ, List.set_cons_zero, List.set_cons_succ, Option.bind_some, Option.map_some, getAll, startE, List.cons_append, List.nil_append, List.append_nil, List.map_cons, List.map_nil, List.length_cons, List.length_nil, List.any_cons, List.any_nil, Bool.or_false, Bool.and_true, Bool.true_and, Bool.or_self, Bool.false_or, Bool.false_eq_true, ↓reduceIte, eq_self, Bool.not_true, Bool.not_false, decide_true, decide_false, decide_eq_true_eq, List.contains_nil, List.contains_cons, Option.some_beq_none, Option.some_beq_some, Nat.reduceBEq, Bool.or_true, Bool.true_or, Bool.and_false, Bool.false_and, Option.isSome_some, Int.cast_ofNat_Int, Nat.reduceAdd, Nat.reduceSub, List.drop_nil, List.reduceReplicate, ↓bindR, Int.reduceAdd, Int.reduceSub, Int.reduceMul, Nat.reduceLT, Nat.reduceLeDiff, Int.reduceLT, Int.reduceLE, Nat.reduceEqDiff, Int.reduceEq, Int.reduceBNe, Bool.decide_eq_true, Bool.decide_eq_false, not_true_eq_false, not_false_eq_true, ne_eq, Nat.zero_add, Int.reduceNeg, List.isEmpty_cons, List.isEmpty_nil, List.length_map, List.length_range, List.length_append, List.length_replicate, List.drop_zero, List.drop_succ_cons, reduceCtorEq, FX]
    rfl
theorem c_plain_web {n m : Nat} (hn : 1 ≤ n) (hm : m ≤ 8) : prog.call n "plain_web" [dI m, .lst ((rowArcs m).map pairI)] = .ok (rowD m) false [.non, .non] := by
  obtain ⟨n, rfl, hn⟩ := succ_of hn
  rw [cq_plain_web rfl]
  have so := sorted_arcs m hm
  have mz := mulQ_t1 m (by omega) (.int 0)
  unfold rowD
  generalize (rowArcs m).map pairI = A at *
  simp -implicitDefEqProofs (disch := omega) only [F_plain_web, QSa, QSb, QSc, QSd, QSe, QSf, QSg, List.getElem?_cons_zero, List.getElem?_cons_succ, List.set_cons_zero, List.set_cons_succ, Option.bind_some, Option.map_some, getAll, startE, List.cons_append, List.nil_append, List.append_nil, List.map_cons, List.map_nil, List.length_cons, List.length_nil, List.any_cons, List.any_nil, Bool.or_false, Bool.and_true, Bool.true_and, Bool.or_self, Bool.false_or, Bool.false_eq_true, ↓reduceIte, eq_self, Bool.not_true, Bool.not_false, decide_true, decide_false, decide_eq_true_eq, List.contains_nil, List.contains_cons, Option.some_beq_none, Option.some_beq_some, Nat.reduceBEq, Bool.or_true, Bool.true_or, Bool.and_false, Bool.false_and, Option.isSome_some, Int.cast_ofNat_Int, Nat.reduceAdd, Nat.reduceSub, List.drop_nil, List.reduceReplicate, ↓bindR, Int.reduceAdd, Int.reduceSub, Int.reduceMul, Nat.reduceLT, Nat.reduceLeDiff, Int.reduceLT, Int.reduceLE, Nat.reduceEqDiff, Int.reduceEq, Int.reduceBNe, Bool.decide_eq_true, Bool.decide_eq_false, not_true_eq_false, not_false_eq_true, ne_eq, Nat.zero_add, Int.reduceNeg, List.isEmpty_cons, List.isEmpty_nil, List.length_map, List.length_range, List.length_append, List.length_replicate, List.drop_zero, List.drop_succ_cons, reduceCtorEq, FX, so, mz]
  rfl
theorem c_row_web {n m : Nat} (hn : 4 ≤ n) (hm : m ≤ 8) : prog.call n "row_web" [dI m] = .ok (rowD m) false [.non] := by
  obtain ⟨n, rfl, hn⟩ := succ_of hn
  have a1 := c_row_arcs (n := n) (m := m) (by omega) hm
  have a2 := c_plain_web (n := n) (m := m) (by omega) hm
  have a3 := c_want_many (n := n) (v := m) (m := 8) (l := 0) (by omega) (by omega) (by omega) (by omega)
  rw [cq_row_web rfl]
  generalize (rowArcs m).map pairI = A at *
  generalize rowD m = R at *
  simp -implicitDefEqProofs (disch := omega) only [F_row_web, QSa, QSb, QSc, QSd, QSe, QSf, QSg, List.getElem?_cons_zero, List.getElem?_cons_succ, List.set_cons_zero, List.set_cons_succ, Option.bind_some, Option.map_some, getAll, startE, List.cons_append, List.nil_append, List.append_nil, List.map_cons, List.map_nil, List.length_cons, List.length_nil, List.any_cons, List.any_nil, Bool.or_false, Bool.and_true, Bool.true_and, Bool.or_self, Bool.false_or, Bool.false_eq_true, ↓reduceIte, eq_self, Bool.not_true, Bool.not_false, decide_true, decide_false, decide_eq_true_eq, List.contains_nil, List.contains_cons, Option.some_beq_none, Option.some_beq_some, Nat.reduceBEq, Bool.or_true, Bool.true_or, Bool.and_false, Bool.false_and, Option.isSome_some, Int.cast_ofNat_Int, Nat.reduceAdd, Nat.reduceSub, List.drop_nil, List.reduceReplicate, ↓bindR, Int.reduceAdd, Int.reduceSub, Int.reduceMul, Nat.reduceLT, Nat.reduceLeDiff, Int.reduceLT, Int.reduceLE, Nat.reduceEqDiff, Int.reduceEq, Int.reduceBNe, Bool.decide_eq_true, Bool.decide_eq_false, not_true_eq_false, not_false_eq_true, ne_eq, Nat.zero_add, Int.reduceNeg, List.isEmpty_cons, List.isEmpty_nil, List.length_map, List.length_range, List.length_append, List.length_replicate, List.drop_zero, List.drop_succ_cons, reduceCtorEq, FX, a1, a2, a3]
  rfl
theorem c_long_enough {n d : Nat} (hn : 1 ≤ n) (hd : d ≤ 1000) : prog.call n "long_enough" [dI d] = .ok (.int (2 ^ d - 1)) false [.non] := by
  obtain ⟨n, rfl, hn⟩ := succ_of hn
  rw [cq_long_enough rfl]
  simp -implicitDefEqProofs (disch := omega) only [F_long_enough, QSa, QSb, QSc, QSd, QSe, QSf, QSg, List.getElem?_cons_zero, List.getElem?_cons_succ, List.set_cons_zero, List.set_cons_succ, Option.bind_some, Option.map_some, getAll, startE, List.cons_append, List.nil_append, List.append_nil, List.map_cons, List.map_nil, List.length_cons, List.length_nil, List.any_cons, List.any_nil, Bool.or_false, Bool.and_true, Bool.true_and, Bool.or_self, Bool.false_or, Bool.false_eq_true, ↓reduceIte, eq_self, Bool.not_true, Bool.not_false, decide_true, decide_false, decide_eq_true_eq, List.contains_nil, List.contains_cons, Option.some_beq_none, Option.some_beq_some, Nat.reduceBEq, Bool.or_true, Bool.true_or, Bool.and_false, Bool.false_and, Option.isSome_some, Int.cast_ofNat_Int, Nat.reduceAdd, Nat.reduceSub, List.drop_nil, List.reduceReplicate, ↓bindR, Int.reduceAdd, Int.reduceSub, Int.reduceMul, Nat.reduceLT, Nat.reduceLeDiff, Int.reduceLT, Int.reduceLE, Nat.reduceEqDiff, Int.reduceEq, Int.reduceBNe, Bool.decide_eq_true, Bool.decide_eq_false, not_true_eq_false, not_false_eq_true, ne_eq, Nat.zero_add, Int.reduceNeg, List.isEmpty_cons, List.isEmpty_nil, List.length_map, List.length_range, List.length_append, List.length_replicate, List.drop_zero, List.drop_succ_cons, reduceCtorEq, FX]
  refine for_go (endFn [false]) (List.range d) (fun pre (t : Option Cell) => [some (.fz (dI d)), some (.fz (.int (2 ^ pre.length))), t]) none rfl ?_ ?_
  · intro pre x post t hx
    refine ⟨some (.fz (dI x)), ?_⟩
    have mu : binD .Mult (.int 2) (.int (2 ^ pre.length)) = some (.fz (.int (2 * 2 ^ pre.length))) := bin_mul rfl
    have e : (2 : Int) * 2 ^ pre.length = 2 ^ (pre ++ [x]).length := by rw [List.length_append, List.length_singleton, Int.pow_succ, Int.mul_comm]
    rw [e] at mu
    generalize (2 : Int) ^ (pre ++ [x]).length = q at *
    simp -implicitDefEqProofs (disch := omega) only [QSa, QSb, QSc, QSd, QSe, QSf, QSg, List.getElem?_cons_zero, List.getElem?_cons_succ, List.set_cons_zero, List.set_cons_succ, Option.bind_some, Option.map_some, getAll, startE, List.cons_append, List.nil_append, List.append_nil, List.map_cons, List.map_nil, List.length_cons, List.length_nil, List.any_cons, List.any_nil, Bool.or_false, Bool.and_true, Bool.true_and, Bool.or_self, Bool.false_or, Bool.false_eq_true, ↓reduceIte, eq_self, Bool.not_true, Bool.not_false, decide_true, decide_false, decide_eq_true_eq, List.contains_nil, List.contains_cons, Option.some_beq_none, Option.some_beq_some, Nat.reduceBEq, Bool.or_true, Bool.true_or, Bool.and_false, Bool.false_and, Option.isSome_some, Int.cast_ofNat_Int, Nat.reduceAdd, Nat.reduceSub, List.drop_nil, List.reduceReplicate, ↓bindR, Int.reduceAdd, Int.reduceSub, Int.reduceMul, Nat.reduceLT, Nat.reduceLeDiff, Int.reduceLT, Int.reduceLE, Nat.reduceEqDiff, Int.reduceEq, Int.reduceBNe, Bool.decide_eq_true, Bool.decide_eq_false, not_true_eq_false, not_false_eq_true, ne_eq, Nat.zero_add, Int.reduceNeg, List.isEmpty_cons, List.isEmpty_nil, List.length_map, List.length_range, List.length_append, List.length_replicate, List.drop_zero, List.drop_succ_cons, reduceCtorEq, FX, mu]
  · intro t'
    rw [List.length_range]
    simp -implicitDefEqProofs (disch := omega) only [QSa, QSb, QSc, QSd, QSe, QSf, QSg, List.getElem?_cons_zero, List.getElem?_cons_succ, List.set_cons_zero, List.set_cons_succ, Option.bind_some, Option.map_some, getAll, startE, List.cons_append, List.nil_append, List.append_nil, List.map_cons, List.map_nil, List.length_cons, List.length_nil, List.any_cons, List.any_nil, Bool.or_false, Bool.and_true, Bool.true_and, Bool.or_self, Bool.false_or, Bool.false_eq_true, ↓reduceIte, eq_self, Bool.not_true, Bool.not_false, decide_true, decide_false, decide_eq_true_eq, List.contains_nil, List.contains_cons, Option.some_beq_none, Option.some_beq_some, Nat.reduceBEq, Bool.or_true, Bool.true_or, Bool.and_false, Bool.false_and, Option.isSome_some, Int.cast_ofNat_Int, Nat.reduceAdd, Nat.reduceSub, List.drop_nil, List.reduceReplicate, ↓bindR, Int.reduceAdd, Int.reduceSub, Int.reduceMul, Nat.reduceLT, Nat.reduceLeDiff, Int.reduceLT, Int.reduceLE, Nat.reduceEqDiff, Int.reduceEq, Int.reduceBNe, Bool.decide_eq_true, Bool.decide_eq_false, not_true_eq_false, not_false_eq_true, ne_eq, Nat.zero_add, Int.reduceNeg, List.isEmpty_cons, List.isEmpty_nil, List.length_map, List.length_range, List.length_append, List.length_replicate, List.drop_zero, List.drop_succ_cons, reduceCtorEq, FX]
    rfl
theorem c_are_near {n d : Nat} {m k : Int} (hn : 2 ≤ n) (hd : d ≤ 1000) : prog.call n "are_near" [.int m, .int k, dI d] = .ok (.bl (near m k d)) false [.non, .non, .non] := by
  obtain ⟨n, rfl, hn⟩ := succ_of hn
  have a1 := c_long_enough (n := n) (d := d) (by omega) hd
  rw [cq_are_near rfl]
  simp -implicitDefEqProofs (disch := omega) only [F_are_near, QSa, QSb, QSc, QSd, QSe, QSf, QSg, List.getElem?_cons_zero, List.getElem?_cons_succ, List.set_cons_zero, List.set_cons_succ, Option.bind_some, Option.map_some, getAll, startE, List.cons_append, List.nil_append, List.append_nil, List.map_cons, List.map_nil, List.length_cons, List.length_nil, List.any_cons, List.any_nil, Bool.or_false, Bool.and_true, Bool.true_and, Bool.or_self, Bool.false_or, Bool.false_eq_true, ↓reduceIte, eq_self, Bool.not_true, Bool.not_false, decide_true, decide_false, decide_eq_true_eq, List.contains_nil, List.contains_cons, Option.some_beq_none, Option.some_beq_some, Nat.reduceBEq, Bool.or_true, Bool.true_or, Bool.and_false, Bool.false_and, Option.isSome_some, Int.cast_ofNat_Int, Nat.reduceAdd, Nat.reduceSub, List.drop_nil, List.reduceReplicate, ↓bindR, Int.reduceAdd, Int.reduceSub, Int.reduceMul, Nat.reduceLT, Nat.reduceLeDiff, Int.reduceLT, Int.reduceLE, Nat.reduceEqDiff, Int.reduceEq, Int.reduceBNe, Bool.decide_eq_true, Bool.decide_eq_false, not_true_eq_false, not_false_eq_true, ne_eq, Nat.zero_add, Int.reduceNeg, List.isEmpty_cons, List.isEmpty_nil, List.length_map, List.length_range, List.length_append, List.length_replicate, List.drop_zero, List.drop_succ_cons, reduceCtorEq, FX, a1]
  unfold near
  rfl
theorem c_part_depth_eq {n : Nat} {m : Int} (hn : 1 ≤ n) : prog.call n "part_depth" [.int m, .int m] = .ok .non false [.non, .non] := by
  obtain ⟨n, rfl, hn⟩ := succ_of hn
  rw [cq_part_depth rfl]
  simp -implicitDefEqProofs (disch := omega) only [F_part_depth, QSa, QSb, QSc, QSd, QSe, QSf, QSg, List.getElem?_cons_zero, List.getElem?_cons_succ, List.set_cons_zero, List.set_cons_succ, Option.bind_some, Option.map_some, getAll, startE, List.cons_append, List.nil_append, List.append_nil, List.map_cons, List.map_nil, List.length_cons, List.length_nil, List.any_cons, List.any_nil, Bool.or_false, Bool.and_true, Bool.true_and, Bool.or_self, Bool.false_or, Bool.false_eq_true, ↓reduceIte, eq_self, Bool.not_true, Bool.not_false, decide_true, decide_false, decide_eq_true_eq, List.contains_nil, List.contains_cons, Option.some_beq_none, Option.some_beq_some, Nat.reduceBEq, Bool.or_true, Bool.true_or, Bool.and_false, Bool.false_and, Option.isSome_some, Int.cast_ofNat_Int, Nat.reduceAdd, Nat.reduceSub, List.drop_nil, List.reduceReplicate, ↓bindR, Int.reduceAdd, Int.reduceSub, Int.reduceMul, Nat.reduceLT, Nat.reduceLeDiff, Int.reduceLT, Int.reduceLE, Nat.reduceEqDiff, Int.reduceEq, Int.reduceBNe, Bool.decide_eq_true, Bool.decide_eq_false, not_true_eq_false, not_false_eq_true, ne_eq, Nat.zero_add, Int.reduceNeg, List.isEmpty_cons, List.isEmpty_nil, List.length_map, List.length_range, List.length_append, List.length_replicate, List.drop_zero, List.drop_succ_cons, reduceCtorEq, FX]
  rfl
theorem part_while (n : Nat) (hn : 2 ≤ n) (m k : Int) (h : m ≠ k) (L : Nat) (hL : L ≤ 10) (l1 : ∀ d : Nat, d < L → (2 : Int) ^ d - 1 ≤ min m k) (l2 : min m k < 2 ^ L - 1) : ∀ (j d fuel : Nat), d + j = L → j < fuel →
    whLoop (evT (prog.cl (prog.call n)) [false, false] (testOf (nthS F_part_depth.body 2))) (exs (prog.cl (prog.call n)) [false, false] (bodyOf (nthS F_part_depth.body 2))) fuel [some (.fz (.int m)), some (.fz (.int k)), some (.fz (dI d))] = .ok .next [some (.fz (.int m)), some (.fz (.int k)), some (.fz (dI L))]
  | j, d, 0, _, h => absurd h (Nat.not_lt_zero _)
  | j, d, fuel + 1, hd, hj => by
    have q := c_are_near (n := n) (d := d) (m := m) (k := k) hn (by omega)
    rw [near_ne h] at q
    rw [whQ]
    cases j with
    | zero =>
      have e : d = L := by omega
      subst e
      have f : decide ((2 : Int) ^ d - 1 ≤ min m k) = false := decide_eq_false (by omega)
      rw [f] at q
      simp -implicitDefEqProofs (disch := omega) only [nthS, testOf, bodyOf, F_part_depth, QSa, QSb, QSc, QSd, QSe, QSf, QSg, List.getElem?_cons_zero, List.getElem?_cons_succ, List.set_cons_zero, List.set_cons_succ, Option.bind_some, Option.map_some, getAll, startE, List.cons_append, List.nil_append, List.append_nil, List.map_cons, List.map_nil, List.length_cons, List.length_nil, List.any_cons, List.any_nil, Bool.or_false, Bool.and_true, Bool.true_and, Bool.or_self, Bool.false_or, Bool.false_eq_true, ↓reduceIte, eq_self, Bool.not_true, Bool.not_false, decide_true, decide_false, decide_eq_true_eq, List.contains_nil, List.contains_cons, Option.some_beq_none, Option.some_beq_some, Nat.reduceBEq, Bool.or_true, Bool.true_or, Bool.and_false, Bool.false_and, Option.isSome_some, Int.cast_ofNat_Int, Nat.reduceAdd, Nat.reduceSub, List.drop_nil, List.reduceReplicate, ↓bindR, Int.reduceAdd, Int.reduceSub, Int.reduceMul, Nat.reduceLT, Nat.reduceLeDiff, Int.reduceLT, Int.reduceLE, Nat.reduceEqDiff, Int.reduceEq, Int.reduceBNe, Bool.decide_eq_true, Bool.decide_eq_false, not_true_eq_false, not_false_eq_true, ne_eq, Nat.zero_add, Int.reduceNeg, List.isEmpty_cons, List.isEmpty_nil, List.length_map, List.length_range, List.length_append, List.length_replicate, List.drop_zero, List.drop_succ_cons, reduceCtorEq, FX, q]
    | succ j =>
      have f : decide ((2 : Int) ^ d - 1 ≤ min m k) = true := decide_eq_true (l1 d (by omega))
      rw [f] at q
      have ih := part_while n hn m k h L hL l1 l2 j (d + 1) fuel (by omega) (by omega)
      rw [← ih]
      have e : dI (d + 1) = D.int ((d : Int) + 1) := by simp
      rw [e]
      simp -implicitDefEqProofs (disch := omega) only [nthS, testOf, bodyOf, F_part_depth, QSa, QSb, QSc, QSd, QSe, QSf, QSg, List.getElem?_cons_zero, List.getElem?_cons_succ, List.set_cons_zero, List.set_cons_succ, Option.bind_some, Option.map_some, getAll, startE, List.cons_append, List.nil_append, List.append_nil, List.map_cons, List.map_nil, List.length_cons, List.length_nil, List.any_cons, List.any_nil, Bool.or_false, Bool.and_true, Bool.true_and, Bool.or_self, Bool.false_or, Bool.false_eq_true, ↓reduceIte, eq_self, Bool.not_true, Bool.not_false, decide_true, decide_false, decide_eq_true_eq, List.contains_nil, List.contains_cons, Option.some_beq_none, Option.some_beq_some, Nat.reduceBEq, Bool.or_true, Bool.true_or, Bool.and_false, Bool.false_and, Option.isSome_some, Int.cast_ofNat_Int, Nat.reduceAdd, Nat.reduceSub, List.drop_nil, List.reduceReplicate, ↓bindR, Int.reduceAdd, Int.reduceSub, Int.reduceMul, Nat.reduceLT, Nat.reduceLeDiff, Int.reduceLT, Int.reduceLE, Nat.reduceEqDiff, Int.reduceEq, Int.reduceBNe, Bool.decide_eq_true, Bool.decide_eq_false, not_true_eq_false, not_false_eq_true, ne_eq, Nat.zero_add, Int.reduceNeg, List.isEmpty_cons, List.isEmpty_nil, List.length_map, List.length_range, List.length_append, List.length_replicate, List.drop_zero, List.drop_succ_cons, reduceCtorEq, FX, q]
theorem c_part_depth_ne {n : Nat} {m k : Int} (hn : 3 ≤ n) (h : m ≠ k) (L : Nat) (hL : L ≤ 10) (l1 : ∀ d : Nat, d < L → (2 : Int) ^ d - 1 ≤ min m k) (l2 : min m k < 2 ^ L - 1) : prog.call n "part_depth" [.int m, .int k] = .ok (dI L) false [.non, .non] := by
  obtain ⟨n, rfl, hn⟩ := succ_of hn
  have w := part_while n (by omega) m k h L hL l1 l2 L 0 100000 (by omega) (by omega)
  rw [show dI 0 = D.int 0 from rfl] at w
  simp only [nthS, testOf, bodyOf, F_part_depth] at w
  rw [cq_part_depth rfl]
  simp -implicitDefEqProofs (disch := omega) only [F_part_depth, QSa, QSb, QSc, QSd, QSe, QSf, QSg, List.getElem?_cons_zero, List.getElem?_cons_succ, List.set_cons_zero, List.set_cons_succ, Option.bind_some, Option.map_some, getAll, startE, List.cons_append, List.nil_append, List.append_nil, List.map_cons, List.map_nil, List.length_cons, List.length_nil, List.any_cons, List.any_nil, Bool.or_false, Bool.and_true, Bool.true_and, Bool.or_self, Bool.false_or, Bool.false_eq_true, ↓reduceIte, eq_self, Bool.not_true, Bool.not_false, decide_true, decide_false, decide_eq_true_eq, List.contains_nil, List.contains_cons, Option.some_beq_none, Option.some_beq_some, Nat.reduceBEq, Bool.or_true, Bool.true_or, Bool.and_false, Bool.false_and, Option.isSome_some, Int.cast_ofNat_Int, Nat.reduceAdd, Nat.reduceSub, List.drop_nil, List.reduceReplicate, ↓bindR, Int.reduceAdd, Int.reduceSub, Int.reduceMul, Nat.reduceLT, Nat.reduceLeDiff, Int.reduceLT, Int.reduceLE, Nat.reduceEqDiff, Int.reduceEq, Int.reduceBNe, Bool.decide_eq_true, Bool.decide_eq_false, not_true_eq_false, not_false_eq_true, ne_eq, Nat.zero_add, Int.reduceNeg, List.isEmpty_cons, List.isEmpty_nil, List.length_map, List.length_range, List.length_append, List.length_replicate, List.drop_zero, List.drop_succ_cons, reduceCtorEq, FX, h, w]
  rfl
theorem c_rows_part_ne {n : Nat} {m k : Int} (hn : 4 ≤ n) (m0 : 0 ≤ m) (m1 : m ≤ 999) (k0 : 0 ≤ k) (k1 : k ≤ 999) (h : m ≠ k) (L : Nat) (hL : L ≤ 10) (l1 : ∀ d : Nat, d < L → (2 : Int) ^ d - 1 ≤ min m k) (l2 : min m k < 2 ^ L - 1) : prog.call n "rows_part_at" [.int m, .int k] = .ok (dI L) false [.non, .non] := by
  obtain ⟨n, rfl, hn⟩ := succ_of hn
  have a1 := c_part_depth_ne (n := n) (by omega) h L hL l1 l2
  rw [cq_rows_part_at rfl]
  simp -implicitDefEqProofs (disch := omega) only [F_rows_part_at, QSa, QSb, QSc, QSd, QSe, QSf, QSg, List.getElem?_cons_zero, List.getElem?_cons_succ, List.set_cons_zero, List.set_cons_succ, Option.bind_some, Option.map_some, getAll, startE, List.cons_append, List.nil_append, List.append_nil, List.map_cons, List.map_nil, List.length_cons, List.length_nil, List.any_cons, List.any_nil, Bool.or_false, Bool.and_true, Bool.true_and, Bool.or_self, Bool.false_or, Bool.false_eq_true, ↓reduceIte, eq_self, Bool.not_true, Bool.not_false, decide_true, decide_false, decide_eq_true_eq, List.contains_nil, List.contains_cons, Option.some_beq_none, Option.some_beq_some, Nat.reduceBEq, Bool.or_true, Bool.true_or, Bool.and_false, Bool.false_and, Option.isSome_some, Int.cast_ofNat_Int, Nat.reduceAdd, Nat.reduceSub, List.drop_nil, List.reduceReplicate, ↓bindR, Int.reduceAdd, Int.reduceSub, Int.reduceMul, Nat.reduceLT, Nat.reduceLeDiff, Int.reduceLT, Int.reduceLE, Nat.reduceEqDiff, Int.reduceEq, Int.reduceBNe, Bool.decide_eq_true, Bool.decide_eq_false, not_true_eq_false, not_false_eq_true, ne_eq, Nat.zero_add, Int.reduceNeg, List.isEmpty_cons, List.isEmpty_nil, List.length_map, List.length_range, List.length_append, List.length_replicate, List.drop_zero, List.drop_succ_cons, reduceCtorEq, FX, a1, c_want_many]
  rfl
end Lw

-- LAW 63
set_option maxRecDepth 100000
set_option maxHeartbeats 4000000
/-! pot and draw of the laws of stage 6. -/
namespace Lw
open PySem Mp
theorem isDraw : prog.fn "_law_draw" = some (drawG "sides" 40709 8623 2147483587 2147483629 23) := rfl
theorem c_draw {n : Nat} (hn : 1 ≤ n) (x y s : Int) (h0 : 0 < s) (h1 : s < 1073741824) : ∃ x' y' d, prog.call n "_law_draw" [potD x y, .int s] = .ok (.int d) false [potD x' y', .non] ∧ 0 ≤ d ∧ d < s := by
  obtain ⟨n, rfl, hn⟩ := succ_of hn
  exact c_drawG isDraw rfl (by decide) (by decide) (by decide) (by decide) (by decide) n x y s h0 h1
theorem c_drawN {n : Nat} (hn : 1 ≤ n) (x y : Int) (s : Nat) (h0 : 0 < s) (h1 : s < 1073741824) : ∃ x' y', ∃ d : Nat, prog.call n "_law_draw" [potD x y, dI s] = .ok (dI d) false [potD x' y', .non] ∧ d < s := by
  obtain ⟨x', y', d, e, l, u⟩ := c_draw hn x y s (by omega) (by omega)
  obtain ⟨d, rfl⟩ := Int.eq_ofNat_of_zero_le l
  exact ⟨x', y', d, e, by omega⟩
theorem c_pot {n : Nat} (hn : 1 ≤ n) (ns : List Int) (h63 : ns.length ≤ 63) (k : Nat) (hk : k ≤ 100) : ∃ x y, prog.call n "_law_pot" [.scr ns, dI k] = .ok (potD x y) true [.non, .non] := by
  obtain ⟨n, rfl, hn⟩ := succ_of hn
  have m1 : binD .Mult (.int 311) (.int (k : Int)) = some (.fz (.int (311 * (k : Int)))) := bin_mul rfl
  have sl : slcD (.scr ns) none (some 1) = some (.tmp (.lst ((cutL ns none (some 1)).map .int))) := rfl
  have su := sumQ (cutL ns none (some 1))
  have md := bin_mod (a := (((cutL ns none (some 1)).sum).natAbs : Int)) (b := 1000003) (by decide)
  have p1 : ∀ x, partE (.const .non) x = some none := fun _ => rfl
  have p2 : partE (.const (.int 1)) (.fz (.int 1)) = some (some 1) := rfl
  have pw : binD .Pow (.int 10) (.int 18) = some (.fz (.int 1000000000000000000)) := rfl
  have m3 : binD .Mult (.int 8623) (.int (k : Int)) = some (.fz (.int (8623 * (k : Int)))) := bin_mul rfl
  have d1 := fun c : Int => bin_mod (a := c) (b := 2147483549) (by decide)
  have m2 := fun c : Int => (bin_mul (by rw [Bool.or_eq_true]; right; rfl) : binD .Mult (.int (c % 2147483549)) (.int 40507) = some (.fz (.int (c % 2147483549 * 40507))))
  have d2 := fun c : Int => bin_mod (a := c) (b := 2147483563) (by decide)
  rw [cq__law_pot rfl]
  by_cases h : k < ns.length
  · have ix : idxD (.scr ns) (.int (k : Int)) = some (.int ns[k]) := by
      show (L2.atI ns (k : Int)).map D.int = _
      rw [L2.atI_nat (List.getElem?_eq_getElem h)]
      rfl
    have c1 : decide ((k : Int) < (ns.length : Int)) = true := decide_eq_true (by omega)
    refine ⟨max 0 ((ns[k].natAbs : Int) - 1000000000000000000), ((ns[k].natAbs : Int) % 2147483549 * 40507 + 8623 * (k : Int) + 157) % 2147483563 + 1, ?_⟩
    simp -implicitDefEqProofs (disch := omega) only [F__law_pot, QSa, QSb, QSc, QSd, QSe, QSf, QSg, List.getElem?_cons_zero, List.getElem?_cons_succ, List.set_cons_zero, List.set_cons_succ, Option.bind_some, Option.map_some, getAll, startE, List.cons_append, List.nil_append, List.append_nil, List.map_cons, List.map_nil, List.length_cons, List.length_nil, List.any_cons, List.any_nil, Bool.or_false, Bool.and_true, Bool.true_and, Bool.or_self, Bool.false_or, Bool.false_eq_true, ↓reduceIte, eq_self, Bool.not_true, Bool.not_false, decide_true, decide_false, decide_eq_true_eq, List.contains_nil, List.contains_cons, Option.some_beq_none, Option.some_beq_some, Nat.reduceBEq, Bool.or_true, Bool.true_or, Bool.and_false, Bool.false_and, Option.isSome_some, Int.cast_ofNat_Int, Nat.reduceAdd, Nat.reduceSub, List.drop_nil, List.reduceReplicate, ↓bindR, Int.reduceAdd, Int.reduceSub, Int.reduceMul, Nat.reduceLT, Nat.reduceLeDiff, Int.reduceLT, Int.reduceLE, Nat.reduceEqDiff, Int.reduceEq, Int.reduceBNe, Bool.decide_eq_true, Bool.decide_eq_false, not_true_eq_false, not_false_eq_true, ne_eq, Nat.zero_add, Int.reduceNeg, List.isEmpty_cons, List.isEmpty_nil, List.length_map, List.length_range, List.length_append, List.length_replicate, List.drop_zero, List.drop_succ_cons, reduceCtorEq, FX, ix, c1, d1, m2, d2, m3, pw]
    rfl
  · have c1 : decide ((k : Int) < (ns.length : Int)) = false := decide_eq_false (by omega)
    refine ⟨max 0 (311 * (k : Int) + 227 + (((cutL ns none (some 1)).sum.natAbs : Nat) : Int) % 1000003 - 1000000000000000000), ((311 * (k : Int) + 227 + (((cutL ns none (some 1)).sum.natAbs : Nat) : Int) % 1000003) % 2147483549 * 40507 + 8623 * (k : Int) + 157) % 2147483563 + 1, ?_⟩
    simp -implicitDefEqProofs (disch := omega) only [F__law_pot, QSa, QSb, QSc, QSd, QSe, QSf, QSg, List.getElem?_cons_zero, List.getElem?_cons_succ, List.set_cons_zero, List.set_cons_succ, Option.bind_some, Option.map_some, getAll, startE, List.cons_append, List.nil_append, List.append_nil, List.map_cons, List.map_nil, List.length_cons, List.length_nil, List.any_cons, List.any_nil, Bool.or_false, Bool.and_true, Bool.true_and, Bool.or_self, Bool.false_or, Bool.false_eq_true, ↓reduceIte, eq_self, Bool.not_true, Bool.not_false, decide_true, decide_false, decide_eq_true_eq, List.contains_nil, List.contains_cons, Option.some_beq_none, Option.some_beq_some, Nat.reduceBEq, Bool.or_true, Bool.true_or, Bool.and_false, Bool.false_and, Option.isSome_some, Int.cast_ofNat_Int, Nat.reduceAdd, Nat.reduceSub, List.drop_nil, List.reduceReplicate, ↓bindR, Int.reduceAdd, Int.reduceSub, Int.reduceMul, Nat.reduceLT, Nat.reduceLeDiff, Int.reduceLT, Int.reduceLE, Nat.reduceEqDiff, Int.reduceEq, Int.reduceBNe, Bool.decide_eq_true, Bool.decide_eq_false, not_true_eq_false, not_false_eq_true, ne_eq, Nat.zero_add, Int.reduceNeg, List.isEmpty_cons, List.isEmpty_nil, List.length_map, List.length_range, List.length_append, List.length_replicate, List.drop_zero, List.drop_succ_cons, reduceCtorEq, FX, c1, m1, sl, su, md, p1, p2, d1, m2, d2, m3, pw]
    rfl
end Lw

-- LAW 63
set_option maxRecDepth 100000
set_option maxHeartbeats 4000000
namespace Lw
open PySem Mp
theorem is_oN (o : Option Nat) : cmpD .Is (oN o) .non = some (decide (o = none)) := by cases o <;> rfl
theorem isn_oN (o : Option Nat) : cmpD .IsNot (oN o) .non = some (decide (o ≠ none)) := by cases o <;> rfl
theorem c_at_least : ∀ (f m n k : Nat) (lo hi : Option Nat), m ≤ f → f + 1 ≤ n → m ≤ 100 → prog.call n "at_least" [dI m, dI k, oN lo, oN hi] = .ok (foD (rowF f m k lo hi)) false [.non, .non, .non, .non]
  | 0, m, n, k, lo, hi, hm, hn, h100 => by
    obtain ⟨n, rfl, hn⟩ := succ_of hn
    have : m = 0 := by omega
    subst this
    rw [cq_at_least rfl]
    have z : cmpD .Eq (dI 0) (.int 0) = some true := rfl
    generalize dI 0 = z at *
    simp -implicitDefEqProofs (disch := omega) only [F_at_least, QSa, QSb, QSc, QSd, QSe, QSf, QSg, List.getElem?_cons_zero, List.getElem?_cons_succ, List.set_cons_zero, List.set_cons_succ, Option.bind_some, Option.map_some, getAll, startE, List.cons_append, List.nil_append, List.append_nil, List.map_cons, List.map_nil, List.length_cons, List.length_nil, List.any_cons, List.any_nil, Bool.or_false, Bool.and_true, Bool.true_and, Bool.or_self, Bool.false_or, Bool.false_eq_true, ↓reduceIte, eq_self, Bool.not_true, Bool.not_false, decide_true, decide_false, decide_eq_true_eq, List.contains_nil, List.contains_cons, Option.some_beq_none, Option.some_beq_some, Nat.reduceBEq, Bool.or_true, Bool.true_or, Bool.and_false, Bool.false_and, Option.isSome_some, Int.cast_ofNat_Int, Nat.reduceAdd, Nat.reduceSub, List.drop_nil, List.reduceReplicate, ↓bindR, Int.reduceAdd, Int.reduceSub, Int.reduceMul, Nat.reduceLT, Nat.reduceLeDiff, Int.reduceLT, Int.reduceLE, Nat.reduceEqDiff, Int.reduceEq, Int.reduceBNe, Bool.decide_eq_true, Bool.decide_eq_false, not_true_eq_false, not_false_eq_true, ne_eq, Nat.zero_add, Int.reduceNeg, List.isEmpty_cons, List.isEmpty_nil, List.length_map, List.length_range, List.length_append, List.length_replicate, List.drop_zero, List.drop_succ_cons, reduceCtorEq, FX, z]
    rfl
  | f + 1, m, n, k, lo, hi, hm, hn, h100 => by
    obtain ⟨n, rfl, hn⟩ := succ_of hn
    rw [cq_at_least rfl]
    by_cases m0 : m = 0
    · subst m0
      have z : cmpD .Eq (dI 0) (.int 0) = some true := rfl
      generalize dI 0 = z at *
      simp -implicitDefEqProofs (disch := omega) only [F_at_least, QSa, QSb, QSc, QSd, QSe, QSf, QSg, List.getElem?_cons_zero, List.getElem?_cons_succ, List.set_cons_zero, List.set_cons_succ, Option.bind_some, Option.map_some, getAll, startE, List.cons_append, List.nil_append, List.append_nil, List.map_cons, List.map_nil, List.length_cons, List.length_nil, List.any_cons, List.any_nil, Bool.or_false, Bool.and_true, Bool.true_and, Bool.or_self, Bool.false_or, Bool.false_eq_true, ↓reduceIte, eq_self, Bool.not_true, Bool.not_false, decide_true, decide_false, decide_eq_true_eq, List.contains_nil, List.contains_cons, Option.some_beq_none, Option.some_beq_some, Nat.reduceBEq, Bool.or_true, Bool.true_or, Bool.and_false, Bool.false_and, Option.isSome_some, Int.cast_ofNat_Int, Nat.reduceAdd, Nat.reduceSub, List.drop_nil, List.reduceReplicate, ↓bindR, Int.reduceAdd, Int.reduceSub, Int.reduceMul, Nat.reduceLT, Nat.reduceLeDiff, Int.reduceLT, Int.reduceLE, Nat.reduceEqDiff, Int.reduceEq, Int.reduceBNe, Bool.decide_eq_true, Bool.decide_eq_false, not_true_eq_false, not_false_eq_true, ne_eq, Nat.zero_add, Int.reduceNeg, List.isEmpty_cons, List.isEmpty_nil, List.length_map, List.length_range, List.length_append, List.length_replicate, List.drop_zero, List.drop_succ_cons, reduceCtorEq, FX, z]
      rfl
    · have z : decide ((m : Int) = 0) = false := decide_eq_false (by omega)
      have fd : binD .FloorDiv (.int ((m : Int) - 1)) (.int 2) = some (.fz (dI ((m - 1) / 2))) := by
        rw [bin_fdiv (by decide) (by decide)]
        congr 3
        omega
      have fr : binD .Sub (.int ((m : Int) - 1)) (dI ((m - 1) / 2)) = some (.fz (dI (m - 1 - (m - 1) / 2))) := by
        rw [show dI ((m - 1) / 2) = D.int (((m - 1) / 2 : Nat) : Int) from rfl, bin_sub]
        congr 3
        omega
      have kk : D.int ((k : Int) + 1) = dI (k + 1) := by simp
      have a1 := c_at_least f ((m - 1) / 2) n (k + 1) lo (some k) (by omega) (by omega) (by omega)
      have a2 := c_at_least f (m - 1 - (m - 1) / 2) n (k + 1) (some k) hi (by omega) (by omega) (by omega)
      have q1 : cmpD .Eq (dI ((m - 1) / 2)) (.int 0) = some (decide ((m - 1) / 2 = 0)) := by
        rw [show dI ((m - 1) / 2) = D.int (((m - 1) / 2 : Nat) : Int) from rfl, cmp_eq]; congr 1; rw [decide_eq_decide]; omega
      have q2 : cmpD .Eq (dI (m - 1 - (m - 1) / 2)) (.int 0) = some (decide (m - 1 - (m - 1) / 2 = 0)) := by
        rw [show dI (m - 1 - (m - 1) / 2) = D.int ((m - 1 - (m - 1) / 2 : Nat) : Int) from rfl, cmp_eq]; congr 1; rw [decide_eq_decide]; omega
      have i1 := is_oN lo
      have i2 := is_oN hi
      have ok : oN (some k) = dI k := rfl
      rw [rowF, if_neg m0]
      generalize rowF f ((m - 1) / 2) (k + 1) lo (some k) = R1 at *
      generalize rowF f (m - 1 - (m - 1) / 2) (k + 1) (some k) hi = R2 at *
      generalize (m - 1) / 2 = aa at *
      generalize m - 1 - aa = bb at *
      rw [ok] at a1 a2
      have fin : ∀ (l1 l2 : List Fo), (aa = 0 → l1 = []) → (aa ≠ 0 → l1 = [R1]) → (bb = 0 → l2 = []) → (bb ≠ 0 → l2 = [R2]) → endFn [false, false, false, false] (exs (prog.cl (prog.call n)) [false, false, false, false] F_at_least.body (startE [false, false, false, false] [dI m, dI k, oN lo, oN hi] ++ List.replicate (F_at_least.slots - [dI m, dI k, oN lo, oN hi].length) none)) =
          CR.ok (foD (.some (.and ((lo.toList.map fun l => Fo.arc l k) ++ (hi.toList.map fun h => Fo.arc k h) ++ l1 ++ l2)))) false [.non, .non, .non, .non] := by
        intro l1 l2 e1 e2 e3 e4
        by_cases ha : aa = 0 <;> by_cases hb : bb = 0 <;> simp only [ha, hb, decide_true, decide_false] at q1 q2
        · rw [e1 ha, e3 hb]
          rw [← ha] at q1
          rw [← hb] at q2
          clear e1 e2 e3 e4
          generalize dI aa = A at *
          generalize dI bb = B at *
          rcases lo with _ | lo <;> rcases hi with _ | hi <;> simp -implicitDefEqProofs (disch := omega) only [F_at_least, QSa, QSb, QSc, QSd, QSe, QSf, QSg, List.getElem?_cons_zero, List.getElem?_cons_succ, List.set_cons_zero, List.set_cons_succ, Option.bind_some, Option.map_some, getAll, startE, List.cons_append, List.nil_append, List.append_nil, List.map_cons, List.map_nil, List.length_cons, List.length_nil, List.any_cons, List.any_nil, Bool.or_false, Bool.and_true, Bool.true_and, Bool.or_self, Bool.false_or, Bool.false_eq_true, ↓reduceIte, eq_self, Bool.not_true, Bool.not_false, decide_true, decide_false, decide_eq_true_eq, List.contains_nil, List.contains_cons, Option.some_beq_none, Option.some_beq_some, Nat.reduceBEq, Bool.or_true, Bool.true_or, Bool.and_false, Bool.false_and, Option.isSome_some, Int.cast_ofNat_Int, Nat.reduceAdd, Nat.reduceSub, List.drop_nil, List.reduceReplicate, ↓bindR, Int.reduceAdd, Int.reduceSub, Int.reduceMul, Nat.reduceLT, Nat.reduceLeDiff, Int.reduceLT, Int.reduceLE, Nat.reduceEqDiff, Int.reduceEq, Int.reduceBNe, Bool.decide_eq_true, Bool.decide_eq_false, not_true_eq_false, not_false_eq_true, ne_eq, Nat.zero_add, Int.reduceNeg, List.isEmpty_cons, List.isEmpty_nil, List.length_map, List.length_range, List.length_append, List.length_replicate, List.drop_zero, List.drop_succ_cons, reduceCtorEq, FX, z, fd, fr, kk, a1, a2, q1, q2, i1, i2] <;> rfl
        · rw [e1 ha, e4 hb]
          rw [← ha] at q1
          clear e1 e2 e3 e4
          generalize dI aa = A at *
          generalize dI bb = B at *
          rcases lo with _ | lo <;> rcases hi with _ | hi <;> simp -implicitDefEqProofs (disch := omega) only [F_at_least, QSa, QSb, QSc, QSd, QSe, QSf, QSg, List.getElem?_cons_zero, List.getElem?_cons_succ, List.set_cons_zero, List.set_cons_succ, Option.bind_some, Option.map_some, getAll, startE, List.cons_append, List.nil_append, List.append_nil, List.map_cons, List.map_nil, List.length_cons, List.length_nil, List.any_cons, List.any_nil, Bool.or_false, Bool.and_true, Bool.true_and, Bool.or_self, Bool.false_or, Bool.false_eq_true, ↓reduceIte, eq_self, Bool.not_true, Bool.not_false, decide_true, decide_false, decide_eq_true_eq, List.contains_nil, List.contains_cons, Option.some_beq_none, Option.some_beq_some, Nat.reduceBEq, Bool.or_true, Bool.true_or, Bool.and_false, Bool.false_and, Option.isSome_some, Int.cast_ofNat_Int, Nat.reduceAdd, Nat.reduceSub, List.drop_nil, List.reduceReplicate, ↓bindR, Int.reduceAdd, Int.reduceSub, Int.reduceMul, Nat.reduceLT, Nat.reduceLeDiff, Int.reduceLT, Int.reduceLE, Nat.reduceEqDiff, Int.reduceEq, Int.reduceBNe, Bool.decide_eq_true, Bool.decide_eq_false, not_true_eq_false, not_false_eq_true, ne_eq, Nat.zero_add, Int.reduceNeg, List.isEmpty_cons, List.isEmpty_nil, List.length_map, List.length_range, List.length_append, List.length_replicate, List.drop_zero, List.drop_succ_cons, reduceCtorEq, FX, z, fd, fr, kk, a1, a2, q1, q2, i1, i2] <;> rfl
        · rw [e2 ha, e3 hb]
          rw [← hb] at q2
          clear e1 e2 e3 e4
          generalize dI aa = A at *
          generalize dI bb = B at *
          rcases lo with _ | lo <;> rcases hi with _ | hi <;> simp -implicitDefEqProofs (disch := omega) only [F_at_least, QSa, QSb, QSc, QSd, QSe, QSf, QSg, List.getElem?_cons_zero, List.getElem?_cons_succ, List.set_cons_zero, List.set_cons_succ, Option.bind_some, Option.map_some, getAll, startE, List.cons_append, List.nil_append, List.append_nil, List.map_cons, List.map_nil, List.length_cons, List.length_nil, List.any_cons, List.any_nil, Bool.or_false, Bool.and_true, Bool.true_and, Bool.or_self, Bool.false_or, Bool.false_eq_true, ↓reduceIte, eq_self, Bool.not_true, Bool.not_false, decide_true, decide_false, decide_eq_true_eq, List.contains_nil, List.contains_cons, Option.some_beq_none, Option.some_beq_some, Nat.reduceBEq, Bool.or_true, Bool.true_or, Bool.and_false, Bool.false_and, Option.isSome_some, Int.cast_ofNat_Int, Nat.reduceAdd, Nat.reduceSub, List.drop_nil, List.reduceReplicate, ↓bindR, Int.reduceAdd, Int.reduceSub, Int.reduceMul, Nat.reduceLT, Nat.reduceLeDiff, Int.reduceLT, Int.reduceLE, Nat.reduceEqDiff, Int.reduceEq, Int.reduceBNe, Bool.decide_eq_true, Bool.decide_eq_false, not_true_eq_false, not_false_eq_true, ne_eq, Nat.zero_add, Int.reduceNeg, List.isEmpty_cons, List.isEmpty_nil, List.length_map, List.length_range, List.length_append, List.length_replicate, List.drop_zero, List.drop_succ_cons, reduceCtorEq, FX, z, fd, fr, kk, a1, a2, q1, q2, i1, i2] <;> rfl
        · rw [e2 ha, e4 hb]
          clear e1 e2 e3 e4
          generalize dI aa = A at *
          generalize dI bb = B at *
          rcases lo with _ | lo <;> rcases hi with _ | hi <;> simp -implicitDefEqProofs (disch := omega) only [F_at_least, QSa, QSb, QSc, QSd, QSe, QSf, QSg, List.getElem?_cons_zero, List.getElem?_cons_succ, List.set_cons_zero, List.set_cons_succ, Option.bind_some, Option.map_some, getAll, startE, List.cons_append, List.nil_append, List.append_nil, List.map_cons, List.map_nil, List.length_cons, List.length_nil, List.any_cons, List.any_nil, Bool.or_false, Bool.and_true, Bool.true_and, Bool.or_self, Bool.false_or, Bool.false_eq_true, ↓reduceIte, eq_self, Bool.not_true, Bool.not_false, decide_true, decide_false, decide_eq_true_eq, List.contains_nil, List.contains_cons, Option.some_beq_none, Option.some_beq_some, Nat.reduceBEq, Bool.or_true, Bool.true_or, Bool.and_false, Bool.false_and, Option.isSome_some, Int.cast_ofNat_Int, Nat.reduceAdd, Nat.reduceSub, List.drop_nil, List.reduceReplicate, ↓bindR, Int.reduceAdd, Int.reduceSub, Int.reduceMul, Nat.reduceLT, Nat.reduceLeDiff, Int.reduceLT, Int.reduceLE, Nat.reduceEqDiff, Int.reduceEq, Int.reduceBNe, Bool.decide_eq_true, Bool.decide_eq_false, not_true_eq_false, not_false_eq_true, ne_eq, Nat.zero_add, Int.reduceNeg, List.isEmpty_cons, List.isEmpty_nil, List.length_map, List.length_range, List.length_append, List.length_replicate, List.drop_zero, List.drop_succ_cons, reduceCtorEq, FX, z, fd, fr, kk, a1, a2, q1, q2, i1, i2] <;> rfl
      exact fin _ _ (fun h => if_pos h) (fun h => if_neg h) (fun h => if_pos h) (fun h => if_neg h)
end Lw

-- LAW 63
set_option maxRecDepth 100000
set_option maxHeartbeats 4000000
namespace Lw
open PySem Mp
theorem c_told : ∀ (f m n k : Nat) (lo hi : Option Nat), m ≤ f → f + 1 ≤ n → m ≤ 100 → prog.call n "_law_told" [dI m, dI k, oN lo, oN hi] = .ok (foD (rowF f m k lo hi)) false [.non, .non, .non, .non]
  | 0, m, n, k, lo, hi, hm, hn, h100 => by
    obtain ⟨n, rfl, hn⟩ := succ_of hn
    have : m = 0 := by omega
    subst this
    rw [cq__law_told rfl]
    have z : cmpD .Eq (dI 0) (.int 0) = some true := rfl
    generalize dI 0 = z at *
    simp -implicitDefEqProofs (disch := omega) only [F__law_told, QSa, QSb, QSc, QSd, QSe, QSf, QSg, List.getElem?_cons_zero, List.getElem?_cons_succ, List.set_cons_zero, List.set_cons_succ, Option.bind_some, Option.map_some, getAll, startE, List.cons_append, List.nil_append, List.append_nil, List.map_cons, List.map_nil, List.length_cons, List.length_nil, List.any_cons, List.any_nil, Bool.or_false, Bool.and_true, Bool.true_and, Bool.or_self, Bool.false_or, Bool.false_eq_true, ↓reduceIte, eq_self, Bool.not_true, Bool.not_false, decide_true, decide_false, decide_eq_true_eq, List.contains_nil, List.contains_cons, Option.some_beq_none, Option.some_beq_some, Nat.reduceBEq, Bool.or_true, Bool.true_or, Bool.and_false, Bool.false_and, Option.isSome_some, Int.cast_ofNat_Int, Nat.reduceAdd, Nat.reduceSub, List.drop_nil, List.reduceReplicate, ↓bindR, Int.reduceAdd, Int.reduceSub, Int.reduceMul, Nat.reduceLT, Nat.reduceLeDiff, Int.reduceLT, Int.reduceLE, Nat.reduceEqDiff, Int.reduceEq, Int.reduceBNe, Bool.decide_eq_true, Bool.decide_eq_false, not_true_eq_false, not_false_eq_true, ne_eq, Nat.zero_add, Int.reduceNeg, List.isEmpty_cons, List.isEmpty_nil, List.length_map, List.length_range, List.length_append, List.length_replicate, List.drop_zero, List.drop_succ_cons, reduceCtorEq, FX, z]
    rfl
  | f + 1, m, n, k, lo, hi, hm, hn, h100 => by
    obtain ⟨n, rfl, hn⟩ := succ_of hn
    rw [cq__law_told rfl]
    by_cases m0 : m = 0
    · subst m0
      have z : cmpD .Eq (dI 0) (.int 0) = some true := rfl
      generalize dI 0 = z at *
      simp -implicitDefEqProofs (disch := omega) only [F__law_told, QSa, QSb, QSc, QSd, QSe, QSf, QSg, List.getElem?_cons_zero, List.getElem?_cons_succ, List.set_cons_zero, List.set_cons_succ, Option.bind_some, Option.map_some, getAll, startE, List.cons_append, List.nil_append, List.append_nil, List.map_cons, List.map_nil, List.length_cons, List.length_nil, List.any_cons, List.any_nil, Bool.or_false, Bool.and_true, Bool.true_and, Bool.or_self, Bool.false_or, Bool.false_eq_true, ↓reduceIte, eq_self, Bool.not_true, Bool.not_false, decide_true, decide_false, decide_eq_true_eq, List.contains_nil, List.contains_cons, Option.some_beq_none, Option.some_beq_some, Nat.reduceBEq, Bool.or_true, Bool.true_or, Bool.and_false, Bool.false_and, Option.isSome_some, Int.cast_ofNat_Int, Nat.reduceAdd, Nat.reduceSub, List.drop_nil, List.reduceReplicate, ↓bindR, Int.reduceAdd, Int.reduceSub, Int.reduceMul, Nat.reduceLT, Nat.reduceLeDiff, Int.reduceLT, Int.reduceLE, Nat.reduceEqDiff, Int.reduceEq, Int.reduceBNe, Bool.decide_eq_true, Bool.decide_eq_false, not_true_eq_false, not_false_eq_true, ne_eq, Nat.zero_add, Int.reduceNeg, List.isEmpty_cons, List.isEmpty_nil, List.length_map, List.length_range, List.length_append, List.length_replicate, List.drop_zero, List.drop_succ_cons, reduceCtorEq, FX, z]
      rfl
    · have z : decide ((m : Int) = 0) = false := decide_eq_false (by omega)
      have fd : binD .FloorDiv (.int ((m : Int) - 1)) (.int 2) = some (.fz (dI ((m - 1) / 2))) := by
        rw [bin_fdiv (by decide) (by decide)]
        congr 3
        omega
      have fr : binD .Sub (.int ((m : Int) - 1)) (dI ((m - 1) / 2)) = some (.fz (dI (m - 1 - (m - 1) / 2))) := by
        rw [show dI ((m - 1) / 2) = D.int (((m - 1) / 2 : Nat) : Int) from rfl, bin_sub]
        congr 3
        omega
      have kk : D.int ((k : Int) + 1) = dI (k + 1) := by simp
      have a1 := c_told f ((m - 1) / 2) n (k + 1) lo (some k) (by omega) (by omega) (by omega)
      have a2 := c_told f (m - 1 - (m - 1) / 2) n (k + 1) (some k) hi (by omega) (by omega) (by omega)
      have q1 : cmpD .Gt (dI ((m - 1) / 2)) (.int 0) = some (!decide ((m - 1) / 2 = 0)) := by
        rw [show dI ((m - 1) / 2) = D.int (((m - 1) / 2 : Nat) : Int) from rfl, cmp_gt, ← decide_not]; congr 1; rw [decide_eq_decide]; omega
      have q2 : cmpD .Gt (dI (m - 1 - (m - 1) / 2)) (.int 0) = some (!decide (m - 1 - (m - 1) / 2 = 0)) := by
        rw [show dI (m - 1 - (m - 1) / 2) = D.int ((m - 1 - (m - 1) / 2 : Nat) : Int) from rfl, cmp_gt, ← decide_not]; congr 1; rw [decide_eq_decide]; omega
      have i1 := isn_oN lo
      have i2 := isn_oN hi
      have ok : oN (some k) = dI k := rfl
      rw [rowF, if_neg m0]
      generalize rowF f ((m - 1) / 2) (k + 1) lo (some k) = R1 at *
      generalize rowF f (m - 1 - (m - 1) / 2) (k + 1) (some k) hi = R2 at *
      generalize (m - 1) / 2 = aa at *
      generalize m - 1 - aa = bb at *
      rw [ok] at a1 a2
      have fin : ∀ (l1 l2 : List Fo), (aa = 0 → l1 = []) → (aa ≠ 0 → l1 = [R1]) → (bb = 0 → l2 = []) → (bb ≠ 0 → l2 = [R2]) → endFn [false, false, false, false] (exs (prog.cl (prog.call n)) [false, false, false, false] F__law_told.body (startE [false, false, false, false] [dI m, dI k, oN lo, oN hi] ++ List.replicate (F__law_told.slots - [dI m, dI k, oN lo, oN hi].length) none)) =
          CR.ok (foD (.some (.and ((lo.toList.map fun l => Fo.arc l k) ++ (hi.toList.map fun h => Fo.arc k h) ++ l1 ++ l2)))) false [.non, .non, .non, .non] := by
        intro l1 l2 e1 e2 e3 e4
        by_cases ha : aa = 0 <;> by_cases hb : bb = 0 <;> simp only [ha, hb, decide_true, decide_false, Bool.not_true, Bool.not_false] at q1 q2
        · rw [e1 ha, e3 hb]
          rw [← ha] at q1
          rw [← hb] at q2
          clear e1 e2 e3 e4
          generalize dI aa = A at *
          generalize dI bb = B at *
          rcases lo with _ | lo <;> rcases hi with _ | hi <;> simp -implicitDefEqProofs (disch := omega) only [F__law_told, QSa, QSb, QSc, QSd, QSe, QSf, QSg, List.getElem?_cons_zero, List.getElem?_cons_succ, List.set_cons_zero, List.set_cons_succ, Option.bind_some, Option.map_some, getAll, startE, List.cons_append, List.nil_append, List.append_nil, List.map_cons, List.map_nil, List.length_cons, List.length_nil, List.any_cons, List.any_nil, Bool.or_false, Bool.and_true, Bool.true_and, Bool.or_self, Bool.false_or, Bool.false_eq_true, ↓reduceIte, eq_self, Bool.not_true, Bool.not_false, decide_true, decide_false, decide_eq_true_eq, List.contains_nil, List.contains_cons, Option.some_beq_none, Option.some_beq_some, Nat.reduceBEq, Bool.or_true, Bool.true_or, Bool.and_false, Bool.false_and, Option.isSome_some, Int.cast_ofNat_Int, Nat.reduceAdd, Nat.reduceSub, List.drop_nil, List.reduceReplicate, ↓bindR, Int.reduceAdd, Int.reduceSub, Int.reduceMul, Nat.reduceLT, Nat.reduceLeDiff, Int.reduceLT, Int.reduceLE, Nat.reduceEqDiff, Int.reduceEq, Int.reduceBNe, Bool.decide_eq_true, Bool.decide_eq_false, not_true_eq_false, not_false_eq_true, ne_eq, Nat.zero_add, Int.reduceNeg, List.isEmpty_cons, List.isEmpty_nil, List.length_map, List.length_range, List.length_append, List.length_replicate, List.drop_zero, List.drop_succ_cons, reduceCtorEq, FX, z, fd, fr, kk, a1, a2, q1, q2, i1, i2] <;> rfl
        · rw [e1 ha, e4 hb]
          rw [← ha] at q1
          clear e1 e2 e3 e4
          generalize dI aa = A at *
          generalize dI bb = B at *
          rcases lo with _ | lo <;> rcases hi with _ | hi <;> simp -implicitDefEqProofs (disch := omega) only [F__law_told, QSa, QSb, QSc, QSd, QSe, QSf, QSg, List.getElem?_cons_zero, List.getElem?_cons_succ, List.set_cons_zero, List.set_cons_succ, Option.bind_some, Option.map_some, getAll, startE, List.cons_append, List.nil_append, List.append_nil, List.map_cons, List.map_nil, List.length_cons, List.length_nil, List.any_cons, List.any_nil, Bool.or_false, Bool.and_true, Bool.true_and, Bool.or_self, Bool.false_or, Bool.false_eq_true, ↓reduceIte, eq_self, Bool.not_true, Bool.not_false, decide_true, decide_false, decide_eq_true_eq, List.contains_nil, List.contains_cons, Option.some_beq_none, Option.some_beq_some, Nat.reduceBEq, Bool.or_true, Bool.true_or, Bool.and_false, Bool.false_and, Option.isSome_some, Int.cast_ofNat_Int, Nat.reduceAdd, Nat.reduceSub, List.drop_nil, List.reduceReplicate, ↓bindR, Int.reduceAdd, Int.reduceSub, Int.reduceMul, Nat.reduceLT, Nat.reduceLeDiff, Int.reduceLT, Int.reduceLE, Nat.reduceEqDiff, Int.reduceEq, Int.reduceBNe, Bool.decide_eq_true, Bool.decide_eq_false, not_true_eq_false, not_false_eq_true, ne_eq, Nat.zero_add, Int.reduceNeg, List.isEmpty_cons, List.isEmpty_nil, List.length_map, List.length_range, List.length_append, List.length_replicate, List.drop_zero, List.drop_succ_cons, reduceCtorEq, FX, z, fd, fr, kk, a1, a2, q1, q2, i1, i2] <;> rfl
        · rw [e2 ha, e3 hb]
          rw [← hb] at q2
          clear e1 e2 e3 e4
          generalize dI aa = A at *
          generalize dI bb = B at *
          rcases lo with _ | lo <;> rcases hi with _ | hi <;> simp -implicitDefEqProofs (disch := omega) only [F__law_told, QSa, QSb, QSc, QSd, QSe, QSf, QSg, List.getElem?_cons_zero, List.getElem?_cons_succ, List.set_cons_zero, List.set_cons_succ, Option.bind_some, Option.map_some, getAll, startE, List.cons_append, List.nil_append, List.append_nil, List.map_cons, List.map_nil, List.length_cons, List.length_nil, List.any_cons, List.any_nil, Bool.or_false, Bool.and_true, Bool.true_and, Bool.or_self, Bool.false_or, Bool.false_eq_true, ↓reduceIte, eq_self, Bool.not_true, Bool.not_false, decide_true, decide_false, decide_eq_true_eq, List.contains_nil, List.contains_cons, Option.some_beq_none, Option.some_beq_some, Nat.reduceBEq, Bool.or_true, Bool.true_or, Bool.and_false, Bool.false_and, Option.isSome_some, Int.cast_ofNat_Int, Nat.reduceAdd, Nat.reduceSub, List.drop_nil, List.reduceReplicate, ↓bindR, Int.reduceAdd, Int.reduceSub, Int.reduceMul, Nat.reduceLT, Nat.reduceLeDiff, Int.reduceLT, Int.reduceLE, Nat.reduceEqDiff, Int.reduceEq, Int.reduceBNe, Bool.decide_eq_true, Bool.decide_eq_false, not_true_eq_false, not_false_eq_true, ne_eq, Nat.zero_add, Int.reduceNeg, List.isEmpty_cons, List.isEmpty_nil, List.length_map, List.length_range, List.length_append, List.length_replicate, List.drop_zero, List.drop_succ_cons, reduceCtorEq, FX, z, fd, fr, kk, a1, a2, q1, q2, i1, i2] <;> rfl
        · rw [e2 ha, e4 hb]
          clear e1 e2 e3 e4
          generalize dI aa = A at *
          generalize dI bb = B at *
          rcases lo with _ | lo <;> rcases hi with _ | hi <;> simp -implicitDefEqProofs (disch := omega) only [F__law_told, QSa, QSb, QSc, QSd, QSe, QSf, QSg, List.getElem?_cons_zero, List.getElem?_cons_succ, List.set_cons_zero, List.set_cons_succ, Option.bind_some, Option.map_some, getAll, startE, List.cons_append, List.nil_append, List.append_nil, List.map_cons, List.map_nil, List.length_cons, List.length_nil, List.any_cons, List.any_nil, Bool.or_false, Bool.and_true, Bool.true_and, Bool.or_self, Bool.false_or, Bool.false_eq_true, ↓reduceIte, eq_self, Bool.not_true, Bool.not_false, decide_true, decide_false, decide_eq_true_eq, List.contains_nil, List.contains_cons, Option.some_beq_none, Option.some_beq_some, Nat.reduceBEq, Bool.or_true, Bool.true_or, Bool.and_false, Bool.false_and, Option.isSome_some, Int.cast_ofNat_Int, Nat.reduceAdd, Nat.reduceSub, List.drop_nil, List.reduceReplicate, ↓bindR, Int.reduceAdd, Int.reduceSub, Int.reduceMul, Nat.reduceLT, Nat.reduceLeDiff, Int.reduceLT, Int.reduceLE, Nat.reduceEqDiff, Int.reduceEq, Int.reduceBNe, Bool.decide_eq_true, Bool.decide_eq_false, not_true_eq_false, not_false_eq_true, ne_eq, Nat.zero_add, Int.reduceNeg, List.isEmpty_cons, List.isEmpty_nil, List.length_map, List.length_range, List.length_append, List.length_replicate, List.drop_zero, List.drop_succ_cons, reduceCtorEq, FX, z, fd, fr, kk, a1, a2, q1, q2, i1, i2] <;> rfl
      exact fin _ _ (fun h => if_pos h) (fun h => if_neg h) (fun h => if_pos h) (fun h => if_neg h)
end Lw

-- LAW 63
set_option maxRecDepth 100000
set_option maxHeartbeats 4000000
namespace Lw
open PySem Mp
theorem ne_ints (l : List Nat) : cmpD .NotEq (.lst (l.map dI)) (.lst []) = some (!l.isEmpty) := by
  have h := ne_none (fair_l (B := 0) (l := l.map dI) (by omega) (by
    intro x hx
    obtain ⟨a, _, rfl⟩ := List.mem_map.1 hx
    exact ⟨rfl, Nat.le_refl _⟩))
  rw [h]
  cases l <;> rfl
theorem mixed_while (n : Nat) (hn : 1 ≤ n) (m : Nat) : ∀ (fuel : Nat) (l r : List Nat) (x y : Int), l.length < fuel → r.length + l.length ≤ 1000 → ∃ (x' y' : Int) (r' : List Nat), r'.Perm (r ++ l) ∧
    whLoop (evT (prog.cl (prog.call n)) [true, false] (testOf (nthS F__law_mixed.body 1))) (exs (prog.cl (prog.call n)) [true, false] (bodyOf (nthS F__law_mixed.body 1))) fuel [some (.ow (potD x y)), some (.fz (dI m)), some (.ow (.lst (l.map dI))), some (.ow (.lst (r.map dI)))] = .ok .next [some (.ow (potD x' y')), some (.fz (dI m)), some (.ow (.lst [])), some (.ow (.lst (r'.map dI)))]
  | 0, l, r, x, y, h, _ => absurd h (Nat.not_lt_zero _)
  | fuel + 1, [], r, x, y, h, h2 => by
    refine ⟨x, y, r, by simp, ?_⟩
    have e := ne_ints []
    rw [whQ]
    simp -implicitDefEqProofs (disch := omega) only [nthS, testOf, bodyOf, F__law_mixed, QSa, QSb, QSc, QSd, QSe, QSf, QSg, List.getElem?_cons_zero, List.getElem?_cons_succ, List.set_cons_zero, List.set_cons_succ, Option.bind_some, Option.map_some, getAll, startE, List.cons_append, List.nil_append, List.append_nil, List.map_cons, List.map_nil, List.length_cons, List.length_nil, List.any_cons, List.any_nil, Bool.or_false, Bool.and_true, Bool.true_and, Bool.or_self, Bool.false_or, Bool.false_eq_true, ↓reduceIte, eq_self, Bool.not_true, Bool.not_false, decide_true, decide_false, decide_eq_true_eq, List.contains_nil, List.contains_cons, Option.some_beq_none, Option.some_beq_some, Nat.reduceBEq, Bool.or_true, Bool.true_or, Bool.and_false, Bool.false_and, Option.isSome_some, Int.cast_ofNat_Int, Nat.reduceAdd, Nat.reduceSub, List.drop_nil, List.reduceReplicate, ↓bindR, Int.reduceAdd, Int.reduceSub, Int.reduceMul, Nat.reduceLT, Nat.reduceLeDiff, Int.reduceLT, Int.reduceLE, Nat.reduceEqDiff, Int.reduceEq, Int.reduceBNe, Bool.decide_eq_true, Bool.decide_eq_false, not_true_eq_false, not_false_eq_true, ne_eq, Nat.zero_add, Int.reduceNeg, List.isEmpty_cons, List.isEmpty_nil, List.length_map, List.length_range, List.length_append, List.length_replicate, List.drop_zero, List.drop_succ_cons, reduceCtorEq, FX, e]
    have e0 : cmpD .NotEq (.lst []) (.lst []) = some false := rfl
    simp -implicitDefEqProofs (disch := omega) only [QSa, QSb, QSc, QSd, QSe, QSf, QSg, List.getElem?_cons_zero, List.getElem?_cons_succ, List.set_cons_zero, List.set_cons_succ, Option.bind_some, Option.map_some, getAll, startE, List.cons_append, List.nil_append, List.append_nil, List.map_cons, List.map_nil, List.length_cons, List.length_nil, List.any_cons, List.any_nil, Bool.or_false, Bool.and_true, Bool.true_and, Bool.or_self, Bool.false_or, Bool.false_eq_true, ↓reduceIte, eq_self, Bool.not_true, Bool.not_false, decide_true, decide_false, decide_eq_true_eq, List.contains_nil, List.contains_cons, Option.some_beq_none, Option.some_beq_some, Nat.reduceBEq, Bool.or_true, Bool.true_or, Bool.and_false, Bool.false_and, Option.isSome_some, Int.cast_ofNat_Int, Nat.reduceAdd, Nat.reduceSub, List.drop_nil, List.reduceReplicate, ↓bindR, Int.reduceAdd, Int.reduceSub, Int.reduceMul, Nat.reduceLT, Nat.reduceLeDiff, Int.reduceLT, Int.reduceLE, Nat.reduceEqDiff, Int.reduceEq, Int.reduceBNe, Bool.decide_eq_true, Bool.decide_eq_false, not_true_eq_false, not_false_eq_true, ne_eq, Nat.zero_add, Int.reduceNeg, List.isEmpty_cons, List.isEmpty_nil, List.length_map, List.length_range, List.length_append, List.length_replicate, List.drop_zero, List.drop_succ_cons, reduceCtorEq, FX, e0]
  | fuel + 1, a :: l, r, x, y, h, h2 => by
    rw [List.length_cons] at h h2
    obtain ⟨x1, y1, d, e1, u1⟩ := c_drawN hn x y (l.length + 1) (by omega) (by omega)
    have hd : d < (a :: l).length := by rw [List.length_cons]; exact u1
    obtain ⟨x2, y2, r', p, ih⟩ := mixed_while n hn m fuel ((a :: l).eraseIdx d) (r ++ [(a :: l)[d]]) x1 y1 (by rw [List.length_eraseIdx_of_lt hd, List.length_cons]; omega) (by rw [List.length_eraseIdx_of_lt hd, List.length_append, List.length_singleton, List.length_cons]; omega)
    refine ⟨x2, y2, r', p.trans ?_, ?_⟩
    · rw [List.append_assoc]
      exact List.Perm.append_left r (erase_perm _ d hd)
    · have e := ne_ints (a :: l)
      have mp := mutQ_popAt (xs := (a :: l).map dI) (d := d) (by rw [List.length_map]; exact hd) (by rw [List.length_map, List.length_cons]; omega)
      rw [List.getElem_map, map_erase] at mp
      rw [List.map_append, List.map_singleton] at ih
      rw [← ih]
      have ll : (((a :: l).map dI).length : Int) = ((l.length + 1 : Nat) : Int) := by rw [List.length_map, List.length_cons]
      rw [List.isEmpty_cons] at e
      clear p
      generalize (a :: l)[d] = v at *
      generalize (a :: l).eraseIdx d = l' at *
      generalize (a :: l).map dI = A at *
      rw [whQ]
      simp -implicitDefEqProofs (disch := omega) only [nthS, testOf, bodyOf, F__law_mixed, QSa, QSb, QSc, QSd, QSe, QSf, QSg, List.getElem?_cons_zero, List.getElem?_cons_succ, List.set_cons_zero, List.set_cons_succ, Option.bind_some, Option.map_some, getAll, startE, List.cons_append, List.nil_append, List.append_nil, List.map_cons, List.map_nil, List.length_cons, List.length_nil, List.any_cons, List.any_nil, Bool.or_false, Bool.and_true, Bool.true_and, Bool.or_self, Bool.false_or, Bool.false_eq_true, ↓reduceIte, eq_self, Bool.not_true, Bool.not_false, decide_true, decide_false, decide_eq_true_eq, List.contains_nil, List.contains_cons, Option.some_beq_none, Option.some_beq_some, Nat.reduceBEq, Bool.or_true, Bool.true_or, Bool.and_false, Bool.false_and, Option.isSome_some, Int.cast_ofNat_Int, Nat.reduceAdd, Nat.reduceSub, List.drop_nil, List.reduceReplicate, ↓bindR, Int.reduceAdd, Int.reduceSub, Int.reduceMul, Nat.reduceLT, Nat.reduceLeDiff, Int.reduceLT, Int.reduceLE, Nat.reduceEqDiff, Int.reduceEq, Int.reduceBNe, Bool.decide_eq_true, Bool.decide_eq_false, not_true_eq_false, not_false_eq_true, ne_eq, Nat.zero_add, Int.reduceNeg, List.isEmpty_cons, List.isEmpty_nil, List.length_map, List.length_range, List.length_append, List.length_replicate, List.drop_zero, List.drop_succ_cons, reduceCtorEq, FX, e, ll, e1, mp]
theorem c_mixed {n m : Nat} (hn : 2 ≤ n) (hm : m ≤ 100) (x y : Int) : ∃ (x' y' : Int) (r : List Nat), r.Perm (List.range m) ∧ prog.call n "_law_mixed" [potD x y, dI m] = .ok (.lst (r.map dI)) true [potD x' y', .non] := by
  obtain ⟨n, rfl, hn⟩ := succ_of hn
  obtain ⟨x', y', r, p, w⟩ := mixed_while n (by omega) m 100000 (List.range m) [] x y (by rw [List.length_range]; omega) (by rw [List.length_range]; simp; omega)
  refine ⟨x', y', r, by simpa using p, ?_⟩
  rw [List.map_nil] at w
  simp only [nthS, testOf, bodyOf, F__law_mixed] at w
  rw [cq__law_mixed rfl]
  simp -implicitDefEqProofs (disch := omega) only [F__law_mixed, QSa, QSb, QSc, QSd, QSe, QSf, QSg, List.getElem?_cons_zero, List.getElem?_cons_succ, List.set_cons_zero, List.set_cons_succ, Option.bind_some, Option.map_some, getAll, startE, List.cons_append, List.nil_append, List.append_nil, List.map_cons, List.map_nil, List.length_cons, List.length_nil, List.any_cons, List.any_nil, Bool.or_false, Bool.and_true, Bool.true_and, Bool.or_self, Bool.false_or, Bool.false_eq_true, ↓reduceIte, eq_self, Bool.not_true, Bool.not_false, decide_true, decide_false, decide_eq_true_eq, List.contains_nil, List.contains_cons, Option.some_beq_none, Option.some_beq_some, Nat.reduceBEq, Bool.or_true, Bool.true_or, Bool.and_false, Bool.false_and, Option.isSome_some, Int.cast_ofNat_Int, Nat.reduceAdd, Nat.reduceSub, List.drop_nil, List.reduceReplicate, ↓bindR, Int.reduceAdd, Int.reduceSub, Int.reduceMul, Nat.reduceLT, Nat.reduceLeDiff, Int.reduceLT, Int.reduceLE, Nat.reduceEqDiff, Int.reduceEq, Int.reduceBNe, Bool.decide_eq_true, Bool.decide_eq_false, not_true_eq_false, not_false_eq_true, ne_eq, Nat.zero_add, Int.reduceNeg, List.isEmpty_cons, List.isEmpty_nil, List.length_map, List.length_range, List.length_append, List.length_replicate, List.drop_zero, List.drop_succ_cons, reduceCtorEq, FX, w]
  rfl
end Lw

-- LAW 63
set_option maxRecDepth 100000
set_option maxHeartbeats 4000000
namespace Lw
open PySem Mp
def Lm (m : Nat) : Nat := if m = 0 then 0 else if m ≤ 1 then 1 else if m ≤ 3 then 2 else if m ≤ 7 then 3 else 4
def tF (m : Nat) : Fo := rowF m m 0 none none
def jF (m : Nat) : Fo := .and [tF m, .not (tF (m + 1))]
theorem lm_spec : ∀ m, m < 16 → (∀ d, d < Lm m → 2 ^ d ≤ m) ∧ m < 2 ^ Lm m ∧ Lm m ≤ 4 := by decide +kernel
theorem t_depth : ∀ m, m < 16 → depthF (tF m) = Lm m := by decide +kernel
theorem t_nodes : ∀ m, m < 16 → nodesF (tF m) ≤ 300 := by decide +kernel
theorem t_hgt : ∀ m, m < 16 → hgt (tF m) ≤ 10 := by decide +kernel
theorem t_wf (m : Nat) : wfF 0 (tF m) = true := rowF_wf m m 0 none none (fun _ h => nomatch h) (fun _ h => nomatch h)
theorem j_depth : ∀ m, m < 15 → depthF (jF m) = Lm (m + 1) := by decide +kernel
theorem j_nodes : ∀ m, m < 15 → nodesF (jF m) ≤ 300 := by decide +kernel
theorem j_hgt : ∀ m, m < 15 → hgt (jF m) ≤ 12 := by decide +kernel
theorem j_wf (m : Nat) : wfF 0 (jF m) = true := by simp [jF, wfF, wfFs, t_wf]
theorem t_holds {W : Web} {pos : Nat → Nat} (O : Ord W pos) (m : Nat) : holdsF W [] (tF m) = decide (m ≤ W.cols.length) := by
  have h := rowF_holds O m m [] none none (Nat.le_refl _) (fun _ h => nomatch h) (fun _ h => nomatch h) (fun _ h => nomatch h)
  have h' : (holdsF W [] (tF m) = true ↔ m = 0 ∨ 0 + m ≤ W.cols.length) := h
  rw [Bool.eq_iff_iff, h', decide_eq_true_eq]
  omega
theorem j_holds (k m : Nat) : holdsF (rowW k) [] (jF m) = decide (k = m) := by
  have a := t_holds (ord_row k) m
  have b := t_holds (ord_row k) (m + 1)
  rw [rowW_len] at a b
  rw [jF, holdsF, holdsAll, holdsAll, holdsAll, holdsF, a, b, Bool.eq_iff_iff]
  simp
  omega
mutual
theorem fo_isable : ∀ (f : Fo) (k : Nat), wfF k f = true → isable (2 * hgt f + 1) (foD f) = true
  | .is _ _, k, _ => by simp [foD, isable_tup, isable_str, isable_int]
  | .arc _ _, k, _ => by simp [foD, isable_tup, isable_str, isable_int]
  | .same _ _, k, _ => by simp [foD, isable_tup, isable_str, isable_int]
  | .not f, k, h => by
    have a := fo_isable f k (by simpa [wfF] using h)
    rw [foD, hgt, show 2 * (hgt f + 1) + 1 = (2 * hgt f + 1 + 1) + 1 by omega, isable_tup]
    simp [isable_str, isable_le a (Nat.le_succ _)]
  | .some f, k, h => by
    have a := fo_isable f (k + 1) (by simpa [wfF] using h)
    rw [foD, hgt, show 2 * (hgt f + 1) + 1 = (2 * hgt f + 1 + 1) + 1 by omega, isable_tup]
    simp [isable_str, isable_le a (Nat.le_succ _)]
  | .all f, k, h => by
    have a := fo_isable f (k + 1) (by simpa [wfF] using h)
    rw [foD, hgt, show 2 * (hgt f + 1) + 1 = (2 * hgt f + 1 + 1) + 1 by omega, isable_tup]
    simp [isable_str, isable_le a (Nat.le_succ _)]
  | .and fs, k, h => by
    simp only [wfF, Bool.and_eq_true, decide_eq_true_eq] at h
    have a := fos_isable fs k h.2
    rw [foD, hgt, show 2 * (hgts fs + 1) + 1 = (2 * hgts fs + 1 + 1) + 1 by omega, isable_tup]
    simp only [List.length_cons, List.length_nil, List.all_cons, List.all_nil, isable_str, isable_tup, a, Bool.and_true, Bool.true_and]
    rw [foDs_map, List.length_map]
    simp
    omega
  | .or fs, k, h => by
    simp only [wfF, Bool.and_eq_true, decide_eq_true_eq] at h
    have a := fos_isable fs k h.2
    rw [foD, hgt, show 2 * (hgts fs + 1) + 1 = (2 * hgts fs + 1 + 1) + 1 by omega, isable_tup]
    simp only [List.length_cons, List.length_nil, List.all_cons, List.all_nil, isable_str, isable_tup, a, Bool.and_true, Bool.true_and]
    rw [foDs_map, List.length_map]
    simp
    omega
theorem fos_isable : ∀ (fs : List Fo) (k : Nat), wfFs k fs = true → (foDs fs).all (isable (2 * hgts fs + 1)) = true
  | [], k, _ => rfl
  | f :: r, k, h => by
    simp only [wfFs, Bool.and_eq_true] at h
    have a := fo_isable f k h.1
    have b := fos_isable r k h.2
    rw [foDs, List.all_cons, Bool.and_eq_true, List.all_eq_true]
    rw [List.all_eq_true] at b
    refine ⟨isable_le a (by rw [hgts]; omega), fun x hx => isable_le (b x hx) (by rw [hgts]; omega)⟩
end
theorem is_two {n m : Nat} {f : Fo} (hw : wfF 0 f = true) (hn : 40 ≤ n) (hf : hgt f ≤ 15) : prog.call n "_law_is" [.lst [foD f, foD f], .lst [foD f, foD f]] = .ok (.bl true) false [.non, .non] :=
  is_refl (2 * hgt f + 2) _ (by omega) (by rw [isable_lst]; simp [fo_isable f 0 hw])
theorem c_at_least_row {n m : Nat} (hn : 30 ≤ n) (hm : m < 16) : prog.call n "at_least_row" [dI m] = .ok (foD (tF m)) false [.non] := by
  obtain ⟨n, rfl, hn⟩ := succ_of hn
  have a : prog.call n "at_least" [dI m, .int 0, .non, .non] = _ := c_at_least m m n 0 none none (Nat.le_refl _) (by omega) (by omega)
  rw [cq_at_least_row rfl]
  simp -implicitDefEqProofs (disch := omega) only [F_at_least_row, QSa, QSb, QSc, QSd, QSe, QSf, QSg, List.getElem?_cons_zero, List.getElem?_cons_succ, List.set_cons_zero, List.set_cons_succ, Option.bind_some, Option.map_some, getAll, startE, List.cons_append, List.nil_append, List.append_nil, List.map_cons, List.map_nil, List.length_cons, List.length_nil, List.any_cons, List.any_nil, Bool.or_false, Bool.and_true, Bool.true_and, Bool.or_self, Bool.false_or, Bool.false_eq_true, ↓reduceIte, eq_self, Bool.not_true, Bool.not_false, decide_true, decide_false, decide_eq_true_eq, List.contains_nil, List.contains_cons, Option.some_beq_none, Option.some_beq_some, Nat.reduceBEq, Bool.or_true, Bool.true_or, Bool.and_false, Bool.false_and, Option.isSome_some, Int.cast_ofNat_Int, Nat.reduceAdd, Nat.reduceSub, List.drop_nil, List.reduceReplicate, ↓bindR, Int.reduceAdd, Int.reduceSub, Int.reduceMul, Nat.reduceLT, Nat.reduceLeDiff, Int.reduceLT, Int.reduceLE, Nat.reduceEqDiff, Int.reduceEq, Int.reduceBNe, Bool.decide_eq_true, Bool.decide_eq_false, not_true_eq_false, not_false_eq_true, ne_eq, Nat.zero_add, Int.reduceNeg, List.isEmpty_cons, List.isEmpty_nil, List.length_map, List.length_range, List.length_append, List.length_replicate, List.drop_zero, List.drop_succ_cons, reduceCtorEq, FX, a, c_want_many]
  rfl
theorem c_just_row {n m : Nat} (hn : 30 ≤ n) (hm : m < 15) : prog.call n "just_row" [dI m] = .ok (foD (jF m)) false [.non] := by
  obtain ⟨n, rfl, hn⟩ := succ_of hn
  have a : prog.call n "at_least" [dI m, .int 0, .non, .non] = _ := c_at_least m m n 0 none none (Nat.le_refl _) (by omega) (by omega)
  have b : prog.call n "at_least" [dI (m + 1), .int 0, .non, .non] = _ := c_at_least (m + 1) (m + 1) n 0 none none (Nat.le_refl _) (by omega) (by omega)
  rw [show dI (m + 1) = D.int ((m : Int) + 1) by simp] at b
  rw [cq_just_row rfl]
  simp -implicitDefEqProofs (disch := omega) only [F_just_row, QSa, QSb, QSc, QSd, QSe, QSf, QSg, List.getElem?_cons_zero, List.getElem?_cons_succ, List.set_cons_zero, List.set_cons_succ, Option.bind_some, Option.map_some, getAll, startE, List.cons_append, List.nil_append, List.append_nil, List.map_cons, List.map_nil, List.length_cons, List.length_nil, List.any_cons, List.any_nil, Bool.or_false, Bool.and_true, Bool.true_and, Bool.or_self, Bool.false_or, Bool.false_eq_true, ↓reduceIte, eq_self, Bool.not_true, Bool.not_false, decide_true, decide_false, decide_eq_true_eq, List.contains_nil, List.contains_cons, Option.some_beq_none, Option.some_beq_some, Nat.reduceBEq, Bool.or_true, Bool.true_or, Bool.and_false, Bool.false_and, Option.isSome_some, Int.cast_ofNat_Int, Nat.reduceAdd, Nat.reduceSub, List.drop_nil, List.reduceReplicate, ↓bindR, Int.reduceAdd, Int.reduceSub, Int.reduceMul, Nat.reduceLT, Nat.reduceLeDiff, Int.reduceLT, Int.reduceLE, Nat.reduceEqDiff, Int.reduceEq, Int.reduceBNe, Bool.decide_eq_true, Bool.decide_eq_false, not_true_eq_false, not_false_eq_true, ne_eq, Nat.zero_add, Int.reduceNeg, List.isEmpty_cons, List.isEmpty_nil, List.length_map, List.length_range, List.length_append, List.length_replicate, List.drop_zero, List.drop_succ_cons, reduceCtorEq, FX, a, b, c_want_many]
  rfl
theorem lv5 (d : Nat) (h : d < 5) : idxD (.lst [.int 0, .int 1, .int 3, .int 7, .int 15]) (dI d) = some (.int (2 ^ d - 1)) := by
  have : d = 0 ∨ d = 1 ∨ d = 2 ∨ d = 3 ∨ d = 4 := by omega
  rcases this with rfl | rfl | rfl | rfl | rfl <;> rfl
theorem deep_while (n : Nat) (P td : D) (m : Nat) (hm : m < 16) : ∀ (j d fuel : Nat), d + j = Lm m → j < fuel →
    whLoop (evT (prog.cl (prog.call n)) [true] (testOf (nthS F__law_right.body 4))) (exs (prog.cl (prog.call n)) [true] (bodyOf (nthS F__law_right.body 4))) fuel [some (.ow P), some (.fz (dI m)), some (.fz td), some (.fz (dI d)), none, none, none, none, none, none, none, none] = .ok .next [some (.ow P), some (.fz (dI m)), some (.fz td), some (.fz (dI (Lm m))), none, none, none, none, none, none, none, none]
  | j, d, 0, _, h => absurd h (Nat.not_lt_zero _)
  | j, d, fuel + 1, hd, hj => by
    obtain ⟨l1, l2, l3⟩ := lm_spec m hm
    have i5 := lv5 d (by omega)
    have pw : ((2 : Int) ^ d) = ((2 ^ d : Nat) : Int) := by push_cast; rfl
    rw [pw] at i5
    rw [whQ]
    cases j with
    | zero =>
      have e : d = Lm m := by omega
      subst e
      have f : decide (((2 ^ Lm m : Nat) : Int) - 1 < (m : Int)) = false := decide_eq_false (by omega)
      simp -implicitDefEqProofs (disch := omega) only [nthS, testOf, bodyOf, F__law_right, QSa, QSb, QSc, QSd, QSe, QSf, QSg, List.getElem?_cons_zero, List.getElem?_cons_succ, List.set_cons_zero, List.set_cons_succ, Option.bind_some, Option.map_some, getAll, startE, List.cons_append, List.nil_append, List.append_nil, List.map_cons, List.map_nil, List.length_cons, List.length_nil, List.any_cons, List.any_nil, Bool.or_false, Bool.and_true, Bool.true_and, Bool.or_self, Bool.false_or, Bool.false_eq_true, ↓reduceIte, eq_self, Bool.not_true, Bool.not_false, decide_true, decide_false, decide_eq_true_eq, List.contains_nil, List.contains_cons, Option.some_beq_none, Option.some_beq_some, Nat.reduceBEq, Bool.or_true, Bool.true_or, Bool.and_false, Bool.false_and, Option.isSome_some, Int.cast_ofNat_Int, Nat.reduceAdd, Nat.reduceSub, List.drop_nil, List.reduceReplicate, ↓bindR, Int.reduceAdd, Int.reduceSub, Int.reduceMul, Nat.reduceLT, Nat.reduceLeDiff, Int.reduceLT, Int.reduceLE, Nat.reduceEqDiff, Int.reduceEq, Int.reduceBNe, Bool.decide_eq_true, Bool.decide_eq_false, not_true_eq_false, not_false_eq_true, ne_eq, Nat.zero_add, Int.reduceNeg, List.isEmpty_cons, List.isEmpty_nil, List.length_map, List.length_range, List.length_append, List.length_replicate, List.drop_zero, List.drop_succ_cons, reduceCtorEq, FX, i5, f]
    | succ j =>
      have := l1 d (by omega)
      have f : decide (((2 ^ d : Nat) : Int) - 1 < (m : Int)) = true := decide_eq_true (by omega)
      have ih := deep_while n P td m hm j (d + 1) fuel (by omega) (by omega)
      rw [← ih, show dI (d + 1) = D.int ((d : Int) + 1) by simp]
      simp -implicitDefEqProofs (disch := omega) only [nthS, testOf, bodyOf, F__law_right, QSa, QSb, QSc, QSd, QSe, QSf, QSg, List.getElem?_cons_zero, List.getElem?_cons_succ, List.set_cons_zero, List.set_cons_succ, Option.bind_some, Option.map_some, getAll, startE, List.cons_append, List.nil_append, List.append_nil, List.map_cons, List.map_nil, List.length_cons, List.length_nil, List.any_cons, List.any_nil, Bool.or_false, Bool.and_true, Bool.true_and, Bool.or_self, Bool.false_or, Bool.false_eq_true, ↓reduceIte, eq_self, Bool.not_true, Bool.not_false, decide_true, decide_false, decide_eq_true_eq, List.contains_nil, List.contains_cons, Option.some_beq_none, Option.some_beq_some, Nat.reduceBEq, Bool.or_true, Bool.true_or, Bool.and_false, Bool.false_and, Option.isSome_some, Int.cast_ofNat_Int, Nat.reduceAdd, Nat.reduceSub, List.drop_nil, List.reduceReplicate, ↓bindR, Int.reduceAdd, Int.reduceSub, Int.reduceMul, Nat.reduceLT, Nat.reduceLeDiff, Int.reduceLT, Int.reduceLE, Nat.reduceEqDiff, Int.reduceEq, Int.reduceBNe, Bool.decide_eq_true, Bool.decide_eq_false, not_true_eq_false, not_false_eq_true, ne_eq, Nat.zero_add, Int.reduceNeg, List.isEmpty_cons, List.isEmpty_nil, List.length_map, List.length_range, List.length_append, List.length_replicate, List.drop_zero, List.drop_succ_cons, reduceCtorEq, FX, i5, f]
theorem part_below {n m : Nat} (hn : 4 ≤ n) (hm : m < 16) (h0 : 0 < m) : prog.call n "rows_part_at" [dI m, .int ((m : Int) - 1)] = .ok (dI (Lm m)) false [.non, .non] := by
  obtain ⟨l1, l2, l3⟩ := lm_spec m hm
  have pw : ∀ d : Nat, ((2 : Int) ^ d) = ((2 ^ d : Nat) : Int) := fun d => by push_cast; rfl
  refine c_rows_part_ne hn (by omega) (by omega) (by omega) (by omega) (by omega) (Lm m) (by omega) (fun d hd => ?_) ?_
  · have := l1 d hd
    rw [pw]; omega
  · rw [pw]; omega
theorem part_above {n m : Nat} (hn : 4 ≤ n) (hm : m < 15) : prog.call n "rows_part_at" [dI m, .int ((m : Int) + 1)] = .ok (dI (Lm (m + 1))) false [.non, .non] := by
  obtain ⟨l1, l2, l3⟩ := lm_spec (m + 1) (by omega)
  have pw : ∀ d : Nat, ((2 : Int) ^ d) = ((2 ^ d : Nat) : Int) := fun d => by push_cast; rfl
  refine c_rows_part_ne hn (by omega) (by omega) (by omega) (by omega) (by omega) (Lm (m + 1)) (by omega) (fun d hd => ?_) ?_
  · have := l1 d hd
    rw [pw]; omega
  · rw [pw]; omega
theorem rangeD_nn (a b : Nat) : rangeD (a : Int) (b : Int) = (List.range' a (b - a)).map dI := by
  unfold rangeD
  have : ((b : Int) - (a : Int)).toNat = b - a := by omega
  rw [this, List.range'_eq_map_range, List.map_map]
  refine List.map_congr_left fun i _ => ?_
  simp
theorem eq_bls {α : Type} (xs : List α) (p : α → Bool) : cmpD .Eq (.lst (xs.map fun x => .bl (p x))) (.lst (xs.map fun x => .bl (p x))) = some true := by
  have fr := fair_l (B := 0) (l := xs.map fun x => D.bl (p x)) (by omega) (by
    intro x hx
    obtain ⟨a, _, rfl⟩ := List.mem_map.1 hx
    exact ⟨rfl, Nat.le_refl _⟩)
  show (if (fair (.lst (xs.map fun x => .bl (p x))) && fair (.lst (xs.map fun x => .bl (p x)))) = true then some (eqvD (.lst (xs.map fun x => .bl (p x))) (.lst (xs.map fun x => .bl (p x)))) else none) = _
  rw [fr, if_pos (show (true && true) = true from rfl)]
  unfold eqvD
  have : ∀ l : List α, PyData.eqvAll (toPys (l.map fun x => D.bl (p x))) (toPys (l.map fun x => D.bl (p x))) = true := by
    intro l
    induction l with
    | nil => rfl
    | cons a l ih => simp [toPys, toPy, PyData.eqvAll, PyData.eqv, ih]
  simp only [toPy, PyData.eqv, this]
end Lw

-- LAW 63
set_option maxRecDepth 100000
set_option maxHeartbeats 4000000
namespace Lw
open PySem Mp
theorem mul2 (d : D) : binD .Mult (.lst [d]) (.int 2) = some (.tmp (.lst [d, d])) := rfl
theorem holds_row {n k : Nat} {f : Fo} (hn : 20 ≤ n) (hk : k ≤ 8) (hf : hgt f ≤ 15) (hw : wfF 0 f = true) : prog.call n "_law_holds" [rowD k, .tup [], foD f] = .ok (.bl (holdsF (rowW k) [] f)) false [.non, .non, .non] := by
  have := c_holds (rowW k) (by rw [rowW_len]; exact hk) 15 n f [] hf (Nat.le_refl _) (by omega) hw (by simp) (fun _ h => nomatch h)
  rw [rowW_D] at this
  exact this
theorem right1 {n : Nat} (hn : 60 ≤ n) (x y : Int) : ∃ x' y', prog.call n "_law_right" [potD x y] = .ok (.bl true) false [potD x' y'] := by
  obtain ⟨n, rfl, hn⟩ := succ_of hn
  obtain ⟨x1, y1, m, e1, m16⟩ := c_drawN (n := n) (by omega) x y 16 (by omega) (by omega)
  obtain ⟨x2, y2, k, e2, k8⟩ := c_drawN (n := n) (by omega) x1 y1 8 (by omega) (by omega)
  obtain ⟨x3, y3, r, hr, e3⟩ := c_mixed (n := n) (m := k) (by omega) (by omega) x2 y2
  refine ⟨x3, y3, ?_⟩
  rw [show dI 16 = D.int 16 from rfl] at e1
  rw [show dI 8 = D.int 8 from rfl] at e2
  have a1 : prog.call n "_law_told" [dI m, .int 0, .non, .non] = .ok (foD (tF m)) false [.non, .non, .non, .non] := c_told m m n 0 none none (Nat.le_refl _) (by omega) (by omega)
  have a2 := c_at_least_row (n := n) (m := m) (by omega) m16
  have a3 := is_two (n := n) (m := m) (f := tF m) (t_wf m) (by omega) (by have := t_hgt m m16; omega)
  have w := deep_while n (potD x1 y1) (foD (tF m)) m m16 (Lm m) 0 100000 (by omega) (by have := (lm_spec m m16).2.2; omega)
  rw [show dI 0 = D.int 0 from rfl] at w
  simp only [nthS, testOf, bodyOf, F__law_right] at w
  have a4 := c_depth 15 n 0 (tF m) (by have := t_hgt m m16; omega) (by omega) (t_wf m)
  rw [t_depth m m16] at a4
  have a5 := c_nodes 15 n 0 (tF m) (by have := t_hgt m m16; omega) (by omega) (t_wf m)
  have n5 : decide ((300 : Int) < (nodesF (tF m) : Nat)) = false := decide_eq_false (by have := t_nodes m m16; omega)
  have d5 : decide ((Lm m : Int) ≠ (Lm m : Nat)) = false := decide_eq_false fun h => h rfl
  have a6 := c_row_web (n := n) (m := k) (by omega) (by omega)
  have hl : (rowArcs k).length < 100 := arcs_few k (by omega)
  have ln : r.length = k := by rw [hr.length_eq, List.length_range]
  obtain ⟨L, pL, sL⟩ := sorted_pairs ((rowArcs k).map fun p => (r.getD p.1 0, r.getD p.2 0)) (by rw [List.length_map]; omega)
  have OL := ord_mixed k r hr L pL
  have h1 := holds_row (n := n) (k := k) (f := tF m) (by omega) (by omega) (by have := t_hgt m m16; omega) (t_wf m)
  rw [t_holds (ord_row k) m, rowW_len] at h1
  have h2 := c_holds ⟨List.replicate k 0, L⟩ (by simp; omega) 15 n (tF m) [] (by have := t_hgt m m16; omega) (Nat.le_refl _) (by omega) (t_wf m) (by simp) (fun _ h => nomatch h)
  rw [t_holds OL m] at h2
  simp only [List.length_replicate] at h2
  have lw : webD ⟨List.replicate k 0, L⟩ = .tup [.str "web", .tup (List.replicate k (.int 0)), .tup (L.map pairI)] := by
    unfold webD
    rw [List.map_replicate]
    rfl
  rw [lw, nT, List.map_nil] at h2
  have ge : decide ((m : Int) ≤ (k : Int)) = decide (m ≤ k) := by rw [decide_eq_decide]; omega
  have i2 : ∀ b : Bool, prog.call n "_law_is" [.lst [.bl b, .bl b], .lst [.bl b, .bl b]] = .ok (.bl true) false [.non, .non] := fun b => is_refl 1 _ (by omega) (by simp [isable_lst, isable_bl])
  have r1 : idxD (rowD k) (.int 1) = some (.tup (List.replicate k (.int 0))) := idxQ_tup1
  have r2 : idxD (rowD k) (.int 2) = some (.tup ((rowArcs k).map pairI)) := idxQ_tup2
  rw [cq__law_right rfl]
  have pb : 0 < m → prog.call n "rows_part_at" [dI m, .int ((m : Int) - 1)] = .ok (dI (Lm m)) false [.non, .non] := part_below (by omega) m16
  have go : ∀ (R : CR), (endFn [true] (exs (prog.cl (prog.call n)) [true] F__law_right.body (startE [true] [potD x y] ++ List.replicate (F__law_right.slots - [potD x y].length) none)) = R) → True := fun _ _ => trivial
  clear go
  generalize hT : foD (tF m) = T at *
  have z : (decide ((0 : Int) < (m : Int)) = true → prog.call n "rows_part_at" [dI m, .int ((m : Int) - 1)] = .ok (dI (Lm m)) false [.non, .non]) := fun h => pb (by have := of_decide_eq_true h; omega)
  have ix : ∀ a, a < k → idxD (.lst (r.map dI)) (dI a) = some (dI (r.getD a 0)) := fun a ha => by
    have h : a < r.length := by omega
    rw [List.getD_eq_getElem?_getD, List.getElem?_eq_getElem h]
    exact idxQ_lm h
  have b0 : prog.call n "_law_told" [.int ((m : Int) + 1), .int 0, .non, .non] = .ok (foD (tF (m + 1))) false [.non, .non, .non, .non] := by
    have := c_told (m + 1) (m + 1) n 0 none none (Nat.le_refl _) (by omega) (by omega)
    rw [show dI (m + 1) = D.int ((m : Int) + 1) by simp] at this
    exact this
  have jD : foD (jF m) = .tup [.str "and", .tup [T, .tup [.str "not", foD (tF (m + 1))]]] := by rw [← hT]; rfl
  generalize hT2 : foD (tF (m + 1)) = T2 at *
  have mid : m < 15 → prog.call n "just_row" [dI m] = .ok (.tup [.str "and", .tup [T, .tup [.str "not", T2]]]) false [.non] ∧
      prog.call n "_law_is" [.lst [.tup [.str "and", .tup [T, .tup [.str "not", T2]]], .tup [.str "and", .tup [T, .tup [.str "not", T2]]]], .lst [.tup [.str "and", .tup [T, .tup [.str "not", T2]]], .tup [.str "and", .tup [T, .tup [.str "not", T2]]]]] = .ok (.bl true) false [.non, .non] ∧
      prog.call n "_law_nodes" [.tup [.str "and", .tup [T, .tup [.str "not", T2]]]] = .ok (dI (nodesF (jF m))) false [.non] ∧
      prog.call n "_law_depth" [.tup [.str "and", .tup [T, .tup [.str "not", T2]]]] = .ok (dI (Lm (m + 1))) false [.non] ∧
      prog.call n "rows_part_at" [dI m, .int ((m : Int) + 1)] = .ok (dI (Lm (m + 1))) false [.non, .non] ∧
      ∀ o, o ≤ 8 → prog.call n "_law_holds" [rowD o, .tup [], .tup [.str "and", .tup [T, .tup [.str "not", T2]]]] = .ok (.bl (decide (o = m))) false [.non, .non, .non] := by
    intro h15
    have hh := j_hgt m h15
    rw [← jD]
    refine ⟨c_just_row (by omega) h15, is_two (m := m) (j_wf m) (by omega) (by omega), c_nodes 15 n 0 (jF m) (by omega) (by omega) (j_wf m), ?_, part_above (by omega) h15, fun o ho => ?_⟩
    · have := c_depth 15 n 0 (jF m) (by omega) (by omega) (j_wf m)
      rwa [j_depth m h15] at this
    · have := holds_row (n := n) (k := o) (f := jF m) (by omega) ho (by omega) (j_wf m)
      rwa [j_holds] at this
  have s1 : okLen (List.map dI r).length = true := okLen_t (by rw [List.length_map]; omega)
  rcases Bool.eq_false_or_eq_true (decide ((0 : Int) < (m : Int))) with hz | hz
  · have pb := z hz
    simp -implicitDefEqProofs (disch := omega) only [F__law_right, QSa, QSb, QSc, QSd, QSe, QSf, QSg, List.getElem?_cons_zero, List.getElem?_cons_succ, List.set_cons_zero, List.set_cons_succ, Option.bind_some, Option.map_some, getAll, startE, List.cons_append, List.nil_append, List.append_nil, List.map_cons, List.map_nil, List.length_cons, List.length_nil, List.any_cons, List.any_nil, Bool.or_false, Bool.and_true, Bool.true_and, Bool.or_self, Bool.false_or, Bool.false_eq_true, ↓reduceIte, eq_self, Bool.not_true, Bool.not_false, decide_true, decide_false, decide_eq_true_eq, List.contains_nil, List.contains_cons, Option.some_beq_none, Option.some_beq_some, Nat.reduceBEq, Bool.or_true, Bool.true_or, Bool.and_false, Bool.false_and, Option.isSome_some, Int.cast_ofNat_Int, Nat.reduceAdd, Nat.reduceSub, List.drop_nil, List.reduceReplicate, ↓bindR, Int.reduceAdd, Int.reduceSub, Int.reduceMul, Nat.reduceLT, Nat.reduceLeDiff, Int.reduceLT, Int.reduceLE, Nat.reduceEqDiff, Int.reduceEq, Int.reduceBNe, Bool.decide_eq_true, Bool.decide_eq_false, not_true_eq_false, not_false_eq_true, ne_eq, Nat.zero_add, Int.reduceNeg, List.isEmpty_cons, List.isEmpty_nil, List.length_map, List.length_range, List.length_append, List.length_replicate, List.drop_zero, List.drop_succ_cons, reduceCtorEq, FX, e1, a1, a2, a3, w, a4, a5, n5, d5, hz, pb, e2, a6, e3, r1, r2]
    rw [compGm (enc := pairI) (fun p => pairI (r.getD p.1 0, r.getD p.2 0)) (rowArcs k) ?he ?hb ?hh ?hl]
    case he => rfl
    case hb => rfl
    case hl => omega
    case hh =>
      rintro ⟨a, b⟩ hp
      rw [rowArcs_mem] at hp
      have i1 := ix a (by omega)
      have i2 := ix b (by omega)
      refine ⟨[some (.ow (potD x3 y3)), some (.fz (dI m)), some (.fz T), some (.fz (dI (Lm m))), some (.fz (dI k)), some (.fz (rowD k)), some (.ow (.lst (r.map dI))), none, none, none, some (.fz (dI a)), some (.fz (dI b))], ?_, rfl⟩
      have pp : pairI (a, b) = .tup [dI a, dI b] := rfl
      rw [pp]
      simp -implicitDefEqProofs (disch := omega) only [QSa, QSb, QSc, QSd, QSe, QSf, QSg, List.getElem?_cons_zero, List.getElem?_cons_succ, List.set_cons_zero, List.set_cons_succ, Option.bind_some, Option.map_some, getAll, startE, List.cons_append, List.nil_append, List.append_nil, List.map_cons, List.map_nil, List.length_cons, List.length_nil, List.any_cons, List.any_nil, Bool.or_false, Bool.and_true, Bool.true_and, Bool.or_self, Bool.false_or, Bool.false_eq_true, ↓reduceIte, eq_self, Bool.not_true, Bool.not_false, decide_true, decide_false, decide_eq_true_eq, List.contains_nil, List.contains_cons, Option.some_beq_none, Option.some_beq_some, Nat.reduceBEq, Bool.or_true, Bool.true_or, Bool.and_false, Bool.false_and, Option.isSome_some, Int.cast_ofNat_Int, Nat.reduceAdd, Nat.reduceSub, List.drop_nil, List.reduceReplicate, ↓bindR, Int.reduceAdd, Int.reduceSub, Int.reduceMul, Nat.reduceLT, Nat.reduceLeDiff, Int.reduceLT, Int.reduceLE, Nat.reduceEqDiff, Int.reduceEq, Int.reduceBNe, Bool.decide_eq_true, Bool.decide_eq_false, not_true_eq_false, not_false_eq_true, ne_eq, Nat.zero_add, Int.reduceNeg, List.isEmpty_cons, List.isEmpty_nil, List.length_map, List.length_range, List.length_append, List.length_replicate, List.drop_zero, List.drop_succ_cons, reduceCtorEq, FX, i1, i2]
      rfl
    rw [show (rowArcs k).map (fun p => pairI (r.getD p.1 0, r.getD p.2 0)) = ((rowArcs k).map fun p => (r.getD p.1 0, r.getD p.2 0)).map pairI by rw [List.map_map]; rfl]
    simp -implicitDefEqProofs (disch := omega) only [QSa, QSb, QSc, QSd, QSe, QSf, QSg, List.getElem?_cons_zero, List.getElem?_cons_succ, List.set_cons_zero, List.set_cons_succ, Option.bind_some, Option.map_some, getAll, startE, List.cons_append, List.nil_append, List.append_nil, List.map_cons, List.map_nil, List.length_cons, List.length_nil, List.any_cons, List.any_nil, Bool.or_false, Bool.and_true, Bool.true_and, Bool.or_self, Bool.false_or, Bool.false_eq_true, ↓reduceIte, eq_self, Bool.not_true, Bool.not_false, decide_true, decide_false, decide_eq_true_eq, List.contains_nil, List.contains_cons, Option.some_beq_none, Option.some_beq_some, Nat.reduceBEq, Bool.or_true, Bool.true_or, Bool.and_false, Bool.false_and, Option.isSome_some, Int.cast_ofNat_Int, Nat.reduceAdd, Nat.reduceSub, List.drop_nil, List.reduceReplicate, ↓bindR, Int.reduceAdd, Int.reduceSub, Int.reduceMul, Nat.reduceLT, Nat.reduceLeDiff, Int.reduceLT, Int.reduceLE, Nat.reduceEqDiff, Int.reduceEq, Int.reduceBNe, Bool.decide_eq_true, Bool.decide_eq_false, not_true_eq_false, not_false_eq_true, ne_eq, Nat.zero_add, Int.reduceNeg, List.isEmpty_cons, List.isEmpty_nil, List.length_map, List.length_range, List.length_append, List.length_replicate, List.drop_zero, List.drop_succ_cons, reduceCtorEq, FX, sL, h1, h2, ge, mul2, i2]
    by_cases h15 : m < 15
    · obtain ⟨j1, j2, j3, j4, j5, j6⟩ := mid h15
      have c14 : ¬ (14 : Int) < (m : Int) := by omega
      have j3' : decide ((300 : Int) < (nodesF (jF m) : Nat)) = false := decide_eq_false (by have := j_nodes m h15; omega)
      have j4' : decide ((4 : Int) < (Lm (m + 1) : Nat)) = false := decide_eq_false (by have := (lm_spec (m + 1) (by omega)).2.2; omega)
      have d6 : decide ((Lm (m + 1) : Int) ≠ (Lm (m + 1) : Nat)) = false := decide_eq_false fun h => h rfl
      have x1 : max 0 ((m : Int) - 1) = ((m - 1 : Nat) : Int) := by omega
      have x2 : min 8 ((m : Int) + 1) + 1 = ((min 8 (m + 1) + 1 : Nat) : Int) := by omega
      generalize hJ : D.tup [.str "and", .tup [T, .tup [.str "not", T2]]] = J at *
      simp -implicitDefEqProofs (disch := omega) only [QSa, QSb, QSc, QSd, QSe, QSf, QSg, List.getElem?_cons_zero, List.getElem?_cons_succ, List.set_cons_zero, List.set_cons_succ, Option.bind_some, Option.map_some, getAll, startE, List.cons_append, List.nil_append, List.append_nil, List.map_cons, List.map_nil, List.length_cons, List.length_nil, List.any_cons, List.any_nil, Bool.or_false, Bool.and_true, Bool.true_and, Bool.or_self, Bool.false_or, Bool.false_eq_true, ↓reduceIte, eq_self, Bool.not_true, Bool.not_false, decide_true, decide_false, decide_eq_true_eq, List.contains_nil, List.contains_cons, Option.some_beq_none, Option.some_beq_some, Nat.reduceBEq, Bool.or_true, Bool.true_or, Bool.and_false, Bool.false_and, Option.isSome_some, Int.cast_ofNat_Int, Nat.reduceAdd, Nat.reduceSub, List.drop_nil, List.reduceReplicate, ↓bindR, Int.reduceAdd, Int.reduceSub, Int.reduceMul, Nat.reduceLT, Nat.reduceLeDiff, Int.reduceLT, Int.reduceLE, Nat.reduceEqDiff, Int.reduceEq, Int.reduceBNe, Bool.decide_eq_true, Bool.decide_eq_false, not_true_eq_false, not_false_eq_true, ne_eq, Nat.zero_add, Int.reduceNeg, List.isEmpty_cons, List.isEmpty_nil, List.length_map, List.length_range, List.length_append, List.length_replicate, List.drop_zero, List.drop_succ_cons, reduceCtorEq, FX, c14, b0, hJ, j1, j2, j3, j3', j4, j4', j5, d6, x1, x2, rangeD_nn]
      rw [compRm (enc := dI) (fun o => .bl (decide (o = m))) (List.range' (m - 1) (min 8 (m + 1) + 1 - (m - 1))) ?hj ?he ?hh ?hl]
      case hj => rfl
      case he => rfl
      case hl => rw [List.length_range']; omega
      case hh =>
        intro o ho
        have ho' := List.mem_range'_1.1 ho
        have w1 := c_row_web (n := n) (m := o) (by omega) (by omega)
        have w2 := j6 o (by omega)
        refine ⟨some (.fz (dI o)), ?_⟩
        simp -implicitDefEqProofs (disch := omega) only [QSa, QSb, QSc, QSd, QSe, QSf, QSg, List.getElem?_cons_zero, List.getElem?_cons_succ, List.set_cons_zero, List.set_cons_succ, Option.bind_some, Option.map_some, getAll, startE, List.cons_append, List.nil_append, List.append_nil, List.map_cons, List.map_nil, List.length_cons, List.length_nil, List.any_cons, List.any_nil, Bool.or_false, Bool.and_true, Bool.true_and, Bool.or_self, Bool.false_or, Bool.false_eq_true, ↓reduceIte, eq_self, Bool.not_true, Bool.not_false, decide_true, decide_false, decide_eq_true_eq, List.contains_nil, List.contains_cons, Option.some_beq_none, Option.some_beq_some, Nat.reduceBEq, Bool.or_true, Bool.true_or, Bool.and_false, Bool.false_and, Option.isSome_some, Int.cast_ofNat_Int, Nat.reduceAdd, Nat.reduceSub, List.drop_nil, List.reduceReplicate, ↓bindR, Int.reduceAdd, Int.reduceSub, Int.reduceMul, Nat.reduceLT, Nat.reduceLeDiff, Int.reduceLT, Int.reduceLE, Nat.reduceEqDiff, Int.reduceEq, Int.reduceBNe, Bool.decide_eq_true, Bool.decide_eq_false, not_true_eq_false, not_false_eq_true, ne_eq, Nat.zero_add, Int.reduceNeg, List.isEmpty_cons, List.isEmpty_nil, List.length_map, List.length_range, List.length_append, List.length_replicate, List.drop_zero, List.drop_succ_cons, reduceCtorEq, FX, w1, w2]
      simp -implicitDefEqProofs (disch := omega) only [QSa, QSb, QSc, QSd, QSe, QSf, QSg, List.getElem?_cons_zero, List.getElem?_cons_succ, List.set_cons_zero, List.set_cons_succ, Option.bind_some, Option.map_some, getAll, startE, List.cons_append, List.nil_append, List.append_nil, List.map_cons, List.map_nil, List.length_cons, List.length_nil, List.any_cons, List.any_nil, Bool.or_false, Bool.and_true, Bool.true_and, Bool.or_self, Bool.false_or, Bool.false_eq_true, ↓reduceIte, eq_self, Bool.not_true, Bool.not_false, decide_true, decide_false, decide_eq_true_eq, List.contains_nil, List.contains_cons, Option.some_beq_none, Option.some_beq_some, Nat.reduceBEq, Bool.or_true, Bool.true_or, Bool.and_false, Bool.false_and, Option.isSome_some, Int.cast_ofNat_Int, Nat.reduceAdd, Nat.reduceSub, List.drop_nil, List.reduceReplicate, ↓bindR, Int.reduceAdd, Int.reduceSub, Int.reduceMul, Nat.reduceLT, Nat.reduceLeDiff, Int.reduceLT, Int.reduceLE, Nat.reduceEqDiff, Int.reduceEq, Int.reduceBNe, Bool.decide_eq_true, Bool.decide_eq_false, not_true_eq_false, not_false_eq_true, ne_eq, Nat.zero_add, Int.reduceNeg, List.isEmpty_cons, List.isEmpty_nil, List.length_map, List.length_range, List.length_append, List.length_replicate, List.drop_zero, List.drop_succ_cons, reduceCtorEq, FX, x1, x2, rangeD_nn]
      rw [compRm (enc := dI) (fun o => .bl (decide (o = m))) (List.range' (m - 1) (min 8 (m + 1) + 1 - (m - 1))) ?hj ?he ?hh ?hl]
      case hj => rfl
      case he => rfl
      case hl => rw [List.length_range']; omega
      case hh =>
        intro o ho
        have ce : decide ((o : Int) = (m : Int)) = decide (o = m) := by rw [decide_eq_decide]; omega
        refine ⟨some (.fz (dI o)), ?_⟩
        simp -implicitDefEqProofs (disch := omega) only [QSa, QSb, QSc, QSd, QSe, QSf, QSg, List.getElem?_cons_zero, List.getElem?_cons_succ, List.set_cons_zero, List.set_cons_succ, Option.bind_some, Option.map_some, getAll, startE, List.cons_append, List.nil_append, List.append_nil, List.map_cons, List.map_nil, List.length_cons, List.length_nil, List.any_cons, List.any_nil, Bool.or_false, Bool.and_true, Bool.true_and, Bool.or_self, Bool.false_or, Bool.false_eq_true, ↓reduceIte, eq_self, Bool.not_true, Bool.not_false, decide_true, decide_false, decide_eq_true_eq, List.contains_nil, List.contains_cons, Option.some_beq_none, Option.some_beq_some, Nat.reduceBEq, Bool.or_true, Bool.true_or, Bool.and_false, Bool.false_and, Option.isSome_some, Int.cast_ofNat_Int, Nat.reduceAdd, Nat.reduceSub, List.drop_nil, List.reduceReplicate, ↓bindR, Int.reduceAdd, Int.reduceSub, Int.reduceMul, Nat.reduceLT, Nat.reduceLeDiff, Int.reduceLT, Int.reduceLE, Nat.reduceEqDiff, Int.reduceEq, Int.reduceBNe, Bool.decide_eq_true, Bool.decide_eq_false, not_true_eq_false, not_false_eq_true, ne_eq, Nat.zero_add, Int.reduceNeg, List.isEmpty_cons, List.isEmpty_nil, List.length_map, List.length_range, List.length_append, List.length_replicate, List.drop_zero, List.drop_succ_cons, reduceCtorEq, FX, ce]
      simp -implicitDefEqProofs (disch := omega) only [QSa, QSb, QSc, QSd, QSe, QSf, QSg, List.getElem?_cons_zero, List.getElem?_cons_succ, List.set_cons_zero, List.set_cons_succ, Option.bind_some, Option.map_some, getAll, startE, List.cons_append, List.nil_append, List.append_nil, List.map_cons, List.map_nil, List.length_cons, List.length_nil, List.any_cons, List.any_nil, Bool.or_false, Bool.and_true, Bool.true_and, Bool.or_self, Bool.false_or, Bool.false_eq_true, ↓reduceIte, eq_self, Bool.not_true, Bool.not_false, decide_true, decide_false, decide_eq_true_eq, List.contains_nil, List.contains_cons, Option.some_beq_none, Option.some_beq_some, Nat.reduceBEq, Bool.or_true, Bool.true_or, Bool.and_false, Bool.false_and, Option.isSome_some, Int.cast_ofNat_Int, Nat.reduceAdd, Nat.reduceSub, List.drop_nil, List.reduceReplicate, ↓bindR, Int.reduceAdd, Int.reduceSub, Int.reduceMul, Nat.reduceLT, Nat.reduceLeDiff, Int.reduceLT, Int.reduceLE, Nat.reduceEqDiff, Int.reduceEq, Int.reduceBNe, Bool.decide_eq_true, Bool.decide_eq_false, not_true_eq_false, not_false_eq_true, ne_eq, Nat.zero_add, Int.reduceNeg, List.isEmpty_cons, List.isEmpty_nil, List.length_map, List.length_range, List.length_append, List.length_replicate, List.drop_zero, List.drop_succ_cons, reduceCtorEq, FX, eq_bls]
      rfl
    · have c14 : (14 : Int) < (m : Int) := by omega
      simp -implicitDefEqProofs (disch := omega) only [QSa, QSb, QSc, QSd, QSe, QSf, QSg, List.getElem?_cons_zero, List.getElem?_cons_succ, List.set_cons_zero, List.set_cons_succ, Option.bind_some, Option.map_some, getAll, startE, List.cons_append, List.nil_append, List.append_nil, List.map_cons, List.map_nil, List.length_cons, List.length_nil, List.any_cons, List.any_nil, Bool.or_false, Bool.and_true, Bool.true_and, Bool.or_self, Bool.false_or, Bool.false_eq_true, ↓reduceIte, eq_self, Bool.not_true, Bool.not_false, decide_true, decide_false, decide_eq_true_eq, List.contains_nil, List.contains_cons, Option.some_beq_none, Option.some_beq_some, Nat.reduceBEq, Bool.or_true, Bool.true_or, Bool.and_false, Bool.false_and, Option.isSome_some, Int.cast_ofNat_Int, Nat.reduceAdd, Nat.reduceSub, List.drop_nil, List.reduceReplicate, ↓bindR, Int.reduceAdd, Int.reduceSub, Int.reduceMul, Nat.reduceLT, Nat.reduceLeDiff, Int.reduceLT, Int.reduceLE, Nat.reduceEqDiff, Int.reduceEq, Int.reduceBNe, Bool.decide_eq_true, Bool.decide_eq_false, not_true_eq_false, not_false_eq_true, ne_eq, Nat.zero_add, Int.reduceNeg, List.isEmpty_cons, List.isEmpty_nil, List.length_map, List.length_range, List.length_append, List.length_replicate, List.drop_zero, List.drop_succ_cons, reduceCtorEq, FX, c14]
      rfl
  · simp -implicitDefEqProofs (disch := omega) only [F__law_right, QSa, QSb, QSc, QSd, QSe, QSf, QSg, List.getElem?_cons_zero, List.getElem?_cons_succ, List.set_cons_zero, List.set_cons_succ, Option.bind_some, Option.map_some, getAll, startE, List.cons_append, List.nil_append, List.append_nil, List.map_cons, List.map_nil, List.length_cons, List.length_nil, List.any_cons, List.any_nil, Bool.or_false, Bool.and_true, Bool.true_and, Bool.or_self, Bool.false_or, Bool.false_eq_true, ↓reduceIte, eq_self, Bool.not_true, Bool.not_false, decide_true, decide_false, decide_eq_true_eq, List.contains_nil, List.contains_cons, Option.some_beq_none, Option.some_beq_some, Nat.reduceBEq, Bool.or_true, Bool.true_or, Bool.and_false, Bool.false_and, Option.isSome_some, Int.cast_ofNat_Int, Nat.reduceAdd, Nat.reduceSub, List.drop_nil, List.reduceReplicate, ↓bindR, Int.reduceAdd, Int.reduceSub, Int.reduceMul, Nat.reduceLT, Nat.reduceLeDiff, Int.reduceLT, Int.reduceLE, Nat.reduceEqDiff, Int.reduceEq, Int.reduceBNe, Bool.decide_eq_true, Bool.decide_eq_false, not_true_eq_false, not_false_eq_true, ne_eq, Nat.zero_add, Int.reduceNeg, List.isEmpty_cons, List.isEmpty_nil, List.length_map, List.length_range, List.length_append, List.length_replicate, List.drop_zero, List.drop_succ_cons, reduceCtorEq, FX, e1, a1, a2, a3, w, a4, a5, n5, d5, hz, e2, a6, e3, r1, r2]
    rw [compGm (enc := pairI) (fun p => pairI (r.getD p.1 0, r.getD p.2 0)) (rowArcs k) ?he ?hb ?hh ?hl]
    case he => rfl
    case hb => rfl
    case hl => omega
    case hh =>
      rintro ⟨a, b⟩ hp
      rw [rowArcs_mem] at hp
      have i1 := ix a (by omega)
      have i2 := ix b (by omega)
      refine ⟨[some (.ow (potD x3 y3)), some (.fz (dI m)), some (.fz T), some (.fz (dI (Lm m))), some (.fz (dI k)), some (.fz (rowD k)), some (.ow (.lst (r.map dI))), none, none, none, some (.fz (dI a)), some (.fz (dI b))], ?_, rfl⟩
      have pp : pairI (a, b) = .tup [dI a, dI b] := rfl
      rw [pp]
      simp -implicitDefEqProofs (disch := omega) only [QSa, QSb, QSc, QSd, QSe, QSf, QSg, List.getElem?_cons_zero, List.getElem?_cons_succ, List.set_cons_zero, List.set_cons_succ, Option.bind_some, Option.map_some, getAll, startE, List.cons_append, List.nil_append, List.append_nil, List.map_cons, List.map_nil, List.length_cons, List.length_nil, List.any_cons, List.any_nil, Bool.or_false, Bool.and_true, Bool.true_and, Bool.or_self, Bool.false_or, Bool.false_eq_true, ↓reduceIte, eq_self, Bool.not_true, Bool.not_false, decide_true, decide_false, decide_eq_true_eq, List.contains_nil, List.contains_cons, Option.some_beq_none, Option.some_beq_some, Nat.reduceBEq, Bool.or_true, Bool.true_or, Bool.and_false, Bool.false_and, Option.isSome_some, Int.cast_ofNat_Int, Nat.reduceAdd, Nat.reduceSub, List.drop_nil, List.reduceReplicate, ↓bindR, Int.reduceAdd, Int.reduceSub, Int.reduceMul, Nat.reduceLT, Nat.reduceLeDiff, Int.reduceLT, Int.reduceLE, Nat.reduceEqDiff, Int.reduceEq, Int.reduceBNe, Bool.decide_eq_true, Bool.decide_eq_false, not_true_eq_false, not_false_eq_true, ne_eq, Nat.zero_add, Int.reduceNeg, List.isEmpty_cons, List.isEmpty_nil, List.length_map, List.length_range, List.length_append, List.length_replicate, List.drop_zero, List.drop_succ_cons, reduceCtorEq, FX, i1, i2]
      rfl
    rw [show (rowArcs k).map (fun p => pairI (r.getD p.1 0, r.getD p.2 0)) = ((rowArcs k).map fun p => (r.getD p.1 0, r.getD p.2 0)).map pairI by rw [List.map_map]; rfl]
    simp -implicitDefEqProofs (disch := omega) only [QSa, QSb, QSc, QSd, QSe, QSf, QSg, List.getElem?_cons_zero, List.getElem?_cons_succ, List.set_cons_zero, List.set_cons_succ, Option.bind_some, Option.map_some, getAll, startE, List.cons_append, List.nil_append, List.append_nil, List.map_cons, List.map_nil, List.length_cons, List.length_nil, List.any_cons, List.any_nil, Bool.or_false, Bool.and_true, Bool.true_and, Bool.or_self, Bool.false_or, Bool.false_eq_true, ↓reduceIte, eq_self, Bool.not_true, Bool.not_false, decide_true, decide_false, decide_eq_true_eq, List.contains_nil, List.contains_cons, Option.some_beq_none, Option.some_beq_some, Nat.reduceBEq, Bool.or_true, Bool.true_or, Bool.and_false, Bool.false_and, Option.isSome_some, Int.cast_ofNat_Int, Nat.reduceAdd, Nat.reduceSub, List.drop_nil, List.reduceReplicate, ↓bindR, Int.reduceAdd, Int.reduceSub, Int.reduceMul, Nat.reduceLT, Nat.reduceLeDiff, Int.reduceLT, Int.reduceLE, Nat.reduceEqDiff, Int.reduceEq, Int.reduceBNe, Bool.decide_eq_true, Bool.decide_eq_false, not_true_eq_false, not_false_eq_true, ne_eq, Nat.zero_add, Int.reduceNeg, List.isEmpty_cons, List.isEmpty_nil, List.length_map, List.length_range, List.length_append, List.length_replicate, List.drop_zero, List.drop_succ_cons, reduceCtorEq, FX, sL, h1, h2, ge, mul2, i2]
    by_cases h15 : m < 15
    · obtain ⟨j1, j2, j3, j4, j5, j6⟩ := mid h15
      have c14 : ¬ (14 : Int) < (m : Int) := by omega
      have j3' : decide ((300 : Int) < (nodesF (jF m) : Nat)) = false := decide_eq_false (by have := j_nodes m h15; omega)
      have j4' : decide ((4 : Int) < (Lm (m + 1) : Nat)) = false := decide_eq_false (by have := (lm_spec (m + 1) (by omega)).2.2; omega)
      have d6 : decide ((Lm (m + 1) : Int) ≠ (Lm (m + 1) : Nat)) = false := decide_eq_false fun h => h rfl
      have x1 : max 0 ((m : Int) - 1) = ((m - 1 : Nat) : Int) := by omega
      have x2 : min 8 ((m : Int) + 1) + 1 = ((min 8 (m + 1) + 1 : Nat) : Int) := by omega
      generalize hJ : D.tup [.str "and", .tup [T, .tup [.str "not", T2]]] = J at *
      simp -implicitDefEqProofs (disch := omega) only [QSa, QSb, QSc, QSd, QSe, QSf, QSg, List.getElem?_cons_zero, List.getElem?_cons_succ, List.set_cons_zero, List.set_cons_succ, Option.bind_some, Option.map_some, getAll, startE, List.cons_append, List.nil_append, List.append_nil, List.map_cons, List.map_nil, List.length_cons, List.length_nil, List.any_cons, List.any_nil, Bool.or_false, Bool.and_true, Bool.true_and, Bool.or_self, Bool.false_or, Bool.false_eq_true, ↓reduceIte, eq_self, Bool.not_true, Bool.not_false, decide_true, decide_false, decide_eq_true_eq, List.contains_nil, List.contains_cons, Option.some_beq_none, Option.some_beq_some, Nat.reduceBEq, Bool.or_true, Bool.true_or, Bool.and_false, Bool.false_and, Option.isSome_some, Int.cast_ofNat_Int, Nat.reduceAdd, Nat.reduceSub, List.drop_nil, List.reduceReplicate, ↓bindR, Int.reduceAdd, Int.reduceSub, Int.reduceMul, Nat.reduceLT, Nat.reduceLeDiff, Int.reduceLT, Int.reduceLE, Nat.reduceEqDiff, Int.reduceEq, Int.reduceBNe, Bool.decide_eq_true, Bool.decide_eq_false, not_true_eq_false, not_false_eq_true, ne_eq, Nat.zero_add, Int.reduceNeg, List.isEmpty_cons, List.isEmpty_nil, List.length_map, List.length_range, List.length_append, List.length_replicate, List.drop_zero, List.drop_succ_cons, reduceCtorEq, FX, c14, b0, hJ, j1, j2, j3, j3', j4, j4', j5, d6, x1, x2, rangeD_nn]
      rw [compRm (enc := dI) (fun o => .bl (decide (o = m))) (List.range' (m - 1) (min 8 (m + 1) + 1 - (m - 1))) ?hj ?he ?hh ?hl]
      case hj => rfl
      case he => rfl
      case hl => rw [List.length_range']; omega
      case hh =>
        intro o ho
        have ho' := List.mem_range'_1.1 ho
        have w1 := c_row_web (n := n) (m := o) (by omega) (by omega)
        have w2 := j6 o (by omega)
        refine ⟨some (.fz (dI o)), ?_⟩
        simp -implicitDefEqProofs (disch := omega) only [QSa, QSb, QSc, QSd, QSe, QSf, QSg, List.getElem?_cons_zero, List.getElem?_cons_succ, List.set_cons_zero, List.set_cons_succ, Option.bind_some, Option.map_some, getAll, startE, List.cons_append, List.nil_append, List.append_nil, List.map_cons, List.map_nil, List.length_cons, List.length_nil, List.any_cons, List.any_nil, Bool.or_false, Bool.and_true, Bool.true_and, Bool.or_self, Bool.false_or, Bool.false_eq_true, ↓reduceIte, eq_self, Bool.not_true, Bool.not_false, decide_true, decide_false, decide_eq_true_eq, List.contains_nil, List.contains_cons, Option.some_beq_none, Option.some_beq_some, Nat.reduceBEq, Bool.or_true, Bool.true_or, Bool.and_false, Bool.false_and, Option.isSome_some, Int.cast_ofNat_Int, Nat.reduceAdd, Nat.reduceSub, List.drop_nil, List.reduceReplicate, ↓bindR, Int.reduceAdd, Int.reduceSub, Int.reduceMul, Nat.reduceLT, Nat.reduceLeDiff, Int.reduceLT, Int.reduceLE, Nat.reduceEqDiff, Int.reduceEq, Int.reduceBNe, Bool.decide_eq_true, Bool.decide_eq_false, not_true_eq_false, not_false_eq_true, ne_eq, Nat.zero_add, Int.reduceNeg, List.isEmpty_cons, List.isEmpty_nil, List.length_map, List.length_range, List.length_append, List.length_replicate, List.drop_zero, List.drop_succ_cons, reduceCtorEq, FX, w1, w2]
      simp -implicitDefEqProofs (disch := omega) only [QSa, QSb, QSc, QSd, QSe, QSf, QSg, List.getElem?_cons_zero, List.getElem?_cons_succ, List.set_cons_zero, List.set_cons_succ, Option.bind_some, Option.map_some, getAll, startE, List.cons_append, List.nil_append, List.append_nil, List.map_cons, List.map_nil, List.length_cons, List.length_nil, List.any_cons, List.any_nil, Bool.or_false, Bool.and_true, Bool.true_and, Bool.or_self, Bool.false_or, Bool.false_eq_true, ↓reduceIte, eq_self, Bool.not_true, Bool.not_false, decide_true, decide_false, decide_eq_true_eq, List.contains_nil, List.contains_cons, Option.some_beq_none, Option.some_beq_some, Nat.reduceBEq, Bool.or_true, Bool.true_or, Bool.and_false, Bool.false_and, Option.isSome_some, Int.cast_ofNat_Int, Nat.reduceAdd, Nat.reduceSub, List.drop_nil, List.reduceReplicate, ↓bindR, Int.reduceAdd, Int.reduceSub, Int.reduceMul, Nat.reduceLT, Nat.reduceLeDiff, Int.reduceLT, Int.reduceLE, Nat.reduceEqDiff, Int.reduceEq, Int.reduceBNe, Bool.decide_eq_true, Bool.decide_eq_false, not_true_eq_false, not_false_eq_true, ne_eq, Nat.zero_add, Int.reduceNeg, List.isEmpty_cons, List.isEmpty_nil, List.length_map, List.length_range, List.length_append, List.length_replicate, List.drop_zero, List.drop_succ_cons, reduceCtorEq, FX, x1, x2, rangeD_nn]
      rw [compRm (enc := dI) (fun o => .bl (decide (o = m))) (List.range' (m - 1) (min 8 (m + 1) + 1 - (m - 1))) ?hj ?he ?hh ?hl]
      case hj => rfl
      case he => rfl
      case hl => rw [List.length_range']; omega
      case hh =>
        intro o ho
        have ce : decide ((o : Int) = (m : Int)) = decide (o = m) := by rw [decide_eq_decide]; omega
        refine ⟨some (.fz (dI o)), ?_⟩
        simp -implicitDefEqProofs (disch := omega) only [QSa, QSb, QSc, QSd, QSe, QSf, QSg, List.getElem?_cons_zero, List.getElem?_cons_succ, List.set_cons_zero, List.set_cons_succ, Option.bind_some, Option.map_some, getAll, startE, List.cons_append, List.nil_append, List.append_nil, List.map_cons, List.map_nil, List.length_cons, List.length_nil, List.any_cons, List.any_nil, Bool.or_false, Bool.and_true, Bool.true_and, Bool.or_self, Bool.false_or, Bool.false_eq_true, ↓reduceIte, eq_self, Bool.not_true, Bool.not_false, decide_true, decide_false, decide_eq_true_eq, List.contains_nil, List.contains_cons, Option.some_beq_none, Option.some_beq_some, Nat.reduceBEq, Bool.or_true, Bool.true_or, Bool.and_false, Bool.false_and, Option.isSome_some, Int.cast_ofNat_Int, Nat.reduceAdd, Nat.reduceSub, List.drop_nil, List.reduceReplicate, ↓bindR, Int.reduceAdd, Int.reduceSub, Int.reduceMul, Nat.reduceLT, Nat.reduceLeDiff, Int.reduceLT, Int.reduceLE, Nat.reduceEqDiff, Int.reduceEq, Int.reduceBNe, Bool.decide_eq_true, Bool.decide_eq_false, not_true_eq_false, not_false_eq_true, ne_eq, Nat.zero_add, Int.reduceNeg, List.isEmpty_cons, List.isEmpty_nil, List.length_map, List.length_range, List.length_append, List.length_replicate, List.drop_zero, List.drop_succ_cons, reduceCtorEq, FX, ce]
      simp -implicitDefEqProofs (disch := omega) only [QSa, QSb, QSc, QSd, QSe, QSf, QSg, List.getElem?_cons_zero, List.getElem?_cons_succ, List.set_cons_zero, List.set_cons_succ, Option.bind_some, Option.map_some, getAll, startE, List.cons_append, List.nil_append, List.append_nil, List.map_cons, List.map_nil, List.length_cons, List.length_nil, List.any_cons, List.any_nil, Bool.or_false, Bool.and_true, Bool.true_and, Bool.or_self, Bool.false_or, Bool.false_eq_true, ↓reduceIte, eq_self, Bool.not_true, Bool.not_false, decide_true, decide_false, decide_eq_true_eq, List.contains_nil, List.contains_cons, Option.some_beq_none, Option.some_beq_some, Nat.reduceBEq, Bool.or_true, Bool.true_or, Bool.and_false, Bool.false_and, Option.isSome_some, Int.cast_ofNat_Int, Nat.reduceAdd, Nat.reduceSub, List.drop_nil, List.reduceReplicate, ↓bindR, Int.reduceAdd, Int.reduceSub, Int.reduceMul, Nat.reduceLT, Nat.reduceLeDiff, Int.reduceLT, Int.reduceLE, Nat.reduceEqDiff, Int.reduceEq, Int.reduceBNe, Bool.decide_eq_true, Bool.decide_eq_false, not_true_eq_false, not_false_eq_true, ne_eq, Nat.zero_add, Int.reduceNeg, List.isEmpty_cons, List.isEmpty_nil, List.length_map, List.length_range, List.length_append, List.length_replicate, List.drop_zero, List.drop_succ_cons, reduceCtorEq, FX, eq_bls]
      rfl
    · have c14 : (14 : Int) < (m : Int) := by omega
      simp -implicitDefEqProofs (disch := omega) only [QSa, QSb, QSc, QSd, QSe, QSf, QSg, List.getElem?_cons_zero, List.getElem?_cons_succ, List.set_cons_zero, List.set_cons_succ, Option.bind_some, Option.map_some, getAll, startE, List.cons_append, List.nil_append, List.append_nil, List.map_cons, List.map_nil, List.length_cons, List.length_nil, List.any_cons, List.any_nil, Bool.or_false, Bool.and_true, Bool.true_and, Bool.or_self, Bool.false_or, Bool.false_eq_true, ↓reduceIte, eq_self, Bool.not_true, Bool.not_false, decide_true, decide_false, decide_eq_true_eq, List.contains_nil, List.contains_cons, Option.some_beq_none, Option.some_beq_some, Nat.reduceBEq, Bool.or_true, Bool.true_or, Bool.and_false, Bool.false_and, Option.isSome_some, Int.cast_ofNat_Int, Nat.reduceAdd, Nat.reduceSub, List.drop_nil, List.reduceReplicate, ↓bindR, Int.reduceAdd, Int.reduceSub, Int.reduceMul, Nat.reduceLT, Nat.reduceLeDiff, Int.reduceLT, Int.reduceLE, Nat.reduceEqDiff, Int.reduceEq, Int.reduceBNe, Bool.decide_eq_true, Bool.decide_eq_false, not_true_eq_false, not_false_eq_true, ne_eq, Nat.zero_add, Int.reduceNeg, List.isEmpty_cons, List.isEmpty_nil, List.length_map, List.length_range, List.length_append, List.length_replicate, List.drop_zero, List.drop_succ_cons, reduceCtorEq, FX, c14]
      rfl
theorem law_true (ns : List Int) (h : ns.length ≤ 63) : prog.call 100 "law" [.scr ns] = .ok (.bl true) false [.non] := by
  rw [show (100 : Nat) = 99 + 1 from rfl, cq_law rfl]
  obtain ⟨r, hr, hr2⟩ : ∃ r : Nat, max 1 (min 3 (ns.length : Int)) = r ∧ r ≤ 3 := ⟨(max 1 (min 3 (ns.length : Int))).toNat, by omega, by omega⟩
  simp -implicitDefEqProofs (disch := omega) only [F_law, QSa, QSb, QSc, QSd, QSe, QSf, QSg, List.getElem?_cons_zero, List.getElem?_cons_succ, List.set_cons_zero, List.set_cons_succ, Option.bind_some, Option.map_some, getAll, startE, List.cons_append, List.nil_append, List.append_nil, List.map_cons, List.map_nil, List.length_cons, List.length_nil, List.any_cons, List.any_nil, Bool.or_false, Bool.and_true, Bool.true_and, Bool.or_self, Bool.false_or, Bool.false_eq_true, ↓reduceIte, eq_self, Bool.not_true, Bool.not_false, decide_true, decide_false, decide_eq_true_eq, List.contains_nil, List.contains_cons, Option.some_beq_none, Option.some_beq_some, Nat.reduceBEq, Bool.or_true, Bool.true_or, Bool.and_false, Bool.false_and, Option.isSome_some, Int.cast_ofNat_Int, Nat.reduceAdd, Nat.reduceSub, List.drop_nil, List.reduceReplicate, ↓bindR, Int.reduceAdd, Int.reduceSub, Int.reduceMul, Nat.reduceLT, Nat.reduceLeDiff, Int.reduceLT, Int.reduceLE, Nat.reduceEqDiff, Int.reduceEq, Int.reduceBNe, Bool.decide_eq_true, Bool.decide_eq_false, not_true_eq_false, not_false_eq_true, ne_eq, Nat.zero_add, Int.reduceNeg, List.isEmpty_cons, List.isEmpty_nil, List.length_map, List.length_range, List.length_append, List.length_replicate, List.drop_zero, List.drop_succ_cons, reduceCtorEq, FX, hr]
  rw [compRm (enc := dI) (fun _ => .bl true) (List.range r) ?hj ?he ?hh ?hl]
  case hj => rfl
  case he => rfl
  case hl => rw [List.length_range]; omega
  case hh =>
    intro k hk
    have hk' := List.mem_range.1 hk
    obtain ⟨x, y, hp⟩ := c_pot (n := 99) (by omega) ns h k (by omega)
    obtain ⟨x', y', he⟩ := right1 (n := 99) (by omega) x y
    refine ⟨some (.fz (dI k)), ?_⟩
    simp -implicitDefEqProofs (disch := omega) only [QSa, QSb, QSc, QSd, QSe, QSf, QSg, List.getElem?_cons_zero, List.getElem?_cons_succ, List.set_cons_zero, List.set_cons_succ, Option.bind_some, Option.map_some, getAll, startE, List.cons_append, List.nil_append, List.append_nil, List.map_cons, List.map_nil, List.length_cons, List.length_nil, List.any_cons, List.any_nil, Bool.or_false, Bool.and_true, Bool.true_and, Bool.or_self, Bool.false_or, Bool.false_eq_true, ↓reduceIte, eq_self, Bool.not_true, Bool.not_false, decide_true, decide_false, decide_eq_true_eq, List.contains_nil, List.contains_cons, Option.some_beq_none, Option.some_beq_some, Nat.reduceBEq, Bool.or_true, Bool.true_or, Bool.and_false, Bool.false_and, Option.isSome_some, Int.cast_ofNat_Int, Nat.reduceAdd, Nat.reduceSub, List.drop_nil, List.reduceReplicate, ↓bindR, Int.reduceAdd, Int.reduceSub, Int.reduceMul, Nat.reduceLT, Nat.reduceLeDiff, Int.reduceLT, Int.reduceLE, Nat.reduceEqDiff, Int.reduceEq, Int.reduceBNe, Bool.decide_eq_true, Bool.decide_eq_false, not_true_eq_false, not_false_eq_true, ne_eq, Nat.zero_add, Int.reduceNeg, List.isEmpty_cons, List.isEmpty_nil, List.length_map, List.length_range, List.length_append, List.length_replicate, List.drop_zero, List.drop_succ_cons, reduceCtorEq, FX, hp, he]
  have al : bltD .all [.lst ((List.range r).map fun _ => .bl true)] = some (.fz (.bl true)) := by
    rw [allQ (List.range r) fun _ => true]
    simp
  simp -implicitDefEqProofs (disch := omega) only [QSa, QSb, QSc, QSd, QSe, QSf, QSg, List.getElem?_cons_zero, List.getElem?_cons_succ, List.set_cons_zero, List.set_cons_succ, Option.bind_some, Option.map_some, getAll, startE, List.cons_append, List.nil_append, List.append_nil, List.map_cons, List.map_nil, List.length_cons, List.length_nil, List.any_cons, List.any_nil, Bool.or_false, Bool.and_true, Bool.true_and, Bool.or_self, Bool.false_or, Bool.false_eq_true, ↓reduceIte, eq_self, Bool.not_true, Bool.not_false, decide_true, decide_false, decide_eq_true_eq, List.contains_nil, List.contains_cons, Option.some_beq_none, Option.some_beq_some, Nat.reduceBEq, Bool.or_true, Bool.true_or, Bool.and_false, Bool.false_and, Option.isSome_some, Int.cast_ofNat_Int, Nat.reduceAdd, Nat.reduceSub, List.drop_nil, List.reduceReplicate, ↓bindR, Int.reduceAdd, Int.reduceSub, Int.reduceMul, Nat.reduceLT, Nat.reduceLeDiff, Int.reduceLT, Int.reduceLE, Nat.reduceEqDiff, Int.reduceEq, Int.reduceBNe, Bool.decide_eq_true, Bool.decide_eq_false, not_true_eq_false, not_false_eq_true, ne_eq, Nat.zero_add, Int.reduceNeg, List.isEmpty_cons, List.isEmpty_nil, List.length_map, List.length_range, List.length_append, List.length_replicate, List.drop_zero, List.drop_succ_cons, reduceCtorEq, FX, al]
  rfl
end Lw

open PySem PySem.W PyProof.Rows
set_option maxRecDepth 100000 in
set_option maxHeartbeats 0 in
theorem PySem.Challenge.cw_askedsodeep_k63_whole_sentences_of_rows_holds : PySem.Challenge.rw_askedsodeep_k63_whole_sentences_of_rows.Holds := by
  w_on; o_law; k_head; (case hw => w_witness2)
  k_fill
  refine Mp.walkP Lw.gi (l := PySem.Challenge.rw_askedsodeep_k63_whole_sentences_of_rows) (n := 63) (k := 100) (x := "script") rfl (by decide) rfl ⟨rfl, by decide, by decide⟩ Lw.law_true (fun w h Y => PySem.W.kIn_of Y) ?F
  case F =>
    intro w mg fa h KX G hmg
    refine' Lw.all_mk KX G hmg ?a0 ?l0 ?c0 ?k0 ?a1 ?l1 ?c1 ?k1 ?a2 ?l2 ?c2 ?k2 ?t2 ?a3 ?l3 ?c3 ?k3 ?a4 ?l4 ?c4 ?k4 ?a5 ?l5 ?c5 ?k5 ?a6 ?l6 ?c6 ?k6 ?a7 ?l7 ?c7 ?k7 ?a8 ?l8 ?c8 ?k8 ?a9 ?l9 ?c9 ?k9 ?a10 ?l10 ?c10 ?k10 ?a11 ?l11 ?c11 ?k11 ?a12 ?l12 ?c12 ?k12 ?a13 ?l13 ?c13 ?k13 ?a14 ?l14 ?c14 ?k14 ?a15 ?l15 ?c15 ?k15 ?a16 ?l16 ?c16 ?k16 ?a17 ?l17 ?c17 ?k17 ?a18 ?l18 ?c18 ?k18 ?a19 ?l19 ?c19 ?k19 ?a20 ?l20 ?c20 ?k20 ?a21 ?l21 ?c21 ?k21 ?a22 ?l22 ?c22 ?k22 ?q0 ?q1 ?q2 ?q3 ?z0 ?z1 ?z2 ?z3 ?z4 ?z5 ?z6 ?z7 ?z8 ?z9 ?z10 ?z11 ?z12 ?z13 ?z14
    (case a0 => k_is)
    (case l0 => k_is)
    (case c0 => k_is)
    (case k0 => k_is)
    (case a1 => k_is)
    (case l1 => k_is)
    (case c1 => k_is)
    (case k1 => k_is)
    (case a2 => k_is)
    (case l2 => k_is)
    (case c2 => k_is)
    (case k2 => k_is)
    (case t2 => k_is)
    (case a3 => k_is)
    (case l3 => k_is)
    (case c3 => k_is)
    (case k3 => k_is)
    (case a4 => k_is)
    (case l4 => k_is)
    (case c4 => k_is)
    (case k4 => k_is)
    (case a5 => k_is)
    (case l5 => k_is)
    (case c5 => k_is)
    (case k5 => k_is)
    (case a6 => k_is)
    (case l6 => k_is)
    (case c6 => k_is)
    (case k6 => k_is)
    (case a7 => k_is)
    (case l7 => k_is)
    (case c7 => k_is)
    (case k7 => k_is)
    (case a8 => k_is)
    (case l8 => k_is)
    (case c8 => k_is)
    (case k8 => k_is)
    (case a9 => k_is)
    (case l9 => k_is)
    (case c9 => k_is)
    (case k9 => k_is)
    (case a10 => k_is)
    (case l10 => k_is)
    (case c10 => k_is)
    (case k10 => k_is)
    (case a11 => k_is)
    (case l11 => k_is)
    (case c11 => k_is)
    (case k11 => k_is)
    (case a12 => k_is)
    (case l12 => k_is)
    (case c12 => k_is)
    (case k12 => k_is)
    (case a13 => k_is)
    (case l13 => k_is)
    (case c13 => k_is)
    (case k13 => k_is)
    (case a14 => k_is)
    (case l14 => k_is)
    (case c14 => k_is)
    (case k14 => k_is)
    (case a15 => k_is)
    (case l15 => k_is)
    (case c15 => k_is)
    (case k15 => k_is)
    (case a16 => k_is)
    (case l16 => k_is)
    (case c16 => k_is)
    (case k16 => k_is)
    (case a17 => k_is)
    (case l17 => k_is)
    (case c17 => k_is)
    (case k17 => k_is)
    (case a18 => k_is)
    (case l18 => k_is)
    (case c18 => k_is)
    (case k18 => k_is)
    (case a19 => k_is)
    (case l19 => k_is)
    (case c19 => k_is)
    (case k19 => k_is)
    (case a20 => k_is)
    (case l20 => k_is)
    (case c20 => k_is)
    (case k20 => k_is)
    (case a21 => k_is)
    (case l21 => k_is)
    (case c21 => k_is)
    (case k21 => k_is)
    (case a22 => k_is)
    (case l22 => k_is)
    (case c22 => k_is)
    (case k22 => k_is)
    (case q0 => k_is)
    (case q1 => k_is)
    (case q2 => k_is)
    (case q3 => k_is)
    (case z0 => k_is)
    (case z1 => k_is)
    (case z2 => k_is)
    (case z3 => k_is)
    (case z4 => k_is)
    (case z5 => k_is)
    (case z6 => k_is)
    (case z7 => k_is)
    (case z8 => k_is)
    (case z9 => k_is)
    (case z10 => k_is)
    (case z11 => k_is)
    (case z12 => k_is)
    (case z13 => k_is)
    (case z14 => k_is)
