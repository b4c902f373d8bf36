import PyProof.Rows.All
import Wide.All
import OpenK.AllK
import Wide.FinOn
import HandS.Base
import HandS.Call
import HandS.List
import HandS.Comp
import HandS.Ends
import HandS.Iter
import HandS.Words
import HandS.More
import HandS.TupAny
import HandS.Deep
import HandS.TupMul
import HandS.Style
import HandS.Conv
import HandS.SortRule
import HandS.SortInts
import HandS.NoneIn
import HandS.Zip
import HandS.Strs
import HandS.IsInst
import HandS.SetFor
import KE.GoesEnum
import HandS.Defaults
import HandS.HeadEnd
import HandS.HeadHook1
import HandS.HeadHook2
import KE.KStateDown
import HandS.Head0
import HandS.Head1
import HandS.Head2
import PySem.Challenge.RW_savebands_k71_plans_and_rates_told_back
set_option Elab.async false
set_option linter.all false
set_option maxRecDepth 100000
/-! Pure data and a small language over it, with its meaning as a function. -/
namespace PV
open PySem PySem.Spec PyProof.Rows L2

/-- pure data; `lst true`: a list with one reference alone, `io`: a list handed in to be changed, `scr`: the script -/
inductive D where
  | non | bl (b : Bool) | int (i : Int) | str (x : Str) | tup (l : List D) | lst (o : Bool) (l : List D) | io (l : List D) | scr (ns : List Int)

mutual
def D.freeze : D → D
  | .non => .non
  | .bl b => .bl b
  | .int i => .int i
  | .str x => .str x
  | .tup l => .tup (freezes l)
  | .lst _ l => .lst false l
  | .io l => .lst false l
  | .scr ns => .scr ns
def freezes : List D → List D
  | [] => []
  | d :: r => d.freeze :: freezes r
end
def D.isOwn : D → Bool
  | .lst o _ => o
  | .io _ => true
  | _ => false
/-- as it lies in a slot -/
def D.top : D → D
  | .lst o l => .lst o l
  | .io l => .io l
  | d => d.freeze
mutual
def D.toPy : D → PyData
  | .non => .none
  | .bl b => .bool b
  | .int i => .int i
  | .str x => .str x
  | .tup l => .tuple (toPys l)
  | .lst _ l => .list (toPys l)
  | .io l => .list (toPys l)
  | .scr ns => .list (ns.map PyData.int)
def toPys : List D → List PyData
  | [] => []
  | d :: r => d.toPy :: toPys r
end
mutual
/-- what == reads: texts in order, not too deep -/
def D.okEq : Nat → D → Bool
  | _, .non => true
  | _, .bl _ => true
  | _, .int _ => true
  | _, .str x => PyData.strOk x
  | 0, .tup _ => false
  | 0, .lst _ _ => false
  | n + 1, .tup l => okEqs n l
  | n + 1, .lst _ l => okEqs n l
  | _, .io _ => false
  | _, .scr _ => false
def okEqs : Nat → List D → Bool
  | _, [] => true
  | n, d :: r => d.okEq n && okEqs n r
end
/-- == -/
def D.eqv (d e : D) : Bool := PyData.eqv d.toPy e.toPy
def depthEq : Nat := 12
abbrev lim : Nat := 1000000

def D.isFlat : D → Bool
  | .non => true
  | .bl _ => true
  | .int _ => true
  | .str _ => true
  | _ => false
def D.ints : List D → Option (List Int)
  | [] => some []
  | .int i :: r => (D.ints r).map (i :: ·)
  | _ :: _ => none
def D.bools : List D → Option (List Bool)
  | [] => some []
  | .bl i :: r => (D.bools r).map (i :: ·)
  | _ :: _ => none
def D.pairs : List D → Option (List (Int × Int))
  | [] => some []
  | .tup [.int i, .int j] :: r => (D.pairs r).map ((i, j) :: ·)
  | _ :: _ => none

/-! ### operations -/
inductive Bop where | add | sub | mul | fdiv | mod | pow
inductive Cop where | lt | le | gt | ge | eq | ne | isN | notN | isB | notB | isin | notin
inductive Blt where | len | max2 | min2 | minL | maxL | sum | all | any | sorted | sset | tuple | list | int | str | isInt | isBool | isTup | isList | isStr | abs | range1 | range2
  deriving DecidableEq

def mulOk (i j : Int) : Bool := (decide (-(2 ^ 64) < i) && decide (i < 2 ^ 64)) || (decide (-(2 ^ 64) < j) && decide (j < 2 ^ 64))
def bin : Bop → D → D → Option D
  | .add, .int i, .int j => some (.int (i + j))
  | .add, .lst _ a, .lst _ b => if a.length + b.length ≤ lim then some (.lst true (a ++ b)) else none
  | .add, .tup a, .tup b => if a.length + b.length ≤ lim then some (.tup (a ++ b)) else none
  | .add, .str x, .str y => if x.length + y.length ≤ lim then some (.str (x ++ y)) else none
  | .sub, .int i, .int j => some (.int (i - j))
  | .mul, .int i, .int j => if mulOk i j = true then some (.int (i * j)) else none
  | .mul, .tup a, .int k => if a.isEmpty = false ∧ a.length ≤ 1000 ∧ -1000 ≤ k ∧ k ≤ 1000 then some (.tup (freezes (List.replicate k.toNat a).flatten)) else none
  | .fdiv, .int i, .int j => if 0 < j then (if j < 1073741824 then some (.int (i / j)) else none) else if j < 0 ∧ -1073741824 < j then some (.int (i.fdiv j)) else none
  | .mod, .int i, .int j => if 0 < j then some (.int (i % j)) else none
  | .pow, .int i, .int j => if 0 ≤ j ∧ j ≤ 1000 ∧ i.natAbs < 1000000 then some (.int (i ^ j.toNat)) else none
  | _, _, _ => none
def eqOk (a b : D) : Bool := a.okEq depthEq && b.okEq depthEq
def seqOf : D → Option (List D)
  | .tup l => some l
  | .lst _ l => some l
  | _ => none
def cmp : Cop → D → D → Option Bool
  | .lt, .int i, .int j => some (decide (i < j))
  | .lt, .tup a, .tup b => (D.ints a).bind fun a => (D.ints b).map fun b => HT.lexLt a b
  | .le, .int i, .int j => some (decide (i ≤ j))
  | .gt, .int i, .int j => some (decide (j < i))
  | .ge, .int i, .int j => some (decide (j ≤ i))
  | .eq, a, b => if eqOk a b = true then some (a.eqv b) else none
  | .ne, a, b => if eqOk a b = true then some (!a.eqv b) else none
  | .isN, .non, .non => some true
  | .isN, .bl _, .non => some false
  | .isN, .int _, .non => some false
  | .isN, .str _, .non => some false
  | .isN, .tup _, .non => some false
  | .isN, .lst _ _, .non => some false
  | .notN, .non, .non => some false
  | .notN, .bl _, .non => some true
  | .notN, .int _, .non => some true
  | .notN, .str _, .non => some true
  | .notN, .tup _, .non => some true
  | .notN, .lst _ _, .non => some true
  | .isB, .bl a, .bl b => some (decide (a = b))
  | .notB, .bl a, .bl b => some (!decide (a = b))
  | .isin, .str x, .str y => some (!(Builtin.Str.occurrences y x 0 y.length 1).isEmpty)
  | .notin, .str x, .str y => some (!(!(Builtin.Str.occurrences y x 0 y.length 1).isEmpty))
  | .isin, a, .tup l => if a.isFlat = true ∧ l.all D.isFlat = true then some (l.any fun y => y.eqv a) else none
  | .notin, a, .tup l => if a.isFlat = true ∧ l.all D.isFlat = true then some (!l.any fun y => y.eqv a) else none
  | .isin, a, .lst o l => if eqOk a (.lst o l) = true then some (l.any fun y => y.eqv a) else none
  | .notin, a, .lst o l => if eqOk a (.lst o l) = true then some (!l.any fun y => y.eqv a) else none
  | _, _, _ => none
def neg : D → Option D
  | .int i => some (.int (-i))
  | _ => none
def idx : D → D → Option D
  | .tup l, .int i => atI l i
  | .lst _ l, .int i => atI l i
  | .scr ns, .int i => (atI ns i).map .int
  | .str z, .int i => if z.length ≤ lim then (atI z.cps.toList i).map fun c => .str ⟨#[c]⟩ else none
  | _, _ => none
def cutL {α : Type} (xs : List α) (lo hi : Option Int) : List α := (xs.drop (HT.sIx xs.length 0 lo)).take (HT.sIx xs.length xs.length hi - HT.sIx xs.length 0 lo)
def slice : D → Option Int → Option Int → Option D
  | .tup l, lo, hi => some (.tup (freezes (cutL l lo hi)))
  | .lst _ l, lo, hi => some (.lst true (cutL l lo hi))
  | _, _, _ => none
def rev : D → Option D
  | .lst _ l => some (.lst true l.reverse)
  | _ => none
def insU (x : Int) : List Int → List Int
  | [] => [x]
  | y :: r => if x < y then x :: y :: r else if x = y then y :: r else y :: insU x r
/-- sorted(set(..)) -/
def sortU : List Int → List Int
  | [] => []
  | x :: r => insU x (sortU r)
def insI (x : Int) : List Int → List Int
  | [] => [x]
  | y :: r => if x ≤ y then x :: y :: r else y :: insI x r
def sortI : List Int → List Int
  | [] => []
  | x :: r => insI x (sortI r)
def ltP (p q : Int × Int) : Bool := decide (p.1 < q.1) || (decide (p.1 = q.1) && decide (p.2 < q.2))
def insP (x : Int × Int) : List (Int × Int) → List (Int × Int)
  | [] => [x]
  | y :: r => if ltP y x = true then y :: insP x r else x :: y :: r
def sortP : List (Int × Int) → List (Int × Int)
  | [] => []
  | x :: r => insP x (sortP r)
def pairD (p : Int × Int) : D := .tup [.int p.1, .int p.2]
def minL : List Int → Int
  | [] => 0
  | [x] => x
  | x :: y :: r => if x ≤ minL (y :: r) then x else minL (y :: r)
def maxL : List Int → Int
  | [] => 0
  | [x] => x
  | x :: y :: r => if maxL (y :: r) ≤ x then x else maxL (y :: r)
def rangeL (lo hi : Int) : List D := (List.range (hi - lo).toNat).map fun (i : Nat) => .int (lo + i)
def rangeOk (i : Int) : Bool := decide (-(2 ^ 61) ≤ i) && decide (i ≤ 2 ^ 61)
def blt : Blt → List D → Option D
  | .len, [.tup l] => some (.int l.length)
  | .len, [.lst _ l] => some (.int l.length)
  | .len, [.scr l] => some (.int l.length)
  | .len, [.str x] => if x.length ≤ lim then some (.int x.length) else none
  | .max2, [.int i, .int j] => some (.int (if j > i then j else i))
  | .min2, [.int i, .int j] => some (.int (if j < i then j else i))
  | .minL, [.lst _ l] => (D.ints l).bind fun l => if l.isEmpty = true then none else some (.int (minL l))
  | .maxL, [.lst _ l] => (D.ints l).bind fun l => if l.isEmpty = true then none else some (.int (maxL l))
  | .sum, [.lst _ l] => (D.ints l).map fun l => .int l.sum
  | .all, [.lst _ l] => (D.bools l).map fun l => .bl (l.all id)
  | .any, [.lst _ l] => (D.bools l).map fun l => .bl (l.any id)
  | .sset, [.lst _ l] => (D.ints l).bind fun l => if l.length < 64 then some (.lst true ((sortU l).map .int)) else none
  | .sorted, [.lst _ l] => (D.pairs l).map fun l => .lst true ((sortP l).map pairD)
  | .sorted, [.tup l] => (D.pairs l).map fun l => .lst true ((sortP l).map pairD)
  | .tuple, [.lst _ l] => some (.tup l)
  | .tuple, [.tup l] => some (.tup l)
  | .list, [.lst _ l] => some (.lst true l)
  | .list, [.tup l] => some (.lst true (freezes l))
  | .range1, [.int j] => if rangeOk j = true ∧ j ≤ lim then some (.lst true (rangeL 0 j)) else none
  | .range2, [.int i, .int j] => if rangeOk i = true ∧ rangeOk j = true ∧ j - i ≤ lim then some (.lst true (rangeL i j)) else none
  | .int, [.int i] => some (.int i)
  | .abs, [.int i] => some (.int (if i < 0 then -i else i))
  | .isInt, [d] => match d with | .int _ => some (.bl true) | .bl _ => some (.bl true) | .non => some (.bl false) | .str _ => some (.bl false) | .tup _ => some (.bl false) | .lst _ _ => some (.bl false) | _ => none
  | .isBool, [d] => match d with | .int _ => some (.bl false) | .bl _ => some (.bl true) | .non => some (.bl false) | .str _ => some (.bl false) | .tup _ => some (.bl false) | .lst _ _ => some (.bl false) | _ => none
  | .isTup, [d] => match d with | .int _ => some (.bl false) | .bl _ => some (.bl false) | .non => some (.bl false) | .str _ => some (.bl false) | .tup _ => some (.bl true) | .lst _ _ => some (.bl false) | _ => none
  | .isList, [d] => match d with | .int _ => some (.bl false) | .bl _ => some (.bl false) | .non => some (.bl false) | .str _ => some (.bl false) | .tup _ => some (.bl false) | .lst _ _ => some (.bl true) | _ => none
  | .isStr, [d] => match d with | .int _ => some (.bl false) | .bl _ => some (.bl false) | .non => some (.bl false) | .str _ => some (.bl true) | .tup _ => some (.bl false) | .lst _ _ => some (.bl false) | _ => none
  | _, _ => none

/-! ### slots -/
abbrev Env := List (Option D)
/-- an operand: a value, or an owned list where it lies -/
inductive Opd where | v (d : D) | b (i : Nat)
def res (e : Env) : Opd → Option D
  | .v d => some d
  | .b i => match e[i]? with
    | some (some (.lst _ l)) => some (.lst false l)
    | some (some (.io l)) => some (.lst false l)
    | _ => none
def ress (e : Env) : List Opd → Option (List D)
  | [] => some []
  | o :: r => (res e o).bind fun d => (ress e r).map (d :: ·)
def val : Opd → Option D
  | .v d => some d
  | .b _ => none
def vals : List Opd → Option (List D)
  | [] => some []
  | o :: r => (val o).bind fun d => (vals r).map (d :: ·)
def rdVar (e : Env) (i : Nat) : Option (Opd × Env) := match e[i]? with
  | some (some (.lst true l)) => some (.v (.lst false l), e.set i (some (.lst false l)))
  | some (some (.io _)) => none
  | some (some d) => some (.v d, e)
  | _ => none
def rdMov (e : Env) (i : Nat) : Option (Opd × Env) := match e[i]? with
  | some (some (.io _)) => none
  | some (some d) => some (.v d, e.set i none)
  | _ => none
def rdBor (e : Env) (i : Nat) : Option (Opd × Env) := match e[i]? with
  | some (some _) => some (.b i, e)
  | _ => none
def setVar (e : Env) (i : Nat) (d : D) : Option Env := match e[i]? with
  | some (some (.io _)) => none
  | some _ => match d with
    | .io _ => none
    | d => some (e.set i (some d.top))
  | none => none

/-! ### the language -/
inductive Tg where
  | name (i : Nat)
  | tup (ts : List Tg)
mutual
inductive IE where
  | non | bl (b : Bool) | int (i : Int) | str (x : Str)
  | glo (x : Str) (i : Int)
  | var (i : Nat) | mov (i : Nat) | bor (i : Nat)
  | bin (op : Bop) (a b : IE)
  | neg (a : IE)
  | cmp (op : Cop) (a b : IE)
  | chain (o1 o2 : Cop) (a b c : IE)
  | chain3 (o1 o2 o3 : Cop) (a b c d : IE)
  | boolop (isAnd : Bool) (es : IEs)
  | not (a : IE)
  | ife (c a b : IE)
  | tup (es : IEs) | lst (es : IEs)
  | idx (a b : IE)
  | slice (a : IE) (lo hi : IO)
  | rev (a : IE)
  | call (f : Nat) (es : IEs)
  | callio (f : Nat) (i : Nat) (es : IEs)
  | blt (b : Blt) (es : IEs)
  | comp (elt : IE) (tg : Tg) (it : IT) (conds : IEs) (own : List Nat)
inductive IEs where | nil | cons (a : IE) (r : IEs)
inductive IO where | none | some (a : IE)
inductive IT where | seq (a : IE) | range (es : IEs) | enum (a : IE) | zip (a b : IE)
end

abbrev Ora := Nat → List D → Option (D × List D)
/-- the ends of a statement -/
inductive Out where | nx (e : Env) | rt (d : D) (e : Env) | bk (e : Env) | ct (e : Env)

def evOp1 (p : D → Option D) (r : Option (Opd × Env)) : Option (Opd × Env) := r.bind fun x => (res x.2 x.1).bind fun d => (p d).map fun d => (.v d, x.2)
def evOp2 (p : D → D → Option D) (r : Option (Opd × Env)) (g : Env → Option (Opd × Env)) : Option (Opd × Env) :=
  r.bind fun x => (g x.2).bind fun y => (res y.2 x.1).bind fun d => (res y.2 y.1).bind fun d' => (p d d').map fun r => (.v r, y.2)
def cmpD (op : Cop) (a b : D) : Option D := (cmp op a b).map .bl
def toB (r : Option (Opd × Env)) : Option (Bool × Env) := r.bind fun x => match x.1 with | .v (.bl b) => some (b, x.2) | _ => none

def stores (f : Tg → D → Env → Option Env) : List Tg → List D → Env → Option Env
  | [], [], e => some e
  | t :: ts, d :: ds, e => (f t d e).bind (stores f ts ds)
  | _, _, _ => none
mutual
def store : Tg → D → Env → Option Env
  | .name i, d, e => setVar e i d
  | .tup ts, .tup ds, e => storeL ts ds e
  | .tup ts, .lst _ ds, e => storeL ts ds e
  | .tup _, _, _ => none
def storeL : List Tg → List D → Env → Option Env
  | [], [], e => some e
  | t :: ts, d :: ds, e => (store t d e).bind (storeL ts ds)
  | _, _, _ => none
end

/-- the turns of a comprehension -/
def compL (f : D → Env → Option (Option D × Env)) : List D → Env → Option (List D × Env)
  | [], e => some ([], e)
  | d :: ds, e => (f d e).bind fun x => (compL f ds x.2).map fun y => (match x.1 with | some z => z :: y.1 | none => y.1, y.2)
def wipeE (e : Env) : List Nat → Env
  | [] => e
  | v :: vs => (wipeE e vs).set v none
/-- own names as they were, the others as they are -/
def unwipe (e0 : Env) (own : List Nat) (e : Env) : Env := own.foldl (fun e i => e.set i (e0.getD i none)) e
def freeAt (e : Env) (i : Nat) : Bool := match e[i]? with
  | some (some d) => !d.isOwn
  | some none => true
  | none => false
def rangeC (i j : Int) : List D := (List.range (i - j).toNat).map fun (k : Nat) => .int (i - k)
def rangeD : List D → Option (List D)
  | [.int j] => if rangeOk j = true then some (rangeL 0 j) else none
  | [.int i, .int j] => if rangeOk i = true ∧ rangeOk j = true then some (rangeL i j) else none
  | [.int i, .int j, .int c] => if rangeOk i = true ∧ rangeOk j = true ∧ c = -1 then some (rangeC i j) else none
  | _ => none
def enumL (n : Nat) : List D → List D
  | [] => []
  | d :: r => .tup [.int n, d] :: enumL (n + 1) r
def zipL : List D → List D → List D
  | a :: r, b :: s => .tup [a, b] :: zipL r s
  | _, _ => []
def zipD (d d' : D) : Option (List D) := (seqOf d).bind fun l => (seqOf d').bind fun m => some (zipL l m)
def intD : D → Option Int
  | .int i => some i
  | _ => none
def partD : Opd → Option (Option Int)
  | .v (.int i) => some (some i)
  | _ => none

def callIo (C : Ora) (k i : Nat) (r : Option (List Opd × Env)) : Option (Opd × Env) :=
  r.bind fun x => (vals x.1).bind fun ds => match x.2[i]? with
      | some (some (.lst true l)) => (C k (.io l :: freezes ds)).map fun r => (.v r.1, x.2.set i (some (.lst true r.2)))
      | some (some (.io l)) => (C k (.io l :: freezes ds)).map fun r => (.v r.1, x.2.set i (some (.io r.2)))
      | _ => none
mutual
def ev (C : Ora) : IE → Env → Option (Opd × Env)
  | .non, e => some (.v .non, e)
  | .bl b, e => some (.v (.bl b), e)
  | .int i, e => some (.v (.int i), e)
  | .str x, e => some (.v (.str x), e)
  | .glo _ i, e => some (.v (.int i), e)
  | .var i, e => rdVar e i
  | .mov i, e => rdMov e i
  | .bor i, e => rdBor e i
  | .bin op a b, e => evOp2 (bin op) (ev C a e) fun e => ev C b e
  | .neg a, e => evOp1 neg (ev C a e)
  | .cmp op a b, e => evOp2 (cmpD op) (ev C a e) fun e => ev C b e
  | .chain o1 o2 a b c, e => (ev C a e).bind fun x => (ev C b x.2).bind fun y => (val x.1).bind fun d => (val y.1).bind fun d' => (cmp o1 d d').bind fun r =>
      if r = true then (ev C c y.2).bind fun z => (val z.1).bind fun d'' => (cmp o2 d' d'').map fun r => (.v (.bl r), z.2) else some (.v (.bl false), y.2)
  | .chain3 o1 o2 o3 a b c d, e => (ev C a e).bind fun x => (ev C b x.2).bind fun y => (val x.1).bind fun da => (val y.1).bind fun db => (cmp o1 da db).bind fun r =>
      if r = true then (ev C c y.2).bind fun z => (val z.1).bind fun dc => (cmp o2 db dc).bind fun r2 =>
        if r2 = true then (ev C d z.2).bind fun w => (val w.1).bind fun dd => (cmp o3 dc dd).map fun r => (.v (.bl r), w.2) else some (.v (.bl false), z.2)
      else some (.v (.bl false), y.2)
  | .boolop k es, e => (evB C k es e).map fun x => (.v (.bl x.1), x.2)
  | .not a, e => (toB (ev C a e)).map fun x => (.v (.bl (!x.1)), x.2)
  | .ife c a b, e => (toB (ev C c e)).bind fun x => if x.1 = true then ev C a x.2 else ev C b x.2
  | .tup es, e => (evs C es e).bind fun x => (vals x.1).bind fun ds => if ds.length ≤ lim then some (.v (.tup ds), x.2) else none
  | .lst es, e => (evs C es e).bind fun x => (vals x.1).bind fun ds => if ds.length ≤ lim then some (.v (.lst true (freezes ds)), x.2) else none
  | .idx a b, e => evOp2 idx (ev C a e) fun e => ev C b e
  | .slice a lo hi, e => (ev C a e).bind fun x => (evO C lo x.2).bind fun y => (evO C hi y.2).bind fun z => (res z.2 x.1).bind fun d => (slice d y.1 z.1).map fun r => (.v r, z.2)
  | .rev a, e => evOp1 rev (ev C a e)
  | .call f es, e => (evs C es e).bind fun x => (vals x.1).bind fun ds => (C f (freezes ds)).map fun r => (.v r.1, x.2)
  | .callio f i es, e => (rdBor e i).bind fun _ => callIo C f i (evs C es e)
  | .blt b es, e => (evs C es e).bind fun x => (ress x.2 x.1).bind fun ds => (blt b ds).map fun r => (.v r, x.2)
  | .comp elt tg it conds own, e => (evI C it e).bind fun x => if own.all (freeAt x.2) = true then
      (compL (fun d e => (store tg d e).bind fun e1 => (evB C true conds e1).bind fun y => if y.1 = true then (ev C elt y.2).bind fun z => (val z.1).map fun d => (some d.freeze, wipeE z.2 own) else some (none, wipeE y.2 own)) x.1 (wipeE x.2 own)).bind fun y =>
        if y.1.length ≤ lim then some (.v (.lst true y.1), unwipe x.2 own y.2) else none
      else none
def evs (C : Ora) : IEs → Env → Option (List Opd × Env)
  | .nil, e => some ([], e)
  | .cons a r, e => (ev C a e).bind fun x => (evs C r x.2).map fun y => (x.1 :: y.1, y.2)
/-- and, or of tests -/
def evB (C : Ora) : Bool → IEs → Env → Option (Bool × Env)
  | k, .nil, e => some (k, e)
  | k, .cons a r, e => (toB (ev C a e)).bind fun x => if x.1 = k then evB C k r x.2 else some (x.1, x.2)
def evO (C : Ora) : IO → Env → Option (Option Int × Env)
  | .none, e => some (none, e)
  | .some a, e => (ev C a e).bind fun x => (partD x.1).map fun i => (i, x.2)
/-- what is walked: its items -/
def evI (C : Ora) : IT → Env → Option (List D × Env)
  | .seq a, e => (ev C a e).bind fun x => (val x.1).bind fun d => (seqOf d.freeze).map fun l => (l, x.2)
  | .range es, e => (evs C es e).bind fun x => (vals x.1).bind fun ds => (rangeD ds).map fun l => (l, x.2)
  | .enum a, e => (ev C a e).bind fun x => (val x.1).bind fun d => (seqOf d.freeze).map fun l => (enumL 0 l, x.2)
  | .zip a b, e => (ev C a e).bind fun x => (ev C b x.2).bind fun y => (val x.1).bind fun d => (val y.1).bind fun d' => (zipD d.freeze d'.freeze).map fun l => (l, y.2)
end

mutual
inductive IS where
  | asg (tg : Tg) (a : IE)
  | par (tgs : List Nat) (es : IEs)
  | setI (i : Nat) (k : IE) (a : IE)
  | append (i : Nat) (a : IE)
  | extend (i : Nat) (a : IE)
  | popAt (i : Nat) (k : IE)
  | insAt (i : Nat) (es : IEs)
  | setSl (i : Nat) (lo hi : IE) (a : IE)
  | expr (a : IE)
  | ret (a : IE)
  | ife (c : IE) (a b : ISs)
  | for_ (tg : Tg) (it : IT) (b : ISs)
  | while_ (c : IE) (b : ISs)
  | brk | cont
  | raise
inductive ISs where | nil | cons (a : IS) (r : ISs)
end

def forL (f : D → Env → Option Out) : List D → Env → Option Out
  | [], e => some (.nx e)
  | d :: ds, e => (f d e).bind fun o => match o with
    | .nx e => forL f ds e
    | .ct e => forL f ds e
    | .bk e => some (.nx e)
    | .rt d e => some (.rt d e)
def fuelW : Nat := 1000000
def whileL (c : Env → Option (Bool × Env)) (f : Env → Option Out) : Nat → Env → Option Out
  | 0, _ => none
  | n + 1, e => (c e).bind fun x => if x.1 = true then (f x.2).bind fun o => match o with
      | .nx e => whileL c f n e
      | .ct e => whileL c f n e
      | .bk e => some (.nx e)
      | .rt d e => some (.rt d e)
    else some (.nx x.2)
def setL (e : Env) (i : Nat) (g : List D → Option (List D)) : Option Env := match e[i]? with
  | some (some (.lst true l)) => (g l).map fun l => e.set i (some (.lst true l))
  | some (some (.io l)) => (g l).map fun l => e.set i (some (.io l))
  | _ => none
def putAt (l : List D) (k : D) (d : D) : Option (List D) := match k with
  | .int k => (ixN l.length k).map fun j => l.set j d
  | _ => none
def extL (l : List D) : D → Option (List D)
  | .lst _ m => if l.length + m.length ≤ lim then some (l ++ m) else none
  | _ => none
def popL (l : List D) : D → Option (List D)
  | .int k => if 0 ≤ k ∧ k < l.length ∧ l.length ≤ lim then some (l.eraseIdx k.toNat) else none
  | _ => none
def insL (l : List D) : List D → Option (List D)
  | [.int k, d] => if 0 ≤ k ∧ k ≤ lim ∧ l.length < lim then some (l.take k.toNat ++ [d.freeze] ++ l.drop k.toNat) else none
  | _ => none
def slL (l : List D) : D → D → D → Option (List D)
  | .int x, .int y, .lst _ m => if 0 ≤ x ∧ x ≤ y ∧ x ≤ l.length ∧ l.length + m.length ≤ lim then some (l.take x.toNat ++ m ++ l.drop y.toNat) else none
  | _, _, _ => none
def rdOwn (e : Env) (i : Nat) : Option Unit := match e[i]? with
  | some (some (.lst true _)) => some ()
  | some (some (.io _)) => some ()
  | _ => none
def setAll : List Nat → List D → Env → Option Env
  | [], [], e => some e
  | i :: is, d :: ds, e => (setVar e i d).bind (setAll is ds)
  | _, _, _ => none

mutual
def evS (C : Ora) : IS → Env → Option Out
  | .asg tg a, e => (ev C a e).bind fun x => (val x.1).bind fun d => (store tg d x.2).map .nx
  | .par is es, e => (evs C es e).bind fun x => (vals x.1).bind fun ds => (setAll is ds x.2).map .nx
  | .setI i k a, e => (ev C a e).bind fun x => (val x.1).bind fun d => (rdOwn x.2 i).bind fun _ => (ev C k x.2).bind fun y => (val y.1).bind fun k => (setL y.2 i fun l => putAt l k d.freeze).map .nx
  | .append i a, e => (rdOwn e i).bind fun _ => (ev C a e).bind fun x => (val x.1).bind fun d => (setL x.2 i fun l => if l.length < lim then some (l ++ [d.freeze]) else none).map .nx
  | .extend i a, e => (rdOwn e i).bind fun _ => (ev C a e).bind fun x => (val x.1).bind fun d => (setL x.2 i fun l => extL l d).map .nx
  | .popAt i k, e => (rdOwn e i).bind fun _ => (ev C k e).bind fun x => (val x.1).bind fun d => (setL x.2 i fun l => popL l d).map .nx
  | .insAt i es, e => (rdOwn e i).bind fun _ => (evs C es e).bind fun x => (vals x.1).bind fun ds => (setL x.2 i fun l => insL l ds).map .nx
  | .setSl i lo hi a, e => (ev C a e).bind fun x => (val x.1).bind fun d => (rdOwn x.2 i).bind fun _ => (ev C lo x.2).bind fun y => (val y.1).bind fun k => (ev C hi y.2).bind fun z => (val z.1).bind fun k2 => (setL z.2 i fun l => slL l k k2 d).map .nx
  | .expr a, e => (ev C a e).map fun x => .nx x.2
  | .ret a, e => (ev C a e).bind fun x => (val x.1).map fun d => .rt d x.2
  | .ife c a b, e => (toB (ev C c e)).bind fun x => if x.1 = true then evSs C a x.2 else evSs C b x.2
  | .for_ tg it b, e => (evI C it e).bind fun x => forL (fun d e => (store tg d e).bind fun e => evSs C b e) x.1 x.2
  | .while_ c b, e => whileL (fun e => toB (ev C c e)) (fun e => evSs C b e) fuelW e
  | .brk, e => some (.bk e)
  | .cont, e => some (.ct e)
  | .raise, _ => none
def evSs (C : Ora) : ISs → Env → Option Out
  | .nil, e => some (.nx e)
  | .cons a r, e => (evS C a e).bind fun o => match o with
    | .nx e => evSs C r e
    | o => some o
end

/-- a def: its parameters' number, its slots' number, whether its first parameter is changed, its body -/
structure Fn where
  np : Nat
  ns : Nat
  io : Bool
  body : ISs
def ioOut (b : Bool) (e : Env) : List D := match b with
  | true => (match (e[0]? : Option (Option D)) with
    | some (some (.io l)) => l
    | _ => [])
  | false => []
def argsOk (b : Bool) (ds : List D) : Bool := match b, ds with
  | true, .io _ :: r => r.all fun d => !d.isOwn
  | false, r => r.all fun d => !d.isOwn
  | _, _ => false
def runFn (C : Ora) (f : Fn) (ds : List D) : Option (D × List D) :=
  if ds.length = f.np ∧ f.np ≤ f.ns ∧ argsOk f.io ds = true then
    (evSs C f.body (ds.map some ++ List.replicate (f.ns - f.np) none)).bind fun o => match o with
      | .nx e => some (.non, ioOut f.io e)
      | .rt d e => some (d, ioOut f.io e)
      | _ => none
  else none
/-- the defs call each other so deep -/
def runs (T : Nat → Option Fn) : Nat → Ora
  | 0, _, _ => none
  | n + 1, f, ds => (T f).bind fun fn => runFn (runs T n) fn ds
end PV
set_option Elab.async false
set_option linter.all false
set_option maxRecDepth 100000
/-! How the abstract heap bears pure values, and how a piece of code carries them on. -/
namespace PV
open PySem PySem.Spec PyProof.Rows L2

/-- the script, by its items -/
def SqS (K : PySem.W.Frag) (H : Hp) (a : Addr) (ns : List Int) : Prop :=
  (∃ o, H a = some (.frz o (.lst (ns.map V.int)))) ∨
    ∃ (o : Obj) (its : Array Value) (n : Nat), K.lookup a = some o ∧ o.cls = .type "list" ∧ o.dict = none ∧ o.data = .seq its n ∧ its.size ≤ sizeLine ∧ Vals (ns.map V.int) its.toList

mutual
inductive Rep (K : PySem.W.Frag) (F : Addr → Prop) (H : Hp) : D → V → List Addr → Prop
  | non : Rep K F H .non .non []
  | bl (b : Bool) : Rep K F H (.bl b) (.bl b) []
  | int (i : Int) : Rep K F H (.int i) (.int i) []
  | str (x : Str) : Rep K F H (.str x) (.str x) []
  | tup {a : Addr} {xs : List V} {ds : List D} {L : List Addr} : H a = some (.tup xs) → Reps K F H ds xs L → Rep K F H (.tup ds) (.ref a) L
  | frz {a : Addr} {xs : List V} {ds : List D} : H a = some (.lst xs) → F a → Reps K F H ds xs [] → Rep K F H (.lst false ds) (.ref a) []
  | own {a : Addr} {xs : List V} {ds : List D} : H a = some (.lst xs) → ¬ F a → Reps K F H ds xs [] → Rep K F H (.lst true ds) (.ref a) [a]
  | io {a : Addr} {xs : List V} {ds : List D} : H a = some (.lst xs) → ¬ F a → Reps K F H ds xs [] → Rep K F H (.io ds) (.ref a) [a]
  | scr {a : Addr} {ns : List Int} : SqS K H a ns → Rep K F H (.scr ns) (.ref a) []
inductive Reps (K : PySem.W.Frag) (F : Addr → Prop) (H : Hp) : List D → List V → List Addr → Prop
  | nil : Reps K F H [] [] []
  | cons {d : D} {v : V} {ds : List D} {vs : List V} {L1 L2 : List Addr} : Rep K F H d v L1 → Reps K F H ds vs L2 → Reps K F H (d :: ds) (v :: vs) (L1 ++ L2)
end


/-- frozen lists are there -/
abbrev WF (F : Addr → Prop) (H : Hp) : Prop := ∀ a, F a → H a ≠ none
/-- the world goes on: only W's lists may change -/
structure Ext (W : Addr → Prop) (F : Addr → Prop) (H : Hp) (F' : Addr → Prop) (H' : Hp) : Prop where
  keep : ∀ a o, H a = some o → ¬ W a → H' a = some o
  live : ∀ a, H a ≠ none → H' a ≠ none
  frz : ∀ a, F a → F' a
  nof : ∀ a, H a ≠ none → ¬ W a → F' a → F a
  wok : ∀ a, W a → ¬ F a ∧ ∃ xs, H a = some (.lst xs)
  wf : WF F H → WF F' H'
abbrev W0 : Addr → Prop := fun _ => False
section
variable {W W1 W2 F F1 F2 F' : Addr → Prop} {H H1 H2 H' : Hp} {K : PySem.W.Frag}
theorem Ext.refl (h : ∀ a, W a → ¬ F a ∧ ∃ xs, H a = some (.lst xs)) : Ext W F H F H :=
  ⟨fun _ _ e _ => e, fun _ e => e, fun _ e => e, fun _ _ _ e => e, h, fun z => z⟩
theorem Ext.refl0 : Ext W0 F H F H := .refl fun _ z => z.elim
theorem Ext.trans (a : Ext W1 F H F1 H1) (b : Ext W2 F1 H1 F2 H2) (h : ∀ c, W2 c → H c = none ∨ W1 c) : Ext W1 F H F2 H2 where
  keep := fun c o e n => b.keep c o (a.keep c o e n) fun z => (h c z).elim (fun q => by rw [e] at q; cases q) n
  live := fun c e => b.live c (a.live c e)
  frz := fun c e => b.frz c (a.frz c e)
  nof := fun c e n f => a.nof c e n (b.nof c (a.live c e) (fun z => (h c z).elim e n) f)
  wok := a.wok
  wf := fun z => b.wf (a.wf z)
theorem Ext.grow {W' : Addr → Prop} (a : Ext W F H F' H') (h : ∀ c, W c → W' c) (ok : ∀ c, W' c → ¬ F c ∧ ∃ xs, H c = some (.lst xs)) : Ext W' F H F' H' :=
  ⟨fun c o e n => a.keep c o e fun z => n (h c z), a.live, a.frz, fun c e n => a.nof c e fun z => n (h c z), ok, a.wf⟩
theorem Ext.none_of (a : Ext W F H F' H') {c : Addr} (e : H' c = none) : H c = none := by
  cases q : H c with
  | none => rfl
  | some o => exact absurd e (a.live c (by rw [q]; exact fun z => nomatch z))
/-- a new object -/
theorem Ext.new {p : Addr} {o : HO} (h : H p = none) : Ext W0 F H F (upd H p o) where
  keep := fun a u e _ => by rw [upd_ne (ne_of_none e h)]; exact e
  live := fun a e => by
    by_cases z : a = p
    · rw [z, upd_same]; exact fun q => nomatch q
    · rw [upd_ne z]; exact e
  frz := fun a e => e
  nof := fun a _ _ e => e
  wok := fun _ z => z.elim
  wf := fun z a e => by
    by_cases y : a = p
    · rw [y, upd_same]; exact fun q => nomatch q
    · rw [upd_ne y]; exact z a e
/-- an own list written -/
theorem Ext.write {p : Addr} {xs ys : List V} (h : H p = some (.lst xs)) (n : ¬ F p) (hw : W p) (ok : ∀ c, W c → ¬ F c ∧ ∃ xs, H c = some (.lst xs)) : Ext W F H F (upd H p (.lst ys)) where
  keep := fun a u e na => by rw [upd_ne (fun z => na (by rw [z]; exact hw))]; exact e
  live := fun a e => by
    by_cases z : a = p
    · rw [z, upd_same]; exact fun q => nomatch q
    · rw [upd_ne z]; exact e
  frz := fun a e => e
  nof := fun a _ _ e => e
  wok := ok
  wf := fun z a e => by
    by_cases y : a = p
    · rw [y, upd_same]; exact fun q => nomatch q
    · rw [upd_ne y]; exact z a e
/-- lists frozen -/
theorem Ext.freeze {L : List Addr} (ok : ∀ c, c ∈ L → ¬ F c ∧ ∃ xs, H c = some (.lst xs)) : Ext (· ∈ L) F H (fun a => F a ∨ a ∈ L) H where
  keep := fun a u e _ => e
  live := fun a e => e
  frz := fun a e => .inl e
  nof := fun a _ n e => e.elim (fun z => z) fun z => absurd z n
  wok := ok
  wf := fun z a e => e.elim (z a) fun q => by
    obtain ⟨_, xs, e⟩ := ok a q
    rw [e]; exact fun z => nomatch z

theorem SqS.mono {a : Addr} {ns : List Int} (s : SqS K H a ns) (e : Ext W F H F' H') : SqS K H' a ns := by
  rcases s with ⟨o, s⟩ | s
  · refine .inl ⟨o, e.keep a _ s fun z => ?_⟩
    obtain ⟨_, xs, q⟩ := e.wok a z
    rw [s] at q; cases q
  · exact .inr s
theorem SqS.seq {a : Addr} {ns : List Int} (s : SqS K H a ns) : SqL K H a (ns.map V.int) := by
  rcases s with ⟨o, s⟩ | s
  · exact .inl (.inr ⟨o, s⟩)
  · exact .inr s

mutual
theorem Rep.mono (e : Ext W F H F' H') : ∀ {d : D} {v : V} {L : List Addr}, Rep K F H d v L → (∀ a ∈ L, ¬ W a) → Rep K F' H' d v L
  | _, _, _, .non, _ => .non
  | _, _, _, .bl b, _ => .bl b
  | _, _, _, .int i, _ => .int i
  | _, _, _, .str x, _ => .str x
  | _, _, _, .tup h r, n => .tup (e.keep _ _ h fun z => by
      obtain ⟨_, xs, q⟩ := e.wok _ z
      rw [h] at q; cases q) (Reps.mono e r n)
  | _, _, _, .frz h f r, n => .frz (e.keep _ _ h fun z => (e.wok _ z).1 f) (e.frz _ f) (Reps.mono e r n)
  | _, _, _, .own h f r, n => .own (e.keep _ _ h (n _ List.mem_cons_self)) (fun z => f (e.nof _ (by rw [h]; exact fun z => nomatch z) (n _ List.mem_cons_self) z)) (Reps.mono e r fun _ z => nomatch z)
  | _, _, _, .io h f r, n => .io (e.keep _ _ h (n _ List.mem_cons_self)) (fun z => f (e.nof _ (by rw [h]; exact fun z => nomatch z) (n _ List.mem_cons_self) z)) (Reps.mono e r fun _ z => nomatch z)
  | _, _, _, .scr s, _ => .scr (s.mono e)
theorem Reps.mono (e : Ext W F H F' H') : ∀ {ds : List D} {vs : List V} {L : List Addr}, Reps K F H ds vs L → (∀ a ∈ L, ¬ W a) → Reps K F' H' ds vs L
  | _, _, _, .nil, _ => .nil
  | _, _, _, .cons r t, n => .cons (Rep.mono e r fun a z => n a (List.mem_append_left _ z)) (Reps.mono e t fun a z => n a (List.mem_append_right _ z))
end
theorem Rep.mono0 (e : Ext W F H F' H') {d : D} {v : V} (r : Rep K F H d v []) : Rep K F' H' d v [] := r.mono e fun _ z => nomatch z
theorem Reps.mono0 (e : Ext W F H F' H') {d : List D} {v : List V} (r : Reps K F H d v []) : Reps K F' H' d v [] := r.mono e fun _ z => nomatch z
mutual
/-- what is owned is a list that is not frozen -/
theorem Rep.ownOk {a : Addr} : ∀ {d : D} {v : V} {L : List Addr}, Rep K F H d v L → a ∈ L → ¬ F a ∧ ∃ xs, H a = some (.lst xs)
  | _, _, _, .non, ha => absurd ha List.not_mem_nil
  | _, _, _, .bl _, ha => absurd ha List.not_mem_nil
  | _, _, _, .int _, ha => absurd ha List.not_mem_nil
  | _, _, _, .str _, ha => absurd ha List.not_mem_nil
  | _, _, _, .tup h r, ha => Reps.ownOk r ha
  | _, _, _, .frz _ _ _, ha => absurd ha List.not_mem_nil
  | _, _, _, .own h f r, ha => by
    rw [List.mem_singleton.mp ha]
    exact ⟨f, _, h⟩
  | _, _, _, .io h f r, ha => by
    rw [List.mem_singleton.mp ha]
    exact ⟨f, _, h⟩
  | _, _, _, .scr _, ha => absurd ha List.not_mem_nil
theorem Reps.ownOk {a : Addr} : ∀ {ds : List D} {vs : List V} {L : List Addr}, Reps K F H ds vs L → a ∈ L → ¬ F a ∧ ∃ xs, H a = some (.lst xs)
  | _, _, _, .nil, ha => absurd ha List.not_mem_nil
  | _, _, _, .cons r t, ha => (List.mem_append.mp ha).elim (Rep.ownOk r) (Reps.ownOk t)
end
mutual
theorem Rep.freeze {L0 : List Addr} (ok : ∀ c, c ∈ L0 → ¬ F c ∧ ∃ xs, H c = some (.lst xs)) : ∀ {d : D} {v : V} {L : List Addr}, Rep K F H d v L → (∀ a ∈ L, a ∈ L0) → Rep K (fun a => F a ∨ a ∈ L0) H d.freeze v []
  | _, _, _, .non, _ => .non
  | _, _, _, .bl b, _ => .bl b
  | _, _, _, .int i, _ => .int i
  | _, _, _, .str x, _ => .str x
  | _, _, _, .tup h r, n => .tup h (Reps.freeze ok r n)
  | _, _, _, .frz h f r, n => .frz h (.inl f) (Reps.mono0 (Ext.freeze ok) r)
  | _, _, _, .own h f r, n => .frz h (.inr (n _ List.mem_cons_self)) (Reps.mono0 (Ext.freeze ok) r)
  | _, _, _, .io h f r, n => .frz h (.inr (n _ List.mem_cons_self)) (Reps.mono0 (Ext.freeze ok) r)
  | _, _, _, .scr s, _ => .scr s
theorem Reps.freeze {L0 : List Addr} (ok : ∀ c, c ∈ L0 → ¬ F c ∧ ∃ xs, H c = some (.lst xs)) : ∀ {ds : List D} {vs : List V} {L : List Addr}, Reps K F H ds vs L → (∀ a ∈ L, a ∈ L0) → Reps K (fun a => F a ∨ a ∈ L0) H (freezes ds) vs []
  | _, _, _, .nil, _ => .nil
  | _, _, _, .cons r t, n => .cons (L1 := []) (L2 := []) (Rep.freeze ok r fun a z => n a (List.mem_append_left _ z)) (Reps.freeze ok t fun a z => n a (List.mem_append_right _ z))
end

/-! ### lists of representations -/
theorem Reps.length : ∀ {ds : List D} {vs : List V} {L : List Addr}, Reps K F H ds vs L → ds.length = vs.length
  | _, _, _, .nil => rfl
  | _, _, _, .cons _ t => congrArg Nat.succ (Reps.length t)
theorem Reps.append : ∀ {ds es : List D} {vs ws : List V} {L M : List Addr}, Reps K F H ds vs L → Reps K F H es ws M → Reps K F H (ds ++ es) (vs ++ ws) (L ++ M)
  | _, _, _, _, _, _, .nil, s => s
  | _, _, _, _, _, M, .cons (L1 := L1) (L2 := L2) r t, s => by
    rw [List.append_assoc]
    exact .cons r (Reps.append t s)
theorem Reps.one {d : D} {v : V} {L : List Addr} (r : Rep K F H d v L) : Reps K F H [d] [v] L := by
  have := Reps.cons r Reps.nil
  rwa [List.append_nil] at this
theorem Reps.one' {d : D} {v : V} {L : List Addr} (r : Reps K F H [d] [v] L) : Rep K F H d v L := by
  cases r with
  | cons r t => cases t; rwa [List.append_nil]
/-- without owned lists: at a place -/
theorem Reps.all0 : ∀ {ds : List D} {vs : List V}, Reps K F H ds vs [] → ∀ (i : Nat) (d : D), ds[i]? = some d → ∃ v, vs[i]? = some v ∧ Rep K F H d v [] := by
  have key : ∀ {ds : List D} {vs : List V} {L : List Addr}, Reps K F H ds vs L → L = [] → ∀ (i : Nat) (d : D), ds[i]? = some d → ∃ v, vs[i]? = some v ∧ Rep K F H d v [] := by
    intro ds
    induction ds with
    | nil => intro vs L _ _ i d e; simp at e
    | cons d0 ds ih =>
      intro vs L r e i d ed
      cases r with
      | cons r t =>
        obtain ⟨e1, e2⟩ := List.append_eq_nil_iff.mp e
        subst e1 e2
        cases i with
        | zero =>
          have : d0 = d := by simpa using ed
          subst this
          exact ⟨_, rfl, r⟩
        | succ i =>
          obtain ⟨v, e3, r3⟩ := ih t rfl i d (by simpa using ed)
          exact ⟨v, by simpa using e3, r3⟩
  exact fun {ds vs} r => key r rfl
theorem Reps.of0 : ∀ {ds : List D} {vs : List V}, ds.length = vs.length → (∀ (i : Nat) (d : D) (v : V), ds[i]? = some d → vs[i]? = some v → Rep K F H d v []) → Reps K F H ds vs []
  | [], [], _, _ => .nil
  | d :: ds, v :: vs, l, h => .cons (L1 := []) (L2 := []) (h 0 d v rfl rfl) (Reps.of0 (by simpa using l) fun i e w a b => h (i + 1) e w (by simpa using a) (by simpa using b))
  | [], _ :: _, l, _ => by cases l
  | _ :: _, [], l, _ => by cases l
theorem Reps.cons0 {d : D} {v : V} {ds : List D} {vs : List V} (r : Reps K F H (d :: ds) (v :: vs) []) : Rep K F H d v [] ∧ Reps K F H ds vs [] := by
  have key : ∀ L, Reps K F H (d :: ds) (v :: vs) L → L = [] → Rep K F H d v [] ∧ Reps K F H ds vs [] := fun L r e => by
    cases r with
    | cons r t =>
      obtain ⟨e1, e2⟩ := List.append_eq_nil_iff.mp e
      subst e1 e2
      exact ⟨r, t⟩
  exact key _ r rfl
end

/-! ### the slots -/
def OwnAt (σ : L2.St) (e : Env) (i : Nat) (a : Addr) : Prop := ∃ d, e[i]? = some (some d) ∧ d.isOwn = true ∧ σ[i]? = some (some (.ref a))
def Own (σ : L2.St) (e : Env) (a : Addr) : Prop := ∃ i, OwnAt σ e i a
structure Sta (K : PySem.W.Frag) (F : Addr → Prop) (H : Hp) (σ : L2.St) (e : Env) : Prop where
  wf : WF F H
  len : e.length = σ.length
  val : ∀ (i : Nat) (d : D), e[i]? = some (some d) → ∃ v L, σ[i]? = some (some v) ∧ Rep K F H d v L ∧ (d.isOwn = true ∨ L = [])
  uni : ∀ (i j : Nat) (a : Addr), OwnAt σ e i a → OwnAt σ e j a → i = j
section
variable {K : PySem.W.Frag} {F F' F1 F2 : Addr → Prop} {H H' H1 H2 : Hp} {σ σ' σ1 : L2.St} {e e' e1 e2 : Env}
theorem Rep.own_shape {d : D} {v : V} {L : List Addr} (r : Rep K F H d v L) (h : d.isOwn = true) : ∃ a xs, v = .ref a ∧ L = [a] ∧ H a = some (.lst xs) ∧ ¬ F a := by
  cases r with
  | own h1 h2 _ => exact ⟨_, _, rfl, rfl, h1, h2⟩
  | io h1 h2 _ => exact ⟨_, _, rfl, rfl, h1, h2⟩
  | _ => exact absurd (show false = true from h) Bool.false_ne_true
theorem Sta.ownOk (s : Sta K F H σ e) : ∀ a, Own σ e a → ¬ F a ∧ ∃ xs, H a = some (.lst xs) := fun a ⟨i, d, h1, h2, h3⟩ => by
  obtain ⟨v, L, e1, r, _⟩ := s.val i d h1
  rw [h3] at e1
  cases e1
  obtain ⟨b, xs, ev, _, eh, nf⟩ := r.own_shape h2
  cases ev
  exact ⟨nf, xs, eh⟩
theorem Sta.ownAt (s : Sta K F H σ e) {i : Nat} {d : D} {a : Addr} {L : List Addr} (h1 : e[i]? = some (some d)) (h3 : σ[i]? = some (some (.ref a))) (r : Rep K F H d (.ref a) L) (b : Addr) (hb : b ∈ L) (ho : d.isOwn = true ∨ L = []) : OwnAt σ e i b := by
  rcases ho with ho | ho
  · obtain ⟨c, xs, ev, eL, _⟩ := r.own_shape ho
    cases ev
    rw [eL] at hb
    rw [List.mem_singleton.mp hb]
    exact ⟨d, h1, ho, h3⟩
  · rw [ho] at hb; cases hb
theorem Sta.mono {W : Addr → Prop} (s : Sta K F H σ e) (x : Ext W F H F' H') (n : ∀ a, Own σ e a → ¬ W a) : Sta K F' H' σ e where
  wf := x.wf s.wf
  len := s.len
  val := fun i d h => by
    obtain ⟨v, L, h1, r, o⟩ := s.val i d h
    refine ⟨v, L, h1, r.mono x fun a ha => ?_, o⟩
    rcases o with o | o
    · obtain ⟨b, xs, ev, eL, _⟩ := r.own_shape o
      subst ev eL
      rw [List.mem_singleton.mp ha]
      exact n b ⟨i, d, h, o, h1⟩
    · rw [o] at ha; cases ha
  uni := s.uni
end


/-! ### operands -/
/-- an operand's value: borne, or an owned list that is read where it lies -/
inductive ORep (K : PySem.W.Frag) (F : Addr → Prop) (H : Hp) : D → V → List Addr → Prop
  | of {d : D} {v : V} {L : List Addr} : Rep K F H d v L → ORep K F H d v L
  | bor {a : Addr} {xs : List V} {ds : List D} : H a = some (.lst xs) → Reps K F H ds xs [] → ORep K F H (.lst false ds) (.ref a) []
inductive OReps (K : PySem.W.Frag) (F : Addr → Prop) (H : Hp) (σ : L2.St) : List Opd → List V → List Addr → Prop
  | nil : OReps K F H σ [] [] []
  | val {d : D} {v : V} {os : List Opd} {vs : List V} {L1 L2 : List Addr} : Rep K F H d v L1 → OReps K F H σ os vs L2 → OReps K F H σ (.v d :: os) (v :: vs) (L1 ++ L2)
  | bor {i : Nat} {v : V} {os : List Opd} {vs : List V} {L : List Addr} : σ[i]? = some (some v) → OReps K F H σ os vs L → OReps K F H σ (.b i :: os) (v :: vs) L
inductive ORepL (K : PySem.W.Frag) (F : Addr → Prop) (H : Hp) : List D → List V → List Addr → Prop
  | nil : ORepL K F H [] [] []
  | cons {d : D} {v : V} {ds : List D} {vs : List V} {L1 L2 : List Addr} : ORep K F H d v L1 → ORepL K F H ds vs L2 → ORepL K F H (d :: ds) (v :: vs) (L1 ++ L2)
section
variable {K : PySem.W.Frag} {F F' F1 F2 W : Addr → Prop} {H H' H1 H2 : Hp} {σ σ' σ1 : L2.St} {e e' e1 e2 : Env}
theorem OReps.mono (x : Ext W F H F' H') : ∀ {os : List Opd} {vs : List V} {L : List Addr}, OReps K F H σ os vs L → (∀ a ∈ L, ¬ W a) → OReps K F' H' σ os vs L
  | _, _, _, .nil, _ => .nil
  | _, _, _, .val r t, n => .val (r.mono x fun a z => n a (List.mem_append_left _ z)) (t.mono x fun a z => n a (List.mem_append_right _ z))
  | _, _, _, .bor h t, n => .bor h (t.mono x n)
theorem OReps.append : ∀ {os qs : List Opd} {vs ws : List V} {L M : List Addr}, OReps K F H σ os vs L → OReps K F H σ qs ws M → OReps K F H σ (os ++ qs) (vs ++ ws) (L ++ M)
  | _, _, _, _, _, _, .nil, s => s
  | _, _, _, _, _, M, .val (L1 := L1) (L2 := L2) r t, s => by
    rw [List.append_assoc]
    exact .val r (t.append s)
  | _, _, _, _, _, M, .bor h t, s => .bor h (t.append s)
theorem OReps.ownOk {a : Addr} : ∀ {os : List Opd} {vs : List V} {L : List Addr}, OReps K F H σ os vs L → a ∈ L → ¬ F a ∧ ∃ xs, H a = some (.lst xs)
  | _, _, _, .nil, ha => absurd ha List.not_mem_nil
  | _, _, _, .val r t, ha => (List.mem_append.mp ha).elim (Rep.ownOk r) t.ownOk
  | _, _, _, .bor _ t, ha => t.ownOk ha
theorem OReps.one {d : D} {v : V} {L : List Addr} (r : Rep K F H d v L) : OReps K F H σ [.v d] [v] L := by
  have := OReps.val (σ := σ) r .nil
  rwa [List.append_nil] at this
theorem OReps.one' {d : D} {v : V} {L : List Addr} (r : OReps K F H σ [.v d] [v] L) : Rep K F H d v L := by
  cases r with
  | val r t => cases t; rwa [List.append_nil]
theorem res_b {e : Env} {i : Nat} {d : D} (h : res e (.b i) = some d) : ∃ l, d = .lst false l ∧ ((∃ o, e[i]? = some (some (.lst o l))) ∨ e[i]? = some (some (.io l))) := by
  have h : (match e[i]? with
    | some (some (.lst _ l)) => some (D.lst false l)
    | some (some (.io l)) => some (D.lst false l)
    | _ => none) = some d := h
  split at h
  · rename_i o l he
    cases h
    exact ⟨l, rfl, .inl ⟨o, he⟩⟩
  · rename_i l he
    cases h
    exact ⟨l, rfl, .inr he⟩
  · cases h
/-- operands read at the end -/
theorem OReps.ress (s : Sta K F H σ e) : ∀ {os : List Opd} {vs : List V} {L : List Addr} {ds : List D}, OReps K F H σ os vs L → ress e os = some ds → ORepL K F H ds vs L
  | _, _, _, ds, .nil, h => by
    have : [] = ds := Option.some.inj h
    subst this
    exact .nil
  | .v d :: os, _, _, ds, .val r t, h => by
    have h : (PV.ress e os).map (d :: ·) = some ds := h
    obtain ⟨ds', h1, h2⟩ := Option.map_eq_some_iff.mp h
    subst h2
    exact .cons (.of r) (t.ress s h1)
  | .b i :: os, _, _, ds, .bor hv t, h => by
    have h : ((res e (.b i)).bind fun d => (PV.ress e os).map (d :: ·)) = some ds := h
    obtain ⟨d, h0, h⟩ := Option.bind_eq_some_iff.mp h
    obtain ⟨ds', h1, h2⟩ := Option.map_eq_some_iff.mp h
    subst h2
    refine ORepL.cons (L1 := []) ?_ (t.ress s h1)
    obtain ⟨l, ed, q⟩ := res_b h0
    subst ed
    rcases q with ⟨o, he⟩ | he
    · obtain ⟨v', L', e1, r, _⟩ := s.val i _ he
      rw [hv] at e1; cases e1
      cases r with
      | frz h1 h2 h3 => exact .bor h1 h3
      | own h1 h2 h3 => exact .bor h1 h3
    · obtain ⟨v', L', e1, r, _⟩ := s.val i _ he
      rw [hv] at e1; cases e1
      cases r with
      | io h1 h2 h3 => exact .bor h1 h3
theorem OReps.vals : ∀ {os : List Opd} {vs : List V} {L : List Addr} {ds : List D}, OReps K F H σ os vs L → vals os = some ds → Reps K F H ds vs L
  | _, _, _, ds, .nil, h => by
    have : [] = ds := Option.some.inj h
    subst this
    exact .nil
  | .v d :: os, _, _, ds, .val r t, h => by
    have h : (PV.vals os).map (d :: ·) = some ds := h
    obtain ⟨ds', h1, h2⟩ := Option.map_eq_some_iff.mp h
    subst h2
    exact .cons r (t.vals h1)
  | .b i :: os, _, _, ds, .bor hv t, h => by cases h
theorem Reps.opds : ∀ {ds : List D} {vs : List V} {L : List Addr}, Reps K F H ds vs L → OReps K F H σ (ds.map .v) vs L
  | _, _, _, .nil => .nil
  | _, _, _, .cons r t => .val r t.opds
theorem ORepL.ownOk {a : Addr} : ∀ {os : List D} {vs : List V} {L : List Addr}, ORepL K F H os vs L → a ∈ L → ¬ F a ∧ ∃ xs, H a = some (.lst xs)
  | _, _, _, .nil, ha => absurd ha List.not_mem_nil
  | _, _, _, .cons (.of r) t, ha => (List.mem_append.mp ha).elim (Rep.ownOk r) t.ownOk
  | _, _, _, .cons (.bor _ _) t, ha => (List.mem_append.mp ha).elim (fun z => absurd z List.not_mem_nil) t.ownOk
theorem ORep.lst {o : Bool} {l : List D} {v : V} {L : List Addr} (r : ORep K F H (.lst o l) v L) : ∃ a xs, v = .ref a ∧ H a = some (.lst xs) ∧ Reps K F H l xs [] := by
  cases r with
  | of r =>
    cases r with
    | frz h1 h2 h3 => exact ⟨_, _, rfl, h1, h3⟩
    | own h1 h2 h3 => exact ⟨_, _, rfl, h1, h3⟩
  | bor h1 h2 => exact ⟨_, _, rfl, h1, h2⟩
theorem ORep.tup {l : List D} {v : V} {L : List Addr} (r : ORep K F H (.tup l) v L) : ∃ a xs, v = .ref a ∧ H a = some (.tup xs) ∧ Reps K F H l xs L := by
  cases r with
  | of r => cases r with | tup h1 h2 => exact ⟨_, _, rfl, h1, h2⟩
theorem ORep.int {i : Int} {v : V} {L : List Addr} (r : ORep K F H (.int i) v L) : v = .int i ∧ L = [] := by
  cases r with
  | of r => cases r; exact ⟨rfl, rfl⟩
theorem ORep.bl {i : Bool} {v : V} {L : List Addr} (r : ORep K F H (.bl i) v L) : v = .bl i ∧ L = [] := by
  cases r with
  | of r => cases r; exact ⟨rfl, rfl⟩
theorem ORep.str {i : Str} {v : V} {L : List Addr} (r : ORep K F H (.str i) v L) : v = .str i ∧ L = [] := by
  cases r with
  | of r => cases r; exact ⟨rfl, rfl⟩
theorem ORep.non {v : V} {L : List Addr} (r : ORep K F H .non v L) : v = .non ∧ L = [] := by
  cases r with
  | of r => cases r; exact ⟨rfl, rfl⟩
theorem ORep.scr {ns : List Int} {v : V} {L : List Addr} (r : ORep K F H (.scr ns) v L) : ∃ a, v = .ref a ∧ SqS K H a ns ∧ L = [] := by
  cases r with
  | of r => cases r with | scr h => exact ⟨_, rfl, h, rfl⟩
theorem ORepL.two {d d' : D} {v v' : V} {L : List Addr} (r : ORepL K F H [d, d'] [v, v'] L) : ∃ L1 L2, L = L1 ++ L2 ∧ ORep K F H d v L1 ∧ ORep K F H d' v' L2 := by
  cases r with
  | cons r t =>
    cases t with
    | cons r' t => cases t; exact ⟨_, _, by rw [List.append_nil], r, r'⟩
theorem ORepL.one {d : D} {v : V} {L : List Addr} (r : ORepL K F H [d] [v] L) : ORep K F H d v L := by
  cases r with
  | cons r t => cases t; rwa [List.append_nil]
end

/-! ### behind a piece of code -/
structure Post (K : PySem.W.Frag) (F : Addr → Prop) (H : Hp) (σ : L2.St) (e : Env) (F' : Addr → Prop) (H' : Hp) (e' : Env) (os : List Opd) (vs : List V) (L : List Addr) : Prop where
  ext : Ext (Own σ e) F H F' H'
  sta : Sta K F' H' σ e'
  sub : ∀ (i : Nat) (a : Addr), OwnAt σ e' i a → OwnAt σ e i a
  rep : OReps K F' H' σ os vs L
  nd : L.Nodup
  new : ∀ a ∈ L, H a = none ∨ Own σ e a
  dis : ∀ a ∈ L, ¬ Own σ e' a
  io : ∀ (i : Nat) (l : List D), e[i]? = some (some (.io l)) → ∃ l', e'[i]? = some (some (.io l'))
structure VPost (K : PySem.W.Frag) (F : Addr → Prop) (H : Hp) (L : List Addr) (F' : Addr → Prop) (H' : Hp) (d : D) (v : V) (L' : List Addr) : Prop where
  ext : Ext (· ∈ L) F H F' H'
  rep : Rep K F' H' d v L'
  nd : L'.Nodup
  new : ∀ a ∈ L', H a = none ∨ a ∈ L
section
variable {K : PySem.W.Frag} {F F' F1 F2 : Addr → Prop} {H H' H1 H2 : Hp} {σ σ' σ1 : L2.St} {e e' e1 e2 : Env} {os os1 os2 : List Opd} {ds : List D} {vs vs1 vs2 : List V} {L L1 L2 : List Addr}
theorem Post.refl (s : Sta K F H σ e) : Post K F H σ e F H e [] [] [] :=
  ⟨.refl s.ownOk, s, fun _ _ h => h, .nil, .nil, (fun _ z => nomatch z), (fun _ z => nomatch z), fun _ l h => ⟨l, h⟩⟩
theorem Post.app (a : Post K F H σ e F1 H1 e1 os1 vs1 L1) (b : Post K F1 H1 σ e1 F2 H2 e2 os2 vs2 L2) : Post K F H σ e F2 H2 e2 (os1 ++ os2) (vs1 ++ vs2) (L1 ++ L2) where
  ext := a.ext.trans b.ext fun c ⟨i, h⟩ => .inr ⟨i, a.sub i c h⟩
  sta := b.sta
  sub := fun i c h => a.sub i c (b.sub i c h)
  rep := (a.rep.mono b.ext a.dis).append b.rep
  nd := List.nodup_append.mpr ⟨a.nd, b.nd, fun c hc c' hc' z => by
    subst z
    obtain ⟨_, xs, e⟩ := a.rep.ownOk hc
    rcases b.new c hc' with z | z
    · rw [e] at z; cases z
    · exact a.dis c hc z⟩
  new := fun c hc => (List.mem_append.mp hc).elim (a.new c) fun hc => (b.new c hc).elim (fun z => .inl (a.ext.none_of z)) fun ⟨i, h⟩ => .inr ⟨i, a.sub i c h⟩
  dis := fun c hc ⟨i, h⟩ => (List.mem_append.mp hc).elim (fun z => a.dis c z ⟨i, b.sub i c h⟩) fun z => b.dis c z ⟨i, h⟩
  io := fun i l h => by
    obtain ⟨l1, h1⟩ := a.io i l h
    exact b.io i l1 h1
theorem Post.op {d : D} {v : V} {L' : List Addr} (a : Post K F H σ e F1 H1 e1 os vs L) (b : VPost K F1 H1 L F2 H2 d v L') : Post K F H σ e F2 H2 e1 [.v d] [v] L' where
  ext := a.ext.trans b.ext a.new
  sta := a.sta.mono b.ext fun c ho hc => a.dis c hc ho
  sub := a.sub
  rep := .one b.rep
  nd := b.nd
  new := fun c hc => (b.new c hc).elim (fun z => .inl (a.ext.none_of z)) (a.new c)
  dis := fun c hc ho => (b.new c hc).elim (fun z => by
    obtain ⟨_, xs, e⟩ := a.sta.ownOk c ho
    rw [e] at z; cases z) fun z => a.dis c z ho
  io := a.io
/-- values dropped -/
theorem Post.drop (a : Post K F H σ e F1 H1 e1 os vs L) : Post K F H σ e F1 H1 e1 [] [] [] :=
  ⟨a.ext, a.sta, a.sub, .nil, .nil, (fun _ z => nomatch z), (fun _ z => nomatch z), a.io⟩
/-- values frozen -/
theorem Post.freeze (a : Post K F H σ e F1 H1 e1 os vs L) (h : vals os = some ds) : Post K F H σ e (fun a => F1 a ∨ a ∈ L) H1 e1 ((freezes ds).map .v) vs [] where
  ext := a.ext.trans (Ext.freeze fun _ z => a.rep.ownOk z) a.new
  sta := a.sta.mono (Ext.freeze fun _ z => a.rep.ownOk z) fun c ho hc => a.dis c hc ho
  sub := a.sub
  rep := (Reps.freeze (fun _ z => a.rep.ownOk z) (a.rep.vals h) fun _ h => h).opds
  nd := .nil
  new := fun _ z => nomatch z
  dis := fun _ z => nomatch z
  io := a.io
theorem VPost.flat {d : D} {v : V} (r : Rep K F H d v []) (ok : ∀ a ∈ L, ¬ F a ∧ ∃ xs, H a = some (.lst xs)) : VPost K F H L F H d v [] := ⟨.refl ok, r, .nil, fun _ z => nomatch z⟩
/-- a new list of frozen items, a new tuple -/
theorem VPost.newL {p : Addr} (r : Reps K F H ds vs L) (h : H p = none) (wf : WF F H) : VPost K F H L (fun a => F a ∨ a ∈ L) (upd H p (.lst vs)) (.lst true (freezes ds)) (.ref p) [p] where
  ext := (Ext.freeze fun _ z => r.ownOk z).trans (Ext.new h) fun _ z => z.elim
  rep := .own upd_same (fun z => z.elim (fun f => wf p f h) fun hp => by
    obtain ⟨_, xs, e⟩ := r.ownOk hp
    rw [h] at e; cases e) (Reps.mono0 (Ext.new h) (Reps.freeze (fun _ z => r.ownOk z) r fun _ z => z))
  nd := by simp
  new := fun a ha => .inl (by rw [List.mem_singleton.mp ha]; exact h)
theorem VPost.newT {p : Addr} (r : Reps K F H ds vs L) (nd : L.Nodup) (h : H p = none) : VPost K F H L F (upd H p (.tup vs)) (.tup ds) (.ref p) L where
  ext := (Ext.new h).grow (fun _ z => z.elim) fun _ z => r.ownOk z
  rep := .tup upd_same (Reps.mono (Ext.new h) r fun _ _ z => z)
  nd := nd
  new := fun a ha => .inr ha
/-- a new list of items that own nothing -/
theorem VPost.newL0 {p : Addr} (r : Reps K F H ds vs []) (h : H p = none) (wf : WF F H) (ok : ∀ a ∈ L, ¬ F a ∧ ∃ xs, H a = some (.lst xs)) : VPost K F H L F (upd H p (.lst vs)) (.lst true ds) (.ref p) [p] where
  ext := (Ext.new h).grow (fun _ z => z.elim) ok
  rep := .own upd_same (fun f => wf p f h) (Reps.mono0 (Ext.new h) r)
  nd := by simp
  new := fun a ha => .inl (by rw [List.mem_singleton.mp ha]; exact h)
theorem VPost.newT0 {p : Addr} (r : Reps K F H ds vs []) (h : H p = none) (ok : ∀ a ∈ L, ¬ F a ∧ ∃ xs, H a = some (.lst xs)) : VPost K F H L F (upd H p (.tup vs)) (.tup ds) (.ref p) [] where
  ext := (Ext.new h).grow (fun _ z => z.elim) ok
  rep := .tup upd_same (Reps.mono0 (Ext.new h) r)
  nd := .nil
  new := fun _ z => nomatch z
end
end PV
set_option Elab.async false
set_option linter.all false
set_option maxRecDepth 100000
set_option maxHeartbeats 1000000
/-! A slice of a list that is stored: items[a:c] = other, where c may lie beyond the end. -/
namespace PV
open PySem PySem.Spec PyProof.Rows L2
open PySem.SeqAt
open PySem.MeetsSeq PySem.MeetsSeq2 PySem.MeetsSeq3
section
variable {prog : Program} {w : World} {A : Around} {E : Value → Shared → Prop} {s : Shared}
theorem bounds_clip {a c n : Nat} (hac : a ≤ c) (hn : a ≤ n) : sliceBounds (some (a : Int)) (some (c : Int)) none n = ((a : Int), ((min c n : Nat) : Int), 1) := by
  simp only [sliceBounds, Option.getD_none]
  have h1 : ¬ ((a : Int) < 0) := by omega
  have h2 : ¬ ((c : Int) < 0) := by omega
  simp only [h1, h2, if_false, show (1 : Int) > 0 by decide, if_true]
  congr 1
  · omega
  · congr 1; omega
theorem put_slice {l b sl : Addr} {items new : Array Value} {n n2 : Nat} {vl vu : Value} {a c : Nat} {Q : Unit → Shared → Prop}
    (e : s.heap.get? l = some { cls := .type "list", data := .seq items n }) (e2 : s.heap.get? b = some { cls := .type "list", data := .seq new n2 }) (hne : l ≠ b)
    (hs : s.heap.IsSliceOf sl vl vu .none) (pl : IsPart vl (some (a : Int))) (pu : IsPart vu (some (c : Int))) (hac : a ≤ c) (hn : a ≤ items.size)
    (hsz : items.size + new.size ≤ sizeLine) (h : Q () { s with heap := s.heap.update l (Obj.mapSeq fun xs => xs.extract 0 a ++ new ++ xs.extract (min c items.size) xs.size) }) :
    wpAny (model prog w) A (setItem (.ref l) (.ref sl) (.ref b)) Q E s := by
  have hl : s.heap.IsList l items := PySem.IsL.isList e
  have hb : s.heap.IsList b new := PySem.IsL.isList e2
  obtain ⟨os, hos, hcs, hds⟩ := id hs
  have hT : s.TypeIs (.ref sl) "slice" := ⟨os, hos, hcs⟩
  have hsame : Builtin.List.listSameRef (.ref l) (.ref b) = false := by
    unfold Builtin.List.listSameRef
    exact beq_eq_false_iff_ne.mpr hne
  have hmax : (max (a : Int) ((min c items.size : Nat) : Int)).toNat = min c items.size := by omega
  have hz' : ((fun xs : Array Value => xs.extract 0 a ++ new ++ xs.extract (min c items.size) xs.size) items).size ≤ sizeLine + 1 := by
    simp only [Array.size_append, Array.size_extract]
    omega
  unfold setItem
  try with_reducible refine wpAny_holding ?_
  first | refine wpAny_bind (wpAny_pure ?_) | skip
  refine wpAny_bind (wpAny_sequenceKey hl.typeIs (by decide) ?_)
  refine wpAny_bind (wpAny_callSpecial?_slot (name := Str.ofString "__setitem__") hl.typeIs slot_list_setitem
    (wpAny_call_entry slot_list_setitem hl.typeIs entry_list_setitem ?_ (args_list_setitem _ _ _)))
  show wpAny _ _ (Builtin.List.listSubscript? (.ref sl) >>= _) _ _ s
  refine wpAny_bind ?_
  unfold Builtin.List.listSubscript?
  refine wpAny_bind (wpAny_specialOf hT slice_no_index ?_)
  simp only [Option.isNone_none, if_true]
  refine wpAny_pure ?_
  show wpAny _ _ (typeOf (.ref sl) >>= _) _ _ s
  refine wpAny_bind (wpAny_typeOf hT ?_)
  first
    | rw [if_neg (by decide)]
    | refine PySem.W.KFB.if_not (by decide) ?_
  rw [listSliceParts_eq]
  have hstep : ¬ ((rawPart none == rawInt 0) = true) := Bool.false_ne_true
  refine wpAny_bind (wpAny_bind (wpAny_field hos hds (x := .none) rfl (wpAny_bind (wpAny_listPart .none ?_))))
  rw [if_neg hstep]
  refine wpAny_bind (wpAny_field hos hds (x := vl) rfl (wpAny_bind (wpAny_listPart pl ?_)))
  refine wpAny_bind (wpAny_field hos hds (x := vu) rfl (wpAny_bind (wpAny_listPart pu (wpAny_pure ?_))))
  first
    | simp only [hsame, Bool.false_eq_true, if_false]
    | refine PySem.W.KFB.if_not hsame ?_
    | (dsimp only
       rw [if_neg (by rw [hsame]; exact Bool.false_ne_true)])
  refine wpAny_bind (m := Builtin.List.listAllItems (.ref b) "must assign iterable to extended slice") ?_
  unfold Builtin.List.listAllItems
  refine wpAny_bind (wpAny_typeOf hb.typeIs ?_)
  first
    | refine PySem.W.KFB.if_so (by decide) ?_
    | rw [if_pos (by decide)]
    | simp only [beq_self_eq_true, Bool.true_or, if_true]
  unfold Builtin.List.listItems
  refine wpAny_bind (wpAny_seqItems e2 rfl (wpAny_pure ?_))
  refine wpAny_bind (wpAny_bind (wpAny_seqItems e rfl (wpAny_pure ?_)))
  refine wpAny_bind (wpAny_of_eq ((sliceIndices_raw (some (a : Int)) (some (c : Int)) none items.size (by simp)).trans (congrArg (pure : Int × Int × Int → Sem (Int × Int × Int)) (bounds_clip hac hn))) ?_)
  show wpAny _ _ (if ((1 : Int) == 1) = true then _ else _) _ _ s
  rw [if_pos (by decide)]
  refine wpAny_bind (wpAny_rule ?_)
  first
    | simp only [notLongL hsz, Bool.false_eq_true, if_false]
    | refine PySem.W.KFB.if_not (notLongL hsz) ?_
  first | refine wpAny_bind (wpAny_pure ?_) | skip
  show wpAny _ _ (updateSeq l (fun xs => xs.extract 0 ((a : Int)).toNat ++ new ++ xs.extract (max (a : Int) ((min c items.size : Nat) : Int)).toNat xs.size) >>= _) _ _ s
  rw [hmax, Int.toNat_natCast]
  refine wpAny_bind (wpAny_updateSeq (hz := Nat.le_trans (Nat.le_add_right _ _) hsz) (_hz' := hz') e rfl ?_)
  refine wpAny_bind (wpAny_letGo ?_)
  first
    | exact wpAny_bind (wpAny_pure (wpAny_pure ⟨.none, rfl, wpAny_pure h⟩))
    | exact wpAny_pure ⟨.none, rfl, wpAny_pure h⟩
end
theorem drop_clip {α : Type} (xs : List α) (c : Nat) : xs.drop (min c xs.length) = xs.drop c := by
  by_cases h : c ≤ xs.length
  · rw [Nat.min_eq_left h]
  · rw [Nat.min_eq_right (by omega), List.drop_eq_nil_of_le (Nat.le_refl _), List.drop_eq_nil_of_le (by omega)]
section
variable {X : Cx}
theorem put_at {pins : List (Addr × Obj)} {s : Shared} {σ : L2.St} {H : Hp} {l b sl : Addr} {xs ys : List V} {a c : Int} {vl vu : Value} {Q : Unit → Shared → Prop} (I : Inv X pins σ H s)
    (hH : H l = some (.lst xs)) (hB : H b = some (.lst ys)) (hne : l ≠ b) (hs : s.heap.IsSliceOf sl vl vu .none) (pl : IsPart vl (some a)) (pu : IsPart vu (some c)) (h0 : 0 ≤ a) (hac : a ≤ c) (hn : a ≤ xs.length)
    (hz : xs.length + ys.length ≤ sizeLine) (h : ∀ s', Inv X pins σ (upd H l (.lst (xs.take a.toNat ++ ys ++ xs.drop c.toNat))) s' → Q () s') :
    wpAny (model X.prog X.w) X.A (setItem (.ref l) (.ref sl) (.ref b)) Q X.xe s := by
  obtain ⟨z, its, n, r, hl, e⟩ := I.lstM hH
  obtain ⟨z2, its2, n2, r2, hl2, e2⟩ := I.lstM hB
  obtain ⟨a', rfl⟩ := Int.eq_ofNat_of_zero_le h0
  obtain ⟨c', rfl⟩ := Int.eq_ofNat_of_zero_le (Int.le_trans h0 hac)
  simp only [Int.toNat_natCast] at h
  refine put_slice (a := a') (c := c') e e2 hne hs pl pu (by omega) (by rw [List.size_toArray]; omega) (by rw [List.size_toArray, List.size_toArray]; omega) (h _ ?_)
  refine I.lset (its' := its.take a' ++ its2 ++ its.drop c') (t' := s.toks) hH e ?_ (Vals.append (Vals.append (r.take _) r2) (r.drop _)) ?_
  · rw [← drop_clip its c']
    exact splice_eq its its2 a' (min c' its.length)
  · rw [List.length_append, List.length_append, List.length_take, List.length_drop]
    omega
abbrev TSetS := V → Option Int → Option Int → V → Hp → (Hp → Prop) → Prop
def rSetSl : TSetS := fun o l u v H Q => ∃ p b xs ys a c, o = .ref p ∧ l = some a ∧ u = some c ∧ v = .ref b ∧ H p = some (.lst xs) ∧ H b = some (.lst ys) ∧ p ≠ b ∧ 0 ≤ a ∧ a ≤ c ∧ a ≤ xs.length ∧ xs.length + ys.length ≤ sizeLine ∧
  Q (upd H p (.lst (xs.take a.toNat ++ ys ++ xs.drop c.toNat)))
def gSlc (to : TE) (tl th : TO) (t : TSetS) : TG := fun v σ H Q => to σ H fun o H1 => tl σ H1 fun l H2 => th σ H2 fun u H3 => t o l u v H3 fun H4 => Q σ H4
theorem pg_slc {o : Expr} {to : TE} {lo hi : Option Expr} {tl th : TO} {pos p2 : Pos} (ho : PE X o to) (hl : PO X lo tl) (hu : PO X hi th) : PG X (.Subscript o (.Slice lo hi none p2) pos) (gSlc to tl th rSetSl) := by
  refine ⟨fun pins s σ H v u Q I r h => ?_⟩
  have ha : ∀ v, assign (.Subscript o (.Slice lo hi none p2) pos) X.env v = (do
      let ov ← holding [v] (eval o X.env)
      let iv ← holding [v, ov] (eval (.Slice lo hi none p2) X.env)
      standAt pos
      holding [v, ov, iv] (setItem ov iv v)
      release [iv, v, ov] []) := fun _ => rfl
  rw [ha]
  refine wpAny_bind (wpAny_holding (thn (ho.run pins s σ H _ I h) fun ov s1 ⟨x, H1, I1, r1, q1⟩ => ?_))
  refine wpAny_bind (wpAny_holding ?_)
  refine wpAny_Slice (thn (hl.run pins s1 σ H1 _ I1 q1) fun vl s2 ⟨l, H2, I2, pl, q2⟩ => thn (hu.run pins s2 σ H2 _ I2 q2) fun vu s3 ⟨u', H3, I3, pu, q3⟩ => ?_)
  rw [evalPart_none]
  refine wpAny_pure ?_
  have I4 : Inv X pins σ H3 { s3 with heap := s3.heap.push { cls := .type "slice", data := .fields #[vl, vu, .none] } } := I3.kept (t' := s3.toks) fun b ob q => Heap.get?_push_of_some _ q
  obtain ⟨p, b, xs, ys, a, c, rfl, rfl, rfl, rfl, hp, hb, hne, h0, hac, hax, hz, q⟩ := q3
  cases r1
  cases r
  refine wpAny_bind (wpAny_standAt (wpAny_bind (wpAny_holding ?_)))
  exact put_at I4 hp hb hne (Heap.IsSliceOf.new ..) pl pu h0 hac hax hz fun s' I' => wpAny_release ⟨σ, _, I', q⟩
end
end PV
set_option Elab.async false
set_option linter.all false
set_option maxRecDepth 100000
set_option maxHeartbeats 1000000
/-! Readings of the language's expressions. -/
namespace PV
open PySem PySem.Spec PyProof.Rows L2

def tE (K : PySem.W.Frag) (f : Env → Option (Opd × Env)) : TE := fun σ H Q => ∃ F e o e', Sta K F H σ e ∧ f e = some (o, e') ∧ ∀ F' H' v L, Post K F H σ e F' H' e' [o] [v] L → Q v H'
def tA (K : PySem.W.Frag) (f : Env → Option (List Opd × Env)) : TA := fun σ H Q => ∃ F e os e', Sta K F H σ e ∧ f e = some (os, e') ∧ ∀ F' H' vs L, Post K F H σ e F' H' e' os vs L → Q vs H'
def tT (K : PySem.W.Frag) (f : Env → Option (Bool × Env)) : TT := fun σ H Q => ∃ F e b e', Sta K F H σ e ∧ f e = some (b, e') ∧ ∀ F' H', Post K F H σ e F' H' e' [] [] [] → Q b H'

theorem PE_imp {X : Cx} {a : Expr} {t t' : TE} (h : PE X a t) (i : ∀ σ H Q, t' σ H Q → t σ H Q) : PE X a t' := ⟨fun pins s σ H Q I q => h.run pins s σ H Q I (i _ _ _ q)⟩
theorem PT_imp {X : Cx} {a : Expr} {t t' : TT} (h : PT X a t) (i : ∀ σ H Q, t' σ H Q → t σ H Q) : PT X a t' := ⟨fun pins s σ H Q I q => h.run pins s σ H Q I (i _ _ _ q)⟩
theorem PW_imp {X : Cx} {a : Expr} {t t' : TT} (h : PW X a t) (i : ∀ σ H Q, t' σ H Q → t σ H Q) : PW X a t' := ⟨fun wh pins s σ H Q I q => h.run wh pins s σ H Q I (i _ _ _ q)⟩
theorem PA_imp {X : Cx} {a : List Expr} {t t' : TA} (h : PA X a t) (i : ∀ σ H Q, t' σ H Q → t σ H Q) : PA X a t' := ⟨fun pos pins s σ H Q I q => h.run pos pins s σ H Q I (i _ _ _ q)⟩

/-! ### slots set -/
section
variable {K : PySem.W.Frag} {F F' F1 F2 : Addr → Prop} {H H' H1 H2 : Hp} {σ σ' : L2.St} {e e' e1 e2 : Env}
theorem set_at {α : Type} {e : List (Option α)} {i j : Nat} {x : Option α} {d : α} (h : (e.set i x)[j]? = some (some d)) : (j = i ∧ x = some d) ∨ (j ≠ i ∧ e[j]? = some (some d)) := by
  by_cases hj : i = j
  · subst hj
    by_cases hl : i < e.length
    · rw [List.getElem?_set_self hl] at h
      exact .inl ⟨rfl, Option.some.inj h⟩
    · rw [List.getElem?_eq_none (by rw [List.length_set]; omega)] at h
      cases h
  · rw [List.getElem?_set_ne hj] at h
    exact .inr ⟨fun z => hj z.symm, h⟩
theorem at_lt {α : Type} {e : List α} {i : Nat} {d : α} (h : e[i]? = some d) : i < e.length := (List.getElem?_eq_some_iff.mp h).1
theorem own_set {i : Nat} {x : Option D} (hx : ∀ d, x = some d → d.isOwn = false) {j : Nat} {a : Addr} (h : OwnAt σ (e.set i x) j a) : j ≠ i ∧ OwnAt σ e j a := by
  obtain ⟨d, h1, h2, h3⟩ := h
  rcases set_at h1 with ⟨_, z⟩ | ⟨n, z⟩
  · rw [hx d z] at h2; cases h2
  · exact ⟨n, d, z, h2, h3⟩
/-- an owned slot taken out or frozen: the others stay -/
theorem Sta.reset {i : Nat} {x : Option D} (s : Sta K F H σ e) (hx : ∀ d, x = some d → d.isOwn = false) (hr : ∀ d, x = some d → ∃ v, σ[i]? = some (some v) ∧ Rep K F' H d v [])
    (ex : Ext (fun a => OwnAt σ e i a) F H F' H) : Sta K F' H σ (e.set i x) where
  wf := ex.wf s.wf
  len := by rw [List.length_set]; exact s.len
  val := fun j d h => by
    rcases set_at h with ⟨rfl, z⟩ | ⟨n, z⟩
    · obtain ⟨v, h1, h2⟩ := hr d z
      exact ⟨v, [], h1, h2, .inr rfl⟩
    · obtain ⟨v, L, h1, r, o⟩ := s.val j d z
      refine ⟨v, L, h1, r.mono ex fun a ha hi => ?_, o⟩
      rcases o with o | o
      · obtain ⟨b, xs, ev, eL, _⟩ := r.own_shape o
        subst ev eL
        rw [List.mem_singleton.mp ha] at hi
        exact n (s.uni j i b ⟨d, z, o, h1⟩ hi)
      · rw [o] at ha; cases ha
  uni := fun j k a h1 h2 => s.uni j k a (own_set hx h1).2 (own_set hx h2).2
theorem rdVar_some {i : Nat} {o : Opd} (h : rdVar e i = some (o, e')) :
    (∃ l, e[i]? = some (some (.lst true l)) ∧ o = .v (.lst false l) ∧ e' = e.set i (some (.lst false l))) ∨ (∃ d, e[i]? = some (some d) ∧ d.isOwn = false ∧ o = .v d ∧ e' = e) := by
  unfold rdVar at h
  split at h
  · rename_i l he
    cases h
    exact .inl ⟨l, he, rfl, rfl⟩
  · cases h
  · rename_i d h1 h2 he
    cases h
    refine .inr ⟨d, he, ?_, rfl, rfl⟩
    cases d with
    | lst o l => cases o with
      | true => exact absurd rfl (h1 l)
      | false => rfl
    | io l => exact absurd rfl (h2 l)
    | _ => rfl
  · cases h
theorem io_set {i : Nat} {x : Option D} (h : ∀ l, e[i]? ≠ some (some (.io l))) : ∀ (j : Nat) (l : List D), e[j]? = some (some (.io l)) → ∃ l', (e.set i x)[j]? = some (some (.io l')) := fun j l hj => by
  have n : i ≠ j := fun z => by subst z; exact h l hj
  exact ⟨l, by rw [List.getElem?_set_ne n]; exact hj⟩
theorem rdVar_ok (s : Sta K F H σ e) {i : Nat} {o : Opd} (h : rdVar e i = some (o, e')) : ∃ v F' L, σ[i]? = some (some v) ∧ Post K F H σ e F' H e' [o] [v] L := by
  rcases rdVar_some h with ⟨l, he, rfl, rfl⟩ | ⟨d, he, hd, rfl, rfl⟩
  · obtain ⟨v, L, h1, r, _⟩ := s.val i _ he
    cases r with
    | @own a xs _ h2 h3 h4 =>
      have own : OwnAt σ e i a := ⟨_, he, rfl, h1⟩
      have ok : ∀ c, c ∈ [a] → ¬ F c ∧ ∃ xs, H c = some (.lst xs) := fun c hc => by rw [List.mem_singleton.mp hc]; exact ⟨h3, _, h2⟩
      have ex := Ext.freeze (F := F) (H := H) ok
      have rf : Rep K (fun b => F b ∨ b ∈ [a]) H (.lst false l) (.ref a) [] := .frz h2 (.inr List.mem_cons_self) (Reps.mono0 ex h4)
      have st : Sta K (fun b => F b ∨ b ∈ [a]) H σ (e.set i (some (.lst false l))) :=
        s.reset (fun d z => by cases z; rfl) (fun d z => by cases z; exact ⟨_, h1, rf⟩)
          (ex.grow (fun c hc => by rw [List.mem_singleton.mp hc]; exact own) fun c hc => s.ownOk c ⟨i, hc⟩)
      refine ⟨_, _, [], h1, ⟨ex.grow (fun c hc => by rw [List.mem_singleton.mp hc]; exact ⟨i, own⟩) s.ownOk, st, fun j b hb => (own_set (fun d z => by cases z; rfl) hb).2, .one rf, .nil, (fun _ z => nomatch z), (fun _ z => nomatch z), io_set fun l z => ?_⟩⟩
      rw [he] at z; cases z
  · obtain ⟨v, L, h1, r, o⟩ := s.val i _ he
    have eL : L = [] := o.elim (fun z => by rw [hd] at z; cases z) fun z => z
    subst eL
    exact ⟨v, F, [], h1, ⟨.refl s.ownOk, s, fun _ _ z => z, .one r, .nil, (fun _ z => nomatch z), (fun _ z => nomatch z), fun _ l z => ⟨l, z⟩⟩⟩
theorem rdMov_ok (s : Sta K F H σ e) {i : Nat} {o : Opd} (h : rdMov e i = some (o, e')) : ∃ v L, σ[i]? = some (some v) ∧ Post K F H σ e F H e' [o] [v] L := by
  unfold rdMov at h
  split at h
  · cases h
  · rename_i d hio he
    cases h
    obtain ⟨v, L, h1, r, o⟩ := s.val i _ he
    have st : Sta K F H σ (e.set i none) := s.reset (x := none) (fun d z => by cases z) (fun d z => by cases z) (.refl fun c hc => s.ownOk c ⟨i, hc⟩)
    have LO : ∀ a ∈ L, OwnAt σ e i a := fun a ha => by
      rcases o with o | o
      · obtain ⟨b, xs, ev, eL, _⟩ := r.own_shape o
        subst ev eL
        rw [List.mem_singleton.mp ha]
        exact ⟨_, he, o, h1⟩
      · rw [o] at ha; cases ha
    refine ⟨v, L, h1, ⟨.refl s.ownOk, st, fun j b hb => (own_set (x := none) (fun d z => by cases z) hb).2, .one r, ?_, fun a ha => .inr ⟨i, LO a ha⟩, fun a ha ⟨j, hj⟩ => ?_, io_set fun l z => ?_⟩⟩
    · rcases o with o | o
      · obtain ⟨b, xs, ev, eL, _⟩ := r.own_shape o
        rw [eL]; simp
      · rw [o]; exact .nil
    · obtain ⟨n, ho⟩ := own_set (x := none) (fun d z => by cases z) hj
      exact n (s.uni j i a ho (LO a ha))
    · rw [he] at z
      cases z
      exact hio l rfl
  · cases h
end
end PV
set_option Elab.async false
set_option linter.all false
set_option maxRecDepth 100000
set_option maxHeartbeats 1000000
/-! Operations by values. -/
namespace PV
open PySem PySem.Spec PyProof.Rows L2

section
variable {K : PySem.W.Frag} {F F' F1 F2 : Addr → Prop} {H H' H1 H2 : Hp} {σ σ' : L2.St} {e e' e1 e2 : Env} {X : Cx}
theorem Post.scal {d : D} {v : V} (s : Sta K F H σ e) (r : Rep K F H d v []) : Post K F H σ e F H e [.v d] [v] [] :=
  ⟨.refl s.ownOk, s, fun _ _ h => h, .one r, .nil, (fun _ z => nomatch z), (fun _ z => nomatch z), fun _ l h => ⟨l, h⟩⟩
theorem e_const {c : Expr} {d : D} {v : V} (h : PE X c (tC v)) (r : ∀ F H, Rep X.K F H d v []) : PE X c (tE X.K fun e => some (.v d, e)) :=
  PE_imp h fun σ H Q ⟨F, e, o, e', s, hf, q⟩ => by
    cases hf
    exact q _ _ _ _ (.scal s (r F H))
theorem e_var {c : Expr} {i : Nat} (h : PE X c (tVar i)) : PE X c (tE X.K fun e => rdVar e i) :=
  PE_imp h fun σ H Q ⟨F, e, o, e', s, hf, q⟩ => by
    obtain ⟨v, F', L, h1, p⟩ := rdVar_ok s hf
    exact ⟨v, h1, q _ _ _ _ p⟩
theorem e_mov {c : Expr} {i : Nat} (h : PE X c (tVar i)) : PE X c (tE X.K fun e => rdMov e i) :=
  PE_imp h fun σ H Q ⟨F, e, o, e', s, hf, q⟩ => by
    obtain ⟨v, L, h1, p⟩ := rdMov_ok s hf
    exact ⟨v, h1, q _ _ _ _ p⟩
theorem e_bor {c : Expr} {i : Nat} (h : PE X c (tVar i)) : PE X c (tE X.K fun e => rdBor e i) :=
  PE_imp h fun σ H Q ⟨F, e, o, e', s, hf, q⟩ => by
    have hf : rdBor e i = some (o, e') := hf
    unfold rdBor at hf
    split at hf
    · rename_i d he
      cases hf
      obtain ⟨v, L, h1, r, _⟩ := s.val i _ he
      exact ⟨v, h1, q F H v [] ⟨.refl s.ownOk, s, fun _ _ h => h, .bor h1 .nil, .nil, (fun _ z => nomatch z), (fun _ z => nomatch z), fun _ l h => ⟨l, h⟩⟩⟩
    · cases hf

/-! ### two operands -/
theorem tE_two {f g : Env → Option (Opd × Env)} {o1 o2 : Opd} {R : V → V → Hp → Prop} (s : Sta K F H σ e) (hf : f e = some (o1, e1)) (hg : g e1 = some (o2, e2))
    (h : ∀ F' H' x y L, Post K F H σ e F' H' e2 [o1, o2] [x, y] L → R x y H') : tE K f σ H fun x H1 => tE K g σ H1 fun y H2 => R x y H2 :=
  ⟨F, e, o1, e1, s, hf, fun F1 H1 x L1 p1 => ⟨F1, e1, o2, e2, p1.sta, hg, fun F2 H2 y L2 p2 => h _ _ _ _ _ (p1.app p2)⟩⟩
def Op2Ok (K : PySem.W.Frag) (r : R2) (p : D → D → Option D) : Prop := ∀ F H d1 d2 d v1 v2 L, WF F H → ORepL K F H [d1, d2] [v1, v2] L → L.Nodup → p d1 d2 = some d → ∀ Q : VK, (∀ F' H' v L', VPost K F H L F' H' d v L' → Q v H') → r v1 v2 H Q
def CmpOk (K : PySem.W.Frag) (r : R2) (p : D → D → Option Bool) : Prop := ∀ F H d1 d2 b v1 v2 L, ORepL K F H [d1, d2] [v1, v2] L → p d1 d2 = some b → ∀ Q : VK, Q (.bl b) H → r v1 v2 H Q
def Op1Ok (K : PySem.W.Frag) (r : V → Hp → VK → Prop) (p : D → Option D) : Prop := ∀ F H d1 d v1 L, WF F H → ORep K F H d1 v1 L → L.Nodup → p d1 = some d → ∀ Q : VK, (∀ F' H' v L', VPost K F H L F' H' d v L' → Q v H') → r v1 H Q
theorem evOp2_some {p : D → D → Option D} {f g : Env → Option (Opd × Env)} {e e' : Env} {o : Opd} (h : evOp2 p (f e) g = some (o, e')) :
    ∃ o1 e1 o2 d1 d2 d, f e = some (o1, e1) ∧ g e1 = some (o2, e') ∧ ress e' [o1, o2] = some [d1, d2] ∧ p d1 d2 = some d ∧ o = .v d := by
  unfold evOp2 at h
  obtain ⟨⟨o1, e1⟩, h1, h⟩ := Option.bind_eq_some_iff.mp h
  obtain ⟨⟨o2, e2⟩, h2, h⟩ := Option.bind_eq_some_iff.mp h
  obtain ⟨d1, h3, h⟩ := Option.bind_eq_some_iff.mp h
  obtain ⟨d2, h4, h⟩ := Option.bind_eq_some_iff.mp h
  obtain ⟨d, h5, h⟩ := Option.map_eq_some_iff.mp h
  cases h
  refine ⟨o1, e1, o2, d1, d2, d, h1, h2, ?_, h5, rfl⟩
  have h3 : res e2 o1 = some d1 := h3
  have h4 : res e2 o2 = some d2 := h4
  show (res e2 o1).bind (fun d => ((res e2 o2).bind fun d' => (some []).map (d' :: ·)).map (d :: ·)) = _
  rw [h3, h4]
  rfl
theorem e_op2 {a b c : Expr} {r : R2} {p : D → D → Option D} {f g : Env → Option (Opd × Env)} (hc : ∀ ta tb, PE X a ta → PE X b tb → PE X c (tOp r ta tb)) (ok : Op2Ok X.K r p) (ha : PE X a (tE X.K f)) (hb : PE X b (tE X.K g)) :
    PE X c (tE X.K fun e => evOp2 p (f e) g) :=
  PE_imp (hc _ _ ha hb) fun σ H Q ⟨F, e, o, e', s, hf, q⟩ => by
    obtain ⟨o1, e1, o2, d1, d2, d, h1, h2, h3, h4, rfl⟩ := evOp2_some hf
    refine tE_two s h1 h2 fun F' H' x y L p => ?_
    exact ok _ _ _ _ _ _ _ _ p.sta.wf (p.rep.ress p.sta h3) p.nd h4 _ fun F2 H2 v L' vp => q _ _ _ _ (p.op vp)
theorem CmpOk.op2 {r : R2} {op : Cop} (h : CmpOk K r (cmp op)) : Op2Ok K r (cmpD op) := fun F H d1 d2 d v1 v2 L wf rp nd e Q q => by
  obtain ⟨b, h1, rfl⟩ := Option.map_eq_some_iff.mp e
  exact h F H d1 d2 b v1 v2 L rp h1 Q (q F H _ [] (.flat (.bl b) fun _ z => rp.ownOk z))
/-- a test -/
theorem toB_some {r : Option (Opd × Env)} {b : Bool} (h : toB r = some (b, e')) : r = some (.v (.bl b), e') := by
  unfold toB at h
  obtain ⟨⟨o, e1⟩, h1, h⟩ := Option.bind_eq_some_iff.mp h
  rw [h1]
  cases o with
  | v d =>
    cases d with
    | bl k => cases h; rfl
    | _ => cases h
  | b i => cases h
theorem t_op2 {a b c : Expr} {r : R2} {p : D → D → Option D} {f g : Env → Option (Opd × Env)} (hc : ∀ ta tb, PE X a ta → PE X b tb → PT X c (tTest (tOp r ta tb))) (ok : Op2Ok X.K r p) (ha : PE X a (tE X.K f)) (hb : PE X b (tE X.K g)) :
    PT X c (tT X.K fun e => toB (evOp2 p (f e) g)) :=
  PT_imp (hc _ _ ha hb) fun σ H Q ⟨F, e, b, e', s, hf, q⟩ => by
    obtain ⟨o1, e1, o2, d1, d2, d, h1, h2, h3, h4, ho⟩ := evOp2_some (toB_some hf)
    cases ho
    refine tE_two s h1 h2 fun F' H' x y L p => ?_
    refine ok _ _ _ _ _ _ _ _ p.sta.wf (p.rep.ress p.sta h3) p.nd h4 _ fun F2 H2 v L' vp => ?_
    have pp := p.op vp
    cases pp.rep.one'
    exact ⟨b, rfl, q _ _ pp.drop⟩
/-- a test of any expression that has no form of its own -/
theorem t_val {c : Expr} {f : Env → Option (Opd × Env)} (h : PE X c (tE X.K f)) (he : ∀ whole, isTrue c X.env whole = (do let v ← whole; standAt c.pos; holding [v] (truthy v))) : PT X c (tT X.K fun e => toB (f e)) :=
  PT_imp (pt_val h he) fun σ H Q ⟨F, e, b, e', s, hf, q⟩ => by
    refine ⟨F, e, _, e', s, toB_some hf, fun F' H' v L p => ?_⟩
    cases p.rep.one'
    exact ⟨b, rfl, q _ _ p.drop⟩

/-! ### data read by == -/
mutual
theorem Rep.dp : ∀ {n : Nat} {d : D} {v : V} {L : List Addr}, Rep K F H d v L → d.okEq n = true → Dp K H v d.toPy
  | _, _, _, _, .non, _ => .non
  | _, _, _, _, .bl b, _ => .bl b
  | _, _, _, _, .int i, _ => .int i
  | _, _, _, _, .str x, _ => .str x
  | 0, _, _, _, .tup h r, ok => by cases ok
  | n + 1, _, _, _, .tup h r, ok => .tup (SqT.of h) (Reps.dp r ok)
  | 0, _, _, _, .frz h f r, ok => by cases ok
  | n + 1, _, _, _, .frz h f r, ok => .lst (SqL.of h) (Reps.dp r ok)
  | 0, _, _, _, .own h f r, ok => by cases ok
  | n + 1, _, _, _, .own h f r, ok => .lst (SqL.of h) (Reps.dp r ok)
  | 0, _, _, _, .io h f r, ok => by cases ok
  | n + 1, _, _, _, .io h f r, ok => by cases ok
  | 0, _, _, _, .scr s, ok => by cases ok
  | n + 1, _, _, _, .scr s, ok => by cases ok
theorem Reps.dp : ∀ {n : Nat} {ds : List D} {vs : List V} {L : List Addr}, Reps K F H ds vs L → okEqs n ds = true → DpAll K H vs (toPys ds)
  | _, _, _, _, .nil, _ => .nil
  | n, d :: ds, _, _, .cons r t, ok => by
    have ok' : (d.okEq n && okEqs n ds) = true := ok
    rw [Bool.and_eq_true] at ok'
    exact .cons (Rep.dp r ok'.1) (Reps.dp t ok'.2)
end
mutual
theorem okEq_shape : ∀ (n : Nat) (d : D), d.okEq n = true → d.toPy.canLay0 = true ∧ d.toPy.depth ≤ n
  | _, .non, _ => ⟨rfl, Nat.zero_le _⟩
  | _, .bl b, _ => ⟨rfl, Nat.zero_le _⟩
  | _, .int i, _ => ⟨rfl, Nat.zero_le _⟩
  | n, .str x, h => ⟨by
      have h' : PyData.strOk x = true := by cases n <;> exact h
      simpa [D.toPy, PyData.canLay0] using h', Nat.zero_le _⟩
  | 0, .tup l, h => by cases h
  | n + 1, .tup l, h => by
    obtain ⟨h1, h2⟩ := okEqs_shape n l h
    exact ⟨by simpa [D.toPy, PyData.canLay0] using h1, by simpa [D.toPy, PyData.depth] using h2⟩
  | 0, .lst o l, h => by cases h
  | n + 1, .lst o l, h => by
    obtain ⟨h1, h2⟩ := okEqs_shape n l h
    exact ⟨by simpa [D.toPy, PyData.canLay0] using h1, by simpa [D.toPy, PyData.depth] using h2⟩
  | 0, .io l, h => by cases h
  | n + 1, .io l, h => by cases h
  | 0, .scr l, h => by cases h
  | n + 1, .scr l, h => by cases h
theorem okEqs_shape : ∀ (n : Nat) (ds : List D), okEqs n ds = true → PyData.canLayAll0 (toPys ds) = true ∧ PyData.depthAll (toPys ds) ≤ n
  | _, [], _ => ⟨rfl, Nat.zero_le _⟩
  | n, d :: ds, h => by
    have h' : (d.okEq n && okEqs n ds) = true := h
    rw [Bool.and_eq_true] at h'
    obtain ⟨a1, a2⟩ := okEq_shape n d h'.1
    obtain ⟨b1, b2⟩ := okEqs_shape n ds h'.2
    refine ⟨?_, ?_⟩
    · show PyData.canLayAll0 (d.toPy :: toPys ds) = true
      rw [PyData.canLayAll0, a1, b1]
      rfl
    · show PyData.depthAll (d.toPy :: toPys ds) ≤ n
      rw [PyData.depthAll]
      omega
end
theorem okEq_shaped {d : D} (h : d.okEq depthEq = true) : SeqAt.shaped d.toPy = true := by
  obtain ⟨h1, h2⟩ := okEq_shape depthEq d h
  unfold SeqAt.shaped
  rw [h1, Bool.true_and, decide_eq_true_eq]
  exact Nat.le_trans h2 (by decide)
theorem ORep.dp {n : Nat} {d : D} {v : V} {L : List Addr} (r : ORep K F H d v L) (ok : d.okEq n = true) : Dp K H v d.toPy := by
  cases r with
  | of r => exact r.dp ok
  | bor h1 h2 =>
    cases n with
    | zero => cases ok
    | succ n => exact .lst (SqL.of h1) (Reps.dp h2 ok)
end
end PV
set_option Elab.async false
set_option linter.all false
set_option maxRecDepth 100000
set_option maxHeartbeats 1000000
/-! The operators. -/
namespace PV
open PySem PySem.Spec PyProof.Rows L2

section
variable {K : PySem.W.Frag} {F F' F1 F2 : Addr → Prop} {H H' H1 H2 : Hp} {X : Cx}
theorem lim_line {n : Nat} (h : n ≤ lim) : n ≤ sizeLine := Nat.le_trans h (by rw [sizeLine_eq]; decide)
theorem Reps.split {a b : List D} {xs ys : List V} {L1 L2 : List Addr} (r : Reps K F H a xs L1) (t : Reps K F H b ys L2) : Reps K F H (a ++ b) (xs ++ ys) (L1 ++ L2) := r.append t

/-! ### + - * // % ** -/
def rAdd (K : PySem.W.Frag) : R2 := fun x y H Q => (rI0 (fun i j => .int (i + j)) x y H Q) ∨ (rCat x y H Q) ∨ (rCatA K x y H Q) ∨ (∃ i j, x = .str i ∧ y = .str j ∧ i.length + j.length ≤ sizeLine ∧ Q (.str (i ++ j)) H)
theorem opr_add : OpR X (binaryOp .Add) (rAdd X.K) := op_add.or (op_cat.or (op_catA.or op_add_str))
theorem Reps.nil_iff {ds : List D} {vs : List V} {L : List Addr} (r : Reps K F H ds vs L) (h : vs = []) : ds = [] ∧ L = [] := by
  subst h
  cases r
  exact ⟨rfl, rfl⟩
theorem ok_add : Op2Ok K (rAdd K) (bin .add) := fun F H d1 d2 d v1 v2 L wf rp nd e Q q => by
  obtain ⟨L1, L2, rfl, r1, r2⟩ := rp.two
  have ok : ∀ a ∈ L1 ++ L2, ¬ F a ∧ ∃ xs, H a = some (.lst xs) := fun _ z => rp.ownOk z
  cases d1 with
  | int i =>
    cases d2 with
    | int j =>
      cases e
      obtain ⟨rfl, rfl⟩ := r1.int
      obtain ⟨rfl, rfl⟩ := r2.int
      exact .inl ⟨i, j, rfl, rfl, q _ _ _ _ (.flat (.int _) ok)⟩
    | _ => cases e
  | lst o a =>
    cases d2 with
    | lst o' b =>
      have e : (if a.length + b.length ≤ lim then some (D.lst true (a ++ b)) else none) = some d := e
      split at e
      · rename_i hl
        cases e
        obtain ⟨p1, xs, rfl, h1, s1⟩ := r1.lst
        obtain ⟨p2, ys, rfl, h2, s2⟩ := r2.lst
        refine .inr (.inl ⟨p1, p2, xs, ys, rfl, rfl, h1, h2, ?_, fun p hp => q _ _ _ _ (.newL0 (Reps.append (L := []) (M := []) s1 s2) hp wf ok)⟩)
        rw [← s1.length, ← s2.length]
        exact lim_line hl
      · cases e
    | _ => cases e
  | tup a =>
    cases d2 with
    | tup b =>
      have e : (if a.length + b.length ≤ lim then some (D.tup (a ++ b)) else none) = some d := e
      split at e
      · rename_i hl
        cases e
        obtain ⟨p1, xs, rfl, h1, s1⟩ := r1.tup
        obtain ⟨p2, ys, rfl, h2, s2⟩ := r2.tup
        have nd2 : L2.Nodup := (List.nodup_append.mp nd).2.1
        have nd1 : L1.Nodup := (List.nodup_append.mp nd).1
        refine .inr (.inr (.inl ⟨p1, p2, xs, ys, rfl, rfl, SqT.of h1, SqT.of h2, ?_, fun hx => ?_, fun hx hy => ?_, fun hx hy p hp => q _ _ _ _ (.newT (s1.append s2) nd hp)⟩))
        · rw [← s1.length, ← s2.length]
          exact lim_line hl
        · obtain ⟨rfl, rfl⟩ := s1.nil_iff hx
          exact q F H _ L2 ⟨.refl ok, .tup h2 s2, nd2, fun a ha => .inr ha⟩
        · obtain ⟨rfl, rfl⟩ := s2.nil_iff hy
          simp only [List.append_nil] at q ok
          exact q F H _ L1 ⟨.refl ok, .tup h1 s1, nd1, fun a ha => .inr ha⟩
      · cases e
    | _ => cases e
  | str x =>
    cases d2 with
    | str y =>
      have e : (if x.length + y.length ≤ lim then some (D.str (x ++ y)) else none) = some d := e
      split at e
      · rename_i hl
        cases e
        obtain ⟨rfl, rfl⟩ := r1.str
        obtain ⟨rfl, rfl⟩ := r2.str
        exact .inr (.inr (.inr ⟨x, y, rfl, rfl, lim_line hl, q _ _ _ _ (.flat (.str _) ok)⟩))
      · cases e
    | _ => cases e
  | _ => cases e
theorem ok_sub : Op2Ok K (rI0 fun i j => .int (i - j)) (bin .sub) := fun F H d1 d2 d v1 v2 L wf rp nd e Q q => by
  obtain ⟨L1, L2, rfl, r1, r2⟩ := rp.two
  cases d1 with
  | int i =>
    cases d2 with
    | int j =>
      cases e
      obtain ⟨rfl, rfl⟩ := r1.int
      obtain ⟨rfl, rfl⟩ := r2.int
      exact ⟨i, j, rfl, rfl, q _ _ _ _ (.flat (.int _) fun _ z => rp.ownOk z)⟩
    | _ => cases e
  | _ => cases e
theorem ok_mod : Op2Ok K (rI (fun _ j => 0 < j) fun i j => .int (i % j)) (bin .mod) := fun F H d1 d2 d v1 v2 L wf rp nd e Q q => by
  obtain ⟨L1, L2, rfl, r1, r2⟩ := rp.two
  cases d1 with
  | int i =>
    cases d2 with
    | int j =>
      have e : (if 0 < j then some (D.int (i % j)) else none) = some d := e
      split at e
      · rename_i hj
        cases e
        obtain ⟨rfl, rfl⟩ := r1.int
        obtain ⟨rfl, rfl⟩ := r2.int
        exact ⟨i, j, rfl, rfl, hj, q _ _ _ _ (.flat (.int _) fun _ z => rp.ownOk z)⟩
      · cases e
    | _ => cases e
  | _ => cases e
theorem ok_pow : Op2Ok K (rI CPow fun i j => .int (i ^ j.toNat)) (bin .pow) := fun F H d1 d2 d v1 v2 L wf rp nd e Q q => by
  obtain ⟨L1, L2, rfl, r1, r2⟩ := rp.two
  cases d1 with
  | int i =>
    cases d2 with
    | int j =>
      have e : (if 0 ≤ j ∧ j ≤ 1000 ∧ i.natAbs < 1000000 then some (D.int (i ^ j.toNat)) else none) = some d := e
      split at e
      · rename_i hj
        cases e
        obtain ⟨rfl, rfl⟩ := r1.int
        obtain ⟨rfl, rfl⟩ := r2.int
        exact ⟨i, j, rfl, rfl, ⟨hj.1, by omega, Nat.lt_trans hj.2.2 (by decide)⟩, q _ _ _ _ (.flat (.int _) fun _ z => rp.ownOk z)⟩
      · cases e
    | _ => cases e
  | _ => cases e
def rDiv : R2 := fun x y H Q => (rI CDiv (fun i j => .int (i / j)) x y H Q) ∨ (rI CDivN (fun i j => .int (i.fdiv j)) x y H Q)
theorem opr_div : OpR X (binaryOp .FloorDiv) rDiv := op_fdiv.or op_fdivN
theorem ok_div : Op2Ok K rDiv (bin .fdiv) := fun F H d1 d2 d v1 v2 L wf rp nd e Q q => by
  obtain ⟨L1, L2, rfl, r1, r2⟩ := rp.two
  cases d1 with
  | int i =>
    cases d2 with
    | int j =>
      have e : (if 0 < j then (if j < 1073741824 then some (D.int (i / j)) else none) else if j < 0 ∧ -1073741824 < j then some (.int (i.fdiv j)) else none) = some d := e
      obtain ⟨rfl, rfl⟩ := r1.int
      obtain ⟨rfl, rfl⟩ := r2.int
      split at e
      · rename_i hj
        split at e
        · rename_i hk
          cases e
          exact .inl ⟨i, j, rfl, rfl, ⟨hj, hk⟩, q _ _ _ _ (.flat (.int _) fun _ z => rp.ownOk z)⟩
        · cases e
      · split at e
        · rename_i hk
          cases e
          exact .inr ⟨i, j, rfl, rfl, ⟨by omega, by omega⟩, q _ _ _ _ (.flat (.int _) fun _ z => rp.ownOk z)⟩
        · cases e
    | _ => cases e
  | _ => cases e
end

/-! ### a tuple times a number below two -/
section
variable {X : Cx}
theorem tuple_mul1 (l : Addr) (items : Array Value) (n : Nat) (sl : Array (Option Value)) (dd : Option Addr) (x : Int) (u : Tok) (c0 : (decide (x < -(2 ^ 63)) || decide (x ≥ 2 ^ 63)) = false) (c1 : (items.isEmpty || x == 1) = true) :
    Meets (Builtin.«tuple.__mul__» ⟨[.ref l, .int x u], []⟩) (fun _ R s => s.heap.get? l = some { cls := .type "tuple", dict := dd, data := .seq items n, slots := sl } ∧ R (.ok (.ret (Value.ref l))) s) :=
  .of_wp fun prog w A R s h => by
    obtain ⟨hp, g, d, tk, os⟩ := s
    obtain ⟨hl, h⟩ := h
    have f1 := AutoSeq1.idx_int
    wp_walk using wpAny_loadPart' hl
    repeat (first
      | (refine wpAny_ite_false (decide_eq_false (by rw [c0]; exact Bool.false_ne_true)) ?_; wp_walk using wpAny_loadPart' hl)
      | (refine wpAny_ite_true (decide_eq_true (by rw [c1])) ?_; wp_walk using wpAny_loadPart' hl))
    exact ⟨_, rfl, h⟩
theorem tuple_mul0 (l : Addr) (items : Array Value) (n : Nat) (sl : Array (Option Value)) (dd : Option Addr) (x : Int) (u : Tok) (c0 : (decide (x < -(2 ^ 63)) || decide (x ≥ 2 ^ 63)) = false) (c1 : (items.isEmpty || x == 1) = false) (c2 : (decide (x ≤ 0) || items.isEmpty) = true) :
    Meets (Builtin.«tuple.__mul__» ⟨[.ref l, .int x u], []⟩) (fun _ R s => s.heap.get? l = some { cls := .type "tuple", dict := dd, data := .seq items n, slots := sl } ∧
      R (.ok (.ret (Value.ref s.heap.objs.size))) { s with heap := s.heap.push { cls := Value.type "tuple", data := Data.seq #[] }, toks := s.toks }) :=
  .of_wp fun prog w A R s h => by
    obtain ⟨hp, g, d, tk, os⟩ := s
    obtain ⟨hl, h⟩ := h
    have f1 := AutoSeq1.idx_int
    wp_walk using wpAny_loadPart' hl
    repeat (first
      | (refine wpAny_ite_false (decide_eq_false (by rw [c0]; exact Bool.false_ne_true)) ?_; wp_walk using wpAny_loadPart' hl)
      | (refine wpAny_ite_false (decide_eq_false (by rw [c1]; exact Bool.false_ne_true)) ?_; wp_walk using wpAny_loadPart' hl)
      | (refine wpAny_ite_true (decide_eq_true (by rw [c2])) ?_; wp_walk using wpAny_loadPart' hl))
    exact ⟨_, rfl, h⟩

def rRepA : R2 := fun x y H Q => ∃ l k xs, x = .ref l ∧ y = .int k ∧ H l = some (.tup xs) ∧ xs ≠ [] ∧ -1000 ≤ k ∧ k ≤ 1000 ∧ xs.length ≤ 1000 ∧ (k = 1 → Q (.ref l) H) ∧ (k ≠ 1 → ∀ p, H p = none → Q (.ref p) (upd H p (.tup (List.replicate k.toNat xs).flatten)))
theorem op_repA : OpR X (binaryOp .Mult) rRepA := by
  intro pins s σ H x y v u Q I rx ry h
  obtain ⟨l, k, xs, rfl, rfl, hT, hne, h1, h2, hz, q1, q2⟩ := h
  by_cases hk : 2 ≤ k
  · exact op_repT pins s σ H _ _ v u Q I rx ry ⟨l, k, xs, rfl, rfl, SqT.of hT, hne, hk, h2, hz, q2 (by omega)⟩
  cases rx
  obtain ⟨t, rfl⟩ := ry
  obtain ⟨its, r, ⟨⟨cls, dd, data, sl⟩, ho, hc, n, hd⟩, hs⟩ := I.tuple (SqT.of hT)
  simp only at hc hd
  subst hc hd
  have hle : its.length = xs.length := r.length.symm
  have hn : its ≠ [] := fun e => hne (by
    rw [e] at hle
    exact List.eq_nil_of_length_eq_zero hle.symm)
  have hi : its.toArray.isEmpty = false := by
    cases its with
    | nil => exact absurd rfl hn
    | cons a b => rfl
  have c0 : (decide (k < -(2 ^ 63)) || decide (k ≥ 2 ^ 63)) = false := by
    rw [decide_eq_false (by omega), decide_eq_false (by omega)] <;> rfl
  by_cases hk1 : k = 1
  · have c1 : (its.toArray.isEmpty || k == 1) = true := by
      rw [hi, Bool.false_or]
      exact beq_iff_eq.mpr hk1
    refine wpAny_binaryOp_repeat_ref (T := "tuple") (U := "int") (by decide) ⟨_, ho, rfl⟩ (fun s' => typeIs_int s' k t) noFill_tuple_mul F.fills_int_mul F.slot_int_rmul repeat_tuple F.slot_int_index.lookup
      (call_meets F.slot_int_rmul (typeIs_int s k t) F.entry_int_rmul (F.args_int_rmul_2 _ _) (int_rmul_tuple k t l its.toArray n dd sl)
        ⟨ho, rfl, ⟨_, ho, rfl⟩, call_meets F.slot_tuple_mul ⟨_, ho, rfl⟩ F.entry_tuple_mul (F.args_tuple_mul_2 _ _) (tuple_mul1 l its.toArray n sl dd k t c0 c1) ⟨ho, ?_⟩⟩)
    exact ⟨.ref l, H, I, rfl, q1 hk1⟩
  · have c1 : (its.toArray.isEmpty || k == 1) = false := by
      rw [hi, Bool.false_or]
      exact beq_eq_false_iff_ne.mpr hk1
    have c2 : (decide (k ≤ 0) || its.toArray.isEmpty) = true := by
      rw [decide_eq_true (by omega)] <;> rfl
    refine wpAny_binaryOp_repeat_ref (T := "tuple") (U := "int") (by decide) ⟨_, ho, rfl⟩ (fun s' => typeIs_int s' k t) noFill_tuple_mul F.fills_int_mul F.slot_int_rmul repeat_tuple F.slot_int_index.lookup
      (call_meets F.slot_int_rmul (typeIs_int s k t) F.entry_int_rmul (F.args_int_rmul_2 _ _) (int_rmul_tuple k t l its.toArray n dd sl)
        ⟨ho, rfl, ⟨_, ho, rfl⟩, call_meets F.slot_tuple_mul ⟨_, ho, rfl⟩ F.entry_tuple_mul (F.args_tuple_mul_2 _ _) (tuple_mul0 l its.toArray n sl dd k t c0 c1 c2) ⟨ho, ?_⟩⟩)
    have e0 : (List.replicate k.toNat xs).flatten = [] := by
      rw [show k.toNat = 0 by omega]
      rfl
    have q3 := q2 hk1
    rw [e0] at q3
    refine ⟨.ref s.heap.objs.size, _, I.laid (t' := s.toks) (o := .tup []) (fun b ob q => Heap.get?_push_of_some _ q) (Nat.le_refl _) ?_, rfl, q3 _ (I.hok.fresh (Nat.le_refl _))⟩
    exact ⟨Nat.zero_le _, [], .nil, IsTup.new _ _⟩
end
section
variable {K : PySem.W.Frag} {F F' F1 F2 : Addr → Prop} {H H' H1 H2 : Hp} {X : Cx}
def rMul : R2 := fun x y H Q => (rI CMul (fun i j => .int (i * j)) x y H Q) ∨ (rRepA x y H Q)
theorem opr_mul : OpR X (binaryOp .Mult) rMul := op_mul.or op_repA
theorem Reps.flat_rep {a : List D} {xs : List V} (r : Reps K F H a xs []) : ∀ n : Nat, Reps K F H (List.replicate n a).flatten (List.replicate n xs).flatten []
  | 0 => .nil
  | n + 1 => Reps.append (L := []) (M := []) r (Reps.flat_rep r n)
theorem mulOk_of {i j : Int} (h : mulOk i j = true) : CMul i j := by
  unfold mulOk at h
  simp only [Bool.or_eq_true, Bool.and_eq_true, decide_eq_true_eq] at h
  exact h
theorem freezes_length : ∀ l : List D, (freezes l).length = l.length
  | [] => rfl
  | d :: r => congrArg Nat.succ (freezes_length r)
theorem freezes_append : ∀ a b : List D, freezes (a ++ b) = freezes a ++ freezes b
  | [], _ => rfl
  | d :: r, b => congrArg (d.freeze :: ·) (freezes_append r b)
theorem freezes_flat (a : List D) : ∀ n : Nat, freezes (List.replicate n a).flatten = (List.replicate n (freezes a)).flatten
  | 0 => rfl
  | n + 1 => by
    rw [List.replicate_succ, List.flatten_cons, freezes_append, freezes_flat a n, List.replicate_succ, List.flatten_cons]
theorem ok_mul : Op2Ok K rMul (bin .mul) := fun F H d1 d2 d v1 v2 L wf rp nd e Q q => by
  obtain ⟨L1, L2, rfl, r1, r2⟩ := rp.two
  have ok : ∀ a ∈ L1 ++ L2, ¬ F a ∧ ∃ xs, H a = some (.lst xs) := fun _ z => rp.ownOk z
  cases d1 with
  | int i =>
    cases d2 with
    | int j =>
      have e : (if mulOk i j = true then some (D.int (i * j)) else none) = some d := e
      split at e
      · rename_i hj
        cases e
        obtain ⟨rfl, rfl⟩ := r1.int
        obtain ⟨rfl, rfl⟩ := r2.int
        exact .inl ⟨i, j, rfl, rfl, mulOk_of hj, q _ _ _ _ (.flat (.int _) ok)⟩
      · cases e
    | _ => cases e
  | tup a =>
    cases d2 with
    | int k =>
      have e : (if a.isEmpty = false ∧ a.length ≤ 1000 ∧ -1000 ≤ k ∧ k ≤ 1000 then some (D.tup (freezes (List.replicate k.toNat a).flatten)) else none) = some d := e
      split at e
      · rename_i hk
        cases e
        obtain ⟨h1, h2, h3, h4⟩ := hk
        obtain ⟨p1, xs, rfl, hp, s1⟩ := r1.tup
        obtain ⟨rfl, rfl⟩ := r2.int
        have hl := s1.length
        have fz := Reps.freeze (fun _ z => s1.ownOk z) s1 fun _ z => z
        have ex : Ext (· ∈ L1 ++ []) F H (fun a => F a ∨ a ∈ L1) H := by
          have := Ext.freeze (F := F) (H := H) fun c (z : c ∈ L1) => s1.ownOk z
          rw [List.append_nil]
          exact this
        rw [freezes_flat] at q
        refine .inr ⟨p1, k, xs, rfl, rfl, hp, fun z => ?_, h3, h4, by rw [← hl]; exact h2, fun z => ?_, fun z p hn => ?_⟩
        · rw [z] at hl
          cases a with
          | nil => cases h1
          | cons _ _ => cases hl
        · subst z
          refine q _ _ _ [] ⟨ex, ?_, .nil, fun _ z => nomatch z⟩
          have := fz.flat_rep 1
          rw [show (List.replicate 1 xs).flatten = xs by simp [List.replicate]] at this
          exact .tup hp this
        · refine q _ _ _ [] ⟨ex.trans (Ext.new hn) fun _ z => z.elim, ?_, .nil, fun _ z => nomatch z⟩
          exact .tup upd_same (Reps.mono0 (Ext.new hn) (fz.flat_rep k.toNat))
      · cases e
    | _ => cases e
  | _ => cases e
/-! ### by their names -/
def Bop.py : Bop → Operator
  | .add => .Add | .sub => .Sub | .mul => .Mult | .fdiv => .FloorDiv | .mod => .Mod | .pow => .Pow
def rBin (K : PySem.W.Frag) : Bop → R2
  | .add => rAdd K | .sub => rI0 fun i j => .int (i - j) | .mul => rMul | .fdiv => rDiv | .mod => rI (fun _ j => 0 < j) fun i j => .int (i % j) | .pow => rI CPow fun i j => .int (i ^ j.toNat)
theorem opr_bin (op : Bop) : OpR X (binaryOp op.py) (rBin X.K op) := by
  cases op with
  | add => exact opr_add
  | sub => exact op_sub
  | mul => exact opr_mul
  | fdiv => exact opr_div
  | mod => exact op_mod
  | pow => exact op_pow
theorem ok_bin (op : Bop) : Op2Ok K (rBin K op) (bin op) := by
  cases op with
  | add => exact ok_add
  | sub => exact ok_sub
  | mul => exact ok_mul
  | fdiv => exact ok_div
  | mod => exact ok_mod
  | pow => exact ok_pow
theorem e_bin {op : Bop} {a b : Expr} {pos : Pos} {f g : Env → Option (Opd × Env)} (ha : PE X a (tE X.K f)) (hb : PE X b (tE X.K g)) : PE X (.BinOp a op.py b pos) (tE X.K fun e => evOp2 (bin op) (f e) g) :=
  e_op2 (fun ta tb h1 h2 => pe_op (opr_bin op) h1 h2) (ok_bin op) ha hb
theorem e_neg {a : Expr} {pos : Pos} {f : Env → Option (Opd × Env)} (ha : PE X a (tE X.K f)) : PE X (.UnaryOp .USub a pos) (tE X.K fun e => evOp1 neg (f e)) :=
  PE_imp (pe_un un_neg ha) fun σ H Q ⟨F, e, o, e', s, hf, q⟩ => by
    unfold evOp1 at hf
    obtain ⟨⟨o1, e1⟩, h1, h⟩ := Option.bind_eq_some_iff.mp hf
    obtain ⟨d1, h2, h⟩ := Option.bind_eq_some_iff.mp h
    obtain ⟨d2, h3, h⟩ := Option.map_eq_some_iff.mp h
    cases h
    refine ⟨F, e, o1, _, s, h1, fun F' H' v L p => ?_⟩
    have rp := (p.rep.ress p.sta (ds := [d1]) (by show (res _ o1).bind (fun d => some [d]) = _; rw [show res _ o1 = some d1 from h2]; rfl)).one
    cases d1 with
    | int i =>
      cases h3
      obtain ⟨rfl, rfl⟩ := rp.int
      exact ⟨i, rfl, q _ _ _ _ (p.op (.flat (.int _) fun _ z => nomatch z))⟩
    | _ => cases h3
end
end PV
set_option Elab.async false
set_option linter.all false
set_option maxRecDepth 100000
set_option maxHeartbeats 1000000
/-! Comparisons, tests. -/
namespace PV
open PySem PySem.Spec PyProof.Rows L2

section
variable {K : PySem.W.Frag} {F F' F1 F2 : Addr → Prop} {H H' H1 H2 : Hp} {X : Cx} {σ : L2.St} {e e' : Env}
theorem ints_reps : ∀ {l : List D} {xs : List V} {L : List Addr} {ns : List Int}, Reps K F H l xs L → D.ints l = some ns → xs = ns.map V.int
  | [], _, _, ns, .nil, h => by cases h; rfl
  | d :: l, _, _, ns, .cons r t, h => by
    cases d with
    | int i =>
      have h : (D.ints l).map (i :: ·) = some ns := h
      obtain ⟨ms, h1, h2⟩ := Option.map_eq_some_iff.mp h
      subst h2
      cases r
      rw [ints_reps t h1]
      rfl
    | _ => cases h
theorem bools_reps : ∀ {l : List D} {xs : List V} {L : List Addr} {ns : List Bool}, Reps K F H l xs L → D.bools l = some ns → xs = ns.map V.bl
  | [], _, _, ns, .nil, h => by cases h; rfl
  | d :: l, _, _, ns, .cons r t, h => by
    cases d with
    | bl i =>
      have h : (D.bools l).map (i :: ·) = some ns := h
      obtain ⟨ms, h1, h2⟩ := Option.map_eq_some_iff.mp h
      subst h2
      cases r
      rw [bools_reps t h1]
      rfl
    | _ => cases h
def rLt (K : PySem.W.Frag) : R2 := fun x y H Q => (rI0 (fun i j => .bl (decide (i < j))) x y H Q) ∨ (rLtT K x y H Q)
def rInA (K : PySem.W.Frag) : R2 := fun x y H Q => (∃ i j, x = .str i ∧ y = .str j ∧ Q (.bl (!(Builtin.Str.occurrences j i 0 j.length 1).isEmpty)) H) ∨ (rIn K false x y H Q) ∨ (rInD K x y H Q)
def rNotInA (K : PySem.W.Frag) : R2 := fun x y H Q => (∃ i j, x = .str i ∧ y = .str j ∧ Q (.bl (!(!(Builtin.Str.occurrences j i 0 j.length 1).isEmpty))) H) ∨ (rIn K true x y H Q) ∨ (rNotInD K x y H Q)
def rCmp (K : PySem.W.Frag) : Cop → R2
  | .lt => rLt K
  | .le => rI0 fun i j => .bl (decide (i ≤ j))
  | .gt => rI0 fun i j => .bl (decide (j < i))
  | .ge => rI0 fun i j => .bl (decide (j ≤ i))
  | .eq => rEqD K
  | .ne => rNeD K
  | .isN => fun x y H Q => y = .non ∧ Q (.bl (decide (x = .non))) H
  | .notN => fun x y H Q => y = .non ∧ Q (.bl (!decide (x = .non))) H
  | .isB => rIsB
  | .notB => rNotB
  | .isin => rInA K
  | .notin => rNotInA K
def Cop.py : Cop → CmpOp
  | .lt => .Lt | .le => .LtE | .gt => .Gt | .ge => .GtE | .eq => .Eq | .ne => .NotEq | .isN => .Is | .notN => .IsNot | .isB => .Is | .notB => .IsNot | .isin => .In | .notin => .NotIn
theorem opr_cmp (hu : X.A.units + 65 < cLine) (op : Cop) : OpR X (compareOp op.py) (rCmp X.K op) := by
  cases op with
  | lt => exact op_lt.or (op_ltT (by omega))
  | le => exact op_le
  | gt => exact op_gt
  | ge => exact op_ge
  | eq => exact op_eqD (by omega)
  | ne => exact op_neD (by omega)
  | isN => exact op_isN
  | notN => exact op_notN
  | isB => exact op_isBl
  | notB => exact op_notBl
  | isin => exact op_in_str.or (op_in_seq.or (op_inD hu))
  | notin => exact op_notin_str.or (op_notIn_seq.or (op_notInD hu))
theorem ok_i0 {g : Int → Int → Bool} {op : Cop} (hp : ∀ i j, cmp op (.int i) (.int j) = some (g i j)) (hn : ∀ a b, (∀ i, a ≠ D.int i) ∨ (∀ i, b ≠ D.int i) → cmp op a b = none) : CmpOk K (rI0 fun i j => .bl (g i j)) (cmp op) := fun F H d1 d2 b v1 v2 L rp e Q q => by
  obtain ⟨L1, L2, rfl, r1, r2⟩ := rp.two
  cases d1 with
  | int i =>
    cases d2 with
    | int j =>
      rw [hp] at e
      cases e
      obtain ⟨rfl, rfl⟩ := r1.int
      obtain ⟨rfl, rfl⟩ := r2.int
      exact ⟨i, j, rfl, rfl, q⟩
    | _ => rw [hn _ _ (.inr fun i z => by cases z)] at e; cases e
  | _ => rw [hn _ _ (.inl fun i z => by cases z)] at e; cases e
theorem eqOk_iff {a b : D} (h : eqOk a b = true) : a.okEq depthEq = true ∧ b.okEq depthEq = true := by
  unfold eqOk at h
  rwa [Bool.and_eq_true] at h
theorem any_toPys (a : D) : ∀ l : List D, ((toPys l).any fun z => PyData.eqv z a.toPy) = l.any fun y => y.eqv a
  | [] => rfl
  | d :: l => by
    show (PyData.eqv d.toPy a.toPy || (toPys l).any fun z => PyData.eqv z a.toPy) = (d.eqv a || l.any fun y => y.eqv a)
    rw [any_toPys a l]
    rfl
theorem flat_rep {d : D} {v : V} {L : List Addr} (r : Rep K F H d v L) (f : d.isFlat = true) : flatV v = true := by
  cases r <;> first | rfl | (cases f; done)
theorem flat_eqV {d d' : D} {v v' : V} {L L' : List Addr} (r : Rep K F H d v L) (r' : Rep K F H d' v' L') (f : d.isFlat = true) (f' : d'.isFlat = true) : eqV v v' = d.eqv d' := by
  cases r <;> first | (cases f; done) | (cases r' <;> first | (cases f'; done) | rfl | (simp [eqV, D.eqv, D.toPy, PyData.eqv]))
theorem flats_any {d : D} {v : V} {L : List Addr} (r : Rep K F H d v L) (f : d.isFlat = true) : ∀ {l : List D} {xs : List V} {M : List Addr}, Reps K F H l xs M → l.all D.isFlat = true → xs.all flatV = true ∧ inV v xs = l.any fun y => y.eqv d
  | _, _, _, .nil, _ => ⟨rfl, rfl⟩
  | d' :: l, v' :: xs, _, .cons r' t, h => by
    rw [List.all_cons, Bool.and_eq_true] at h
    obtain ⟨i1, i2⟩ := flats_any r f t h.2
    refine ⟨by rw [List.all_cons, flat_rep r' h.1, i1]; rfl, ?_⟩
    unfold inV at i2 ⊢
    rw [List.any_cons, List.any_cons, i2, flat_eqV r' r h.1 f]
theorem ORep.flat_of {d : D} {v : V} {L : List Addr} (r : ORep K F H d v L) (f : d.isFlat = true) : Rep K F H d v L := by
  cases r with
  | of r => exact r
  | bor _ _ => cases f
theorem isN_v {d : D} {v : V} {L : List Addr} (r : ORep K F H d v L) (f : d ≠ .non) : v ≠ .non := fun z => by
  subst z
  cases r with
  | of r => cases r; exact f rfl
theorem none_le (a b : D) (h : (∀ i, a ≠ D.int i) ∨ (∀ i, b ≠ D.int i)) : cmp .le a b = none := by
  rcases h with h | h
  · cases a <;> first | rfl | exact absurd rfl (h _)
  · cases b <;> first | (cases a <;> rfl) | exact absurd rfl (h _)
theorem none_gt (a b : D) (h : (∀ i, a ≠ D.int i) ∨ (∀ i, b ≠ D.int i)) : cmp .gt a b = none := by
  rcases h with h | h
  · cases a <;> first | rfl | exact absurd rfl (h _)
  · cases b <;> first | (cases a <;> rfl) | exact absurd rfl (h _)
theorem none_ge (a b : D) (h : (∀ i, a ≠ D.int i) ∨ (∀ i, b ≠ D.int i)) : cmp .ge a b = none := by
  rcases h with h | h
  · cases a <;> first | rfl | exact absurd rfl (h _)
  · cases b <;> first | (cases a <;> rfl) | exact absurd rfl (h _)
theorem ok_cmp (op : Cop) : CmpOk K (rCmp K op) (cmp op) := by
  cases op with
  | lt =>
    intro F H d1 d2 b v1 v2 L rp e Q q
    obtain ⟨L1, L2, rfl, r1, r2⟩ := rp.two
    cases d1 with
    | int i =>
      cases d2 with
      | int j =>
        cases e
        obtain ⟨rfl, rfl⟩ := r1.int
        obtain ⟨rfl, rfl⟩ := r2.int
        exact .inl ⟨i, j, rfl, rfl, q⟩
      | _ => cases e
    | tup a =>
      cases d2 with
      | tup c =>
        have e : ((D.ints a).bind fun a => (D.ints c).map fun b => HT.lexLt a b) = some b := e
        obtain ⟨ns, h1, e⟩ := Option.bind_eq_some_iff.mp e
        obtain ⟨ms, h2, e⟩ := Option.map_eq_some_iff.mp e
        subst e
        obtain ⟨p1, xs, rfl, g1, s1⟩ := r1.tup
        obtain ⟨p2, ys, rfl, g2, s2⟩ := r2.tup
        rw [ints_reps s1 h1] at g1
        rw [ints_reps s2 h2] at g2
        exact .inr ⟨p1, p2, ns, ms, rfl, rfl, SqT.of g1, SqT.of g2, q⟩
      | _ => cases e
    | _ => cases e
  | le => exact ok_i0 (fun _ _ => rfl) none_le
  | gt => exact ok_i0 (fun _ _ => rfl) none_gt
  | ge => exact ok_i0 (fun _ _ => rfl) none_ge
  | eq =>
    intro F H d1 d2 b v1 v2 L rp e Q q
    obtain ⟨L1, L2, rfl, r1, r2⟩ := rp.two
    have e : (if eqOk d1 d2 = true then some (d1.eqv d2) else none) = some b := by cases d1 <;> cases d2 <;> exact e
    split at e
    · rename_i h
      cases e
      obtain ⟨h1, h2⟩ := eqOk_iff h
      exact ⟨_, _, r1.dp h1, r2.dp h2, okEq_shaped h1, okEq_shaped h2, q⟩
    · cases e
  | ne =>
    intro F H d1 d2 b v1 v2 L rp e Q q
    obtain ⟨L1, L2, rfl, r1, r2⟩ := rp.two
    have e : (if eqOk d1 d2 = true then some (!d1.eqv d2) else none) = some b := by cases d1 <;> cases d2 <;> exact e
    split at e
    · rename_i h
      cases e
      obtain ⟨h1, h2⟩ := eqOk_iff h
      exact ⟨_, _, r1.dp h1, r2.dp h2, okEq_shaped h1, okEq_shaped h2, q⟩
    · cases e
  | isN =>
    intro F H d1 d2 b v1 v2 L rp e Q q
    obtain ⟨L1, L2, rfl, r1, r2⟩ := rp.two
    cases d2 with
    | non =>
      obtain ⟨rfl, rfl⟩ := r2.non
      refine ⟨rfl, ?_⟩
      by_cases hn : d1 = .non
      · subst hn
        cases e
        obtain ⟨rfl, rfl⟩ := r1.non
        exact q
      · rw [decide_eq_false (isN_v r1 hn)]
        cases d1 <;> first | exact absurd rfl hn | (cases e; exact q) | cases e
    | _ => cases d1 <;> cases e
  | notN =>
    intro F H d1 d2 b v1 v2 L rp e Q q
    obtain ⟨L1, L2, rfl, r1, r2⟩ := rp.two
    cases d2 with
    | non =>
      obtain ⟨rfl, rfl⟩ := r2.non
      refine ⟨rfl, ?_⟩
      by_cases hn : d1 = .non
      · subst hn
        cases e
        obtain ⟨rfl, rfl⟩ := r1.non
        exact q
      · rw [decide_eq_false (isN_v r1 hn)]
        cases d1 <;> first | exact absurd rfl hn | (cases e; exact q) | cases e
    | _ => cases d1 <;> cases e
  | isB =>
    intro F H d1 d2 b v1 v2 L rp e Q q
    obtain ⟨L1, L2, rfl, r1, r2⟩ := rp.two
    cases d1 with
    | bl i =>
      cases d2 with
      | bl j =>
        cases e
        obtain ⟨rfl, rfl⟩ := r1.bl
        obtain ⟨rfl, rfl⟩ := r2.bl
        exact ⟨i, j, rfl, rfl, q⟩
      | _ => cases e
    | _ => cases e
  | notB =>
    intro F H d1 d2 b v1 v2 L rp e Q q
    obtain ⟨L1, L2, rfl, r1, r2⟩ := rp.two
    cases d1 with
    | bl i =>
      cases d2 with
      | bl j =>
        cases e
        obtain ⟨rfl, rfl⟩ := r1.bl
        obtain ⟨rfl, rfl⟩ := r2.bl
        exact ⟨i, j, rfl, rfl, q⟩
      | _ => cases e
    | _ => cases e
  | isin =>
    intro F H d1 d2 b v1 v2 L rp e Q q
    obtain ⟨L1, L2, rfl, r1, r2⟩ := rp.two
    cases d2 with
    | tup l =>
      have e : (if d1.isFlat = true ∧ l.all D.isFlat = true then some (l.any fun y => y.eqv d1) else none) = some b := by cases d1 <;> exact e
      split at e
      · rename_i h
        cases e
        obtain ⟨p, xs, rfl, g, s⟩ := r2.tup
        obtain ⟨i1, i2⟩ := flats_any (r1.flat_of h.1) h.1 s h.2
        refine .inr (.inl ⟨p, xs, rfl, .inr (SqT.of g), flat_rep (r1.flat_of h.1) h.1, i1, ?_⟩)
        rw [if_neg Bool.false_ne_true, i2]
        exact q
      · cases e
    | lst o l =>
      have e : (if eqOk d1 (.lst o l) = true then some (l.any fun y => y.eqv d1) else none) = some b := by cases d1 <;> exact e
      split at e
      · rename_i h
        cases e
        obtain ⟨h1, h2⟩ := eqOk_iff h
        refine .inr (.inr ⟨_, toPys l, r1.dp h1, r2.dp h2, okEq_shaped h1, okEq_shaped h2, ?_⟩)
        rw [any_toPys]
        exact q
      · cases e
    | str y =>
      cases d1 with
      | str x =>
        cases e
        obtain ⟨rfl, rfl⟩ := r1.str
        obtain ⟨rfl, rfl⟩ := r2.str
        exact .inl ⟨x, y, rfl, rfl, q⟩
      | _ => cases e
    | _ => cases d1 <;> cases e
  | notin =>
    intro F H d1 d2 b v1 v2 L rp e Q q
    obtain ⟨L1, L2, rfl, r1, r2⟩ := rp.two
    cases d2 with
    | tup l =>
      have e : (if d1.isFlat = true ∧ l.all D.isFlat = true then some (!l.any fun y => y.eqv d1) else none) = some b := by cases d1 <;> exact e
      split at e
      · rename_i h
        cases e
        obtain ⟨p, xs, rfl, g, s⟩ := r2.tup
        obtain ⟨i1, i2⟩ := flats_any (r1.flat_of h.1) h.1 s h.2
        refine .inr (.inl ⟨p, xs, rfl, .inr (SqT.of g), flat_rep (r1.flat_of h.1) h.1, i1, ?_⟩)
        rw [if_pos rfl, i2]
        exact q
      · cases e
    | lst o l =>
      have e : (if eqOk d1 (.lst o l) = true then some (!l.any fun y => y.eqv d1) else none) = some b := by cases d1 <;> exact e
      split at e
      · rename_i h
        cases e
        obtain ⟨h1, h2⟩ := eqOk_iff h
        refine .inr (.inr ⟨_, toPys l, r1.dp h1, r2.dp h2, okEq_shaped h1, okEq_shaped h2, ?_⟩)
        rw [any_toPys]
        exact q
      · cases e
    | str y =>
      cases d1 with
      | str x =>
        cases e
        obtain ⟨rfl, rfl⟩ := r1.str
        obtain ⟨rfl, rfl⟩ := r2.str
        exact .inl ⟨x, y, rfl, rfl, q⟩
      | _ => cases e
    | _ => cases d1 <;> cases e
end
end PV
set_option Elab.async false
set_option linter.all false
set_option maxRecDepth 100000
set_option maxHeartbeats 1000000
/-! Expressions: comparisons, tests, displays, subscripts. -/
namespace PV
open PySem PySem.Spec PyProof.Rows L2

section
variable {K : PySem.W.Frag} {F F' F1 F2 : Addr → Prop} {H H' H1 H2 : Hp} {X : Cx} {σ : L2.St} {e e' : Env}
theorem Reps.orep : ∀ {ds : List D} {vs : List V} {L : List Addr}, Reps K F H ds vs L → ORepL K F H ds vs L
  | _, _, _, .nil => .nil
  | _, _, _, .cons r t => .cons (.of r) t.orep
variable {a b c : Expr} {pos : Pos} {f g h : Env → Option (Opd × Env)}
theorem e_cmp (hu : X.A.units + 65 < cLine) {op : Cop} (ha : PE X a (tE X.K f)) (hb : PE X b (tE X.K g)) (hm : behindInMarks op.py b = false) : PE X (.Compare a [op.py] [b] pos) (tE X.K fun e => evOp2 (cmpD op) (f e) g) :=
  e_op2 (fun ta tb h1 h2 => pe_cmpR (opr_cmp hu op) h1 h2 hm) (ok_cmp op).op2 ha hb
theorem t_cmp (hu : X.A.units + 65 < cLine) {op : Cop} (ha : PE X a (tE X.K f)) (hb : PE X b (tE X.K g)) (hm : behindInMarks op.py b = false) : PT X (.Compare a [op.py] [b] pos) (tT X.K fun e => toB (evOp2 (cmpD op) (f e) g)) :=
  t_op2 (fun ta tb h1 h2 => pt_cmpR (opr_cmp hu op) h1 h2 hm) (ok_cmp op).op2 ha hb

/-! ### chains -/
def evChain (o1 o2 : Cop) (r : Option (Opd × Env)) (g h : Env → Option (Opd × Env)) : Option (Opd × Env) :=
  r.bind fun x => (g x.2).bind fun y => (val x.1).bind fun d => (val y.1).bind fun d' => (cmp o1 d d').bind fun r =>
    if r = true then (h y.2).bind fun z => (val z.1).bind fun d'' => (cmp o2 d' d'').map fun r => (.v (.bl r), z.2) else some (.v (.bl false), y.2)
theorem chain_ok {o1 o2 : Cop} {o : Opd} {Q : VK} (s : Sta K F H σ e) (hf : evChain o1 o2 (f e) g h = some (o, e')) (q : ∀ F' H' v L, Post K F H σ e F' H' e' [o] [v] L → Q v H') :
    tChain (rCmp K o1) (rCmp K o2) (tE K f) (tE K g) (tE K h) σ H Q := by
  unfold evChain at hf
  obtain ⟨⟨q1, e1⟩, h1, hf⟩ := Option.bind_eq_some_iff.mp hf
  obtain ⟨⟨q2, e2⟩, h2, hf⟩ := Option.bind_eq_some_iff.mp hf
  obtain ⟨d, h3, hf⟩ := Option.bind_eq_some_iff.mp hf
  obtain ⟨d', h4, hf⟩ := Option.bind_eq_some_iff.mp hf
  obtain ⟨k, h5, hf⟩ := Option.bind_eq_some_iff.mp hf
  cases q1 with
  | b i => cases h3
  | v d0 =>
  cases q2 with
  | b i => cases h4
  | v d1 =>
  cases h3
  cases h4
  refine tE_two s h1 h2 fun F2 H2 x y L p => ?_
  have rp : Reps K F2 H2 [d, d'] [x, y] L := p.rep.vals rfl
  refine ok_cmp o1 _ _ _ _ _ _ _ _ rp.orep h5 _ ⟨k, rfl, ?_⟩
  cases k with
  | false =>
    rw [if_neg Bool.false_ne_true] at hf
    cases hf
    rw [if_neg Bool.false_ne_true]
    exact q _ _ _ _ (p.op (.flat (.bl false) fun _ z => rp.ownOk z))
  | true =>
    rw [if_pos rfl] at hf
    rw [if_pos rfl]
    obtain ⟨⟨q3, e3⟩, h6, hf⟩ := Option.bind_eq_some_iff.mp hf
    obtain ⟨d'', h7, hf⟩ := Option.bind_eq_some_iff.mp hf
    obtain ⟨k2, h8, hf⟩ := Option.map_eq_some_iff.mp hf
    cases hf
    cases q3 with
    | b i => cases h7
    | v d2 =>
    cases h7
    refine ⟨F2, e2, _, _, p.sta, h6, fun F3 H3 w L3 p3 => ?_⟩
    have pp := p.app p3
    have rp3 : Reps K F3 H3 ([d, d'] ++ [d'']) ([x, y] ++ [w]) (L ++ L3) := (p.rep.vals (ds := [d, d']) rfl |>.mono p3.ext p.dis).append (p3.rep.vals rfl)
    have rp4 : ∃ M, Reps K F3 H3 [d', d''] [y, w] M := by
      generalize L ++ L3 = N at rp3
      cases rp3 with
      | cons r t => exact ⟨_, t⟩
    obtain ⟨M, rp4⟩ := rp4
    refine ok_cmp o2 _ _ _ _ _ _ _ _ rp4.orep h8 _ (q _ _ _ _ (pp.op (.flat (.bl k2) fun _ z => pp.rep.ownOk z)))
theorem e_chain (hu : X.A.units + 65 < cLine) {o1 o2 : Cop} (ha : PE X a (tE X.K f)) (hb : PE X b (tE X.K g)) (hc : PE X c (tE X.K h)) (hm : lastMarks [o1.py, o2.py] [b, c] = false) :
    PE X (.Compare a [o1.py, o2.py] [b, c] pos) (tE X.K fun e => evChain o1 o2 (f e) g h) :=
  PE_imp (pe_chain (opr_cmp hu o1) (opr_cmp hu o2) ha hb hc hm) fun σ H Q ⟨F, e, o, e', s, hf, q⟩ => chain_ok s hf q
theorem t_chain (hu : X.A.units + 65 < cLine) {o1 o2 : Cop} (ha : PE X a (tE X.K f)) (hb : PE X b (tE X.K g)) (hc : PE X c (tE X.K h)) (hm : lastMarks [o1.py, o2.py] [b, c] = false) :
    PT X (.Compare a [o1.py, o2.py] [b, c] pos) (tT X.K fun e => toB (evChain o1 o2 (f e) g h)) :=
  PT_imp (pt_chain (opr_cmp hu o1) (opr_cmp hu o2) ha hb hc hm) fun σ H Q ⟨F, e, b, e', s, hf, q⟩ => by
    refine chain_ok s (toB_some hf) fun F' H' v L p => ?_
    cases p.rep.one'
    exact ⟨b, rfl, q _ _ p.drop⟩

/-! ### chains of three -/
def evChain3 (o1 o2 o3 : Cop) (r : Option (Opd × Env)) (g h k : Env → Option (Opd × Env)) : Option (Opd × Env) :=
  r.bind fun x => (g x.2).bind fun y => (val x.1).bind fun da => (val y.1).bind fun db => (cmp o1 da db).bind fun r =>
    if r = true then (h y.2).bind fun z => (val z.1).bind fun dc => (cmp o2 db dc).bind fun r2 =>
      if r2 = true then (k z.2).bind fun w => (val w.1).bind fun dd => (cmp o3 dc dd).map fun r => (.v (.bl r), w.2) else some (.v (.bl false), z.2)
    else some (.v (.bl false), y.2)
def tChain3 (r r' r'' : R2) (ta tb tc td : TE) : TE := fun σ H Q => ta σ H fun x H1 => tb σ H1 fun y H2 => r x y H2 fun z H3 => ∃ k, z = .bl k ∧
  (if k = true then tc σ H3 fun w' H4 => r' y w' H4 fun z' H5 => ∃ k', z' = .bl k' ∧ (if k' = true then td σ H5 fun u' H6 => r'' w' u' H6 Q else Q (.bl false) H5) else Q (.bl false) H3)
section
variable {op op' op'' : CmpOp} {r r' r'' : R2} {ta tb tc td : TE} {d : Expr}
theorem pe_chain3 (ho : OpR X (compareOp op) r) (ho' : OpR X (compareOp op') r') (ho'' : OpR X (compareOp op'') r'') (ha : PE X a ta) (hb : PE X b tb) (hc : PE X c tc) (hd : PE X d td)
    (hm : lastMarks [op, op', op''] [b, c, d] = false) : PE X (.Compare a [op, op', op''] [b, c, d] pos) (tChain3 r r' r'' ta tb tc td) := by
  refine ⟨fun pins s σ H Q I h => ?_⟩
  refine Compare_chain (thn (ha.run pins s σ H _ I h) fun v s1 ⟨x, H1, I1, r1, q1⟩ => chain_link (thn (hb.run pins s1 σ H1 _ I1 q1) fun u s2 ⟨y, H2, I2, r2, q2⟩ =>
    thn (ho pins s2 σ H2 x y v u _ I2 r1 r2 q2) fun d s3 ⟨z, H3, I3, r3, k, e, q3⟩ => ?_)) hm
  subst e
  cases r3
  refine wpAny_truthy_bool ?_
  cases k with
  | false => exact ite_ff ⟨.bl false, H3, I3, rfl, q3⟩
  | true =>
    refine ite_tt (chain_link (thn (hc.run pins s3 σ H3 _ I3 q3) fun w' s4 ⟨z', H4, I4, r4, q4⟩ => thn (ho' pins s4 σ H4 y z' u w' _ I4 r2 r4 q4) fun d2 s5 ⟨z2, H5, I5, r5, k2, e2, q5⟩ => ?_))
    subst e2
    cases r5
    refine wpAny_truthy_bool ?_
    cases k2 with
    | false => exact ite_ff ⟨.bl false, H5, I5, rfl, q5⟩
    | true => exact ite_tt (chain_last (thn (hd.run pins s5 σ H5 _ I5 q5) fun w3 s6 ⟨z3, H6, I6, r6, q6⟩ => ho'' pins s6 σ H6 z' z3 w' w3 Q I6 r4 r6 q6))
theorem pt_chain3 (ho : OpR X (compareOp op) r) (ho' : OpR X (compareOp op') r') (ho'' : OpR X (compareOp op'') r'') (ha : PE X a ta) (hb : PE X b tb) (hc : PE X c tc) (hd : PE X d td)
    (hm : lastMarks [op, op', op''] [b, c, d] = false) : PT X (.Compare a [op, op', op''] [b, c, d] pos) (tTest (tChain3 r r' r'' ta tb tc td)) := by
  refine ⟨fun pins s σ H Q I h => ?_⟩
  refine isTrue_chain (thn (ha.run pins s σ H _ I h) fun v s1 ⟨x, H1, I1, r1, q1⟩ => test_link (thn (hb.run pins s1 σ H1 _ I1 q1) fun u s2 ⟨y, H2, I2, r2, q2⟩ =>
    thn (ho pins s2 σ H2 x y v u _ I2 r1 r2 q2) fun d s3 ⟨z, H3, I3, r3, k, e, q3⟩ => ?_)) hm
  subst e
  cases r3
  refine wpAny_truthy_bool ?_
  cases k with
  | false =>
    obtain ⟨k', e', q'⟩ := q3
    cases e'
    exact ite_ff ⟨H3, I3, q'⟩
  | true =>
    refine ite_tt (test_link (thn (hc.run pins s3 σ H3 _ I3 q3) fun w' s4 ⟨z', H4, I4, r4, q4⟩ => thn (ho' pins s4 σ H4 y z' u w' _ I4 r2 r4 q4) fun d' s5 ⟨z2, H5, I5, r5, k2, e2, q5⟩ => ?_))
    subst e2
    cases r5
    refine wpAny_truthy_bool ?_
    cases k2 with
    | false =>
      obtain ⟨k', e', q'⟩ := q5
      cases e'
      exact ite_ff ⟨H5, I5, q'⟩
    | true =>
      refine ite_tt (test_last (thn (hd.run pins s5 σ H5 _ I5 q5) fun w3 s6 ⟨z3, H6, I6, r6, q6⟩ => thn (ho'' pins s6 σ H6 z' z3 w' w3 _ I6 r4 r6 q6) fun d3 s7 ⟨z4, H7, I7, r7, k3, e3, q7⟩ => ?_))
      subst e3
      cases r7
      exact wpAny_truthy_bool ⟨H7, I7, q7⟩
end
theorem chain3_ok {o1 o2 o3 : Cop} {o : Opd} {Q : VK} {k : Env → Option (Opd × Env)} (s : Sta K F H σ e) (hf : evChain3 o1 o2 o3 (f e) g h k = some (o, e')) (q : ∀ F' H' v L, Post K F H σ e F' H' e' [o] [v] L → Q v H') :
    tChain3 (rCmp K o1) (rCmp K o2) (rCmp K o3) (tE K f) (tE K g) (tE K h) (tE K k) σ H Q := by
  unfold evChain3 at hf
  obtain ⟨⟨q1, e1⟩, h1, hf⟩ := Option.bind_eq_some_iff.mp hf
  obtain ⟨⟨q2, e2⟩, h2, hf⟩ := Option.bind_eq_some_iff.mp hf
  obtain ⟨d, h3, hf⟩ := Option.bind_eq_some_iff.mp hf
  obtain ⟨d', h4, hf⟩ := Option.bind_eq_some_iff.mp hf
  obtain ⟨j, h5, hf⟩ := Option.bind_eq_some_iff.mp hf
  cases q1 with
  | b i => cases h3
  | v d0 =>
  cases q2 with
  | b i => cases h4
  | v d1 =>
  cases h3
  cases h4
  refine tE_two s h1 h2 fun F2 H2 x y L p => ?_
  have rp : Reps K F2 H2 [d, d'] [x, y] L := p.rep.vals rfl
  refine ok_cmp o1 _ _ _ _ _ _ _ _ rp.orep h5 _ ⟨j, rfl, ?_⟩
  cases j with
  | false =>
    rw [if_neg Bool.false_ne_true] at hf
    cases hf
    rw [if_neg Bool.false_ne_true]
    exact q _ _ _ _ (p.op (.flat (.bl false) fun _ z => rp.ownOk z))
  | true =>
    rw [if_pos rfl] at hf
    rw [if_pos rfl]
    obtain ⟨⟨q3, e3⟩, h6, hf⟩ := Option.bind_eq_some_iff.mp hf
    obtain ⟨d'', h7, hf⟩ := Option.bind_eq_some_iff.mp hf
    obtain ⟨k2, h8, hf⟩ := Option.bind_eq_some_iff.mp hf
    cases q3 with
    | b i => cases h7
    | v d2 =>
    cases h7
    refine ⟨F2, e2, _, _, p.sta, h6, fun F3 H3 w L3 p3 => ?_⟩
    have pp := p.app p3
    have rp3 : Reps K F3 H3 ([d, d'] ++ [d'']) ([x, y] ++ [w]) (L ++ L3) := (p.rep.vals (ds := [d, d']) rfl |>.mono p3.ext p.dis).append (p3.rep.vals rfl)
    have rp4 : ∃ M, Reps K F3 H3 [d', d''] [y, w] M := by
      generalize L ++ L3 = N at rp3
      cases rp3 with
      | cons r t => exact ⟨_, t⟩
    obtain ⟨M, rp4⟩ := rp4
    refine ok_cmp o2 _ _ _ _ _ _ _ _ rp4.orep h8 _ ⟨k2, rfl, ?_⟩
    cases k2 with
    | false =>
      rw [if_neg Bool.false_ne_true] at hf
      cases hf
      rw [if_neg Bool.false_ne_true]
      exact q _ _ _ _ (pp.op (.flat (.bl false) fun _ z => pp.rep.ownOk z))
    | true =>
      rw [if_pos rfl] at hf
      rw [if_pos rfl]
      obtain ⟨⟨q4, e4⟩, h9, hf⟩ := Option.bind_eq_some_iff.mp hf
      obtain ⟨d3, h10, hf⟩ := Option.bind_eq_some_iff.mp hf
      obtain ⟨k3, h11, hf⟩ := Option.map_eq_some_iff.mp hf
      cases hf
      cases q4 with
      | b i => cases h10
      | v d4 =>
      cases h10
      refine ⟨F3, e3, _, _, pp.sta, h9, fun F4 H4 u L4 p4 => ?_⟩
      have ppp := pp.app p4
      have rp5 : Reps K F4 H4 (([d, d'] ++ [d'']) ++ [d3]) (([x, y] ++ [w]) ++ [u]) ((L ++ L3) ++ L4) := (pp.rep.vals (ds := [d, d', d'']) rfl |>.mono p4.ext pp.dis).append (p4.rep.vals rfl)
      have rp6 : ∃ M, Reps K F4 H4 [d'', d3] [w, u] M := by
        generalize (L ++ L3) ++ L4 = N at rp5
        cases rp5 with
        | cons r t =>
          cases t with
          | cons r t => exact ⟨_, t⟩
      obtain ⟨M2, rp6⟩ := rp6
      refine ok_cmp o3 _ _ _ _ _ _ _ _ rp6.orep h11 _ (q _ _ _ _ (ppp.op (.flat (.bl k3) fun _ z => ppp.rep.ownOk z)))
theorem e_chain3 (hu : X.A.units + 65 < cLine) {o1 o2 o3 : Cop} {d : Expr} {k : Env → Option (Opd × Env)} (ha : PE X a (tE X.K f)) (hb : PE X b (tE X.K g)) (hc : PE X c (tE X.K h)) (hd : PE X d (tE X.K k)) (hm : lastMarks [o1.py, o2.py, o3.py] [b, c, d] = false) :
    PE X (.Compare a [o1.py, o2.py, o3.py] [b, c, d] pos) (tE X.K fun e => evChain3 o1 o2 o3 (f e) g h k) :=
  PE_imp (pe_chain3 (opr_cmp hu o1) (opr_cmp hu o2) (opr_cmp hu o3) ha hb hc hd hm) fun σ H Q ⟨F, e, o, e', s, hf, q⟩ => chain3_ok s hf q
theorem t_chain3 (hu : X.A.units + 65 < cLine) {o1 o2 o3 : Cop} {d : Expr} {k : Env → Option (Opd × Env)} (ha : PE X a (tE X.K f)) (hb : PE X b (tE X.K g)) (hc : PE X c (tE X.K h)) (hd : PE X d (tE X.K k)) (hm : lastMarks [o1.py, o2.py, o3.py] [b, c, d] = false) :
    PT X (.Compare a [o1.py, o2.py, o3.py] [b, c, d] pos) (tT X.K fun e => toB (evChain3 o1 o2 o3 (f e) g h k)) :=
  PT_imp (pt_chain3 (opr_cmp hu o1) (opr_cmp hu o2) (opr_cmp hu o3) ha hb hc hd hm) fun σ H Q ⟨F, e, b, e', s, hf, q⟩ => by
    refine chain3_ok s (toB_some hf) fun F' H' v L p => ?_
    cases p.rep.one'
    exact ⟨b, rfl, q _ _ p.drop⟩

/-! ### not, and, or, if else -/
theorem e_not {t : Env → Option (Opd × Env)} (ha : PE X a (tE X.K t)) : PE X (.UnaryOp .Not a pos) (tE X.K fun e => (toB (t e)).map fun x => (.v (.bl (!x.1)), x.2)) :=
  PE_imp (pe_not ha) fun σ H Q ⟨F, e, o, e', s, hf, q⟩ => by
    obtain ⟨⟨k, e1⟩, h1, h2⟩ := Option.map_eq_some_iff.mp hf
    cases h2
    refine ⟨F, e, _, _, s, toB_some h1, fun F' H' v L p => ?_⟩
    cases p.rep.one'
    exact ⟨k, rfl, q _ _ _ _ (p.op (.flat (.bl _) fun _ z => nomatch z))⟩
theorem t_not {t : Env → Option (Opd × Env)} (ha : PT X a (tT X.K fun e => toB (t e))) : PT X (.UnaryOp .Not a pos) (tT X.K fun e => toB ((toB (t e)).map fun x => (.v (.bl (!x.1)), x.2))) :=
  PT_imp (pt_not ha) fun σ H Q ⟨F, e, b, e', s, hf, q⟩ => by
    obtain ⟨⟨k, e1⟩, h1, h2⟩ := Option.map_eq_some_iff.mp (toB_some hf)
    cases h2
    exact ⟨F, e, k, _, s, h1, fun F' H' p => q _ _ p⟩
theorem Post.app0 {F3 : Addr → Prop} {H3 : Hp} {e3 : Env} {os : List Opd} {vs : List V} {L : List Addr} (a : Post K F H σ e F1 H1 e' [] [] []) (b : Post K F1 H1 σ e' F3 H3 e3 os vs L) : Post K F H σ e F3 H3 e3 os vs L := a.app b
def andOr (k : Bool) (r : Option (Bool × Env)) (g : Env → Option (Bool × Env)) : Option (Bool × Env) := r.bind fun x => if x.1 = k then g x.2 else some (x.1, x.2)
theorem andOr_one (k : Bool) (r : Option (Bool × Env)) : andOr k r (fun e => some (k, e)) = r := by
  unfold andOr
  cases r with
  | none => rfl
  | some x =>
    obtain ⟨b, e⟩ := x
    show (if b = k then some (k, e) else some (b, e)) = some (b, e)
    by_cases hb : b = k
    · rw [if_pos hb, hb]
    · rw [if_neg hb]
theorem w_and {rest : List Expr} {t u : Env → Option (Bool × Env)} (ha : PT X a (tT X.K t)) (hb : PW X (.BoolOp .And (b :: rest) pos) (tT X.K u)) : PW X (.BoolOp .And (a :: b :: rest) pos) (tT X.K fun e => andOr true (t e) u) :=
  PW_imp (pw_and ha hb) fun σ H Q ⟨F, e, k, e', s, hf, q⟩ => by
    obtain ⟨⟨k1, e1⟩, h1, h2⟩ := Option.bind_eq_some_iff.mp hf
    refine ⟨F, e, k1, e1, s, h1, fun F' H' p => ?_⟩
    cases k1 with
    | true =>
      rw [if_pos rfl] at h2 ⊢
      exact ⟨F', e1, k, e', p.sta, h2, fun F2 H2 p2 => q _ _ (p.app0 p2)⟩
    | false =>
      rw [if_neg Bool.false_ne_true] at h2 ⊢
      cases h2
      exact q _ _ p
theorem w_or {rest : List Expr} {t u : Env → Option (Bool × Env)} (ha : PT X a (tT X.K t)) (hb : PW X (.BoolOp .Or (b :: rest) pos) (tT X.K u)) : PW X (.BoolOp .Or (a :: b :: rest) pos) (tT X.K fun e => andOr false (t e) u) :=
  PW_imp (pw_or ha hb) fun σ H Q ⟨F, e, k, e', s, hf, q⟩ => by
    obtain ⟨⟨k1, e1⟩, h1, h2⟩ := Option.bind_eq_some_iff.mp hf
    refine ⟨F, e, k1, e1, s, h1, fun F' H' p => ?_⟩
    cases k1 with
    | false =>
      rw [if_pos rfl] at h2
      rw [if_neg Bool.false_ne_true]
      exact ⟨F', e1, k, e', p.sta, h2, fun F2 H2 p2 => q _ _ (p.app0 p2)⟩
    | true =>
      rw [if_neg (fun z => by cases z)] at h2
      rw [if_pos rfl]
      cases h2
      exact q _ _ p
/-- as values -/
theorem v_one {op : BoolOp} {t : Env → Option (Opd × Env)} (ha : PE X a (tE X.K t)) : PE X (.BoolOp op [a] pos) (tE X.K fun e => (toB (t e)).map fun x => (.v (.bl x.1), x.2)) :=
  PE_imp (pe_one ha) fun σ H Q ⟨F, e, o, e', s, hf, q⟩ => by
    obtain ⟨⟨k, e1⟩, h1, h2⟩ := Option.map_eq_some_iff.mp hf
    cases h2
    exact ⟨F, e, _, _, s, toB_some h1, q⟩
theorem v_and {rest : List Expr} {t : Env → Option (Opd × Env)} {u : Env → Option (Bool × Env)} (ha : PE X a (tE X.K t)) (hb : PE X (.BoolOp .And (b :: rest) pos) (tE X.K fun e => (u e).map fun x => (.v (.bl x.1), x.2))) :
    PE X (.BoolOp .And (a :: b :: rest) pos) (tE X.K fun e => (andOr true (toB (t e)) u).map fun x => (.v (.bl x.1), x.2)) :=
  PE_imp (pe_and ha hb) fun σ H Q ⟨F, e, o, e', s, hf, q⟩ => by
    obtain ⟨⟨k, e2⟩, h1, h2⟩ := Option.map_eq_some_iff.mp hf
    cases h2
    obtain ⟨⟨k1, e1⟩, h1, h2⟩ := Option.bind_eq_some_iff.mp h1
    refine ⟨F, e, _, _, s, toB_some h1, fun F' H' v L p => ?_⟩
    cases p.rep.one'
    refine ⟨k1, rfl, ?_⟩
    cases k1 with
    | true =>
      rw [if_pos rfl] at h2 ⊢
      exact ⟨F', e1, _, _, p.sta, by dsimp only; rw [h2]; rfl, fun F2 H2 v2 L2 p2 => q _ _ _ _ (p.drop.app0 p2)⟩
    | false =>
      rw [if_neg Bool.false_ne_true] at h2 ⊢
      cases h2
      exact q _ _ _ _ p
theorem v_or {rest : List Expr} {t : Env → Option (Opd × Env)} {u : Env → Option (Bool × Env)} (ha : PE X a (tE X.K t)) (hb : PE X (.BoolOp .Or (b :: rest) pos) (tE X.K fun e => (u e).map fun x => (.v (.bl x.1), x.2))) :
    PE X (.BoolOp .Or (a :: b :: rest) pos) (tE X.K fun e => (andOr false (toB (t e)) u).map fun x => (.v (.bl x.1), x.2)) :=
  PE_imp (pe_or ha hb) fun σ H Q ⟨F, e, o, e', s, hf, q⟩ => by
    obtain ⟨⟨k, e2⟩, h1, h2⟩ := Option.map_eq_some_iff.mp hf
    cases h2
    obtain ⟨⟨k1, e1⟩, h1, h2⟩ := Option.bind_eq_some_iff.mp h1
    refine ⟨F, e, _, _, s, toB_some h1, fun F' H' v L p => ?_⟩
    cases p.rep.one'
    refine ⟨k1, rfl, ?_⟩
    cases k1 with
    | false =>
      rw [if_pos rfl] at h2
      rw [if_neg Bool.false_ne_true]
      exact ⟨F', e1, _, _, p.sta, by dsimp only; rw [h2]; rfl, fun F2 H2 v2 L2 p2 => q _ _ _ _ (p.drop.app0 p2)⟩
    | true =>
      rw [if_neg (fun z => by cases z)] at h2
      rw [if_pos rfl]
      cases h2
      exact q _ _ _ _ p
theorem e_ife {t : Env → Option (Bool × Env)} (hc : PT X c (tT X.K t)) (ha : PE X a (tE X.K f)) (hb : PE X b (tE X.K g)) : PE X (.IfExp c a b pos) (tE X.K fun e => (t e).bind fun x => if x.1 = true then f x.2 else g x.2) :=
  PE_imp (pe_ifExp hc ha hb) fun σ H Q ⟨F, e, o, e', s, hf, q⟩ => by
    obtain ⟨⟨k1, e1⟩, h1, h2⟩ := Option.bind_eq_some_iff.mp hf
    refine ⟨F, e, k1, e1, s, h1, fun F' H' p => ?_⟩
    cases k1 with
    | true =>
      rw [if_pos rfl] at h2 ⊢
      exact ⟨F', e1, _, _, p.sta, h2, fun F2 H2 v2 L2 p2 => q _ _ _ _ (p.app0 p2)⟩
    | false =>
      rw [if_neg Bool.false_ne_true] at h2 ⊢
      exact ⟨F', e1, _, _, p.sta, h2, fun F2 H2 v2 L2 p2 => q _ _ _ _ (p.app0 p2)⟩

/-! ### argument lists, displays -/
theorem a_nil : PA X [] (tA X.K fun e => some ([], e)) :=
  PA_imp pa_nil fun σ H Q ⟨F, e, os, e', s, hf, q⟩ => by
    cases hf
    exact q _ _ _ _ (.refl s)
theorem a_cons {es : List Expr} {fs : Env → Option (List Opd × Env)} (ha : PE X a (tE X.K f)) (hr : PA X es (tA X.K fs)) (hs : starEach (a :: es) X.env = (false, eval a X.env) :: starEach es X.env) :
    PA X (a :: es) (tA X.K fun e => (f e).bind fun x => (fs x.2).map fun y => (x.1 :: y.1, y.2)) :=
  PA_imp (pa_cons ha hr hs) fun σ H Q ⟨F, e, os, e', s, hf, q⟩ => by
    obtain ⟨⟨o, e1⟩, h1, h2⟩ := Option.bind_eq_some_iff.mp hf
    obtain ⟨⟨os', e2⟩, h3, h4⟩ := Option.map_eq_some_iff.mp h2
    cases h4
    exact ⟨F, e, o, e1, s, h1, fun F1 H1 v L1 p1 => ⟨F1, e1, _, _, p1.sta, h3, fun F2 H2 vs L2 p2 => q _ _ _ _ (p1.app p2)⟩⟩
theorem vals_len : ∀ {os : List Opd} {ds : List D}, vals os = some ds → os.length = ds.length
  | [], ds, h => by cases h; rfl
  | o :: os, ds, h => by
    obtain ⟨d, h1, h2⟩ := Option.bind_eq_some_iff.mp h
    obtain ⟨ds', h3, h4⟩ := Option.map_eq_some_iff.mp h2
    subst h4
    exact congrArg Nat.succ (vals_len h3)
theorem e_tup {es : List Expr} {n : Nat} {fs : Env → Option (List Opd × Env)} (h : PA X es (tA X.K fs)) :
    PE X (.Tuple es n pos) (tE X.K fun e => (fs e).bind fun x => (vals x.1).bind fun ds => if ds.length ≤ lim then some (.v (.tup ds), x.2) else none) :=
  PE_imp (pe_tup h) fun σ H Q ⟨F, e, o, e', s, hf, q⟩ => by
    obtain ⟨⟨os, e1⟩, h1, h2⟩ := Option.bind_eq_some_iff.mp hf
    obtain ⟨ds, h3, h4⟩ := Option.bind_eq_some_iff.mp h2
    split at h4
    · rename_i hl
      cases h4
      refine ⟨F, e, os, _, s, h1, fun F1 H1 vs L p => ?_⟩
      have rp := p.rep.vals h3
      refine ⟨by rw [← rp.length]; exact lim_line hl, fun a ha => q _ _ _ _ (p.op (.newT rp p.nd ha))⟩
    · cases h4
theorem e_lst {es : List Expr} {fs : Env → Option (List Opd × Env)} (h : PA X es (tA X.K fs)) :
    PE X (.List es pos) (tE X.K fun e => (fs e).bind fun x => (vals x.1).bind fun ds => if ds.length ≤ lim then some (.v (.lst true (freezes ds)), x.2) else none) :=
  PE_imp (pe_lst h) fun σ H Q ⟨F, e, o, e', s, hf, q⟩ => by
    obtain ⟨⟨os, e1⟩, h1, h2⟩ := Option.bind_eq_some_iff.mp hf
    obtain ⟨ds, h3, h4⟩ := Option.bind_eq_some_iff.mp h2
    split at h4
    · rename_i hl
      cases h4
      refine ⟨F, e, os, _, s, h1, fun F1 H1 vs L p => ?_⟩
      have rp := p.rep.vals h3
      refine ⟨by rw [← rp.length]; exact lim_line hl, fun a ha => q _ _ _ _ (p.op (.newL rp ha p.sta.wf))⟩
    · cases h4

/-! ### subscripts -/
theorem Reps.at {i : Nat} {d : D} : ∀ {ds : List D} {vs : List V} {L : List Addr} {j : Nat}, Reps K F H ds vs L → ds[j]? = some d → ∃ v M, vs[j]? = some v ∧ Rep K F H d v M ∧ M.Sublist L
  | d' :: ds, v :: vs, _, 0, .cons (L1 := L1) (L2 := L2) r t, h => by
    have : d' = d := by simpa using h
    subst this
    exact ⟨v, L1, rfl, r, List.sublist_append_left _ _⟩
  | d' :: ds, v :: vs, _, j + 1, .cons (L1 := L1) (L2 := L2) r t, h => by
    obtain ⟨v', M, h1, h2, h3⟩ := Reps.at (i := i) t (j := j) (by simpa using h)
    exact ⟨v', M, by simpa using h1, h2, h3.trans (List.sublist_append_right _ _)⟩
  | _, _, _, _, .nil, h => by simp at h
theorem atI_some {α : Type} {xs : List α} {i : Int} {v : α} (h : atI xs i = some v) : ∃ j, ixN xs.length i = some j ∧ xs[j]? = some v := Option.bind_eq_some_iff.mp h
theorem atI_of {α : Type} {xs : List α} {i : Int} {v : α} {j : Nat} (h : ixN xs.length i = some j) (h2 : xs[j]? = some v) : atI xs i = some v := Option.bind_eq_some_iff.mpr ⟨j, h, h2⟩
theorem ok_idx : Op2Ok K (rIx K) idx := fun F H d1 d2 d v1 v2 L wf rp nd e Q q => by
  obtain ⟨L1, L2, rfl, r1, r2⟩ := rp.two
  have ok : ∀ a ∈ L1 ++ L2, ¬ F a ∧ ∃ xs, H a = some (.lst xs) := fun _ z => rp.ownOk z
  cases d2 with
  | int i =>
    obtain ⟨rfl, rfl⟩ := r2.int
    cases d1 with
    | tup l =>
      have e : atI l i = some d := e
      obtain ⟨p, xs, rfl, g, s⟩ := r1.tup
      obtain ⟨j, h1, h2⟩ := atI_some e
      obtain ⟨v, M, h3, h4, h5⟩ := s.at (i := 0) h2
      rw [s.length] at h1
      rw [List.append_nil] at *
      exact .inr (.inl ⟨p, xs, i, v, rfl, rfl, SqT.of g, atI_of h1 h3, q F H v M ⟨.refl ok, h4, nd.sublist h5, fun a ha => .inr (h5.subset ha)⟩⟩)
    | lst o l =>
      have e : atI l i = some d := e
      obtain ⟨p, xs, rfl, g, s⟩ := r1.lst
      obtain ⟨j, h1, h2⟩ := atI_some e
      obtain ⟨v, M, h3, h4, h5⟩ := s.at (i := 0) h2
      rw [s.length] at h1
      have eM : M = [] := List.sublist_nil.mp h5
      subst eM
      exact .inl ⟨p, xs, i, v, rfl, rfl, SqL.of g, atI_of h1 h3, q F H v [] (.flat h4 ok)⟩
    | scr ns =>
      have e : (atI ns i).map D.int = some d := e
      obtain ⟨n, h0, e⟩ := Option.map_eq_some_iff.mp e
      subst e
      obtain ⟨p, rfl, g, rfl⟩ := r1.scr
      obtain ⟨j, h1, h2⟩ := atI_some h0
      refine .inl ⟨p, ns.map V.int, i, .int n, rfl, rfl, g.seq, atI_of (j := j) (by rw [List.length_map]; exact h1) (by rw [List.getElem?_map, h2]; rfl), q F H _ [] (.flat (.int n) ok)⟩
    | str z =>
      have e : (if z.length ≤ lim then (atI z.cps.toList i).map fun c => D.str ⟨#[c]⟩ else none) = some d := e
      split at e
      · rename_i hl
        obtain ⟨n, h0, e⟩ := Option.map_eq_some_iff.mp e
        subst e
        obtain ⟨rfl, rfl⟩ := r1.str
        exact .inr (.inr ⟨z, i, n, rfl, rfl, lim_line hl, h0, q F H _ [] (.flat (.str _) ok)⟩)
      · cases e
    | _ => cases e
  | _ => cases d1 <;> cases e
theorem e_idx (ha : PE X a (tE X.K f)) (hb : PE X b (tE X.K g)) (hs : PlainIx b) : PE X (.Subscript a b pos) (tE X.K fun e => evOp2 idx (f e) g) :=
  e_op2 (fun ta tb h1 h2 => pe_ix ix_seq h1 h2 hs) ok_idx ha hb
end
end PV
set_option Elab.async false
set_option linter.all false
set_option maxRecDepth 100000
set_option maxHeartbeats 1000000
/-! Slices, built-ins. -/
namespace PV
open PySem PySem.Spec PyProof.Rows L2

/-! ### sorted lists are one -/
section
variable {α : Type} {le : α → α → Prop}
theorem perm_one (anti : ∀ a b, le a b → le b a → a = b) : ∀ {l m : List α}, l.Pairwise le → m.Pairwise le → l.Perm m → l = m
  | [], m, _, _, h => (List.nil_perm.mp h).symm
  | a :: l, [], _, _, h => absurd (List.perm_nil.mp h) (by simp)
  | a :: l, b :: m, hl, hm, h => by
    have e : a = b := by
      rcases List.mem_cons.mp (h.mem_iff.mp (List.mem_cons_self (a := a) (l := l))) with e | e
      · exact e
      · rcases List.mem_cons.mp (h.mem_iff.mpr (List.mem_cons_self (a := b) (l := m))) with e' | e'
        · exact e'.symm
        · exact anti _ _ ((List.pairwise_cons.mp hl).1 b e') ((List.pairwise_cons.mp hm).1 a e)
    subst e
    rw [perm_one anti (List.pairwise_cons.mp hl).2 (List.pairwise_cons.mp hm).2 (List.perm_cons a |>.mp h)]
end
theorem mem_one : ∀ {l m : List Int}, l.Pairwise (· < ·) → m.Pairwise (· < ·) → (∀ k, k ∈ l ↔ k ∈ m) → l = m
  | [], [], _, _, _ => rfl
  | [], b :: m, _, _, h => absurd ((h b).mpr List.mem_cons_self) List.not_mem_nil
  | a :: l, [], _, _, h => absurd ((h a).mp List.mem_cons_self) List.not_mem_nil
  | a :: l, b :: m, hl, hm, h => by
    have hl' := List.pairwise_cons.mp hl
    have hm' := List.pairwise_cons.mp hm
    have e : a = b := by
      rcases List.mem_cons.mp ((h a).mp List.mem_cons_self) with e | e
      · exact e
      · rcases List.mem_cons.mp ((h b).mpr List.mem_cons_self) with e' | e'
        · exact e'.symm
        · have := hl'.1 b e'
          have := hm'.1 a e
          omega
    subst e
    rw [mem_one hl'.2 hm'.2 fun k => ⟨fun hk => ?_, fun hk => ?_⟩]
    · rcases List.mem_cons.mp ((h k).mp (List.mem_cons_of_mem _ hk)) with e | e
      · have := hl'.1 k hk
        omega
      · exact e
    · rcases List.mem_cons.mp ((h k).mpr (List.mem_cons_of_mem _ hk)) with e | e
      · have := hm'.1 k hk
        omega
      · exact e
theorem mem_insU (x k : Int) : ∀ l : List Int, k ∈ insU x l ↔ k = x ∨ k ∈ l
  | [] => by simp [insU]
  | y :: r => by
    unfold insU
    by_cases h1 : x < y
    · rw [if_pos h1, List.mem_cons]
    · rw [if_neg h1]
      by_cases h2 : x = y
      · rw [if_pos h2, List.mem_cons, h2]
        constructor
        · exact fun h => .inr h
        · exact fun h => h.elim .inl fun h => h
      · rw [if_neg h2, List.mem_cons, mem_insU x k r, List.mem_cons]
        constructor
        · rintro (h | h | h)
          · exact .inr (.inl h)
          · exact .inl h
          · exact .inr (.inr h)
        · rintro (h | h | h)
          · exact .inr (.inl h)
          · exact .inl h
          · exact .inr (.inr h)
theorem insU_sorted (x : Int) : ∀ l : List Int, l.Pairwise (· < ·) → (insU x l).Pairwise (· < ·)
  | [], _ => by simp [insU]
  | y :: r, h => by
    have h' := List.pairwise_cons.mp h
    unfold insU
    by_cases h1 : x < y
    · rw [if_pos h1]
      refine List.pairwise_cons.mpr ⟨fun z hz => ?_, h⟩
      rcases List.mem_cons.mp hz with e | e
      · omega
      · have := h'.1 z e
        omega
    · rw [if_neg h1]
      by_cases h2 : x = y
      · rw [if_pos h2]; exact h
      · rw [if_neg h2]
        refine List.pairwise_cons.mpr ⟨fun z hz => ?_, insU_sorted x r h'.2⟩
        rcases (mem_insU x z r).mp hz with e | e
        · omega
        · exact h'.1 z e
theorem mem_sortU (k : Int) : ∀ l : List Int, k ∈ sortU l ↔ k ∈ l
  | [] => by simp [sortU]
  | x :: r => by
    unfold sortU
    rw [mem_insU, mem_sortU k r, List.mem_cons]
theorem sortU_sorted : ∀ l : List Int, (sortU l).Pairwise (· < ·)
  | [] => .nil
  | x :: r => insU_sorted x _ (sortU_sorted r)
/-- pairs by the first, then by the second -/
def leP (p q : Int × Int) : Prop := p.1 < q.1 ∨ (p.1 = q.1 ∧ p.2 ≤ q.2)
theorem ltP_iff (p q : Int × Int) : ltP p q = true ↔ ¬ leP q p := by
  unfold ltP leP
  simp only [Bool.or_eq_true, Bool.and_eq_true, decide_eq_true_eq]
  omega
theorem insP_perm (x : Int × Int) : ∀ l, (insP x l).Perm (x :: l)
  | [] => .refl _
  | y :: r => by
    unfold insP
    by_cases h : ltP y x = true
    · rw [if_pos h]
      exact ((insP_perm x r).cons y).trans (List.Perm.swap x y r)
    · rw [if_neg h]
theorem insP_sorted (x : Int × Int) : ∀ l, l.Pairwise leP → (insP x l).Pairwise leP
  | [], _ => by simp [insP]
  | y :: r, h => by
    have h' := List.pairwise_cons.mp h
    unfold insP
    by_cases h1 : ltP y x = true
    · rw [if_pos h1]
      have h2 := (ltP_iff y x).mp h1
      refine List.pairwise_cons.mpr ⟨fun z hz => ?_, insP_sorted x r h'.2⟩
      rcases List.mem_cons.mp ((insP_perm x r).mem_iff.mp hz) with e | e
      · subst e
        unfold leP at h2 ⊢
        omega
      · exact h'.1 z e
    · rw [if_neg h1]
      have h2 : leP x y := by
        by_cases z : leP x y
        · exact z
        · exact absurd ((ltP_iff y x).mpr z) h1
      refine List.pairwise_cons.mpr ⟨fun z hz => ?_, h⟩
      rcases List.mem_cons.mp hz with e | e
      · subst e; exact h2
      · have h3 := h'.1 z e
        unfold leP at h2 h3 ⊢
        omega
theorem sortP_perm : ∀ l, (sortP l).Perm l
  | [] => .refl _
  | x :: r => by
    unfold sortP
    exact (insP_perm x _).trans ((sortP_perm r).cons x)
theorem sortP_sorted : ∀ l, (sortP l).Pairwise leP
  | [] => .nil
  | x :: r => insP_sorted x _ (sortP_sorted r)
theorem leP_anti (a b : Int × Int) (h1 : leP a b) (h2 : leP b a) : a = b := by
  unfold leP at h1 h2
  exact Prod.ext (by omega) (by omega)
theorem minL_mem : ∀ l : List Int, l ≠ [] → minL l ∈ l ∧ ∀ y ∈ l, minL l ≤ y
  | [], h => absurd rfl h
  | [x], _ => ⟨List.mem_cons_self, fun y hy => by rw [List.mem_singleton.mp hy]; exact Int.le_refl _⟩
  | x :: y :: r, _ => by
    obtain ⟨h1, h2⟩ := minL_mem (y :: r) (by simp)
    unfold minL
    by_cases h : x ≤ minL (y :: r)
    · rw [if_pos h]
      refine ⟨List.mem_cons_self, fun z hz => ?_⟩
      rcases List.mem_cons.mp hz with e | e
      · omega
      · have := h2 z e
        omega
    · rw [if_neg h]
      refine ⟨List.mem_cons_of_mem _ h1, fun z hz => ?_⟩
      rcases List.mem_cons.mp hz with e | e
      · omega
      · exact h2 z e
theorem maxL_mem : ∀ l : List Int, l ≠ [] → maxL l ∈ l ∧ ∀ y ∈ l, y ≤ maxL l
  | [], h => absurd rfl h
  | [x], _ => ⟨List.mem_cons_self, fun y hy => by rw [List.mem_singleton.mp hy]; exact Int.le_refl _⟩
  | x :: y :: r, _ => by
    obtain ⟨h1, h2⟩ := maxL_mem (y :: r) (by simp)
    unfold maxL
    by_cases h : maxL (y :: r) ≤ x
    · rw [if_pos h]
      refine ⟨List.mem_cons_self, fun z hz => ?_⟩
      rcases List.mem_cons.mp hz with e | e
      · omega
      · have := h2 z e
        omega
    · rw [if_neg h]
      refine ⟨List.mem_cons_of_mem _ h1, fun z hz => ?_⟩
      rcases List.mem_cons.mp hz with e | e
      · omega
      · exact h2 z e

section
variable {K : PySem.W.Frag} {F F' F1 F2 : Addr → Prop} {H H' H1 H2 : Hp} {X : Cx} {σ : L2.St} {e e' : Env} {a b c : Expr} {pos : Pos} {f g h : Env → Option (Opd × Env)}
/-! ### slices -/
def tP (K : PySem.W.Frag) (f : Env → Option (Option Int × Env)) : TO := fun σ H Q => ∃ F e o e', Sta K F H σ e ∧ f e = some (o, e') ∧ ∀ F' H', Post K F H σ e F' H' e' [] [] [] → Q o H'
theorem PO_imp {a : Option Expr} {t t' : TO} (h : PO X a t) (i : ∀ σ H Q, t' σ H Q → t σ H Q) : PO X a t' := ⟨fun pins s σ H Q I q => h.run pins s σ H Q I (i _ _ _ q)⟩
theorem o_none : PO X none (tP X.K fun e => some (none, e)) :=
  PO_imp po_none fun σ H Q ⟨F, e, o, e', s, hf, q⟩ => by
    cases hf
    exact q _ _ (.refl s)
theorem o_some (ha : PE X a (tE X.K f)) : PO X (some a) (tP X.K fun e => (f e).bind fun x => (partD x.1).map fun i => (i, x.2)) :=
  PO_imp (po_some ha) fun σ H Q ⟨F, e, o, e', s, hf, q⟩ => by
    obtain ⟨⟨q1, e1⟩, h1, h2⟩ := Option.bind_eq_some_iff.mp hf
    obtain ⟨i, h3, h4⟩ := Option.map_eq_some_iff.mp h2
    cases h4
    refine ⟨F, e, q1, _, s, h1, fun F1 H1 v L p => ?_⟩
    cases q1 with
    | b i => cases h3
    | v d =>
      cases d with
      | int j =>
        cases h3
        cases p.rep.one'
        exact ⟨j, rfl, q _ _ p.drop⟩
      | _ => cases h3
theorem Reps.drop0 : ∀ (n : Nat) {ds : List D} {vs : List V}, Reps K F H ds vs [] → Reps K F H (ds.drop n) (vs.drop n) []
  | 0, _, _, r => r
  | n + 1, [], vs, r => by cases r; exact .nil
  | n + 1, d :: ds, [], r => by cases r
  | n + 1, d :: ds, v :: vs, r => Reps.drop0 n r.cons0.2
theorem Reps.take0 : ∀ (n : Nat) {ds : List D} {vs : List V}, Reps K F H ds vs [] → Reps K F H (ds.take n) (vs.take n) []
  | 0, _, _, r => .nil
  | n + 1, [], vs, r => by cases r; exact .nil
  | n + 1, d :: ds, [], r => by cases r
  | n + 1, d :: ds, v :: vs, r => .cons (L1 := []) (L2 := []) r.cons0.1 (Reps.take0 n r.cons0.2)
theorem Reps.cut0 {ds : List D} {vs : List V} (r : Reps K F H ds vs []) (lo hi : Option Int) : Reps K F H (cutL ds lo hi) (cutV vs lo hi) [] := by
  unfold cutL cutV
  rw [r.length]
  exact (r.drop0 _).take0 _
theorem freezes_take : ∀ (n : Nat) (l : List D), freezes (l.take n) = (freezes l).take n
  | 0, _ => rfl
  | n + 1, [] => rfl
  | n + 1, d :: r => congrArg (d.freeze :: ·) (freezes_take n r)
theorem freezes_drop : ∀ (n : Nat) (l : List D), freezes (l.drop n) = (freezes l).drop n
  | 0, _ => rfl
  | n + 1, [] => rfl
  | n + 1, d :: r => freezes_drop n r
theorem freezes_cut (l : List D) (lo hi : Option Int) : freezes (cutL l lo hi) = cutL (freezes l) lo hi := by
  unfold cutL
  rw [freezes_take, freezes_drop, freezes_length]
def rSlc (K : PySem.W.Frag) : V → Option Int → Option Int → Hp → VK → Prop := fun x lo hi H Q => rSlL K x lo hi H Q ∨ rSlA K x lo hi H Q
theorem ok_slice {d1 d : D} {v1 : V} {lo hi : Option Int} {L : List Addr} (wf : WF F H) (rp : ORep K F H d1 v1 L) (hd : slice d1 lo hi = some d) (Q : VK) (ok : ∀ a ∈ L, ¬ F a ∧ ∃ xs, H a = some (.lst xs))
    (q : ∀ F' H' v L', VPost K F H L F' H' d v L' → Q v H') : rSlc K v1 lo hi H Q := by
  cases d1 with
  | lst o l =>
    cases hd
    obtain ⟨p, xs, rfl, g, s⟩ := rp.lst
    exact .inl ⟨p, xs, rfl, SqL.of g, fun r hr => q _ _ _ _ (.newL0 (s.cut0 lo hi) hr wf ok)⟩
  | tup l =>
    cases hd
    obtain ⟨p, xs, rfl, g, s⟩ := rp.tup
    have ex := Ext.freeze (F := F) (H := H) (L := L) fun c z => s.ownOk z
    have fz := Reps.freeze (fun _ z => s.ownOk z) s fun _ z => z
    rw [freezes_cut] at q
    refine .inr ⟨p, xs, rfl, SqT.of g, fun hw => ?_, fun hw r hr => ?_⟩
    · refine q _ _ _ [] ⟨ex, ?_, .nil, fun _ z => nomatch z⟩
      have c := fz.cut0 lo hi
      have e : cutV xs lo hi = xs := by
        unfold cutV
        rw [hw.1, hw.2, Nat.sub_zero]
        simp
      rw [e] at c
      exact .tup g c
    · exact q _ _ _ [] ⟨ex.trans (Ext.new hr) fun _ z => z.elim, .tup upd_same (Reps.mono0 (Ext.new hr) (fz.cut0 lo hi)), .nil, fun _ z => nomatch z⟩
  | _ => cases hd
theorem e_slice {lo hi : Option Expr} {p2 : Pos} {fl fh : Env → Option (Option Int × Env)} (ha : PE X a (tE X.K f)) (hl : PO X lo (tP X.K fl)) (hu : PO X hi (tP X.K fh)) :
    PE X (.Subscript a (.Slice lo hi none p2) pos) (tE X.K fun e => (f e).bind fun x => (fl x.2).bind fun y => (fh y.2).bind fun z => (res z.2 x.1).bind fun d => (slice d y.1 z.1).map fun r => (.v r, z.2)) :=
  PE_imp (pe_slice (sl_list.or sl_tupA) ha hl hu) fun σ H Q ⟨F, e, o, e', s, hf, q⟩ => by
    obtain ⟨⟨o1, e1⟩, h1, hf⟩ := Option.bind_eq_some_iff.mp hf
    obtain ⟨⟨o2, e2⟩, h2, hf⟩ := Option.bind_eq_some_iff.mp hf
    obtain ⟨⟨o3, e3⟩, h3, hf⟩ := Option.bind_eq_some_iff.mp hf
    obtain ⟨d, h4, hf⟩ := Option.bind_eq_some_iff.mp hf
    obtain ⟨r, h5, hf⟩ := Option.map_eq_some_iff.mp hf
    cases hf
    refine ⟨F, e, o1, e1, s, h1, fun F1 H1 v L p => ⟨F1, e1, o2, e2, p.sta, h2, fun F2 H2 p2 => ⟨F2, e2, o3, _, p2.sta, h3, fun F3 H3 p3 => ?_⟩⟩⟩
    have pp := (p.app p2).app p3
    simp only [List.append_nil] at pp
    have rp := (pp.rep.ress pp.sta (ds := [d]) (by show (res _ o1).bind (fun d => some [d]) = _; rw [show res _ o1 = some d from h4]; rfl)).one
    exact ok_slice pp.sta.wf rp h5 Q (fun _ z => pp.rep.ownOk z) fun F' H' v L' vp => q _ _ _ _ (pp.op vp)
/-- one operand -/
theorem evOp1_some {p : D → Option D} {o : Opd} (hf : evOp1 p (f e) = some (o, e')) : ∃ o1 d1 d, f e = some (o1, e') ∧ ress e' [o1] = some [d1] ∧ p d1 = some d ∧ o = .v d := by
  unfold evOp1 at hf
  obtain ⟨⟨o1, e1⟩, h1, h⟩ := Option.bind_eq_some_iff.mp hf
  obtain ⟨d1, h2, h⟩ := Option.bind_eq_some_iff.mp h
  obtain ⟨d2, h3, h⟩ := Option.map_eq_some_iff.mp h
  cases h
  exact ⟨o1, d1, d2, h1, by show (res _ o1).bind (fun d => some [d]) = _; rw [show res _ o1 = some d1 from h2]; rfl, h3, rfl⟩
theorem Reps.rev0 {ds : List D} {vs : List V} (r : Reps K F H ds vs []) : Reps K F H ds.reverse vs.reverse [] := by
  refine .of0 (by rw [List.length_reverse, List.length_reverse, r.length]) fun i d v h1 h2 => ?_
  have hl := r.length
  have i1 : i < ds.length := by have := at_lt h1; rwa [List.length_reverse] at this
  rw [List.getElem?_reverse i1] at h1
  rw [List.getElem?_reverse (by omega)] at h2
  obtain ⟨v', h3, h4⟩ := r.all0 _ _ h1
  rw [hl, h2] at h3
  cases h3
  exact h4
theorem e_rev {k : Nat} {p1 p2 p3 : Pos} (ha : PE X a (tE X.K f)) : PE X (.Subscript a (.Slice none none (some (.UnaryOp .USub (.Constant (.int 1) k p1) p2)) p3) pos) (tE X.K fun e => evOp1 rev (f e)) :=
  PE_imp (pe_revL ha) fun σ H Q ⟨F, e, o, e', s, hf, q⟩ => by
    obtain ⟨o1, d1, d, h1, h2, h3, rfl⟩ := evOp1_some hf
    refine ⟨F, e, o1, e', s, h1, fun F1 H1 v L p => ?_⟩
    have rp := (p.rep.ress p.sta h2).one
    cases d1 with
    | lst o l =>
      cases h3
      obtain ⟨p1, xs, rfl, g, sq⟩ := rp.lst
      exact ⟨p1, xs, rfl, SqL.of g, fun r hr => q _ _ _ _ (p.op (.newL0 sq.rev0 hr p.sta.wf fun _ z => p.rep.ownOk z))⟩
    | _ => cases h3
end
end PV
set_option Elab.async false
set_option linter.all false
set_option maxRecDepth 100000
set_option maxHeartbeats 1000000
/-! Built-ins, calls of defs. -/
namespace PV
open PySem PySem.Spec PyProof.Rows L2

section
variable {K : PySem.W.Frag} {F F' F1 F2 : Addr → Prop} {H H' H1 H2 : Hp} {X : Cx} {σ : L2.St} {e e' : Env} {a b c : Expr} {pos : Pos} {f g h : Env → Option (Opd × Env)} {fs : Env → Option (List Opd × Env)} {es : List Expr}
def evBlt (b : Blt) (r : Option (List Opd × Env)) : Option (Opd × Env) := r.bind fun x => (ress x.2 x.1).bind fun ds => (blt b ds).map fun r => (.v r, x.2)
def BltOk (K : PySem.W.Frag) (r : List V → Hp → VK → Prop) (b : Blt) : Prop := ∀ F H ds d vs L, WF F H → ORepL K F H ds vs L → L.Nodup → blt b ds = some d → ∀ Q : VK, (∀ F' H' v L', VPost K F H L F' H' d v L' → Q v H') → r vs H Q
theorem evBlt_some {k : Blt} {o : Opd} (hf : evBlt k (fs e) = some (o, e')) : ∃ os ds d, fs e = some (os, e') ∧ ress e' os = some ds ∧ blt k ds = some d ∧ o = .v d := by
  obtain ⟨⟨os, e1⟩, h1, h⟩ := Option.bind_eq_some_iff.mp hf
  obtain ⟨ds, h2, h⟩ := Option.bind_eq_some_iff.mp h
  obtain ⟨d, h3, h⟩ := Option.map_eq_some_iff.mp h
  cases h
  exact ⟨os, ds, d, h1, h2, h3, rfl⟩
theorem e_blt {k : Blt} {r : List V → Hp → VK → Prop} (hc : ∀ t, PA X es t → PE X c (tCB r t)) (ok : BltOk X.K r k) (ha : PA X es (tA X.K fs)) : PE X c (tE X.K fun e => evBlt k (fs e)) :=
  PE_imp (hc _ ha) fun σ H Q ⟨F, e, o, e', s, hf, q⟩ => by
    obtain ⟨os, ds, d, h1, h2, h3, rfl⟩ := evBlt_some hf
    refine ⟨F, e, os, e', s, h1, fun F1 H1 vs L p => ?_⟩
    exact ok _ _ _ _ _ _ p.sta.wf (p.rep.ress p.sta h2) p.nd h3 Q fun F' H' v L' vp => q _ _ _ _ (p.op vp)
/-- one argument -/
theorem orepL_one {d : D} {vs : List V} {L : List Addr} (r : ORepL K F H [d] vs L) : ∃ v, vs = [v] ∧ ORep K F H d v L := by
  cases r with
  | cons r t => cases t; exact ⟨_, rfl, by rwa [List.append_nil]⟩
theorem orepL_two {d d' : D} {vs : List V} {L : List Addr} (r : ORepL K F H [d, d'] vs L) : ∃ v v' L1 L2, vs = [v, v'] ∧ L = L1 ++ L2 ∧ ORep K F H d v L1 ∧ ORep K F H d' v' L2 := by
  cases r with
  | cons r t =>
    cases t with
    | cons r' t => cases t; exact ⟨_, _, _, _, rfl, by rw [List.append_nil], r, r'⟩
theorem blt_one {k : Blt} {r : List V → Hp → VK → Prop} (h0 : ∀ d1 d2 ds, blt k (d1 :: d2 :: ds) = none) (hn : blt k [] = none) (h : ∀ F H d1 d v L, WF F H → ORep K F H d1 v L → L.Nodup → blt k [d1] = some d → (∀ a ∈ L, ¬ F a ∧ ∃ xs, H a = some (.lst xs)) → ∀ Q : VK, (∀ F' H' v L', VPost K F H L F' H' d v L' → Q v H') → r [v] H Q) : BltOk K r k := by
  intro F H ds d vs L wf rp nd e Q q
  match ds, rp, e with
  | [], _, e => rw [hn] at e; cases e
  | [d1], rp, e =>
    obtain ⟨v, rfl, r1⟩ := orepL_one rp
    exact h F H d1 d v L wf r1 nd e (fun _ z => rp.ownOk z) Q q
  | d1 :: d2 :: ds, _, e => rw [h0] at e; cases e
theorem ok_len : BltOk K (fun xs H Q => ∃ x n, xs = [x] ∧ LenV K x H n ∧ Q (.int n) H) .len := by
  refine blt_one (fun d1 d2 ds => by cases d1 <;> rfl) rfl fun F H d1 d v L wf rp nd e ok Q q => ?_
  cases d1 with
  | tup l =>
    cases e
    obtain ⟨p, xs, rfl, g, s⟩ := rp.tup
    refine ⟨_, xs.length, rfl, .inr ⟨xs, SqT.of g, rfl⟩, ?_⟩
    rw [← s.length]
    exact q _ _ _ _ (.flat (.int _) ok)
  | lst o l =>
    cases e
    obtain ⟨p, xs, rfl, g, s⟩ := rp.lst
    refine ⟨_, xs.length, rfl, .inl ⟨xs, SqL.of g, rfl⟩, ?_⟩
    rw [← s.length]
    exact q _ _ _ _ (.flat (.int _) ok)
  | scr ns =>
    cases e
    obtain ⟨p, rfl, g, rfl⟩ := rp.scr
    refine ⟨_, (ns.map V.int).length, rfl, .inl ⟨_, g.seq, rfl⟩, ?_⟩
    rw [List.length_map]
    exact q _ _ _ _ (.flat (.int _) ok)
  | str x =>
    have e : (if x.length ≤ lim then some (D.int x.length) else none) = some d := e
    split at e
    · rename_i hl
      cases e
      obtain ⟨rfl, rfl⟩ := rp.str
      exact ⟨_, x.length, rfl, ⟨lim_line hl, rfl⟩, q _ _ _ _ (.flat (.int _) ok)⟩
    · cases e
  | _ => cases e
theorem two_ints {k : Blt} {r : List V → Hp → VK → Prop} {fn : Int → Int → Int} (h2 : ∀ i j, blt k [.int i, .int j] = some (.int (fn i j))) (hn : ∀ ds d, blt k ds = some d → ∃ i j, ds = [.int i, .int j])
    (hr : ∀ i j H Q, Q (.int (fn i j)) H → r [.int i, .int j] H Q) : BltOk K r k := by
  intro F H ds d vs L wf rp nd e Q q
  obtain ⟨i, j, rfl⟩ := hn ds d e
  rw [h2] at e
  cases e
  obtain ⟨v, v', L1, L2, rfl, rfl, r1, r2⟩ := orepL_two rp
  obtain ⟨rfl, rfl⟩ := r1.int
  obtain ⟨rfl, rfl⟩ := r2.int
  exact hr i j H Q (q _ _ _ _ (.flat (.int _) fun _ z => rp.ownOk z))
theorem ok_max2 : BltOk K (fun xs H Q => ∃ i j, xs = [.int i, .int j] ∧ Q (.int (if j > i then j else i)) H) .max2 := by
  refine two_ints (fn := fun i j => if j > i then j else i) (fun _ _ => rfl) (fun ds d e => ?_) fun i j H Q q => ⟨i, j, rfl, q⟩
  match ds, e with
  | [.int i, .int j], _ => exact ⟨i, j, rfl⟩
theorem ok_min2 : BltOk K (fun xs H Q => ∃ i j, xs = [.int i, .int j] ∧ Q (.int (if j < i then j else i)) H) .min2 := by
  refine two_ints (fn := fun i j => if j < i then j else i) (fun _ _ => rfl) (fun ds d e => ?_) fun i j H Q q => ⟨i, j, rfl, q⟩
  match ds, e with
  | [.int i, .int j], _ => exact ⟨i, j, rfl⟩
theorem ok_sum : BltOk K (rSum K) .sum := by
  refine blt_one (fun d1 d2 ds => by cases d1 <;> rfl) rfl fun F H d1 d v L wf rp nd e ok Q q => ?_
  cases d1 with
  | lst o l =>
    have e : ((D.ints l).map fun l => D.int l.sum) = some d := e
    obtain ⟨ns, h1, h2⟩ := Option.map_eq_some_iff.mp e
    subst h2
    obtain ⟨p, xs, rfl, g, s⟩ := rp.lst
    rw [ints_reps s h1] at g
    exact ⟨p, ns, rfl, SqL.of g, q _ _ _ _ (.flat (.int _) ok)⟩
  | _ => cases e
theorem ok_all : BltOk K (rAll K) .all := by
  refine blt_one (fun d1 d2 ds => by cases d1 <;> rfl) rfl fun F H d1 d v L wf rp nd e ok Q q => ?_
  cases d1 with
  | lst o l =>
    have e : ((D.bools l).map fun l => D.bl (l.all id)) = some d := e
    obtain ⟨ns, h1, h2⟩ := Option.map_eq_some_iff.mp e
    subst h2
    obtain ⟨p, xs, rfl, g, s⟩ := rp.lst
    rw [bools_reps s h1] at g
    exact ⟨p, ns, rfl, SqL.of g, q _ _ _ _ (.flat (.bl _) ok)⟩
  | _ => cases e
theorem ok_any : BltOk K (rAny K) .any := by
  refine blt_one (fun d1 d2 ds => by cases d1 <;> rfl) rfl fun F H d1 d v L wf rp nd e ok Q q => ?_
  cases d1 with
  | lst o l =>
    have e : ((D.bools l).map fun l => D.bl (l.any id)) = some d := e
    obtain ⟨ns, h1, h2⟩ := Option.map_eq_some_iff.mp e
    subst h2
    obtain ⟨p, xs, rfl, g, s⟩ := rp.lst
    rw [bools_reps s h1] at g
    exact ⟨p, ns, rfl, SqL.of g, q _ _ _ _ (.flat (.bl _) ok)⟩
  | _ => cases e
theorem ok_minL : BltOk K (rMin K) .minL := by
  refine blt_one (fun d1 d2 ds => by cases d1 <;> rfl) rfl fun F H d1 d v L wf rp nd e ok Q q => ?_
  cases d1 with
  | lst o l =>
    have e : ((D.ints l).bind fun l => if l.isEmpty = true then none else some (D.int (minL l))) = some d := e
    obtain ⟨ns, h1, h2⟩ := Option.bind_eq_some_iff.mp e
    split at h2
    · cases h2
    · rename_i hne
      cases h2
      obtain ⟨p, xs, rfl, g, s⟩ := rp.lst
      rw [ints_reps s h1] at g
      have hn : ns ≠ [] := fun z => hne (by rw [z]; rfl)
      obtain ⟨m1, m2⟩ := minL_mem ns hn
      refine ⟨p, ns, rfl, SqL.of g, List.length_pos_iff.mpr hn, fun m hm hl => ?_⟩
      have := hl _ m1
      have := m2 m hm
      rw [show m = minL ns by omega]
      exact q _ _ _ _ (.flat (.int _) ok)
  | _ => cases e
theorem ok_maxL : BltOk K (rMax K) .maxL := by
  refine blt_one (fun d1 d2 ds => by cases d1 <;> rfl) rfl fun F H d1 d v L wf rp nd e ok Q q => ?_
  cases d1 with
  | lst o l =>
    have e : ((D.ints l).bind fun l => if l.isEmpty = true then none else some (D.int (maxL l))) = some d := e
    obtain ⟨ns, h1, h2⟩ := Option.bind_eq_some_iff.mp e
    split at h2
    · cases h2
    · rename_i hne
      cases h2
      obtain ⟨p, xs, rfl, g, s⟩ := rp.lst
      rw [ints_reps s h1] at g
      have hn : ns ≠ [] := fun z => hne (by rw [z]; rfl)
      obtain ⟨m1, m2⟩ := maxL_mem ns hn
      refine ⟨p, ns, rfl, SqL.of g, List.length_pos_iff.mpr hn, fun m hm hl => ?_⟩
      have := hl _ m1
      have := m2 m hm
      rw [show m = maxL ns by omega]
      exact q _ _ _ _ (.flat (.int _) ok)
  | _ => cases e
def rList (K : PySem.W.Frag) : List V → Hp → VK → Prop := fun xs H Q => ∃ p ys, xs = [.ref p] ∧ (SqL K H p ys ∨ SqT K H p ys) ∧ ∀ l, H l = none → Q (.ref l) (upd H l (.lst ys))
theorem ok_list : BltOk K (rList K) .list := by
  refine blt_one (fun d1 d2 ds => by cases d1 <;> rfl) rfl fun F H d1 d v L wf rp nd e ok Q q => ?_
  cases d1 with
  | lst o l =>
    cases e
    obtain ⟨p, xs, rfl, g, s⟩ := rp.lst
    exact ⟨p, xs, rfl, .inl (SqL.of g), fun r hr => q _ _ _ _ (.newL0 s hr wf ok)⟩
  | tup l =>
    cases e
    obtain ⟨p, xs, rfl, g, s⟩ := rp.tup
    exact ⟨p, xs, rfl, .inr (SqT.of g), fun r hr => q _ _ _ _ (.newL s hr wf)⟩
  | _ => cases e
def rTuple (K : PySem.W.Frag) : List V → Hp → VK → Prop := fun xs H Q => ∃ p ys, xs = [.ref p] ∧ ((SqL K H p ys ∧ ∀ l, H l = none → Q (.ref l) (upd H l (.tup ys))) ∨ (SqT K H p ys ∧ Q (.ref p) H))
theorem ok_tuple : BltOk K (rTuple K) .tuple := by
  refine blt_one (fun d1 d2 ds => by cases d1 <;> rfl) rfl fun F H d1 d v L wf rp nd e ok Q q => ?_
  cases d1 with
  | lst o l =>
    cases e
    obtain ⟨p, xs, rfl, g, s⟩ := rp.lst
    exact ⟨p, xs, rfl, .inl ⟨SqL.of g, fun r hr => q _ _ _ _ (.newT0 s hr ok)⟩⟩
  | tup l =>
    cases e
    obtain ⟨p, xs, rfl, g, s⟩ := rp.tup
    exact ⟨p, xs, rfl, .inr ⟨SqT.of g, q F H _ L ⟨.refl ok, .tup g s, nd, fun a ha => .inr ha⟩⟩⟩
  | _ => cases e
def rInt : List V → Hp → VK → Prop := fun xs H Q => (∃ i, xs = [.int i] ∧ Q (.int i) H) ∨ ∃ k, xs = [.bl k] ∧ Q (.int (if k then 1 else 0)) H
theorem ok_int : BltOk K rInt .int := by
  refine blt_one (fun d1 d2 ds => by cases d1 <;> rfl) rfl fun F H d1 d v L wf rp nd e ok Q q => ?_
  cases d1 with
  | int i =>
    cases e
    obtain ⟨rfl, rfl⟩ := rp.int
    exact .inl ⟨i, rfl, q _ _ _ _ (.flat (.int _) ok)⟩
  | _ => cases e
def rAbs : List V → Hp → VK → Prop := fun xs H Q => ∃ i, xs = [.int i] ∧ Q (.int (if i < 0 then -i else i)) H
theorem ok_abs : BltOk K rAbs .abs := by
  refine blt_one (fun d1 d2 ds => by cases d1 <;> rfl) rfl fun F H d1 d v L wf rp nd e ok Q q => ?_
  cases d1 with
  | int i =>
    cases e
    obtain ⟨rfl, rfl⟩ := rp.int
    exact ⟨i, rfl, q _ _ _ _ (.flat (.int _) ok)⟩
  | _ => cases e
/-! sorted, of pairs -/
def kV2 (H : Hp) (x : V) : Int × Int := match x with
  | .ref t => match H t with
    | some (.tup [.int i, .int j]) => (i, j)
    | _ => (0, 0)
  | _ => (0, 0)
theorem pairs_reps : ∀ {l : List D} {xs : List V} {L : List Addr} {ps : List (Int × Int)}, Reps K F H l xs L → D.pairs l = some ps → xs.map (kV2 H) = ps ∧ ∀ x ∈ xs, ∃ t, x = .ref t ∧ H t = some (.tup [.int (kV2 H x).1, .int (kV2 H x).2])
  | [], _, _, ps, .nil, h => by cases h; exact ⟨rfl, fun x hx => nomatch hx⟩
  | d :: l, _, _, ps, .cons r t, h => by
    match d, r, h with
    | .tup [.int i, .int j], r, h =>
      have h : (D.pairs l).map ((i, j) :: ·) = some ps := h
      obtain ⟨ms, h1, h2⟩ := Option.map_eq_some_iff.mp h
      subst h2
      obtain ⟨i1, i2⟩ := pairs_reps t h1
      cases r with
      | @tup p xs _ _ hp rr =>
        cases rr with
        | cons ra rb =>
          cases ra
          cases rb with
          | cons rc rd =>
            cases rc
            cases rd
            have ek : kV2 H (.ref p) = (i, j) := by
              unfold kV2
              dsimp only
              rw [hp]
            refine ⟨by rw [List.map_cons, i1, ek], fun x hx => ?_⟩
            rcases List.mem_cons.mp hx with e | e
            · subst e
              exact ⟨p, rfl, by rw [ek]; exact hp⟩
            · exact i2 x e
theorem reps_pairs : ∀ {ys : List V}, (∀ x ∈ ys, ∃ t, x = .ref t ∧ H t = some (.tup [.int (kV2 H x).1, .int (kV2 H x).2])) → Reps K F H ((ys.map (kV2 H)).map pairD) ys []
  | [], _ => .nil
  | y :: ys, h => by
    obtain ⟨t, e, ht⟩ := h y List.mem_cons_self
    refine .cons (L1 := []) (L2 := []) ?_ (reps_pairs fun x hx => h x (List.mem_cons_of_mem _ hx))
    subst e
    exact .tup ht (.cons (L1 := []) (L2 := []) (.int _) (.cons (L1 := []) (L2 := []) (.int _) .nil))
theorem lexB_le {p q : Int × Int} (h : SrtO.lexB q p = false) : leP p q := by
  have := SrtO.lexB_no.mp h
  unfold leP
  omega
end
end PV
set_option Elab.async false
set_option linter.all false
set_option maxRecDepth 100000
set_option maxHeartbeats 4000000
/-! sorted, of a tuple of pairs. -/
namespace PV
open PySem PySem.Spec PyProof.Rows L2
section
variable {P : Program} {v : PySem.World} {B : Around} {Ex : Value → Shared → Prop} {t : Shared}
/-- the heap with the items gathered in a new list -/
abbrev gath (h : Heap) (us : List Value) : Heap := (h.push (seqObj "list" #[] 0)).update h.objs.size (Obj.mapSeq fun z => z ++ us.toArray)
theorem gather_tup {c : Addr} {us : List Value} {R : List Value → Shared → Prop} (hc : t.heap.IsTuple c us.toArray) (hz : us.length ≤ sizeLine) (hR : R us { t with heap := gath t.heap us }) : wpAny (model P v) B (collect (.ref c)) R Ex t := by
  obtain ⟨ob, h1, h2, k, h3⟩ := hc
  have h1' : (t.heap.push (seqObj "list" #[] 0)).get? c = some ob := Heap.get?_push_of_some _ h1
  have h0 : (t.heap.push (seqObj "list" #[] 0)).get? t.heap.objs.size = some (seqObj "list" #[] 0) := Heap.get?_push_size _ rfl
  have ez : ((#[] : Array Value) ++ us.toArray).size ≤ sizeLine + 1 := by simp only [Array.size_append, List.size_toArray, List.length_nil]; omega
  have el : ((#[] : Array Value) ++ us.toArray).toList = us := by simp
  have tt : (Value.type "tuple" == Value.type "tuple") = true := by rfl
  unfold collect
  refine wpAny_bind (wpAny_runValue (codeAny_builtin entry_proto_collect' (wpAny_bind (wpAny_newList (wpAny_pure ⟨Code.quiet_builtin _ (by decide +kernel), codeAny_builtin entry_list_iadd' ?_⟩)))))
  · show wpAny _ _ (Builtin.List.listExtendWith (.ref t.heap.objs.size) (.ref c) (.ref t.heap.objs.size)) _ _ { t with heap := t.heap.push (seqObj "list" #[] 0) }
    unfold Builtin.List.listExtendWith
    refine wpAny_bind (wpAny_typeOf (T := "tuple") ⟨ob, h1', h2⟩ ?_)
    rw [if_pos (by rw [tt, Bool.or_true])]
    refine wpAny_bind (listItems_at h1' h3 (wpAny_bind (listItems_at h0 rfl ?_)))
    rw [if_neg (by simp)]
    refine wpAny_bind (listUpdate_at h0 rfl ?_ (Nat.zero_le _) ez)
    refine wpAny_pure ?_
    refine wpAny_bind (m := load t.heap.objs.size) (wpAny_load (get?_update_seq h0 _) ?_)
    show wpAny _ _ (pure ((#[] : Array Value) ++ us.toArray).toList) R Ex _
    rw [el]
    exact wpAny_pure hR
theorem sorted_tup {c : Addr} {us : List Value} {lt : Value → Value → Bool} {R : Value → Shared → Prop} (O : SrtO.Swo lt) (hc : t.heap.IsTuple c us.toArray) (hz : us.length ≤ sizeLine)
    (hS : 2 ≤ us.length → ∀ (g : Heap) (a : Addr), g.get? a = some (seqObj "list" us.toArray 0) → (∀ b o, t.heap.get? b = some o → b ≠ a ∧ g.get? b = some o) → SrtO.SortableO P v B.in1.in1 { t with heap := g } a us lt)
    (hR : ∀ ws : List Value, SrtO.Srtd lt ws → SrtO.Stb lt ws us → R (.ref (t.heap.objs.size + 1)) { t with heap := sortedAll t.heap us ws.toArray }) : wpAny (model P v) B (call (.builtin "sorted") [.ref c]) R Ex t := by
  have sz : (gath t.heap us).objs.size = t.heap.objs.size + 1 := (Heap.size_update ..).trans (size_push' ..)
  have at1 : ((gath t.heap us).push (seqObj "list" us.toArray 0)).get? (t.heap.objs.size + 1) = some (seqObj "list" us.toArray 0) := by
    have := Heap.get?_push_size (gath t.heap us) (o := seqObj "list" us.toArray 0) rfl
    rwa [sz] at this
  have old : ∀ b o, t.heap.get? b = some o → b ≠ t.heap.objs.size + 1 ∧ ((gath t.heap us).push (seqObj "list" us.toArray 0)).get? b = some o := fun b o q => by
    have lt1 : b < t.heap.objs.size := Heap.lt_size q
    have g1 : (gath t.heap us).get? b = some o := (Heap.get?_update_ne _ _ _ _ (Nat.ne_of_lt lt1)).trans (Heap.get?_push_of_some _ q)
    exact ⟨Nat.ne_of_lt (Nat.lt_succ_of_lt lt1), Heap.get?_push_of_some _ g1⟩
  refine Calls.call_function_entry kind_sorted plain_sorted entry_sorted (args_sorted1 _) ?_
  unfold Builtin.«sorted»
  refine wpAny_bind (m := checkCount "sorted" 1 1 _) (wpAny_pure (wpAny_bind (gather_tup hc hz (wpAny_bind (wpAny_newList ?_ hz)))))
  show wpAny _ _ _ _ _ { t with heap := (gath t.heap us).push (seqObj "list" us.toArray 0) }
  rw [sz]
  refine wpAny_bind (wpAny_holding (wpAny_call_entry slot_list_sort ⟨_, at1, rfl⟩ entry_list_sort (SrtO.list_sort_ord O at1 hz (fun h2 => hS h2 _ _ at1 old) fun ws a b => ?_) (args_list_sort _)))
  exact ⟨_, rfl, wpAny_pure ⟨_, rfl, hR ws a b⟩⟩
/-- of pairs -/
theorem sorted_tup2 {c : Addr} {us : List Value} {k : Value → Int × Int} {R : Value → Shared → Prop} (hc : t.heap.IsTuple c us.toArray) (hz : us.length ≤ sizeLine) (hp : ∀ u ∈ us, Srt.IsPair t.heap u (k u).1 (k u).2)
    (hR : ∀ (g : Heap) (d : Addr) (ws : List Value), SrtO.Srtd (fun x y => SrtO.lexB (k x) (k y)) ws → SrtO.Stb (fun x y => SrtO.lexB (k x) (k y)) ws us → (∀ b o, t.heap.get? b = some o → g.get? b = some o) → t.heap.objs.size ≤ d → (∃ n, g.get? d = some (seqObj "list" ws.toArray n)) → R (.ref d) { t with heap := g }) :
    wpAny (model P v) B (call (.builtin "sorted") [.ref c]) R Ex t :=
  sorted_tup (SrtO.swo_lex k) hc hz (fun h2 g a ha kk => SrtO.pairs_sortableO (s := { t with heap := g }) (by omega) (fun u hm => (hp u hm).keeps fun b o e _ => (kk b o e).2) fun o e => by
    have e' : some o = some (seqObj "list" us.toArray 0) := e.symm.trans ha
    cases e'
    exact fun z => absurd (Value.type.inj z) (by decide)) fun ws hs hb => hR _ _ ws hs hb (fun b o e => sortedAll_old e) (Nat.le_succ _) (sortedAll_at t.heap us ws.toArray)
end
/-- sorted, of a list or a tuple of pairs -/
def rSortPT (K : PySem.W.Frag) : List V → Hp → VK → Prop := fun vs H Q => rSortedPO K vs H Q ∨ ∃ (a : Addr) (xs : List V) (k : V → Int × Int), vs = [V.ref a] ∧ SqT K H a xs ∧ (∀ x ∈ xs, ∃ t, x = V.ref t ∧ H t = some (.tup [.int (k x).1, .int (k x).2])) ∧
  ∀ ys p, SrtO.Srtd (L2.ltP k) ys → SrtO.Stb (L2.ltP k) ys xs → H p = none → Q (.ref p) (upd H p (.lst ys))
theorem cr_sortPT {X : Cx} : CallR X (.builtin "sorted") (rSortPT X.K) := by
  intro pins s σ H vs us Q I r h
  rcases h with h | ⟨a, xs, k, rfl, hs, hx, q⟩
  · exact cr_sortedPO _ _ _ _ _ _ _ I r h
  obtain ⟨its, rv, hl, hz⟩ := I.tuple hs
  obtain ⟨u, rfl, ru⟩ := vals1 r
  obtain rfl : u = Value.ref a := ru
  obtain ⟨e1, e2⟩ := refs_back rv fun x m => (hx x m).imp fun t e => e.1
  refine sorted_tup2 (k := fun u => k (backV u)) hl (by rw [← rv.length]; exact hz) (fun w hw => ?_) fun g d ws h1 h2 kp hd hn => ?_
  · obtain ⟨t, rfl⟩ := e2 w hw
    obtain ⟨t', e, ht⟩ := hx _ (show V.ref t ∈ xs by rw [e1]; exact List.mem_map.mpr ⟨_, hw, rfl⟩)
    cases e
    obtain ⟨_, js, r2, o, ho, hc, n, hd⟩ := I.hok _ _ ht
    obtain ⟨u1, u2, rfl, ri, rj⟩ := vals2 r2
    obtain ⟨t1, rfl⟩ := ri
    obtain ⟨t2, rfl⟩ := rj
    exact ⟨t, o, t1, t2, n, rfl, ho, hc, hd⟩
  · have h3 : ∀ u, u ∈ ws → ∃ a, u = Value.ref a := fun u hu => e2 u (h2.perm.mem_iff.mp hu)
    have hb : SrtO.Stb (L2.ltP k) (ws.map backV) xs := by rw [e1]; exact SrtO.Stb.map (ltP_swo k) backV h2
    exact ⟨.ref d, upd H d (.lst (ws.map backV)), I.laid (t' := s.toks) kp hd ⟨by rw [hb.len]; exact hz, ws, hn.choose, vals_back h3, hn.choose_spec⟩, rfl, q _ d (SrtO.srtd_map h1) hb (I.hok.fresh hd)⟩
section
variable {K : PySem.W.Frag}
theorem ok_sortedT : BltOk K (rSortPT K) .sorted := by
  refine blt_one (fun d1 d2 ds => by cases d1 <;> rfl) rfl fun F H d1 d v L wf rp nd e ok Q q => ?_
  have fin : ∀ {ps : List (Int × Int)} {xs ys : List V} {r : Addr}, xs.map (kV2 H) = ps → (∀ x ∈ xs, ∃ t, x = .ref t ∧ H t = some (.tup [.int (kV2 H x).1, .int (kV2 H x).2])) → SrtO.Srtd (L2.ltP (kV2 H)) ys → SrtO.Stb (L2.ltP (kV2 H)) ys xs → H r = none → d = D.lst true ((sortP ps).map pairD) → Q (.ref r) (upd H r (.lst ys)) := fun {ps xs ys r} i1 i2 hs hb hr hd => by
    subst hd
    have e1 : ys.map (kV2 H) = sortP ps := by
      refine perm_one leP_anti ?_ (sortP_sorted ps) (((hb.perm.map (kV2 H)).trans (by rw [i1])).trans (sortP_perm ps).symm)
      rw [List.pairwise_map]
      exact List.Pairwise.imp (fun {a b} hab => lexB_le hab) hs
    rw [← e1] at q
    exact q _ _ _ _ (.newL0 (reps_pairs fun x hx => i2 x (hb.perm.mem_iff.mp hx)) hr wf ok)
  cases d1 with
  | lst o l =>
    obtain ⟨ps, h1, h2⟩ := Option.map_eq_some_iff.mp (show ((D.pairs l).map fun l => D.lst true ((sortP l).map pairD)) = some d from e)
    obtain ⟨p, xs, rfl, g, s⟩ := rp.lst
    obtain ⟨i1, i2⟩ := pairs_reps s h1
    exact .inl ⟨p, xs, kV2 H, rfl, SqL.of g, i2, fun ys r hs hb hr => fin i1 i2 hs hb hr h2.symm⟩
  | tup l =>
    obtain ⟨ps, h1, h2⟩ := Option.map_eq_some_iff.mp (show ((D.pairs l).map fun l => D.lst true ((sortP l).map pairD)) = some d from e)
    obtain ⟨p, xs, rfl, g, s⟩ := rp.tup
    obtain ⟨i1, i2⟩ := pairs_reps s h1
    exact .inr ⟨p, xs, kV2 H, rfl, SqT.of g, i2, fun ys r hs hb hr => fin i1 i2 hs hb hr h2.symm⟩
  | _ => cases e
end
end PV
set_option Elab.async false
set_option linter.all false
set_option maxRecDepth 100000
set_option maxHeartbeats 3200000
/-! sorted(set(list of ints)). -/
namespace PV
open PySem PySem.Spec PyProof.Rows L2
/-- a new set -/
abbrev ns0 (v : PySem.World) : Obj := { cls := .type "set", dict := none, data := .set #[] 0 (.fresh 0 0 (!v.params.followText "set-order")) }
section
variable {P : Program} {v : PySem.World} {B : Around} {Ex : Value → Shared → Prop} {t : Shared}
theorem set_of_list {l : Addr} {its : Array Value} (js : List Int) {Q : Value → Shared → Prop} (hq : B.handled = none) (hl : t.heap.IsList l its) (hi : IntsAre its.toList js) (hb : js.length + 1 < scanBound)
    (hQ : ∀ (g : Heap) (tk c : Nat), SetR v g t.heap.objs.size (fun j => decide (j ∈ js)) c → c ≤ js.length → (∀ b o, t.heap.get? b = some o → g.get? b = some o) → Q (.ref t.heap.objs.size) { t with heap := g, toks := tk }) :
    wpAny (model P v) B (call (.type "set") [.ref l]) Q Ex t := by
  have hz : its.size = js.length := by
    have q := IntsAre.length hi
    rwa [Array.length_toList] at q
  obtain ⟨c, tl, hmro⟩ := F.called_set.mro
  have f1 := F.called_set.made
  have f2 := F.called_set.sub
  refine wpAny_call (codeAny_of_tree ?_)
  show wpAny _ _ (callAny (.type "set") _) _ _ _
  refine wpAny_pure ⟨Code.quiet_builtin _ (by decide +kernel), ?_⟩
  refine codeAny_builtin F.entry_type_call ?_
  rw [Around.under_plain (weight_type_call_type "set" [.ref l] []) rfl]
  have f3 := F.called_set.notType
  have f4 := F.called_set.canCreate
  have f5 := F.typeCall_set_1 (.ref l)
  repeat (any_goals (first | assumption | wp_step))
  refine codeAny_mono (code_set_led1 (.ref l) (E := Ex) (Q₁ := fun x t₁ => x = .ref t.heap.objs.size ∧ t₁ = { t with heap := t.heap.push (ns0 v) }) ⟨rfl, rfl⟩) fun r t₁ hr => ?_
  match r, hr with
  | .error e, hr => exact hr
  | .ok .next, hr => exact hr.elim
  | .ok .brk, hr => exact hr.elim
  | .ok .cont, hr => exact hr.elim
  | .ok (.ret x), ⟨ex, et⟩ =>
    subst ex et
    have gS : (t.heap.push (ns0 v)).get? t.heap.objs.size = some (ns0 v) := Heap.get?_push_size _ rfl
    have tS : Shared.TypeIs { t with heap := t.heap.push (ns0 v) } (.ref t.heap.objs.size) "set" := ⟨_, gS, rfl⟩
    have f6 := F.called_set.init.lookup
    have f7 := F.called_set.init.bind (.ref t.heap.objs.size)
    repeat (any_goals (first | assumption | wp_step))
    refine codeAny_mono (codeAny_call_builtin (R := wants (fun z t₂ => z = .none ∧ ∃ g tk c, t₂ = { t with heap := g, toks := tk } ∧ SetR v g t.heap.objs.size (fun j => decide (j ∈ js)) c ∧ c ≤ js.length ∧ (∀ b o, t.heap.get? b = some o → g.get? b = some o)) Ex)
      F.called_set.init.plain F.entry_set_init (check_set_init_1 tS ?_)) fun z t₂ hz2 => ?_
    · obtain ⟨ol, hol, hcl, nl, hdl⟩ := hl
      obtain ⟨oc, od, odt, osl⟩ := ol
      simp only at hcl hdl
      subst hcl hdl
      have gL : (t.heap.push (ns0 v)).get? l = some { cls := .type "list", dict := od, data := .seq its nl, slots := osl } := Heap.get?_push_of_some _ hol
      have k1 := F.sub_list_set
      have k2 := F.sub_list_frozenset
      have k3 : (Value.type "list" == Value.type "dict") = false := by decide
      have lL : (t.heap.push (ns0 v)).IsList l its := ⟨_, gL, rfl, nl, rfl⟩
      unfold Builtin.«set.__init__» noKeywords Builtin.Frozenset.updateFrom
      generalize hPI : pyIter = PI
      wp_walk
      subst hPI
      refine wpAny_pyIter_list lL ?_
      refine wpAny_bind (wpAny_runValue ?_)
      have ltl : l < t.heap.objs.size := Heap.lt_size hol
      have sz1 : (t.heap.push (ns0 v)).objs.size = t.heap.objs.size + 1 := Heap.size_push ..
      have ne1 : l ≠ (t.heap.push (ns0 v)).objs.size := by
        rw [sz1]
        exact Nat.ne_of_lt (Nat.lt_succ_of_lt ltl)
      have nin : t.heap.objs.size ∉ [(t.heap.push (ns0 v)).objs.size, l] := by
        rw [sz1]
        simp only [List.mem_cons, List.not_mem_nil, or_false, not_or]
        exact ⟨Nat.ne_of_lt (Nat.lt_succ_self _), Nat.ne_of_gt ltl⟩
      have vals : ∀ (i : Nat) (y : Value), its[i]? = some y → ∃ k tk, js[i]? = some k ∧ y = .int k tk := fun i y hy => by
        have hlt : i < js.length := by rw [← hz]; exact (Array.getElem?_eq_some_iff.mp hy).1
        obtain ⟨tk, e⟩ := PyProof.Rows.IntsAre.int_at hi i y (by rw [Array.getElem?_toList]; exact hy)
        refine ⟨js[i], tk, List.getElem?_eq_getElem hlt, ?_⟩
        rw [e, List.getD_eq_getElem?_getD, List.getElem?_eq_getElem hlt]
        rfl
      have h3 : B.in1.in1.in1.handled = none := by simp [hq]
      refine set_update_ints ((Walks.list h3 _ l ne1 its).toS) t.heap.objs.size nin js hz hb vals (its.size - 0) 0 _ (by omega) (Nat.zero_le _) ⟨⟨_, Heap.get?_push_size _ rfl, rfl, rfl⟩, lL.push _⟩ ?_ ?_
      · refine ⟨0, Nat.le_refl 0, setR_new_at ?_⟩
        exact Heap.get?_push_of_some _ gS
      · intro t' c' hm hc' hS'
        obtain ⟨g, g2, d', tk', os'⟩ := t'
        obtain rfl : g2 = t.gens := hm.gens
        obtain rfl : d' = t.drawn := hm.drawn
        obtain rfl : os' = t.os := hm.os
        show wpAny _ _ _ _ _ _
        refine wpAny_pure ?_
        show wpAny _ _ (ret Value.none) _ _ _
        rw [hz] at hc'
        refine wpAny_pure ⟨rfl, g, tk', c', rfl, hS', hc', fun b o e => ?_⟩
        have b0 : b < t.heap.objs.size := Heap.lt_size e
        refine hm.heap b o ?_ (Heap.get?_push_of_some _ (Heap.get?_push_of_some _ e))
        simp only [List.mem_cons, List.not_mem_nil, or_false, not_or]
        exact ⟨Nat.ne_of_lt b0, by rw [sz1]; exact Nat.ne_of_lt (Nat.lt_succ_of_lt b0)⟩
    · match z, hz2 with
      | .error e, hz2 => exact hz2
      | .ok .next, hz2 => exact hz2.elim
      | .ok .brk, hz2 => exact hz2.elim
      | .ok .cont, hz2 => exact hz2.elim
      | .ok (.ret y), ⟨ey, g, tk, c, et, r1, r2, r3⟩ =>
        subst ey et
        repeat (any_goals (first | assumption | wp_step))
        exact hQ _ _ _ r1 r2 r3
end
section
variable {X : Cx}
def rMkSet (w : PySem.World) (K : PySem.W.Frag) : List V → Hp → VK → Prop := fun xs H Q => ∃ (a : Addr) (ns : List Int), xs = [.ref a] ∧ SqL K H a (ns.map V.int) ∧ ns.length ≤ 1000 ∧ ∀ (p : Addr) (S : Int → Bool) (c : Nat), H p = none → (∀ k, S k = decide (k ∈ ns)) → c ≤ ns.length → Q (.ref p) (upd H p (SetO w p S c))
theorem cr_setL (hc : X.calm = true) : CallR X (.type "set") (rMkSet X.w X.K) := by
  intro pins s σ H vs us Q I r h
  obtain ⟨a, ns, rfl, hq, hl, q⟩ := h
  obtain ⟨u, rfl, ru⟩ := vals1 r
  cases ru
  obtain ⟨its, rv, p, _⟩ := I.list hq
  refine set_of_list ns (I.ok.hd hc) p.isList (by simpa using ints_of_vals rv) (by unfold scanBound; omega) fun g tk c hS hc' hk => ?_
  have J : Inv X pins σ (upd H s.heap.objs.size (SetO X.w s.heap.objs.size (fun j => decide (j ∈ ns)) c)) { s with heap := g, toks := tk } :=
    I.laid (t' := tk) hk (Nat.le_refl _) (setO_new hS)
  exact ⟨.ref s.heap.objs.size, _, J, rfl, q _ _ c (I.hok.fresh (Nat.le_refl _)) (fun k => rfl) hc'⟩
variable {f : Env → Option (Opd × Env)} {a : Expr} {p p2 q pos : Pos}
theorem sortU_one {ns l : List Int} (h1 : ns.Pairwise (· < ·)) (h2 : ∀ k, k ∈ ns ↔ k ∈ l) : ns = sortU l := mem_one h1 (sortU_sorted l) fun k => (h2 k).trans (mem_sortU k l).symm
theorem reps_ints {K : PySem.W.Frag} {F : Addr → Prop} {H : Hp} : ∀ ns : List Int, Reps K F H (ns.map D.int) (ns.map V.int) []
  | [] => .nil
  | i :: r => .cons (L1 := []) (L2 := []) (.int i) (reps_ints r)
theorem e_sset (hc : X.calm = true) (hg : Gl X "sorted") (hm : X.mg "sorted" = none) (hg2 : Gl X "set") (hm2 : X.mg "set" = none) (ha : PE X a (tE X.K f)) (s1 : starEach [a] X.env = (false, eval a X.env) :: starEach [] X.env) :
    PE X (.Call (.Name "sorted" p) [.Call (.Name "set" p2) [a] [] q] [] pos) (tE X.K fun e => evBlt .sset ((f e).bind fun x => (some ([], x.2)).map fun y => (x.1 :: y.1, y.2))) :=
  PE_imp (pe_callB (cr_sortedSet hc) hg hm (by decide +kernel) (pa_cons (pe_callTy (cr_setL hc) hg2 hm2 (by decide +kernel) (pa_cons ha pa_nil s1) (by decide +kernel) (by decide +kernel) s1 rfl) pa_nil) (by decide +kernel) (by decide +kernel)) fun σ H Q ⟨F, e, o, e', s, hf, q⟩ => by
    obtain ⟨os, ds, d, g1, g2, g3, rfl⟩ := evBlt_some (fs := fun e => (f e).bind fun x => (some ([], x.2)).map fun y => (x.1 :: y.1, y.2)) hf
    obtain ⟨⟨o1, e1⟩, g4, g5⟩ := Option.bind_eq_some_iff.mp g1
    cases g5
    refine ⟨F, e, o1, _, s, g4, fun F1 H1 v L x => ?_⟩
    have rp := x.rep.ress x.sta g2
    match ds, rp, g3 with
    | [.lst w l], rp, g3 =>
      obtain ⟨is, h1, h2⟩ := Option.bind_eq_some_iff.mp (show ((D.ints l).bind fun l => if l.length < 64 then some (D.lst true ((sortU l).map D.int)) else none) = some d from g3)
      split at h2
      · rename_i h64
        cases h2
        obtain ⟨b, xs, rfl, gb, sb⟩ := rp.one.lst
        rw [ints_reps sb h1] at gb
        refine ⟨b, is, rfl, SqL.of gb, by omega, fun p1 S c hp1 hS hcl => ?_⟩
        refine ⟨p1, S, c, rfl, upd_same, by omega, fun ns p3 n1 n2 n3 hp3 => ?_⟩
        have e1 := sortU_one (l := is) n1 fun k => by rw [n2 k, hS k, decide_eq_true_eq]
        have np : p3 ≠ p1 := fun z => by rw [z, upd_same] at hp3; cases hp3
        have hp3' : H1 p3 = none := by rw [upd_ne np] at hp3; exact hp3
        refine q F1 _ (.ref p3) [p3] (x.op ⟨(((Ext.new hp1).trans (Ext.new hp3) (fun _ z => z.elim)).grow (fun _ z => z.elim) (fun c hc => x.rep.ownOk hc)), ?_, by simp, fun a ha => .inl (by rw [List.mem_singleton.mp ha]; exact hp3')⟩)
        rw [e1]
        exact .own upd_same (fun z => x.sta.wf p3 z hp3') (reps_ints _)
      · cases h2
end
end PV
set_option Elab.async false
set_option linter.all false
set_option maxRecDepth 100000
set_option maxHeartbeats 1000000
/-! isinstance, ranges as lists, calls of defs. -/
namespace PV
open PySem PySem.Spec PyProof.Rows L2

section
variable {K : PySem.W.Frag} {F F' F1 F2 : Addr → Prop} {H H' H1 H2 : Hp} {X : Cx} {σ : L2.St} {e e' : Env} {a b c : Expr} {pos p p2 q : Pos} {f g h : Env → Option (Opd × Env)} {fs : Env → Option (List Opd × Env)} {es : List Expr}
def isStar : Expr → Bool
  | .Starred _ _ => true
  | _ => false
def noStar : List Expr → Bool
  | [] => true
  | a :: r => !isStar a && noStar r
theorem star_cons {a : Expr} {es : List Expr} {env : PySem.Env} (h : noStar (a :: es) = true) : starEach (a :: es) env = (false, eval a env) :: starEach es env := by
  cases a <;> first | rfl | cases h
theorem star_tail {a : Expr} {es : List Expr} (h : noStar (a :: es) = true) : noStar es = true := by
  have h : (!isStar a && noStar es) = true := h
  rw [Bool.and_eq_true] at h
  exact h.2
theorem star_any {env : PySem.Env} {pos : Pos} : ∀ {es : List Expr}, noStar es = true → (backTo pos (starEach es env)).any (·.1) = false
  | [], _ => rfl
  | a :: r, h => by
    rw [star_cons h]
    show (false || (backTo pos (starEach r env)).any (·.1)) = false
    rw [star_any (star_tail h)]
    rfl
def tyName : D → Option String
  | .int _ => some "int"
  | .bl _ => some "bool"
  | .non => some "NoneType"
  | .str _ => some "str"
  | .tup _ => some "tuple"
  | .lst _ _ => some "list"
  | _ => none
def Blt.ty : Blt → Option String
  | .isInt => some "int" | .isBool => some "bool" | .isTup => some "tuple" | .isList => some "list" | .isStr => some "str" | _ => none
theorem ty_rep {d : D} {v : V} {L : List Addr} {n : String} (r : ORep K F H d v L) (h : tyName d = some n) : TyX K H v (.type n) := by
  cases d with
  | int i => cases h; obtain ⟨rfl, _⟩ := r.int; exact .base (.int i)
  | bl i => cases h; obtain ⟨rfl, _⟩ := r.bl; exact .base (.bl i)
  | non => cases h; obtain ⟨rfl, _⟩ := r.non; exact .base .non
  | str i => cases h; obtain ⟨rfl, _⟩ := r.str; exact .base (.str i)
  | tup l => cases h; obtain ⟨p, xs, rfl, g, _⟩ := r.tup; exact .base (.tup g)
  | lst o l => cases h; obtain ⟨p, xs, rfl, g, _⟩ := r.lst; exact .base (.lst g)
  | _ => cases h
theorem isi_val {k : Blt} {T : String} (hk : k.ty = some T) {d d' : D} (h : blt k [d] = some d') : ∃ n r, tyName d = some n ∧ d' = .bl r ∧ PySem.W.kitOne K (.type n) (.type T) = some r := by
  cases k <;> first
    | (cases hk; done)
    | (cases hk
       cases d <;> first
         | (cases h; done)
         | (cases h; exact ⟨_, _, rfl, rfl, kit_ty (by decide +kernel)⟩))
def isiL : List (Blt × String) := [(.isInt, "int"), (.isBool, "bool"), (.isTup, "tuple"), (.isList, "list"), (.isStr, "str")]
theorem e_isi {k : Blt} {T : String} {x : Str} (hk : k.ty = some T) (hg : Gl X "isinstance") (hm : X.mg "isinstance" = none) (hgT : Gl X x) (hmT : X.mg x = none) (hv : bootBuiltins x = some (.type T)) (hn : x ≠ "__name__") (hd : (x == ("__debug__" : Str)) = false) (ha : PE X a (tE X.K f))
    (ns : noStar [a] = true) : PE X (.Call (.Name "isinstance" p) [a, .Name x p2] [] pos) (tE X.K fun e => evBlt k ((f e).bind fun x => (some ([], x.2)).map fun y => (x.1 :: y.1, y.2))) :=
  PE_imp (pe_callB call_isi hg hm (by decide +kernel) (pa_cons ha (pa_cons (pe_bltn (v := .ty T) hgT hmT hv rfl hn hd) pa_nil) (star_cons (by cases a <;> first | rfl | cases ns))) (he := star_cons (by cases a <;> first | rfl | cases ns))) fun σ H Q ⟨F, e, o, e', s, hf, q⟩ => by
    obtain ⟨os, ds, d, g1, g2, g3, rfl⟩ := evBlt_some (fs := fun e => (f e).bind fun x => (some ([], x.2)).map fun y => (x.1 :: y.1, y.2)) hf
    obtain ⟨⟨o1, e1⟩, g4, g5⟩ := Option.bind_eq_some_iff.mp g1
    cases g5
    refine ⟨F, e, o1, _, s, g4, fun F1 H1 v L p => ?_⟩
    have rp := p.rep.ress p.sta g2
    match ds, rp, g3 with
    | [d1], rp, g3 =>
      obtain ⟨n, r, t1, t2, t3⟩ := isi_val (K := X.K) hk g3
      subst t2
      exact ⟨v, .ty T, .type n, .type T, r, rfl, .ty T, ty_rep rp.one t1, t3, q _ _ _ _ (p.op (.flat (.bl r) fun _ z => p.rep.ownOk z))⟩

/-! ### list(range(..)) -/
theorem rangeOk_iff {i : Int} (h : rangeOk i = true) : -(2 ^ 61) ≤ i ∧ i ≤ 2 ^ 61 := by
  unfold rangeOk at h
  rwa [Bool.and_eq_true, decide_eq_true_eq, decide_eq_true_eq] at h
theorem rep_range (i j : Int) : Reps K F H (rangeL i j) (rgV i j) [] := by
  unfold rangeL rgV
  refine .of0 (by simp) fun k d v h1 h2 => ?_
  rw [List.getElem?_map] at h1 h2
  obtain ⟨n, h3, h4⟩ := Option.map_eq_some_iff.mp h1
  rw [h3] at h2
  cases h2
  subst h4
  exact .int _
theorem rgOk_of {i j : Int} (h1 : rangeOk i = true) (h2 : rangeOk j = true) (h3 : j - i ≤ lim) : RgOk i j := by
  have a1 := rangeOk_iff h1
  have a2 := rangeOk_iff h2
  have : (lim : Int) = 1000000 := rfl
  exact ⟨by omega, by omega, by omega, by omega, by omega⟩
theorem e_range1 (hc : X.calm = true) (hg : Gl X "list") (hm : X.mg "list" = none) (hg2 : Gl X "range") (hm2 : X.mg "range" = none) (ha : PE X a (tE X.K f)) (ns : noStar [a] = true) :
    PE X (.Call (.Name "list" p) [.Call (.Name "range" p2) [a] [] q] [] pos) (tE X.K fun e => evBlt .range1 ((f e).bind fun x => (some ([], x.2)).map fun y => (x.1 :: y.1, y.2))) :=
  PE_imp (pe_listRg hc hg hm (prg_1 hg2 hm2 ha (star_cons ns)) (star_cons rfl)) fun σ H Q ⟨F, e, o, e', s, hf, q⟩ => by
    obtain ⟨os, ds, d, g1, g2, g3, rfl⟩ := evBlt_some (fs := fun e => (f e).bind fun x => (some ([], x.2)).map fun y => (x.1 :: y.1, y.2)) hf
    obtain ⟨⟨o1, e1⟩, g4, g5⟩ := Option.bind_eq_some_iff.mp g1
    cases g5
    refine ⟨F, e, o1, _, s, g4, fun F1 H1 v L p => ?_⟩
    have rp := p.rep.ress p.sta g2
    match ds, rp, g3 with
    | [.int j], rp, g3 =>
      have g3 : (if rangeOk j = true ∧ j ≤ lim then some (D.lst true (rangeL 0 j)) else none) = some d := g3
      split at g3
      · rename_i hl
        cases g3
        obtain ⟨rfl, rfl⟩ := rp.one.int
        exact ⟨j, rfl, rgOk_of (by decide) hl.1 (by omega), fun r hr => q _ _ _ _ (p.op (.newL0 (rep_range 0 j) hr p.sta.wf fun _ z => nomatch z))⟩
      · cases g3
theorem e_range2 (hc : X.calm = true) (hg : Gl X "list") (hm : X.mg "list" = none) (hg2 : Gl X "range") (hm2 : X.mg "range" = none) (ha : PE X a (tE X.K f)) (hb : PE X b (tE X.K g)) (ns : noStar [a, b] = true) :
    PE X (.Call (.Name "list" p) [.Call (.Name "range" p2) [a, b] [] q] [] pos) (tE X.K fun e => evBlt .range2 ((f e).bind fun x => ((g x.2).bind fun x => (some ([], x.2)).map fun y => (x.1 :: y.1, y.2)).map fun y => (x.1 :: y.1, y.2))) :=
  PE_imp (pe_listRg hc hg hm (prg_2 hg2 hm2 ha hb (star_cons ns) (star_cons (star_tail ns)) (hp := star_any (star_tail ns))) (star_cons rfl)) fun σ H Q ⟨F, e, o, e', s, hf, q⟩ => by
    obtain ⟨os, ds, d, g1, g2, g3, rfl⟩ := evBlt_some (fs := fun e => (f e).bind fun x => ((g x.2).bind fun x => (some ([], x.2)).map fun y => (x.1 :: y.1, y.2)).map fun y => (x.1 :: y.1, y.2)) hf
    obtain ⟨⟨o1, e1⟩, g4, g5⟩ := Option.bind_eq_some_iff.mp g1
    obtain ⟨⟨o2, e2⟩, g6, g7⟩ := Option.map_eq_some_iff.mp g5
    obtain ⟨⟨o3, e3⟩, g8, g9⟩ := Option.bind_eq_some_iff.mp g6
    cases g9
    cases g7
    refine tE_two s g4 g8 fun F1 H1 x y L p => ?_
    have rp := p.rep.ress p.sta g2
    match ds, rp, g3 with
    | [.int i, .int j], rp, g3 =>
      have g3 : (if rangeOk i = true ∧ rangeOk j = true ∧ j - i ≤ lim then some (D.lst true (rangeL i j)) else none) = some d := g3
      split at g3
      · rename_i hl
        cases g3
        obtain ⟨L1, L2, rfl, r1, r2⟩ := rp.two
        obtain ⟨rfl, rfl⟩ := r1.int
        obtain ⟨rfl, rfl⟩ := r2.int
        exact ⟨i, j, rfl, rfl, rgOk_of hl.1 hl.2.1 hl.2.2, fun r hr => q _ _ _ _ (p.op (.newL0 (rep_range i j) hr p.sta.wf fun _ z => nomatch z))⟩
      · cases g3

/-! ### calls of defs -/
/-- what a call leaves: L the lists handed in to be changed -/
structure CPost (K : PySem.W.Frag) (F : Addr → Prop) (H : Hp) (ds : List D) (vs : List V) (L : List Addr) (F' : Addr → Prop) (H' : Hp) (d : D) (l' : List D) (v : V) (L' : List Addr) : Prop where
  ext : Ext (· ∈ L) F H F' H'
  rep : Rep K F' H' d v L'
  nd : L'.Nodup
  new : ∀ a ∈ L', H a = none
  io : ∀ l r a, ds = .io l :: r → vs[0]? = some (.ref a) → Rep K F' H' (.io l') (.ref a) [a]
/-- what a def of the language promises -/
def spF (K : PySem.W.Frag) (np : Nat) (io : Bool) (c : List D → Option (D × List D)) : Sp := fun vs H Q _ => ∃ F ds L d l', WF F H ∧ vs.length = np ∧ Reps K F H ds vs L ∧ L.length = (if io = true then 1 else 0) ∧ argsOk io ds = true ∧ c ds = some (d, l') ∧ ∀ F' H' v L', CPost K F H ds vs L F' H' d l' v L' → Q v H'
mutual
theorem freeze_own : ∀ d : D, d.freeze.isOwn = false
  | .non => rfl
  | .bl _ => rfl
  | .int _ => rfl
  | .str _ => rfl
  | .tup _ => rfl
  | .lst _ _ => rfl
  | .io _ => rfl
  | .scr _ => rfl
end
theorem freezes_own : ∀ l : List D, ((freezes l).all fun d => !d.isOwn) = true
  | [] => rfl
  | d :: r => by
    show (!d.freeze.isOwn && (freezes r).all fun d => !d.isOwn) = true
    rw [freeze_own, freezes_own r]
    rfl
theorem map_v_inj : ∀ {l : List D}, vals (l.map .v) = some l
  | [] => rfl
  | d :: r => by
    show (vals (r.map .v)).map (d :: ·) = _
    rw [map_v_inj]
    rfl
theorem e_call {C : Ora} {i np : Nat} {k : Nat} {fa : Addr} {fd : FuncData} {ps : List Str} {x : Str} (G : FnOk X.prog X.w X.K X.mg X.base CX0 k fa fd ps (spF X.K np false (C i))) (hr : Room k X.A) (hg : Gl X x) (hm : X.mg x = some (.ref fa)) (hk : PySem.W.keepIn X.K (.ref fa) = true) (hb : Binds X.K fd ps [])
    (hx : Passes CX0 X E0) (hd : (x == ("__debug__" : Str)) = false) (hl : (a :: es).length = np) (ha : PA X (a :: es) (tA X.K fs)) (ns : noStar (a :: es) = true) (hlen : ∀ e os e', fs e = some (os, e') → os.length = (a :: es).length) :
    PE X (.Call (.Name x p) (a :: es) [] pos) (tE X.K fun e => (fs e).bind fun x => (vals x.1).bind fun ds => (C i (freezes ds)).map fun r => (.v r.1, x.2)) :=
  PE_imp (pe_call G hr hg hm hk hb .nil hx ha hd (star_cons ns) (star_any (star_tail ns))) fun σ H Q ⟨F, e, o, e', s, hf, q⟩ => by
    obtain ⟨⟨os, e1⟩, g1, g2⟩ := Option.bind_eq_some_iff.mp hf
    obtain ⟨ds, g3, g4⟩ := Option.bind_eq_some_iff.mp g2
    obtain ⟨⟨d, l'⟩, g5, g6⟩ := Option.map_eq_some_iff.mp g4
    cases g6
    refine ⟨F, e, os, _, s, g1, fun F1 H1 vs L p => ?_⟩
    have pf := p.freeze g3
    have rp := pf.rep.vals map_v_inj
    show spF X.K np false (C i) (vs ++ []) H1 Q E0
    rw [List.append_nil]
    refine ⟨_, freezes ds, [], d, l', pf.sta.wf, ?_, rp, rfl, ?_, g5, fun F' H' v L' cp => ?_⟩
    · rw [← rp.length, freezes_length, ← vals_len g3, hlen _ _ _ g1, hl]
    · show ((freezes ds).all fun d => !d.isOwn) = true
      exact freezes_own ds
    · exact q _ _ _ _ (pf.op ⟨cp.ext, cp.rep, cp.nd, fun a ha => .inl (cp.new a ha)⟩)
end
end PV
set_option Elab.async false
set_option linter.all false
set_option maxRecDepth 100000
set_option maxHeartbeats 1000000
/-! Lists that are changed: calls that change their first argument, stores. -/
namespace PV
open PySem PySem.Spec PyProof.Rows L2

def ownD : Bool → List D → D
  | true, l => .io l
  | false, l => .lst true l
theorem ownD_own (w : Bool) (l : List D) : (ownD w l).isOwn = true := by cases w <;> rfl
section
variable {K : PySem.W.Frag} {F F' F1 F2 : Addr → Prop} {H H' H1 H2 : Hp} {X : Cx} {σ σ' : L2.St} {e e' e1 : Env} {a b c : Expr} {pos p p2 q : Pos} {f g h : Env → Option (Opd × Env)} {fs : Env → Option (List Opd × Env)} {es : List Expr}
theorem ownD_rep {w : Bool} {l : List D} {v : V} {L : List Addr} (r : Rep K F H (ownD w l) v L) : ∃ a xs, v = .ref a ∧ L = [a] ∧ H a = some (.lst xs) ∧ ¬ F a ∧ Reps K F H l xs [] := by
  cases w with
  | true => cases r with | io h1 h2 h3 => exact ⟨_, _, rfl, rfl, h1, h2, h3⟩
  | false => cases r with | own h1 h2 h3 => exact ⟨_, _, rfl, rfl, h1, h2, h3⟩
theorem rep_ownD {w : Bool} {l : List D} {a : Addr} {xs : List V} (h1 : H a = some (.lst xs)) (h2 : ¬ F a) (h3 : Reps K F H l xs []) : Rep K F H (ownD w l) (.ref a) [a] := by
  cases w with
  | true => exact .io h1 h2 h3
  | false => exact .own h1 h2 h3
theorem own_upd {i j : Nat} {w : Bool} {l l' : List D} {b : Addr} (he : e[i]? = some (some (ownD w l))) : OwnAt σ (e.set i (some (ownD w l'))) j b ↔ OwnAt σ e j b := by
  constructor
  · rintro ⟨d, h1, h2, h3⟩
    rcases set_at h1 with ⟨rfl, z⟩ | ⟨n, z⟩
    · exact ⟨_, he, ownD_own w l, h3⟩
    · exact ⟨d, z, h2, h3⟩
  · rintro ⟨d, h1, h2, h3⟩
    by_cases hj : j = i
    · subst hj
      exact ⟨_, by rw [List.getElem?_set_self (at_lt he)], ownD_own w l', h3⟩
    · exact ⟨d, by rw [List.getElem?_set_ne (fun z => hj z.symm)]; exact h1, h2, h3⟩
/-- an owned slot's list has changed -/
theorem Sta.update (s : Sta K F H σ e) {i : Nat} {w : Bool} {l l' : List D} {a : Addr} (he : e[i]? = some (some (ownD w l))) (hv : σ[i]? = some (some (.ref a))) (x : Ext (· ∈ [a]) F H F' H') (r : Rep K F' H' (ownD w l') (.ref a) [a]) :
    Sta K F' H' σ (e.set i (some (ownD w l'))) where
  wf := x.wf s.wf
  len := by rw [List.length_set]; exact s.len
  val := fun j d hj => by
    rcases set_at hj with ⟨rfl, z⟩ | ⟨n, z⟩
    · cases z
      exact ⟨_, _, hv, r, .inl (ownD_own w l')⟩
    · obtain ⟨v, L, h1, rr, o⟩ := s.val j d z
      refine ⟨v, L, h1, rr.mono x fun c hc hca => ?_, o⟩
      rw [List.mem_singleton.mp hca] at hc
      rcases o with o | o
      · obtain ⟨b, xs, ev, eL, _⟩ := rr.own_shape o
        subst ev eL
        rw [← List.mem_singleton.mp hc] at h1
        exact n (s.uni j i a ⟨d, z, o, h1⟩ ⟨_, he, ownD_own w l, hv⟩)
      · rw [o] at hc; cases hc
  uni := fun j k b h1 h2 => s.uni j k b ((own_upd he).mp h1) ((own_upd he).mp h2)
theorem io_upd {i : Nat} {w : Bool} {l l' : List D} (he : e[i]? = some (some (ownD w l))) : ∀ (j : Nat) (m : List D), e[j]? = some (some (.io m)) → ∃ m', (e.set i (some (ownD w l')))[j]? = some (some (.io m')) := fun j m hj => by
  by_cases hji : j = i
  · subst hji
    rw [he] at hj
    cases w with
    | true => exact ⟨l', by rw [List.getElem?_set_self (at_lt he)]; rfl⟩
    | false => cases hj
  · exact ⟨m, by rw [List.getElem?_set_ne (fun z => hji z.symm)]; exact hj⟩
theorem callIo_some {C : Ora} {k i : Nat} {o : Opd} (h : callIo C k i (fs e) = some (o, e')) : ∃ os e1 ds w l d l', fs e = some (os, e1) ∧ vals os = some ds ∧ e1[i]? = some (some (ownD w l)) ∧ C k (.io l :: freezes ds) = some (d, l') ∧ o = .v d ∧ e' = e1.set i (some (ownD w l')) := by
  obtain ⟨⟨os, e1⟩, g1, g2⟩ := Option.bind_eq_some_iff.mp h
  obtain ⟨ds, g3, g4⟩ := Option.bind_eq_some_iff.mp g2
  dsimp only at g4
  split at g4
  · rename_i l he
    obtain ⟨⟨d, l'⟩, g5, g6⟩ := Option.map_eq_some_iff.mp g4
    cases g6
    exact ⟨os, e1, ds, false, l, d, l', g1, g3, he, g5, rfl, rfl⟩
  · rename_i l he
    obtain ⟨⟨d, l'⟩, g5, g6⟩ := Option.map_eq_some_iff.mp g4
    cases g6
    exact ⟨os, e1, ds, true, l, d, l', g1, g3, he, g5, rfl, rfl⟩
  · cases g4
theorem e_callio {C : Ora} {i j np : Nat} {k : Nat} {fa : Addr} {fd : FuncData} {ps : List Str} {x : Str} (G : FnOk X.prog X.w X.K X.mg X.base CX0 k fa fd ps (spF X.K np true (C i))) (hr : Room k X.A) (hg : Gl X x) (hm : X.mg x = some (.ref fa)) (hk : PySem.W.keepIn X.K (.ref fa) = true) (hb : Binds X.K fd ps [])
    (hx : Passes CX0 X E0) (hd : (x == ("__debug__" : Str)) = false) (hl : (a :: es).length = np) (ha : PE X a (tVar j)) (hes : PA X es (tA X.K fs)) (ns : noStar (a :: es) = true) (hlen : ∀ e os e', fs e = some (os, e') → os.length = es.length) :
    PE X (.Call (.Name x p) (a :: es) [] pos) (tE X.K fun e => (rdBor e j).bind fun _ => callIo C i j (fs e)) :=
  PE_imp (pe_call G hr hg hm hk hb .nil hx (pa_cons ha hes (star_cons ns)) hd (star_cons ns) (star_any (star_tail ns))) fun σ H Q ⟨F, e, o, e', s, hf, q⟩ => by
    obtain ⟨⟨o0, e0⟩, g0, hf⟩ := Option.bind_eq_some_iff.mp hf
    obtain ⟨os, e1, ds, w, l, d, l', g1, g3, he, g5, rfl, rfl⟩ := callIo_some hf
    have hs : ∃ v, σ[j]? = some (some v) := by
      unfold rdBor at g0
      split at g0
      · rename_i d0 h0
        obtain ⟨v, L, h1, _⟩ := s.val j _ h0
        exact ⟨v, h1⟩
      · cases g0
    obtain ⟨v, hv⟩ := hs
    refine ⟨v, hv, F, e, os, e1, s, g1, fun F1 H1 vs L p => ?_⟩
    obtain ⟨v', Lj, hv', rj, _⟩ := p.sta.val j _ he
    rw [hv] at hv'
    cases hv'
    obtain ⟨a, xs, rfl, rfl, ha1, ha2, ha3⟩ := ownD_rep rj
    have own1 : OwnAt σ e1 j a := ⟨_, he, ownD_own w l, hv⟩
    have haL : a ∉ L := fun z => p.dis a z ⟨j, own1⟩
    have pf := p.freeze g3
    have rp := pf.rep.vals map_v_inj
    have naF : ¬ (F1 a ∨ a ∈ L) := fun z => z.elim ha2 haL
    have exf := Ext.freeze (F := F1) (H := H1) (L := L) fun c z => p.rep.ownOk z
    show spF X.K np true (C i) ((V.ref a :: vs) ++ []) H1 Q E0
    rw [List.append_nil]
    refine ⟨_, .io l :: freezes ds, [a], d, l', pf.sta.wf, ?_, .cons (L1 := [a]) (L2 := []) (.io ha1 naF (Reps.mono0 exf ha3)) rp, rfl, freezes_own ds, g5, fun F2 H2 v2 L2 cp => ?_⟩
    · show vs.length + 1 = np
      rw [← hl, ← rp.length, freezes_length, ← vals_len g3, hlen _ _ _ g1]
      rfl
    · have rio := cp.io l _ a rfl rfl
      have r2 : Rep X.K F2 H2 (ownD w l') (.ref a) [a] := by
        cases rio with
        | io h1 h2 h3 => exact rep_ownD h1 h2 h3
      refine q F2 H2 v2 L2 ⟨?_, pf.sta.update he hv cp.ext r2, fun k b hb => p.sub k b ((own_upd he).mp hb), .one cp.rep, cp.nd, fun b hb => .inl (p.ext.none_of (cp.new b hb)), fun b hb ho => ?_, fun k m hm => ?_⟩
      · refine pf.ext.trans cp.ext fun c hc => .inr ?_
        rw [List.mem_singleton.mp hc]
        exact ⟨j, p.sub j a own1⟩
      · obtain ⟨k, hk⟩ := ho
        obtain ⟨_, ys, e5⟩ := pf.sta.ownOk b ⟨k, (own_upd he).mp hk⟩
        rw [cp.new b hb] at e5
        cases e5
      · obtain ⟨m1, h1⟩ := p.io k m hm
        exact io_upd he k m1 h1
end
end PV
set_option Elab.async false
set_option linter.all false
set_option maxRecDepth 100000
set_option maxHeartbeats 1000000
/-! Targets, statements. -/
namespace PV
open PySem PySem.Spec PyProof.Rows L2

structure GPost (K : PySem.W.Frag) (F : Addr → Prop) (H : Hp) (σ : L2.St) (e : Env) (L : List Addr) (F' : Addr → Prop) (H' : Hp) (σ' : L2.St) (e' : Env) : Prop where
  ext : Ext (fun a => Own σ e a ∨ a ∈ L) F H F' H'
  sta : Sta K F' H' σ' e'
  own : ∀ a, Own σ' e' a → H a = none ∨ Own σ e a ∨ a ∈ L
  io : ∀ (i : Nat) (l : List D), e[i]? = some (some (.io l)) → (∃ l', e'[i]? = some (some (.io l'))) ∧ σ'[i]? = σ[i]?
abbrev SPost (K : PySem.W.Frag) (F : Addr → Prop) (H : Hp) (σ : L2.St) (e : Env) (F' : Addr → Prop) (H' : Hp) (σ' : L2.St) (e' : Env) : Prop := GPost K F H σ e [] F' H' σ' e'
structure RPost (K : PySem.W.Frag) (F : Addr → Prop) (H : Hp) (σ : L2.St) (e : Env) (F' : Addr → Prop) (H' : Hp) (σ' : L2.St) (e' : Env) (d : D) (v : V) (L : List Addr) : Prop where
  post : SPost K F H σ e F' H' σ' e'
  rep : Rep K F' H' d v L
  nd : L.Nodup
  new : ∀ a ∈ L, H a = none ∨ Own σ e a
  dis : ∀ a ∈ L, ¬ Own σ' e' a
def Fin (K : PySem.W.Frag) (D : Ends) (F : Addr → Prop) (H : Hp) (σ : L2.St) (e : Env) : Out → Prop
  | .nx e' => ∀ F' H' σ', SPost K F H σ e F' H' σ' e' → D.nx σ' H'
  | .bk e' => ∀ F' H' σ', SPost K F H σ e F' H' σ' e' → D.bk σ' H'
  | .ct e' => ∀ F' H' σ', SPost K F H σ e F' H' σ' e' → D.ct σ' H'
  | .rt d e' => ∀ F' H' σ' v L, RPost K F H σ e F' H' σ' e' d v L → D.rt v H'
def tS (K : PySem.W.Frag) (g : Env → Option Out) : TS := fun D σ H => ∃ F e o, Sta K F H σ e ∧ g e = some o ∧ Fin K D F H σ e o
def tG (K : PySem.W.Frag) (st : D → Env → Option Env) : TG := fun v σ H Q => ∃ F e d L e', Sta K F H σ e ∧ Rep K F H d v L ∧ L.Nodup ∧ (∀ a ∈ L, ¬ Own σ e a) ∧ st d e = some e' ∧ ∀ F' H' σ', GPost K F H σ e L F' H' σ' e' → Q σ' H'
def tGs (K : PySem.W.Frag) (st : List D → Env → Option Env) : TGs := fun vs σ H Q => ∃ F e ds L e', Sta K F H σ e ∧ Reps K F H ds vs L ∧ L.Nodup ∧ (∀ a ∈ L, ¬ Own σ e a) ∧ st ds e = some e' ∧ ∀ F' H' σ', GPost K F H σ e L F' H' σ' e' → Q σ' H'
theorem PS_imp {X : Cx} {a : Stmt} {t t' : TS} (h : PS X a t) (i : ∀ D σ H, t' D σ H → t D σ H) : PS X a t' := ⟨fun pins s σ H D I q => h.run pins s σ H D I (i _ _ _ q)⟩
theorem PSs_imp {X : Cx} {a : List Stmt} {t t' : TS} (h : PSs X a t) (i : ∀ D σ H, t' D σ H → t D σ H) : PSs X a t' := ⟨fun pins s σ H D I q => h.run pins s σ H D I (i _ _ _ q)⟩
theorem PG_imp {X : Cx} {a : Expr} {t t' : TG} (h : PG X a t) (i : ∀ v σ H Q, t' v σ H Q → t v σ H Q) : PG X a t' := ⟨fun pins s σ H v u Q I r q => h.run pins s σ H v u Q I r (i _ _ _ _ q)⟩
theorem PGs_imp {X : Cx} {a : List Expr} {t t' : TGs} (h : PGs X a t) (i : ∀ v σ H Q, t' v σ H Q → t v σ H Q) : PGs X a t' := ⟨fun pins s σ H v u Q I r q => h.run pins s σ H v u Q I r (i _ _ _ _ q)⟩
theorem PG_or {X : Cx} {a : Expr} {t t' : TG} (h : PG X a t) (h' : PG X a t') : PG X a (fun v σ H Q => t v σ H Q ∨ t' v σ H Q) :=
  ⟨fun pins s σ H v u Q I r q => q.elim (h.run pins s σ H v u Q I r) (h'.run pins s σ H v u Q I r)⟩

section
variable {K : PySem.W.Frag} {F F' F1 F2 : Addr → Prop} {H H' H1 H2 : Hp} {X : Cx} {σ σ' σ1 σ2 : L2.St} {e e' e1 e2 : Env} {a b c : Expr} {pos p p2 q : Pos} {f g h : Env → Option (Opd × Env)} {fs : Env → Option (List Opd × Env)} {es : List Expr} {L L1 L2 : List Addr}
theorem GPost.refl (s : Sta K F H σ e) (ok : ∀ a ∈ L, ¬ F a ∧ ∃ xs, H a = some (.lst xs)) : GPost K F H σ e L F H σ e :=
  ⟨.refl fun c hc => hc.elim (s.ownOk c) (ok c), s, fun a h => .inr (.inl h), fun i l h => ⟨⟨l, h⟩, rfl⟩⟩
theorem SPost.refl (s : Sta K F H σ e) : SPost K F H σ e F H σ e := GPost.refl s fun _ z => nomatch z
theorem SPost.trans (x : SPost K F H σ e F1 H1 σ1 e1) (y : SPost K F1 H1 σ1 e1 F2 H2 σ2 e2) : SPost K F H σ e F2 H2 σ2 e2 where
  ext := x.ext.trans y.ext fun c hc => (x.own c (hc.elim (fun z => z) fun z => nomatch z)).elim .inl .inr
  sta := y.sta
  own := fun c hc => (y.own c hc).elim (fun z => .inl (x.ext.none_of z)) fun z => x.own c (z.elim (fun z => z) fun z => nomatch z)
  io := fun i l h => by
    obtain ⟨⟨l1, h1⟩, h2⟩ := x.io i l h
    obtain ⟨h3, h4⟩ := y.io i l1 h1
    exact ⟨h3, h4.trans h2⟩
theorem SPost.ret {d : D} {v : V} (x : SPost K F H σ e F1 H1 σ1 e1) (y : RPost K F1 H1 σ1 e1 F2 H2 σ2 e2 d v L) : RPost K F H σ e F2 H2 σ2 e2 d v L where
  post := x.trans y.post
  rep := y.rep
  nd := y.nd
  new := fun c hc => (y.new c hc).elim (fun z => .inl (x.ext.none_of z)) fun z => (x.own c z).elim .inl fun z => .inr (z.elim (fun z => z) fun z => nomatch z)
  dis := y.dis
theorem SPost.fin {D : Ends} {o : Out} (x : SPost K F H σ e F1 H1 σ1 e1) (y : Fin K D F H σ e o) : Fin K D F1 H1 σ1 e1 o := by
  cases o with
  | nx e2 => exact fun F' H' σ' p => y _ _ _ (x.trans p)
  | bk e2 => exact fun F' H' σ' p => y _ _ _ (x.trans p)
  | ct e2 => exact fun F' H' σ' p => y _ _ _ (x.trans p)
  | rt d e2 => exact fun F' H' σ' v L p => y _ _ _ _ _ (x.ret p)
theorem Post.stmt {os : List Opd} {vs : List V} (x : Post K F H σ e F1 H1 e1 os vs L) : SPost K F H σ e F1 H1 σ e1 where
  ext := x.ext.grow (fun c hc => .inl hc) fun c hc => x.ext.wok c (hc.elim (fun z => z) fun z => nomatch z)
  sta := x.sta
  own := fun c ⟨i, hi⟩ => .inr (.inl ⟨i, x.sub i c hi⟩)
  io := fun i l h => ⟨x.io i l h, rfl⟩
/-- a value, then a target -/
theorem Post.then {os : List Opd} {vs : List V} (x : Post K F H σ e F1 H1 e1 os vs L) (y : GPost K F1 H1 σ e1 L F2 H2 σ2 e2) : SPost K F H σ e F2 H2 σ2 e2 where
  ext := x.stmt.ext.trans y.ext fun c hc => hc.elim (fun ⟨i, hi⟩ => .inr (.inl ⟨i, x.sub i c hi⟩)) fun z => (x.new c z).elim .inl fun z => .inr (.inl z)
  sta := y.sta
  own := fun c hc => (y.own c hc).elim (fun z => .inl (x.ext.none_of z)) fun z => z.elim (fun ⟨i, hi⟩ => .inr (.inl ⟨i, x.sub i c hi⟩)) fun z => (x.new c z).elim .inl fun z => .inr (.inl z)
  io := fun i l h => by
    obtain ⟨l1, h1⟩ := x.io i l h
    exact y.io i l1 h1
theorem GPost.trans (x : GPost K F H σ e L1 F1 H1 σ1 e1) (y : GPost K F1 H1 σ1 e1 L2 F2 H2 σ2 e2) (ok : ∀ a ∈ L2, ¬ F a ∧ ∃ xs, H a = some (.lst xs)) : GPost K F H σ e (L1 ++ L2) F2 H2 σ2 e2 where
  ext := (x.ext.grow (W' := fun c => Own σ e c ∨ c ∈ L1 ++ L2) (fun c hc => hc.elim .inl fun z => .inr (List.mem_append_left _ z)) fun c hc => hc.elim (fun z => x.ext.wok c (.inl z)) fun z => (List.mem_append.mp z).elim (fun z => x.ext.wok c (.inr z)) (ok c)).trans y.ext
    fun c hc => hc.elim (fun z => (x.own c z).elim .inl fun z => .inr (z.elim .inl fun z => .inr (List.mem_append_left _ z))) fun z => .inr (.inr (List.mem_append_right _ z))
  sta := y.sta
  own := fun c hc => (y.own c hc).elim (fun z => .inl (x.ext.none_of z)) fun z => z.elim (fun z => (x.own c z).elim .inl fun z => .inr (z.elim .inl fun z => .inr (List.mem_append_left _ z))) fun z => .inr (.inr (List.mem_append_right _ z))
  io := fun i l h => by
    obtain ⟨⟨l1, h1⟩, h2⟩ := x.io i l h
    obtain ⟨h3, h4⟩ := y.io i l1 h1
    exact ⟨h3, h4.trans h2⟩

/-! ### a name -/
theorem setVar_some {i : Nat} {d : D} (h : setVar e i d = some e') : i < e.length ∧ (∀ l, e[i]? ≠ some (some (.io l))) ∧ (∀ l, d ≠ .io l) ∧ e' = e.set i (some d.top) := by
  unfold setVar at h
  split at h
  · cases h
  · rename_i x hio he
    split at h
    · cases h
    · rename_i hd
      cases h
      exact ⟨at_lt he, fun l z => hio l (by rw [he] at z; exact Option.some.inj z), fun l z => hd l z, rfl⟩
  · cases h
theorem own_store {i j : Nat} {v : V} {x : D} {b : Addr} (h : OwnAt (σ.set i (some v)) (e.set i (some x)) j b) : (j = i ∧ x.isOwn = true ∧ v = .ref b) ∨ (j ≠ i ∧ OwnAt σ e j b) := by
  obtain ⟨d, h1, h2, h3⟩ := h
  rcases set_at h1 with ⟨rfl, z⟩ | ⟨n, z⟩
  · cases z
    rcases set_at h3 with ⟨_, z⟩ | ⟨n, _⟩
    · cases z; exact .inl ⟨rfl, h2, rfl⟩
    · exact absurd rfl n
  · rw [List.getElem?_set_ne (fun z => n z.symm)] at h3
    exact .inr ⟨n, d, z, h2, h3⟩
theorem setVar_ok (s : Sta K F H σ e) {i : Nat} {d : D} {v : V} (r : Rep K F H d v L) (nd : L.Nodup) (dis : ∀ a ∈ L, ¬ Own σ e a) (h : setVar e i d = some e') : ∃ F', GPost K F H σ e L F' H (σ.set i (some v)) e' := by
  obtain ⟨hi, hio, hd, rfl⟩ := setVar_some h
  have hσ : i < σ.length := by rw [← s.len]; exact hi
  have io : ∀ (x : D) (j : Nat) (l : List D), e[j]? = some (some (.io l)) → (∃ l', (e.set i (some x))[j]? = some (some (.io l'))) ∧ (σ.set i (some v))[j]? = σ[j]? := fun x j l hj => by
    have n : i ≠ j := fun z => by subst z; exact hio l hj
    exact ⟨⟨l, by rw [List.getElem?_set_ne n]; exact hj⟩, by rw [List.getElem?_set_ne n]⟩
  have key : ∀ (F' : Addr → Prop) (M : List Addr), Ext (· ∈ L) F H F' H → Rep K F' H d.top v M → (d.top.isOwn = true ∨ M = []) → (∀ a ∈ M, a ∈ L) → GPost K F H σ e L F' H (σ.set i (some v)) (e.set i (some d.top)) := fun F' M ex rt ho hM => by
    refine ⟨ex.grow (fun c hc => .inr hc) fun c hc => hc.elim (s.ownOk c) fun z => r.ownOk z, ⟨ex.wf s.wf, by rw [List.length_set, List.length_set]; exact s.len, fun j d' hj => ?_, fun j k b h1 h2 => ?_⟩, fun b hb => ?_, io _⟩
    · rcases set_at hj with ⟨rfl, z⟩ | ⟨n, z⟩
      · cases z
        exact ⟨v, M, by rw [List.getElem?_set_self hσ], rt, ho⟩
      · obtain ⟨v', L', h1, rr, o⟩ := s.val j d' z
        refine ⟨v', L', by rw [List.getElem?_set_ne (fun z => n z.symm)]; exact h1, rr.mono ex fun c hc hcL => ?_, o⟩
        rcases o with o | o
        · obtain ⟨b, xs, ev, eL, _⟩ := rr.own_shape o
          subst ev eL
          rw [List.mem_singleton.mp hc] at hcL
          exact dis b hcL ⟨j, d', z, o, h1⟩
        · rw [o] at hc; cases hc
    · have inL : d.top.isOwn = true → v = .ref b → b ∈ L := fun h1 h2 => by
        obtain ⟨c, xs, ev, eL, _⟩ := rt.own_shape h1
        rw [ev] at h2
        cases h2
        exact hM _ (by rw [eL]; exact List.mem_cons_self)
      rcases own_store h1 with ⟨rfl, q1, q2⟩ | ⟨n1, o1⟩
      · rcases own_store h2 with ⟨rfl, _, _⟩ | ⟨n2, o2⟩
        · rfl
        · exact absurd ⟨k, o2⟩ (dis b (inL q1 q2))
      · rcases own_store h2 with ⟨rfl, q1, q2⟩ | ⟨n2, o2⟩
        · exact absurd ⟨j, o1⟩ (dis b (inL q1 q2))
        · exact s.uni j k b o1 o2
    · obtain ⟨j, hj⟩ := hb
      rcases own_store hj with ⟨rfl, q1, q2⟩ | ⟨n1, o1⟩
      · obtain ⟨c, xs, ev, eL, _⟩ := rt.own_shape q1
        rw [ev] at q2
        cases q2
        exact .inr (.inr (hM _ (by rw [eL]; exact List.mem_cons_self)))
      · exact .inr (.inl ⟨j, o1⟩)
  by_cases hl : ∃ o l, d = .lst o l
  · obtain ⟨o, l, rfl⟩ := hl
    refine ⟨F, key F L (.refl fun c hc => r.ownOk hc) r ?_ fun a ha => ha⟩
    cases r with
    | frz _ _ _ => exact .inr rfl
    | own _ _ _ => exact .inl rfl
  · have et : d.top = d.freeze := by
      cases d with
      | lst o l => exact absurd ⟨o, l, rfl⟩ hl
      | io l => exact absurd rfl (hd l)
      | _ => rfl
    have ex := Ext.freeze (F := F) (H := H) (L := L) fun c hc => r.ownOk hc
    refine ⟨_, key _ [] ex ?_ (.inr rfl) fun _ z => nomatch z⟩
    rw [et]
    exact Rep.freeze (fun c hc => r.ownOk hc) r fun _ z => z
theorem g_name {i : Nat} (h : PG X a (gName i)) : PG X a (tG X.K fun d e => setVar e i d) :=
  PG_imp h fun v σ H Q ⟨F, e, d, L, e', s, r, nd, dis, hf, q⟩ => by
    obtain ⟨F', gp⟩ := setVar_ok s r nd dis hf
    exact q _ _ _ gp

/-! ### several targets -/
theorem gs_nil : PGs X [] (tGs X.K fun ds e => storeL [] ds e) :=
  PGs_imp pgs_nil fun vs σ H Q ⟨F, e, ds, L, e', s, r, nd, dis, hf, q⟩ => by
    cases r with
    | nil => cases hf; exact ⟨rfl, q _ _ _ (.refl s fun _ z => nomatch z)⟩
    | cons r t => cases hf
theorem gs_cons {t : Tg} {ts : List Tg} (h : PG X a (tG X.K (store t))) (hr : PGs X es (tGs X.K (storeL ts))) (hs : (assignEach (a :: es) X.env).map (·.2) = assign a X.env :: (assignEach es X.env).map (·.2)) : PGs X (a :: es) (tGs X.K (storeL (t :: ts))) :=
  PGs_imp (pgs_cons h hr hs) fun vs σ H Q ⟨F, e, ds, L, e', s, r, nd, dis, hf, q⟩ => by
    cases r with
    | nil => cases hf
    | @cons d v ds vs L1 L2 r tl =>
      have hf : (store t d e).bind (storeL ts ds) = some e' := hf
      obtain ⟨e1, h1, h2⟩ := Option.bind_eq_some_iff.mp hf
      have nd' := List.nodup_append.mp nd
      refine ⟨v, vs, rfl, F, e, d, L1, e1, s, r, nd'.1, fun a ha => dis a (List.mem_append_left _ ha), h1, fun F1 H1 σ1 g1 => ?_⟩
      have dj : ∀ a ∈ L2, ¬ (Own σ e a ∨ a ∈ L1) := fun a ha z => z.elim (dis a (List.mem_append_right _ ha)) fun z => nd'.2.2 a z a ha rfl
      have tl' := tl.mono g1.ext dj
      refine ⟨F1, e1, ds, L2, e', g1.sta, tl', nd'.2.1, fun a ha ho => ?_, h2, fun F2 H2 σ2 g2 => q _ _ _ (g1.trans g2 fun a ha => tl.ownOk ha)⟩
      rcases g1.own a ho with z | z
      · obtain ⟨_, xs, e5⟩ := tl.ownOk ha
        rw [z] at e5; cases e5
      · exact dj a ha z
theorem g_tup {ts : List Tg} {n : Nat} (hc : X.calm = true) (h : PGs X es (tGs X.K (storeL ts))) (hn : (assignEach es X.env).length = ts.length) (hst : (assignEach es X.env).findIdx? (·.1) = none) (hlen : ∀ ds e e', storeL ts ds e = some e' → ds.length = ts.length) : PG X (.Tuple es n pos) (tG X.K (store (.tup ts))) :=
  PG_imp (PG_or (pg_tup hc h hn hst) (pg_unl hc h hn hst)) fun v σ H Q ⟨F, e, d, L, e', s, r, nd, dis, hf, q⟩ => by
    cases d with
    | tup ds =>
      have hf : storeL ts ds e = some e' := hf
      cases r with
      | @tup p xs _ _ h1 rr =>
        exact .inl ⟨p, xs, rfl, SqT.of h1, by rw [← rr.length]; exact hlen _ _ _ hf, F, e, ds, L, e', s, rr, nd, dis, hf, q⟩
    | lst o ds =>
      have hf : storeL ts ds e = some e' := hf
      have key : ∀ (p : Addr) (xs : List V), H p = some (.lst xs) → Reps X.K F H ds xs [] → L2.gUnl X.K ts.length (tGs X.K (storeL ts)) (.ref p) σ H Q := fun p xs h1 rr => by
        refine ⟨p, xs, rfl, SqL.of h1, by rw [← rr.length]; exact hlen _ _ _ hf, F, e, ds, [], e', s, rr, .nil, (fun _ z => nomatch z), hf, fun F2 H2 σ2 g2 => q F2 H2 σ2 ?_⟩
        exact ⟨g2.ext.grow (fun c hc => hc.elim .inl (fun z => nomatch z)) (fun c hc => hc.elim (s.ownOk c) (fun z => r.ownOk z)), g2.sta, (fun a ha => (g2.own a ha).elim .inl (fun z => z.elim (fun z => .inr (.inl z)) (fun z => nomatch z))), g2.io⟩
      cases r with
      | frz h1 _ rr => exact .inr (key _ _ h1 rr)
      | own h1 _ rr => exact .inr (key _ _ h1 rr)
    | _ => cases hf
end
end PV
set_option Elab.async false
set_option linter.all false
set_option maxRecDepth 100000
set_option maxHeartbeats 1000000
/-! Statements. -/
namespace PV
open PySem PySem.Spec PyProof.Rows L2

section
variable {K : PySem.W.Frag} {F F' F1 F2 : Addr → Prop} {H H' H1 H2 : Hp} {X : Cx} {σ σ' σ1 σ2 : L2.St} {e e' e1 e2 : Env} {a b c : Expr} {pos p p2 q : Pos} {f g h : Env → Option (Opd × Env)} {fs : Env → Option (List Opd × Env)} {es : List Expr} {L LA LB : List Addr} {st : Stmt} {sts : List Stmt}
/-- target = value, by any of the layer's forms -/
theorem s_asg {t0 : TE} {g0 : TG} {tg : Tg} (h : PS X st (tAsg t0 g0)) (ht : ∀ σ H Q, tE X.K f σ H Q → t0 σ H Q) (hg : ∀ v σ H Q, tG X.K (store tg) v σ H Q → g0 v σ H Q) :
    PS X st (tS X.K fun e => (f e).bind fun x => (val x.1).bind fun d => (store tg d x.2).map .nx) :=
  PS_imp h fun D σ H ⟨F, e, o, s, hf, q⟩ => by
    obtain ⟨⟨o1, e1⟩, h1, hf⟩ := Option.bind_eq_some_iff.mp hf
    obtain ⟨d, h2, hf⟩ := Option.bind_eq_some_iff.mp hf
    obtain ⟨e2, h3, h4⟩ := Option.map_eq_some_iff.mp hf
    subst h4
    refine ht _ _ _ ⟨F, e, o1, e1, s, h1, fun F1 H1 v L p => hg _ _ _ _ ?_⟩
    cases o1 with
    | b i => cases h2
    | v d1 =>
      cases h2
      exact ⟨F1, e1, d, L, e2, p.sta, p.rep.one', p.nd, p.dis, h3, fun F2 H2 σ2 g2 => q _ _ _ (p.then g2)⟩
theorem setAll_len : ∀ {is : List Nat} {ds : List D} {e : Env}, setAll is ds e = some e' → is.length = ds.length
  | [], [], _, _ => rfl
  | i :: is, d :: ds, e, h => by
    have h : (setVar e i d).bind (setAll is ds) = some e' := h
    obtain ⟨e1, h1, h2⟩ := Option.bind_eq_some_iff.mp h
    exact congrArg Nat.succ (setAll_len h2)
  | [], _ :: _, _, h => by cases h
  | _ :: _, [], _, h => by cases h
/-- several names, one behind another -/
theorem setAll_ok : ∀ {is : List Nat} {ds : List D} {vs : List V} {L : List Addr} {F : Addr → Prop} {σ : L2.St} {e : Env}, Sta K F H σ e → Reps K F H ds vs L → L.Nodup → (∀ a ∈ L, ¬ Own σ e a) → setAll is ds e = some e' →
    ∃ F' σ', GPost K F H σ e L F' H σ' e' ∧ σ' = (is.zip vs).foldl (fun σ x => σ.set x.1 (some x.2)) σ
  | [], _, _, _, F, σ, e, s, .nil, nd, dis, h => by
    cases h
    exact ⟨F, σ, SPost.refl s, rfl⟩
  | i :: is, d :: ds, v :: vs, _, F, σ, e, s, .cons (L1 := LA) (L2 := LB) r tl, nd, dis, h => by
    have h : (setVar e i d).bind (setAll is ds) = some e' := h
    obtain ⟨e1, h1, h2⟩ := Option.bind_eq_some_iff.mp h
    have nd' := List.nodup_append.mp nd
    obtain ⟨F1, g1⟩ := setVar_ok s r nd'.1 (fun a ha => dis a (List.mem_append_left _ ha)) h1
    have dj : ∀ a ∈ LB, ¬ (Own σ e a ∨ a ∈ LA) := fun a ha z => z.elim (dis a (List.mem_append_right _ ha)) fun z => nd'.2.2 a z a ha rfl
    have tl' := tl.mono g1.ext dj
    obtain ⟨F2, σ2, g2, h3⟩ := setAll_ok g1.sta tl' nd'.2.1 (fun a ha ho => by
      rcases g1.own a ho with z | z
      · obtain ⟨_, xs, e5⟩ := tl.ownOk ha
        rw [z] at e5; cases e5
      · exact dj a ha z) h2
    exact ⟨F2, σ2, g1.trans g2 fun a ha => tl.ownOk ha, h3⟩
  | [], _ :: _, _, _, _, _, _, _, _, _, _, h => by cases h
  | _ :: _, [], _, _, _, _, _, _, _, _, _, h => by cases h
theorem s_par2 {i j : Nat} (h : ∀ ta, PA X es ta → PS X st (tPar i j ta)) (ha : PA X es (tA X.K fs)) : PS X st (tS X.K fun e => (fs e).bind fun x => (vals x.1).bind fun ds => (setAll [i, j] ds x.2).map .nx) :=
  PS_imp (h _ ha) fun D σ H ⟨F, e, o, s, hf, q⟩ => by
    obtain ⟨⟨os, e1⟩, h1, hf⟩ := Option.bind_eq_some_iff.mp hf
    obtain ⟨ds, h2, hf⟩ := Option.bind_eq_some_iff.mp hf
    obtain ⟨e2, h3, h4⟩ := Option.map_eq_some_iff.mp hf
    subst h4
    refine ⟨F, e, os, e1, s, h1, fun F1 H1 vs L p => ?_⟩
    have rp := p.rep.vals h2
    obtain ⟨F2, σ2, g2, h5⟩ := setAll_ok p.sta rp p.nd p.dis h3
    have hl : 2 = vs.length := (setAll_len h3).trans rp.length
    match vs, hl, h5 with
    | [v, v'], _, h5 =>
      refine ⟨_, _, rfl, ?_⟩
      have := q _ _ _ (p.then g2)
      rw [h5] at this
      exact this
theorem s_par3 {i j k : Nat} (h : ∀ ta, PA X es ta → PS X st (tPar3 i j k ta)) (ha : PA X es (tA X.K fs)) : PS X st (tS X.K fun e => (fs e).bind fun x => (vals x.1).bind fun ds => (setAll [i, j, k] ds x.2).map .nx) :=
  PS_imp (h _ ha) fun D σ H ⟨F, e, o, s, hf, q⟩ => by
    obtain ⟨⟨os, e1⟩, h1, hf⟩ := Option.bind_eq_some_iff.mp hf
    obtain ⟨ds, h2, hf⟩ := Option.bind_eq_some_iff.mp hf
    obtain ⟨e2, h3, h4⟩ := Option.map_eq_some_iff.mp hf
    subst h4
    refine ⟨F, e, os, e1, s, h1, fun F1 H1 vs L p => ?_⟩
    have rp := p.rep.vals h2
    obtain ⟨F2, σ2, g2, h5⟩ := setAll_ok p.sta rp p.nd p.dis h3
    have hl : 3 = vs.length := (setAll_len h3).trans rp.length
    match vs, hl, h5 with
    | [v, v', v''], _, h5 =>
      refine ⟨_, _, _, rfl, ?_⟩
      have := q _ _ _ (p.then g2)
      rw [h5] at this
      exact this

/-! ### lists changed -/
theorem rdOwn_some {i : Nat} {u : Unit} (h : rdOwn e i = some u) : ∃ w l, e[i]? = some (some (ownD w l)) := by
  unfold rdOwn at h
  split at h
  · rename_i l he
    exact ⟨false, l, he⟩
  · rename_i l he
    exact ⟨true, l, he⟩
  · cases h
theorem setL_some {i : Nat} {k : List D → Option (List D)} (h : setL e i k = some e') : ∃ w l l', e[i]? = some (some (ownD w l)) ∧ k l = some l' ∧ e' = e.set i (some (ownD w l')) := by
  unfold setL at h
  split at h
  · rename_i l he
    obtain ⟨l', h1, h2⟩ := Option.map_eq_some_iff.mp h
    exact ⟨false, l, l', he, h1, h2.symm⟩
  · rename_i l he
    obtain ⟨l', h1, h2⟩ := Option.map_eq_some_iff.mp h
    exact ⟨true, l, l', he, h1, h2.symm⟩
  · cases h
theorem Sta.atOwn (s : Sta K F H σ e) {i : Nat} {w : Bool} {l : List D} (h : e[i]? = some (some (ownD w l))) : ∃ a xs, σ[i]? = some (some (.ref a)) ∧ H a = some (.lst xs) ∧ ¬ F a ∧ Reps K F H l xs [] ∧ OwnAt σ e i a := by
  obtain ⟨v, L, h1, r, _⟩ := s.val i _ h
  obtain ⟨a, xs, rfl, rfl, h2, h3, h4⟩ := ownD_rep r
  exact ⟨a, xs, h1, h2, h3, h4, _, h, ownD_own w l, h1⟩
/-- an owned list is written: ys the new items -/
theorem write_ok {os : List Opd} {vs : List V} (x : Post K F H σ e F1 H1 e1 os vs L) {i : Nat} {w : Bool} {l l' : List D} {a : Addr} {xs ys : List V} (he : e1[i]? = some (some (ownD w l))) (hv : σ[i]? = some (some (.ref a))) (h1 : H1 a = some (.lst xs)) (h2 : ¬ F1 a)
    (r : Reps K (fun b => F1 b ∨ b ∈ L) H1 l' ys []) : SPost K F H σ e (fun b => F1 b ∨ b ∈ L) (upd H1 a (.lst ys)) σ (e1.set i (some (ownD w l'))) := by
  have own1 : OwnAt σ e1 i a := ⟨_, he, ownD_own w l, hv⟩
  have naL : a ∉ L := fun z => x.dis a z ⟨i, own1⟩
  have exf := Ext.freeze (F := F1) (H := H1) (L := L) fun c hc => x.rep.ownOk hc
  have naF : ¬ (F1 a ∨ a ∈ L) := fun z => z.elim h2 naL
  have sf : Sta K (fun b => F1 b ∨ b ∈ L) H1 σ e1 := x.sta.mono exf fun c ho hc => x.dis c hc ho
  have exw : Ext (· ∈ [a]) (fun b => F1 b ∨ b ∈ L) H1 (fun b => F1 b ∨ b ∈ L) (upd H1 a (.lst ys)) := Ext.write h1 naF List.mem_cons_self fun c hc => by rw [List.mem_singleton.mp hc]; exact ⟨naF, _, h1⟩
  have rw : Rep K (fun b => F1 b ∨ b ∈ L) (upd H1 a (.lst ys)) (ownD w l') (.ref a) [a] := rep_ownD upd_same naF (Reps.mono0 exw r)
  have st := sf.update he hv exw rw
  refine ⟨?_, st, fun b hb => ?_, fun j m hj => ⟨?_, rfl⟩⟩
  · refine (x.stmt.ext.trans exf fun c hc => (x.new c hc).elim .inl fun z => .inr (.inl z)).trans exw fun c hc => ?_
    rw [List.mem_singleton.mp hc]
    exact .inr (.inl ⟨i, x.sub i a own1⟩)
  · obtain ⟨j, hj⟩ := hb
    exact .inr (.inl ⟨j, x.sub j b ((own_upd he).mp hj)⟩)
  · obtain ⟨m1, hm⟩ := x.io j m hj
    exact io_upd he j m1 hm
theorem Reps.set0 : ∀ {ds : List D} {vs : List V} {j : Nat} {d : D} {v : V}, Reps K F H ds vs [] → Rep K F H d v [] → Reps K F H (ds.set j d) (vs.set j v) []
  | [], vs, _, _, _, r, _ => by cases r; exact .nil
  | d0 :: ds, [], _, _, _, r, _ => by cases r
  | d0 :: ds, v0 :: vs, 0, d, v, r, s => .cons (L1 := []) (L2 := []) s r.cons0.2
  | d0 :: ds, v0 :: vs, j + 1, d, v, r, s => .cons (L1 := []) (L2 := []) r.cons0.1 (Reps.set0 r.cons0.2 s)
theorem s_setI {i : Nat} (h : ∀ tv tk, PE X b tv → PE X c tk → PS X st (tAsg tv (gSub (tVar i) tk rSetL))) (hv : PE X b (tE X.K f)) (hk : PE X c (tE X.K g)) :
    PS X st (tS X.K fun e => (f e).bind fun x => (val x.1).bind fun d => (rdOwn x.2 i).bind fun _ => (g x.2).bind fun y => (val y.1).bind fun k => (setL y.2 i fun l => putAt l k d.freeze).map .nx) :=
  PS_imp (h _ _ hv hk) fun D σ H ⟨F, e, o, s, hf, q⟩ => by
    obtain ⟨⟨o1, e1⟩, h1, hf⟩ := Option.bind_eq_some_iff.mp hf
    obtain ⟨d, h2, hf⟩ := Option.bind_eq_some_iff.mp hf
    obtain ⟨u, h3, hf⟩ := Option.bind_eq_some_iff.mp hf
    obtain ⟨⟨o2, e2⟩, h4, hf⟩ := Option.bind_eq_some_iff.mp hf
    obtain ⟨k, h5, hf⟩ := Option.bind_eq_some_iff.mp hf
    obtain ⟨e3, h6, h7⟩ := Option.map_eq_some_iff.mp hf
    subst h7
    refine ⟨F, e, o1, e1, s, h1, fun F1 H1 v L p => ?_⟩
    obtain ⟨w0, l0, h8⟩ := rdOwn_some h3
    obtain ⟨a0, _, h9, _⟩ := p.sta.atOwn h8
    refine ⟨_, h9, F1, e1, o2, e2, p.sta, h4, fun F2 H2 v2 LB p2 => ?_⟩
    have pp := p.app p2
    cases o1 with
    | b i => cases h2
    | v d1 =>
    cases o2 with
    | b i => cases h5
    | v d2 =>
    cases h2
    cases h5
    obtain ⟨w, l, l', h10, h11, h12⟩ := setL_some h6
    obtain ⟨a1, xs, h13, h14, h15, h16, own⟩ := p2.sta.atOwn h10
    rw [h9] at h13
    cases h13
    cases k with
    | int kk =>
      have h11 : (ixN l.length kk).map (fun j => l.set j d.freeze) = some l' := h11
      obtain ⟨j, h17, h18⟩ := Option.map_eq_some_iff.mp h11
      subst h18 h12
      cases p2.rep.one'
      refine ⟨a0, xs, kk, j, rfl, rfl, h14, by rw [← h16.length]; exact h17, q _ _ _ (write_ok pp h10 h9 h14 h15 ?_)⟩
      have exf := Ext.freeze (F := F2) (H := H2) (L := L ++ []) fun c hc => pp.rep.ownOk hc
      have rd : Rep X.K F2 H2 d v L := by
        have := p.rep.one'
        exact this.mono p2.ext p.dis
      exact (Reps.mono0 exf h16).set0 (Rep.freeze (fun c hc => pp.rep.ownOk hc) rd fun a ha => List.mem_append_left _ ha)
    | _ => cases h11
theorem s_append {i : Nat} (h : ∀ ta, PA X [b] ta → PS X st (tDrop (tBM X.K "list" rAppend (tVar i) ta))) (ha : PE X b (tE X.K f)) (ns : noStar [b] = true) :
    PS X st (tS X.K fun e => (rdOwn e i).bind fun _ => (f e).bind fun x => (val x.1).bind fun d => (setL x.2 i fun l => if l.length < lim then some (l ++ [d.freeze]) else none).map .nx) :=
  PS_imp (h _ (pa_cons ha pa_nil (star_cons ns))) fun D σ H ⟨F, e, o, s, hf, q⟩ => by
    obtain ⟨u, h3, hf⟩ := Option.bind_eq_some_iff.mp hf
    obtain ⟨⟨o1, e1⟩, h1, hf⟩ := Option.bind_eq_some_iff.mp hf
    obtain ⟨d, h2, hf⟩ := Option.bind_eq_some_iff.mp hf
    obtain ⟨e3, h6, h7⟩ := Option.map_eq_some_iff.mp hf
    subst h7
    obtain ⟨w0, l0, h8⟩ := rdOwn_some h3
    obtain ⟨a0, xs0, h9, h9h, _⟩ := s.atOwn h8
    refine ⟨_, h9, .inl ⟨rfl, xs0, SqL.of h9h⟩, F, e, o1, e1, s, h1, fun F1 H1 v L p => ?_⟩
    cases o1 with
    | b i => cases h2
    | v d1 =>
    cases h2
    obtain ⟨w, l, l', h10, h11, h12⟩ := setL_some h6
    obtain ⟨a1, xs, h13, h14, h15, h16, own⟩ := p.sta.atOwn h10
    rw [h9] at h13
    cases h13
    split at h11
    · rename_i hl
      cases h11
      subst h12
      refine ⟨a0, xs, v, rfl, rfl, h14, by rw [← h16.length]; exact Nat.lt_of_lt_of_le hl (by rw [sizeLine_eq]; decide), q _ _ _ (write_ok p h10 h9 h14 h15 ?_)⟩
      have exf := Ext.freeze (F := F1) (H := H1) (L := L) fun c hc => p.rep.ownOk hc
      exact Reps.append (L := []) (M := []) (Reps.mono0 exf h16) (.one (Rep.freeze (fun c hc => p.rep.ownOk hc) p.rep.one' fun a ha => ha))
    · cases h11
theorem s_extend {i : Nat} (h : ∀ ta, PA X [b] ta → PS X st (tDrop (tBM X.K "list" rExtend (tVar i) ta))) (ha : PE X b (tE X.K f)) (ns : noStar [b] = true) :
    PS X st (tS X.K fun e => (rdOwn e i).bind fun _ => (f e).bind fun x => (val x.1).bind fun d => (setL x.2 i fun l => extL l d).map .nx) :=
  PS_imp (h _ (pa_cons ha pa_nil (star_cons ns))) fun D σ H ⟨F, e, o, s, hf, q⟩ => by
    obtain ⟨u, h3, hf⟩ := Option.bind_eq_some_iff.mp hf
    obtain ⟨⟨o1, e1⟩, h1, hf⟩ := Option.bind_eq_some_iff.mp hf
    obtain ⟨d, h2, hf⟩ := Option.bind_eq_some_iff.mp hf
    obtain ⟨e3, h6, h7⟩ := Option.map_eq_some_iff.mp hf
    subst h7
    obtain ⟨w0, l0, h8⟩ := rdOwn_some h3
    obtain ⟨a0, xs0, h9, h9h, _⟩ := s.atOwn h8
    refine ⟨_, h9, .inl ⟨rfl, xs0, SqL.of h9h⟩, F, e, o1, e1, s, h1, fun F1 H1 v L p => ?_⟩
    cases o1 with
    | b i => cases h2
    | v d1 =>
    cases h2
    obtain ⟨w, l, l', h10, h11, h12⟩ := setL_some h6
    obtain ⟨a1, xs, h13, h14, h15, h16, own⟩ := p.sta.atOwn h10
    rw [h9] at h13
    cases h13
    cases d with
    | lst o m =>
      have h11 : (if l.length + m.length ≤ lim then some (l ++ m) else none) = some l' := h11
      split at h11
      · rename_i hl
        cases h11
        subst h12
        obtain ⟨b, zs, rfl, hb, sb⟩ := (ORep.of p.rep.one').lst
        refine ⟨a0, b, xs, zs, rfl, rfl, h14, hb, by rw [← h16.length, ← sb.length]; exact lim_line hl, q _ _ _ (write_ok p h10 h9 h14 h15 ?_)⟩
        have exf := Ext.freeze (F := F1) (H := H1) (L := L) fun c hc => p.rep.ownOk hc
        exact Reps.append (L := []) (M := []) (Reps.mono0 exf h16) (Reps.mono0 exf sb)
      · cases h11
    | _ => cases h11

def rInsert : V → List V → Hp → VK → Prop := fun x vs H Q => ∃ (l : Addr) (xs : List V) (i : Int) (y : V), x = .ref l ∧ vs = [.int i, y] ∧ H l = some (.lst xs) ∧ xs.length < sizeLine ∧ 0 ≤ i ∧ i < 2 ^ 63 ∧
    Q .non (upd H l (.lst (xs.take i.toNat ++ [y] ++ xs.drop i.toNat)))
theorem Reps.erase0 : ∀ {ds : List D} {vs : List V} (k : Nat), Reps K F H ds vs [] → Reps K F H (ds.eraseIdx k) (vs.eraseIdx k) []
  | [], vs, _, r => by cases r; exact .nil
  | d0 :: ds, [], _, r => by cases r
  | d0 :: ds, v0 :: vs, 0, r => r.cons0.2
  | d0 :: ds, v0 :: vs, k + 1, r => .cons (L1 := []) (L2 := []) r.cons0.1 (Reps.erase0 k r.cons0.2)
theorem s_popAt {i : Nat} (h : ∀ ta, PA X [b] ta → PS X st (tDrop (tBM X.K "list" rPopAt (tVar i) ta))) (ha : PE X b (tE X.K f)) (ns : noStar [b] = true) :
    PS X st (tS X.K fun e => (rdOwn e i).bind fun _ => (f e).bind fun x => (val x.1).bind fun d => (setL x.2 i fun l => popL l d).map .nx) :=
  PS_imp (h _ (pa_cons ha pa_nil (star_cons ns))) fun D σ H ⟨F, e, o, s, hf, q⟩ => by
    obtain ⟨u, h3, hf⟩ := Option.bind_eq_some_iff.mp hf
    obtain ⟨⟨o1, e1⟩, h1, hf⟩ := Option.bind_eq_some_iff.mp hf
    obtain ⟨d, h2, hf⟩ := Option.bind_eq_some_iff.mp hf
    obtain ⟨e3, h6, h7⟩ := Option.map_eq_some_iff.mp hf
    subst h7
    obtain ⟨w0, l0, h8⟩ := rdOwn_some h3
    obtain ⟨a0, xs0, h9, h9h, _⟩ := s.atOwn h8
    refine ⟨_, h9, .inl ⟨rfl, xs0, SqL.of h9h⟩, F, e, o1, e1, s, h1, fun F1 H1 v L p => ?_⟩
    cases o1 with
    | b i => cases h2
    | v d1 =>
    cases h2
    obtain ⟨w, l, l', h10, h11, h12⟩ := setL_some h6
    obtain ⟨a1, xs, h13, h14, h15, h16, own⟩ := p.sta.atOwn h10
    rw [h9] at h13
    cases h13
    cases d with
    | int k =>
      have h11 : (if 0 ≤ k ∧ k < l.length ∧ l.length ≤ lim then some (l.eraseIdx k.toNat) else none) = some l' := h11
      split at h11
      · rename_i hl
        obtain ⟨hl1, hl2, hl3⟩ := hl
        cases h11
        subst h12
        have hv := p.rep.one'
        cases hv
        have hlen := h16.length
        have hlim : l.length ≤ 1000000 := hl3
        have hk : k.toNat < xs.length := by omega
        refine ⟨a0, xs, k, k.toNat, xs[k.toNat], rfl, rfl, h14, by omega, by omega, seqIndex_of hl1 (by omega), List.getElem?_eq_getElem hk, q _ _ _ (write_ok p h10 h9 h14 h15 ?_)⟩
        have exf := Ext.freeze (F := F1) (H := H1) (L := []) fun c hc => p.rep.ownOk hc
        exact Reps.erase0 _ (Reps.mono0 exf h16)
      · cases h11
    | _ => cases h11
theorem s_insAt {i : Nat} (h : ∀ ta, PA X es ta → PS X st (tDrop (tBM X.K "list" rInsert (tVar i) ta))) (ha : PA X es (tA X.K fs)) :
    PS X st (tS X.K fun e => (rdOwn e i).bind fun _ => (fs e).bind fun x => (vals x.1).bind fun ds => (setL x.2 i fun l => insL l ds).map .nx) :=
  PS_imp (h _ ha) fun D σ H ⟨F, e, o, s, hf, q⟩ => by
    obtain ⟨u, h3, hf⟩ := Option.bind_eq_some_iff.mp hf
    obtain ⟨⟨os, e1⟩, h1, hf⟩ := Option.bind_eq_some_iff.mp hf
    obtain ⟨ds, h2, hf⟩ := Option.bind_eq_some_iff.mp hf
    obtain ⟨e3, h6, h7⟩ := Option.map_eq_some_iff.mp hf
    subst h7
    obtain ⟨w0, l0, h8⟩ := rdOwn_some h3
    obtain ⟨a0, xs0, h9, h9h, _⟩ := s.atOwn h8
    refine ⟨_, h9, .inl ⟨rfl, xs0, SqL.of h9h⟩, F, e, os, e1, s, h1, fun F1 H1 vs L p => ?_⟩
    obtain ⟨w, l, l', h10, h11, h12⟩ := setL_some h6
    obtain ⟨a1, xs, h13, h14, h15, h16, own⟩ := p.sta.atOwn h10
    rw [h9] at h13
    cases h13
    have rp := p.rep.vals h2
    match ds, rp, h11 with
    | [.int k, d], rp, h11 =>
      have h11 : (if 0 ≤ k ∧ k ≤ lim ∧ l.length < lim then some (l.take k.toNat ++ [d.freeze] ++ l.drop k.toNat) else none) = some l' := h11
      split at h11
      · rename_i hl
        obtain ⟨hl1, hl2, hl3⟩ := hl
        cases h11
        subst h12
        cases rp with
        | cons r1 r2 =>
        cases r1
        have hlen := h16.length
        have hk : k ≤ 1000000 := hl2
        cases r2 with
        | cons r2 r3 =>
        cases r3
        refine ⟨a0, xs, k, _, rfl, rfl, h14, by rw [← hlen]; exact Nat.lt_of_lt_of_le hl3 (by rw [sizeLine_eq]; decide), hl1, by omega, q _ _ _ (write_ok p h10 h9 h14 h15 ?_)⟩
        have exf := Ext.freeze (F := F1) (H := H1) (L := [] ++ (_ ++ [])) fun c hc => p.rep.ownOk hc
        have r16 := Reps.mono0 exf h16
        exact Reps.append (L := []) (M := []) (Reps.append (L := []) (M := []) (Reps.take0 _ r16) (.one (Rep.freeze (fun c hc => p.rep.ownOk hc) r2 fun a ha => by simpa using ha))) (Reps.drop0 _ r16)
      · cases h11
theorem s_setSl {i : Nat} {d1 : Expr} {g2 : Env → Option (Opd × Env)} (h : ∀ tv tl th, PE X b tv → PE X c tl → PE X d1 th → PS X st (tAsg tv (gSlc (tVar i) (tPart tl) (tPart th) rSetSl))) (hv : PE X b (tE X.K f)) (hk : PE X c (tE X.K g)) (hk2 : PE X d1 (tE X.K g2)) :
    PS X st (tS X.K fun e => (f e).bind fun x => (val x.1).bind fun d => (rdOwn x.2 i).bind fun _ => (g x.2).bind fun y => (val y.1).bind fun k => (g2 y.2).bind fun z => (val z.1).bind fun k2 => (setL z.2 i fun l => slL l k k2 d).map .nx) :=
  PS_imp (h _ _ _ hv hk hk2) fun D σ H ⟨F, e, o, s, hf, q⟩ => by
    obtain ⟨⟨o1, e1⟩, h1, hf⟩ := Option.bind_eq_some_iff.mp hf
    obtain ⟨d, h2, hf⟩ := Option.bind_eq_some_iff.mp hf
    obtain ⟨u, h3, hf⟩ := Option.bind_eq_some_iff.mp hf
    obtain ⟨⟨o2, e2⟩, h4, hf⟩ := Option.bind_eq_some_iff.mp hf
    obtain ⟨k, h5, hf⟩ := Option.bind_eq_some_iff.mp hf
    obtain ⟨⟨o3, e3⟩, h4', hf⟩ := Option.bind_eq_some_iff.mp hf
    obtain ⟨k2, h5', hf⟩ := Option.bind_eq_some_iff.mp hf
    obtain ⟨e4, h6, h7⟩ := Option.map_eq_some_iff.mp hf
    subst h7
    refine ⟨F, e, o1, e1, s, h1, fun F1 H1 v L p => ?_⟩
    obtain ⟨w0, l0, h8⟩ := rdOwn_some h3
    obtain ⟨a0, _, h9, _⟩ := p.sta.atOwn h8
    cases o1 with
    | b i => cases h2
    | v d1 =>
    cases o2 with
    | b i => cases h5
    | v d2 =>
    cases o3 with
    | b i => cases h5'
    | v d3 =>
    cases h2
    cases h5
    cases h5'
    obtain ⟨w, l, l', h10, h11, h12⟩ := setL_some h6
    match k, k2, d, h11 with
    | .int x, .int y, .lst o m, h11 =>
      have h11 : (if 0 ≤ x ∧ x ≤ y ∧ x ≤ l.length ∧ l.length + m.length ≤ lim then some (l.take x.toNat ++ m ++ l.drop y.toNat) else none) = some l' := h11
      split at h11
      · rename_i hl
        obtain ⟨hl1, hl2, hl3, hl4⟩ := hl
        cases h11
        subst h12
        refine ⟨_, h9, F1, e1, _, e2, p.sta, h4, fun F2 H2 v2 L2 p2 => ?_⟩
        have pp := p.app p2
        cases p2.rep.one'
        refine ⟨x, rfl, F2, e2, _, e3, p2.sta, h4', fun F3 H3 v3 L3 p3 => ?_⟩
        have ppp := pp.app p3
        cases p3.rep.one'
        refine ⟨y, rfl, ?_⟩
        obtain ⟨a1, xs, h13, h14, h15, h16, own⟩ := p3.sta.atOwn h10
        rw [h9] at h13
        cases h13
        have r3 := ppp.rep.vals (ds := [.lst o m, .int x, .int y]) rfl
        obtain ⟨v', M, hv', rd, hM⟩ := r3.at (i := 0) (j := 0) rfl
        cases Option.some.inj hv'
        have hne : ∀ b, v = .ref b → a0 ≠ b := fun b hb z => by
          subst hb z
          cases rd with
          | frz g1 g2 g3 => exact h15 g2
          | own g1 g2 g3 => exact ppp.dis _ (hM.subset List.mem_cons_self) ⟨i, own⟩
        obtain ⟨b, zs, rfl, hb, sb⟩ := (ORep.of rd).lst
        refine ⟨a0, b, xs, zs, x, y, rfl, rfl, rfl, rfl, h14, hb, hne b rfl, hl1, hl2, by rw [← h16.length]; exact hl3, by rw [← h16.length, ← sb.length]; exact lim_line hl4, q _ _ _ (write_ok ppp h10 h9 h14 h15 ?_)⟩
        have exf := Ext.freeze (F := F3) (H := H3) fun c hc => ppp.rep.ownOk hc
        have r16 := Reps.mono0 exf h16
        exact Reps.append (L := []) (M := []) (Reps.append (L := []) (M := []) (Reps.take0 _ r16) (Reps.mono0 exf sb)) (Reps.drop0 _ r16)
      · cases h11

/-! ### the others -/
theorem s_ret (ha : PE X a (tE X.K f)) : PS X (.Return (some a) pos) (tS X.K fun e => (f e).bind fun x => (val x.1).map fun d => .rt d x.2) :=
  PS_imp (ps_ret ha) fun D σ H ⟨F, e, o, s, hf, q⟩ => by
    obtain ⟨⟨o1, e1⟩, h1, hf⟩ := Option.bind_eq_some_iff.mp hf
    obtain ⟨d, h2, h3⟩ := Option.map_eq_some_iff.mp hf
    subst h3
    refine ⟨F, e, o1, e1, s, h1, fun F1 H1 v L p => ?_⟩
    cases o1 with
    | b i => cases h2
    | v d1 =>
    cases h2
    exact q _ _ _ _ _ ⟨p.stmt, p.rep.one', p.nd, p.new, p.dis⟩
theorem s_expr (ha : PE X a (tE X.K f)) (hs : swapsWith a none pos.line X.env = pure false) : PS X (.Expr a pos) (tS X.K fun e => (f e).map fun x => .nx x.2) :=
  PS_imp (ps_expr ha hs) fun D σ H ⟨F, e, o, s, hf, q⟩ => by
    obtain ⟨⟨o1, e1⟩, h1, h2⟩ := Option.map_eq_some_iff.mp hf
    subst h2
    exact ⟨F, e, o1, e1, s, h1, fun F1 H1 v L p => q _ _ _ p.stmt⟩
theorem s_ife {t : Env → Option (Bool × Env)} {bs cs : List Stmt} {u v : Env → Option Out} (hc : PT X c (tT X.K t)) (ha : PSs X bs (tS X.K u)) (hb : PSs X cs (tS X.K v)) : PS X (.If c bs cs pos) (tS X.K fun e => (t e).bind fun x => if x.1 = true then u x.2 else v x.2) :=
  PS_imp (ps_if hc ha hb) fun D σ H ⟨F, e, o, s, hf, q⟩ => by
    obtain ⟨⟨k, e1⟩, h1, h2⟩ := Option.bind_eq_some_iff.mp hf
    refine ⟨F, e, k, e1, s, h1, fun F1 H1 p => ?_⟩
    have qf := p.stmt.fin q
    cases k with
    | true =>
      have h2 : u e1 = some o := h2
      show tS X.K u D σ H1
      exact ⟨F1, e1, o, p.sta, h2, qf⟩
    | false =>
      have h2 : v e1 = some o := h2
      show tS X.K v D σ H1
      exact ⟨F1, e1, o, p.sta, h2, qf⟩
theorem s_brk : PS X (.Break pos) (tS X.K fun e => some (.bk e)) :=
  PS_imp ps_break fun D σ H ⟨F, e, o, s, hf, q⟩ => by
    cases hf
    exact q _ _ _ (.refl s)
theorem s_cont : PS X (.Continue pos) (tS X.K fun e => some (.ct e)) :=
  PS_imp ps_continue fun D σ H ⟨F, e, o, s, hf, q⟩ => by
    cases hf
    exact q _ _ _ (.refl s)
theorem s_never : PS X st (tS X.K fun _ => none) := PS_imp ps_never fun D σ H ⟨F, e, o, s, hf, q⟩ => by cases hf
theorem ss_nil : PSs X [] (tS X.K fun e => some (.nx e)) :=
  PSs_imp pss_nil fun D σ H ⟨F, e, o, s, hf, q⟩ => by
    cases hf
    exact q _ _ _ (.refl s)
def seqO (r : Option Out) (g : Env → Option Out) : Option Out := r.bind fun o => match o with
    | .nx e => g e
    | o => some o
theorem ss_cons {u v : Env → Option Out} (h1 : PS X st (tS X.K u)) (h2 : PSs X sts (tS X.K v)) : PSs X (st :: sts) (tS X.K fun e => seqO (u e) v) :=
  PSs_imp (pss_cons h1 h2) fun D σ H ⟨F, e, o, s, hf, q⟩ => by
    obtain ⟨o1, g1, g2⟩ := Option.bind_eq_some_iff.mp hf
    refine ⟨F, e, o1, s, g1, ?_⟩
    cases o1 with
    | nx e1 => exact fun F1 H1 σ1 x => ⟨F1, e1, o, x.sta, g2, x.fin q⟩
    | rt d e1 => cases g2; exact q
    | bk e1 => cases g2; exact q
    | ct e1 => cases g2; exact q
end
end PV
set_option Elab.async false
set_option linter.all false
set_option maxRecDepth 100000
set_option maxHeartbeats 1000000
/-! enumerate over a tuple. -/
namespace PV
open PySem PySem.Spec PyProof.Rows L2
open PySem.Sem (wp)
theorem meets_enumB {v : Value} {ob : Obj} {HB : Heap → Prop} (B : Begins v ob HB) :
    Meets (Builtin.«enumerate.__new__» ⟨[.type "enumerate", v], []⟩) (fun _ R s => HB s.heap ∧
      R (.ok (.ret (.ref (s.heap.push ob).objs.size))) { s with heap := (s.heap.push ob).push { cls := .type "enumerate", data := .fields #[.none, .bool false, .ref s.heap.objs.size, rawInt 0, .none, .none] } }) :=
  .of_wp fun prog w A R s h => by
    obtain ⟨hp, g, d, tk, os⟩ := s
    obtain ⟨h1, h⟩ := h
    have hsub := sub_enumerate
    have q1 : ∀ {A' : Around} {E : Value → Shared → Prop} {Q : Value → Shared → Prop}, Q (.ref hp.objs.size) ⟨hp.push ob, g, d, tk, os⟩ → wpAny (model prog w) A' (pyIter v) Q E ⟨hp, g, d, tk, os⟩ := fun z => B.iter prog w _ _ ⟨hp, g, d, tk, os⟩ _ h1 z
    wp_walk using q1
    refine wpAny_stack_any fun st => wpAny_pure ?_
    split
    · rename_i c _ _ _ _ _
      cases (c == Value.type "enumerate") <;> (wp_walk using q1; exact ⟨_, rfl, h⟩)
    · wp_walk using q1
      exact ⟨_, rfl, h⟩
section
variable {prog : Program} {w : World} {A : Around} {E : Value → Shared → Prop} {s : Shared}
theorem call_enumB {v : Value} {ob : Obj} {HB : Heap → Prop} {Q : Value → Shared → Prop} (B : Begins v ob HB) (h1 : HB s.heap)
    (h : ∀ h', IsEnum h' (s.heap.objs.size + 1) s.heap.objs.size 0 .none → h'.get? s.heap.objs.size = some ob → (∀ b o, s.heap.get? b = some o → h'.get? b = some o) → Q (.ref (s.heap.objs.size + 1)) { s with heap := h' }) :
    wpAny (model prog w) A (call (.type "enumerate") [v]) Q E s := by
  refine callType_new F.called_enumerate (by decide) (F.typeCall_enumerate_1 _) (F.newCall_enumerate_1 _) (fun obj => F.args_object_init_2 obj _) F.entry_enumerate_new (meets_enumB B) ⟨h1, ?_⟩
  have hz : (s.heap.push ob).objs.size = s.heap.objs.size + 1 := Heap.size_push ..
  have he : IsEnum ((s.heap.push ob).push { cls := .type "enumerate", data := .fields #[.none, .bool false, .ref s.heap.objs.size, rawInt 0, .none, .none] }) (s.heap.objs.size + 1) s.heap.objs.size 0 .none := by
    have z := Heap.get?_push_size (s.heap.push ob) (o := { cls := .type "enumerate", data := .fields #[.none, .bool false, .ref s.heap.objs.size, rawInt 0, .none, .none] }) rfl
    rw [hz] at z
    exact z
  rw [hz]
  exact ⟨⟨_, he, rfl⟩, h _ he (Heap.get?_push_of_some _ (Heap.get?_push_size _ B.free)) fun b o x => Heap.get?_push_of_some _ (Heap.get?_push_of_some _ x)⟩
end

/-- the tuple at a, each item in a new pair -/
def ItN (K : PySem.W.Frag) (a : Addr) : It :=
  ⟨fun i H => ∃ (xs : List V) (x : V), SqT K H a xs ∧ xs[i]? = some x, fun i H v H' => ∃ T x, v = .ref T ∧ H T = none ∧ H' = upd H T (.tup [.int (i : Nat), x]) ∧ ∀ xs, SqT K H a xs → xs[i]? = some x, fun i H => ∃ xs : List V, SqT K H a xs ∧ xs.length = i⟩
theorem sqt_inj {X : Cx} {pins : List (Addr × Obj)} {σ : L2.St} {H : Hp} {s : Shared} (I : Inv X pins σ H s) {a : Addr} {xs ys : List V} (h : SqT X.K H a xs) (h' : SqT X.K H a ys) : xs = ys := I.tuple_inj h h'
theorem turn_enumN {P : Program} {w : World} {K : PySem.W.Frag} {elts : List Expr} {kk : Nat} {tpos : Pos} (a e it : Addr) :
    Turn P w K (.Tuple elts kk tpos) (ItN K a) [e, it] e (fun i h => (∃ old, IsEnum h e it ((i : Nat) : Int) old) ∧ h.IsTupleIter it a i ∧ e ≠ it ∧ e ≠ a ∧ a ≠ it) where
  mem := by simp
  obj := fun i h st b hb => by
    obtain ⟨⟨old, he⟩, ⟨o, ho, hc, hd⟩, _⟩ := st
    have e' : b = e ∨ b = it := by simpa using hb
    rcases e' with z | z
    · rw [z]; exact ⟨_, he, fun v q => nomatch q⟩
    · rw [z]; exact ⟨o, ho, fun v q => by rw [hd] at q; cases q⟩
  keep := fun i h h' st k => let ⟨⟨old, he⟩, hi, hne⟩ := st; ⟨⟨old, k e (by simp) _ he⟩, hi.at fun o q => k it (by simp) o q, hne⟩
  item := by
    intro X hP hw hK hc i pins s σ H E I hf st hg
    subst hP hw hK
    obtain ⟨⟨old, he⟩, hit, hne, hea, hai⟩ := st
    obtain ⟨xs, x, hq, hx⟩ := hg
    obtain ⟨its, rv, p, hz⟩ := I.tuple hq
    obtain ⟨u, hu, ru⟩ := rv.get hx
    have hel : e < s.heap.objs.size := Heap.lt_size he
    have hil : it < s.heap.objs.size := by obtain ⟨_, q, _⟩ := hit; exact Heap.lt_size q
    have hD := Draws.tuple (prog := X.prog) (w := X.w) (A := X.A.in1) (I.ok.hd hc) it a hai its.toArray
    have W := WalksT.enumFrom (0 : Int) hD e hne (by simp [hne, hea]) (by simp)
    have hlt : i < its.toArray.size := by simpa using (List.getElem?_eq_some_iff.mp hu).1
    refine W.item i s _ _ hlt ⟨⟨old, by simpa using he⟩, hit, p⟩ fun T vals h' tk hP hT1 hT hM hk => ?_
    obtain ⟨t, x', hx', rfl⟩ := hP
    have exu : x' = u := by
      have : its.toArray[i]? = some u := by simpa using hu
      rw [this] at hx'
      exact (Option.some.inj hx').symm
    subst exu
    refine ⟨_, rfl, ?_⟩
    refine W.go elts kk tpos i T { s with heap := h', toks := tk } _ _ hM fun h'' st2 hk2 => ?_
    have hTe := W.apart i T h' hM
    obtain ⟨oT, hoT, hcT, nT, hdT⟩ := hT
    have hT2 : h''.IsTuple T #[.int (0 + (i : Int)) t, x'] := ⟨oT, hk2 T oT hTe hoT, hcT, nT, hdT⟩
    have new : ObjOk X.prog X.w (upd H T (.tup [.int (i : Nat), x])) h'' T (.tup [.int (i : Nat), x]) := by
      refine ⟨by show 2 ≤ sizeLine; decide, [.int (0 + (i : Int)) t, x'], .cons ⟨t, ?_⟩ (.cons ru .nil), hT2⟩
      rw [Int.zero_add]
    have I1 : Inv X pins σ (upd H T (.tup [.int (i : Nat), x])) { s with heap := h'', toks := tk } :=
      I.turnedNew (ch := [e, it]) (fun b ob hb q => hk2 b ob hb (hk b ob hb q)) hf hT1 new
    obtain ⟨⟨old2, he2⟩, hit2, _⟩ := st2
    refine ⟨.ref T, _, I1, rfl, ⟨_, x, rfl, I.hok.fresh hT1, rfl, fun ys hy => by rw [sqt_inj I hy hq]; exact hx⟩, ⟨⟨old2, by simpa using he2⟩, hit2, hne, hea, hai⟩, fun b hb => ?_⟩
    have hb' : b < s.heap.objs.size := by
      have e' : b = e ∨ b = it := by simpa using hb
      rcases e' with z | z
      · rw [z]; exact hel
      · rw [z]; exact hil
    rw [upd_ne (Nat.ne_of_lt (Nat.lt_of_lt_of_le hb' hT1))]
    exact (hf b hb).1
  done := by
    intro X hP hw hK hc i pins s σ H E I hf st hg
    subst hP hw hK
    obtain ⟨⟨old, he⟩, hit, hne, hea, hai⟩ := st
    obtain ⟨xs, hq, hx⟩ := hg
    obtain ⟨its, rv, p, hz⟩ := I.tuple hq
    have hl := rv.length
    have hD := Draws.tuple (prog := X.prog) (w := X.w) (A := X.A.in1) (I.ok.hd hc) it a hai its.toArray
    have hsz : its.toArray.size = i := by simp; omega
    refine wpAny_pyNext_enum_endD hD he ⟨?_, p⟩ fun h' hk => ⟨rfl, I.turned (t' := s.toks) (fun b o hb q => hk b o hb q) (hf it (by simp)).1 (hf it (by simp)).2.1 (hf it (by simp)).2.2.2.1 (hf it (by simp)).2.2.2.2.1 (hf it (by simp)).2.2.2.2.2⟩
    rw [hsz]
    exact hit
  self := fun A i s Q E st h => let ⟨⟨_, he⟩, _⟩ := st; wpAny_pyIter_enum he h
def iEnumN (K : PySem.W.Frag) (ta : TA) : TI := fun σ H R => ta σ H fun vs H1 => ∃ a xs, vs = [.ref a] ∧ SqT K H1 a xs ∧ R (ItN K a) H1
theorem pi_enumN {X : Cx} {c : Expr} {ta : TA} {p pos tpos : Pos} {elts : List Expr} {kk : Nat} (hg : Gl X "enumerate") (hm : X.mg "enumerate" = none) (ha : PA X [c] ta) (hs : starEach [c] X.env = [(false, eval c X.env)]) :
    PI X (.Tuple elts kk tpos) (.Call (.Name "enumerate" p) [c] [] pos) (iEnumN X.K ta) := by
  constructor
  intro pins s σ H R I h
  refine Call_ (ld_blt I hg hm boot_enumerate (PyProof.Rows.callWith_type1 (thn (ha.run pos pins s σ H _ I h) fun us s1 ⟨vs, H1, I1, r1, a, xs, ev, hq, q⟩ => ?_) hs rfl))
  subst ev
  obtain ⟨u, rfl, ru⟩ := vals1 r1
  cases ru
  obtain ⟨its, rv, p', hz⟩ := I1.tuple hq
  have la : a < s1.heap.objs.size := p'.lt
  refine call_enumB (begins_tuple a its.toArray) p' fun h' he hit hk => wpAny_pyIter_enum he ?_
  have I2 : Inv X pins σ H1 { s1 with heap := h' } := I1.kept (t' := s1.toks) hk
  refine ⟨s1.heap.objs.size + 1, [s1.heap.objs.size + 1, s1.heap.objs.size], _, _, H1, rfl, I2, turn_enumN a (s1.heap.objs.size + 1) s1.heap.objs.size, ⟨⟨.none, he⟩, ⟨_, hit, rfl, rfl⟩, Nat.succ_ne_self _, ?_, Nat.ne_of_lt la⟩, fun b hb => ?_, q⟩
  · exact Nat.ne_of_gt (Nat.lt_succ_of_lt la)
  · have hle : s1.heap.objs.size ≤ b := by
      have e' : b = s1.heap.objs.size + 1 ∨ b = s1.heap.objs.size := by simpa using hb
      rcases e' with z | z
      · rw [z]; exact Nat.le_add_right _ _
      · rw [z]; exact Nat.le_refl _
    exact I1.fpOk hle (I1.hok.fresh hle)
end PV
set_option Elab.async false
set_option linter.all false
set_option maxRecDepth 100000
set_option maxHeartbeats 2000000
/-! zip over lists and tuples, in any mixture. -/
namespace PV
open PySem PySem.Spec PyProof.Rows L2
open PySem.Sem (wp)
def SqK (k : Bool) (K : PySem.W.Frag) (H : Hp) (a : Addr) (xs : List V) : Prop := match k with
  | true => SqT K H a xs
  | false => SqL K H a xs
def IsK (k : Bool) (h : Heap) (a : Addr) (its : Array Value) : Prop := match k with
  | true => h.IsTuple a its
  | false => h.IsList a its
def IterK (k : Bool) (h : Heap) (it a : Addr) (i : Nat) : Prop := match k with
  | true => h.IsTupleIter it a i
  | false => h.IsListIter it a i
def itO (k : Bool) (a : Addr) : Obj := match k with
  | true => { cls := .type "tuple_iterator", data := .fields #[.ref a, .int 0 0] }
  | false => { cls := .type "list_iterator", data := .fields #[.ref a, .int 0 0] }
theorem draws_k {P : Program} {v : PySem.World} {A : Around} (hh : A.handled = none) (k : Bool) (it a : Addr) (hne : a ≠ it) (its : Array Value) :
    Draws P v A it [it, a] its.size (fun i u => its[i]? = some u) (fun i h => IterK k h it a i ∧ IsK k h a its) := by
  cases k with
  | true => exact Draws.tuple hh it a hne its
  | false => exact Draws.list hh it a hne its
theorem begins_k (k : Bool) (a : Addr) (its : Array Value) : Begins (.ref a) (itO k a) (fun h => IsK k h a its) := by
  cases k with
  | true => exact begins_tuple a its
  | false => exact begins_list a its
theorem iter_at {k : Bool} {h h' : Heap} {it a : Addr} {i : Nat} (x : IterK k h it a i) (hk : ∀ o, h.get? it = some o → h'.get? it = some o) : IterK k h' it a i := by
  cases k with
  | true => exact Heap.IsTupleIter.at x hk
  | false => exact Heap.IsListIter.at x hk
theorem iter_ob {k : Bool} {h : Heap} {it a : Addr} {i : Nat} (x : IterK k h it a i) : ∃ o, h.get? it = some o ∧ ∀ v, o.data ≠ .cell v := by
  cases k with
  | true =>
    obtain ⟨o, h1, _, h3⟩ := x
    exact ⟨o, h1, fun v q => by rw [h3] at q; cases q⟩
  | false =>
    obtain ⟨o, h1, _, h3⟩ := x
    exact ⟨o, h1, fun v q => by rw [h3] at q; cases q⟩
theorem iter_new {k : Bool} {h : Heap} {it a : Addr} (e : h.get? it = some (itO k a)) : IterK k h it a 0 := by
  cases k with
  | true => exact ⟨_, e, rfl, rfl⟩
  | false => exact ⟨_, e, rfl, rfl⟩
section
variable {X : Cx} {pins : List (Addr × Obj)} {σ : L2.St} {H : Hp} {s : Shared}
theorem sqk_get {k : Bool} (I : Inv X pins σ H s) {a : Addr} {xs : List V} (h : SqK k X.K H a xs) : ∃ its : List Value, Vals xs its ∧ IsK k s.heap a its.toArray ∧ a < s.heap.objs.size := by
  cases k with
  | true =>
    obtain ⟨its, r, p, _⟩ := I.tuple h
    exact ⟨its, r, p, p.lt⟩
  | false =>
    obtain ⟨its, r, p, _⟩ := I.list h
    exact ⟨its, r, p.isList, p.lt⟩
theorem sqk_inj {k : Bool} (I : Inv X pins σ H s) {a : Addr} {xs ys : List V} (h : SqK k X.K H a xs) (h' : SqK k X.K H a ys) : xs = ys := by
  cases k with
  | true => exact I.tuple_inj h h'
  | false => exact I.list_inj h h'
end
/-- the sequences at a and b, their items in new pairs -/
def ItM (k m : Bool) (K : PySem.W.Frag) (a b : Addr) : It :=
  ⟨fun i H => ∃ (xs ys : List V) (x y : V), SqK k K H a xs ∧ SqK m K H b ys ∧ xs[i]? = some x ∧ ys[i]? = some y,
    fun i H v H' => ∃ T x y, v = .ref T ∧ H T = none ∧ H' = upd H T (.tup [x, y]) ∧ (∀ xs, SqK k K H a xs → xs[i]? = some x) ∧ ∀ ys, SqK m K H b ys → ys[i]? = some y,
    fun i H => ∃ xs ys : List V, SqK k K H a xs ∧ SqK m K H b ys ∧ min xs.length ys.length = i⟩
theorem turn_zipM {P : Program} {w : PySem.World} {K : PySem.W.Frag} {elts : List Expr} {kk : Nat} {tpos : Pos} {k m : Bool} {a b z TI TO i1 i2 : Addr} (D : ZipSep2 z TI TO i1 i2 [i1, a] [i2, b]) (na : a ≠ i1) (nb : b ≠ i2) :
    Turn P w K (.Tuple elts kk tpos) (ItM k m K a b) [z, TI, TO, i1, i2] z (fun i h => IsZip h z TI TO .none ∧ IsTupOf2 h TI (.ref i1) (.ref i2) ∧ (∃ x y, IsTupOf2 h TO x y) ∧ IterK k h i1 a i ∧ IterK m h i2 b i) where
  mem := by simp
  obj := fun i h st c hc => by
    obtain ⟨hz, hTI, ⟨x, y, hTO⟩, h1, h2⟩ := st
    have e' : c = z ∨ c = TI ∨ c = TO ∨ c = i1 ∨ c = i2 := by simpa using hc
    rcases e' with q | q | q | q | q
    · rw [q]; exact ⟨_, hz, (fun v q => by cases q)⟩
    · rw [q]; exact ⟨_, hTI, (fun v q => by cases q)⟩
    · rw [q]; exact ⟨_, hTO, (fun v q => by cases q)⟩
    · rw [q]; exact iter_ob h1
    · rw [q]; exact iter_ob h2
  keep := fun i h h' st kp => by
    obtain ⟨hz, hTI, ⟨x, y, hTO⟩, h1, h2⟩ := st
    exact ⟨kp z (by simp) _ hz, kp TI (by simp) _ hTI, ⟨x, y, kp TO (by simp) _ hTO⟩, iter_at h1 fun o q => kp i1 (by simp) o q, iter_at h2 fun o q => kp i2 (by simp) o q⟩
  item := by
    intro X hP hw hK hc i pins s σ H E I hf st hg
    subst hP hw hK
    obtain ⟨hz, hTI, hTO, h1, h2⟩ := st
    obtain ⟨xs, ys, x, y, hqx, hqy, hx, hy⟩ := hg
    obtain ⟨its, rv, p, _⟩ := sqk_get I hqx
    obtain ⟨its2, rv2, p2, _⟩ := sqk_get I hqy
    obtain ⟨u, hu, ru⟩ := rv.get hx
    obtain ⟨u2, hu2, ru2⟩ := rv2.get hy
    have W := WalksT.zipD2 D (draws_k (P := X.prog) (v := X.w) (A := X.A.in1) (I.ok.hd hc) k i1 a na its.toArray) (draws_k (P := X.prog) (v := X.w) (A := X.A.in1) (I.ok.hd hc) m i2 b nb its2.toArray)
    have hlt : i < min its.toArray.size its2.toArray.size := by
      have q1 := (List.getElem?_eq_some_iff.mp hu).1
      have q2 := (List.getElem?_eq_some_iff.mp hu2).1
      simp only [List.size_toArray]
      omega
    have lz : z < s.heap.objs.size := Heap.lt_size hz
    have lTI : TI < s.heap.objs.size := Heap.lt_size hTI
    have lTO : TO < s.heap.objs.size := by obtain ⟨_, _, e⟩ := hTO; exact Heap.lt_size e
    have l1 : i1 < s.heap.objs.size := by obtain ⟨_, e, _⟩ := iter_ob h1; exact Heap.lt_size e
    have l2 : i2 < s.heap.objs.size := by obtain ⟨_, e, _⟩ := iter_ob h2; exact Heap.lt_size e
    have sub : ∀ c, c ∉ [z, TI, TO, i1, i2] → c ∉ [z, TO, i1, i2] := fun c hc hm => hc (by
      have : c = z ∨ c = TO ∨ c = i1 ∨ c = i2 := by simpa using hm
      rcases this with q | q | q | q <;> simp [q])
    refine W.item i s _ _ hlt ⟨hz, hTI, hTO, ⟨h1, p⟩, h2, p2⟩ fun T vals h' tk hP hT1 hT hM hk => ?_
    obtain ⟨w1, w2, hw1, hw2, rfl⟩ := hP
    have e1 : w1 = u := by
      rw [List.getElem?_toArray, hu] at hw1
      exact (Option.some.inj hw1).symm
    have e2 : w2 = u2 := by
      rw [List.getElem?_toArray, hu2] at hw2
      exact (Option.some.inj hw2).symm
    subst e1 e2
    refine ⟨_, rfl, ?_⟩
    refine W.go elts kk tpos i T { s with heap := h', toks := tk } _ _ hM fun h'' st2 hk2 => ?_
    have hTe := W.apart i T h' hM
    obtain ⟨oT, hoT, hcT, nT, hdT⟩ := hT
    have hT2 : h''.IsTuple T #[w1, w2] := ⟨oT, hk2 T oT hTe hoT, hcT, nT, hdT⟩
    have new : ObjOk X.prog X.w (upd H T (.tup [x, y])) h'' T (.tup [x, y]) := ⟨by show 2 ≤ sizeLine; decide, [w1, w2], .cons ru (.cons ru2 .nil), hT2⟩
    have I1 : Inv X pins σ (upd H T (.tup [x, y])) { s with heap := h'', toks := tk } :=
      I.turnedNew (ch := [z, TI, TO, i1, i2]) (fun c o hc q => hk2 c o (sub c hc) (hk c o (sub c hc) q)) hf hT1 new
    obtain ⟨st3, st4, st5, ⟨st6, _⟩, st7, _⟩ := st2
    refine ⟨.ref T, _, I1, rfl, ⟨T, x, y, rfl, I.hok.fresh hT1, rfl, fun l hl => by rw [sqk_inj I hl hqx]; exact hx, fun l hl => by rw [sqk_inj I hl hqy]; exact hy⟩, ⟨st3, st4, st5, st6, st7⟩, fun c hcm => ?_⟩
    have hc' : c < s.heap.objs.size := by
      have e' : c = z ∨ c = TI ∨ c = TO ∨ c = i1 ∨ c = i2 := by simpa using hcm
      rcases e' with q | q | q | q | q <;> (rw [q]; assumption)
    rw [upd_ne (Nat.ne_of_lt (Nat.lt_of_lt_of_le hc' hT1))]
    exact (hf c hcm).1
  done := by
    intro X hP hw hK hc i pins s σ H E I hf st hg
    subst hP hw hK
    obtain ⟨hz, hTI, hTO, h1, h2⟩ := st
    obtain ⟨xs, ys, hqx, hqy, hend⟩ := hg
    obtain ⟨its, rv, p, _⟩ := sqk_get I hqx
    obtain ⟨its2, rv2, p2, _⟩ := sqk_get I hqy
    have W := WalksT.zipD2 D (draws_k (P := X.prog) (v := X.w) (A := X.A.in1) (I.ok.hd hc) k i1 a na its.toArray) (draws_k (P := X.prog) (v := X.w) (A := X.A.in1) (I.ok.hd hc) m i2 b nb its2.toArray)
    have hi : min its.toArray.size its2.toArray.size = i := by
      rw [List.size_toArray, List.size_toArray, ← rv.length, ← rv2.length]
      exact hend
    have sub : ∀ c, c ∉ [z, TI, TO, i1, i2] → c ∉ [z, TO, i1, i2] := fun c hc hm => hc (by
      have : c = z ∨ c = TO ∨ c = i1 ∨ c = i2 := by simpa using hm
      rcases this with q | q | q | q <;> simp [q])
    refine W.done s _ _ (by rw [hi]; exact ⟨hz, hTI, hTO, ⟨h1, p⟩, h2, p2⟩) fun h' tk hk => ⟨rfl, I.turnedL (t' := tk) (ch := [z, TI, TO, i1, i2]) (fun c o hc q => hk c o (sub c hc) q) hf⟩
  self := fun A i s Q E st h => wpAny_pyIter_zip st.1 h
def iZipM (k m : Bool) (K : PySem.W.Frag) (ta : TA) : TI := fun σ H R => ta σ H fun vs H1 => ∃ a b xs ys, vs = [.ref a, .ref b] ∧ SqK k K H1 a xs ∧ SqK m K H1 b ys ∧ R (ItM k m K a b) H1
theorem pi_zipM {X : Cx} {k m : Bool} {c c2 : Expr} {ta : TA} {p pos tpos : Pos} {elts : List Expr} {kk : Nat} (hg : Gl X "zip") (hm : X.mg "zip" = none) (ha : PA X [c, c2] ta)
    (hs : starEach [c, c2] X.env = (false, eval c X.env) :: starEach [c2] X.env) (hpl : (backTo pos (starEach [c2] X.env)).any (·.1) = false) :
    PI X (.Tuple elts kk tpos) (.Call (.Name "zip" p) [c, c2] [] pos) (iZipM k m X.K ta) := by
  constructor
  intro pins s σ H R I h
  refine Call_ (ld_blt I hg hm PyProof.Rows.boot_zip (PyProof.Rows.callWith_type1 (thn (ha.run pos pins s σ H _ I h) fun us s1 ⟨vs, H1, I1, r1, a, b, xs, ys, ev, hqx, hqy, q⟩ => ?_) hs hpl))
  subst ev
  cases r1 with
  | cons r rr =>
    cases rr with
    | cons r' rr =>
      cases rr
      cases r
      cases r'
      obtain ⟨its, rv, p1, la⟩ := sqk_get I1 hqx
      obtain ⟨its2, rv2, p2, lb⟩ := sqk_get I1 hqy
      refine zip_begins2 (begins_k k a its.toArray) (begins_k m b its2.toArray) p1 p2 fun h' hz hTI hTO g1 g2 hsz hk => wpAny_pyIter_zip hz ?_
      have I2 : Inv X pins σ H1 { s1 with heap := h' } := I1.kept (t' := s1.toks) hk
      have D := zip_sep2 (N := s1.heap.objs.size) (fp1 := [a]) (fp2 := [b]) (fun c hc => by rw [List.mem_singleton.mp hc]; exact la) (fun c hc => by rw [List.mem_singleton.mp hc]; exact lb)
      refine ⟨s1.heap.objs.size + 4, [s1.heap.objs.size + 4, s1.heap.objs.size + 2, s1.heap.objs.size + 3, s1.heap.objs.size, s1.heap.objs.size + 1], _, _, H1, rfl, I2, turn_zipM D (Nat.ne_of_lt la) (Nat.ne_of_lt (Nat.lt_succ_of_lt lb)), ⟨hz, hTI, ⟨_, _, hTO⟩, iter_new g1, iter_new g2⟩, fun c hcm => ?_, q⟩
      have hle : s1.heap.objs.size ≤ c := by
        have e' : c = s1.heap.objs.size + 4 ∨ c = s1.heap.objs.size + 2 ∨ c = s1.heap.objs.size + 3 ∨ c = s1.heap.objs.size ∨ c = s1.heap.objs.size + 1 := by simpa using hcm
        rcases e' with z | z | z | z | z <;> (rw [z]; first | exact Nat.le_refl _ | exact Nat.le_add_right _ _)
      exact I1.fpOk hle (I1.hok.fresh hle)
end PV
set_option Elab.async false
set_option linter.all false
set_option maxRecDepth 100000
set_option maxHeartbeats 1000000
/-! Loops. -/
namespace PV
open PySem PySem.Spec PyProof.Rows L2

/-- the iterator yields ds in every later world -/
def Serves (K : PySem.W.Frag) (J : It) (F : Addr → Prop) (H : Hp) (ds : List D) : Prop := ∀ (W F1 : Addr → Prop) (H1 : Hp), Ext W F H F1 H1 → WF F1 H1 →
  (∀ (i : Nat) (d : D), ds[i]? = some d → J.go i H1 ∧ ∀ x H2, J.yld i H1 x H2 → Ext W0 F1 H1 F1 H2 ∧ Rep K F1 H2 d x []) ∧ J.stop ds.length H1
def tI (K : PySem.W.Frag) (f : Env → Option (List D × Env)) : TI := fun σ H R => ∃ F e ds e', Sta K F H σ e ∧ f e = some (ds, e') ∧ ∀ F' H' J, Post K F H σ e F' H' e' [] [] [] → Serves K J F' H' ds → R J H'
theorem PI_imp {X : Cx} {tg a : Expr} {t t' : TI} (h : PI X tg a t) (i : ∀ σ H Q, t' σ H Q → t σ H Q) : PI X tg a t' := ⟨fun pins s σ H Q I q => h.run pins s σ H Q I (i _ _ _ q)⟩
theorem PI_or {X : Cx} {tg a : Expr} {t t' : TI} (h : PI X tg a t) (h' : PI X tg a t') : PI X tg a (fun σ H Q => t σ H Q ∨ t' σ H Q) := ⟨fun pins s σ H Q I q => q.elim (h.run pins s σ H Q I) (h'.run pins s σ H Q I)⟩

section
variable {K : PySem.W.Frag} {F F' F1 F2 : Addr → Prop} {H H' H1 H2 : Hp} {X : Cx} {σ σ' σ1 σ2 : L2.St} {e e' e1 e2 : Env} {a b c : Expr} {pos p p2 q : Pos} {f g h : Env → Option (Opd × Env)} {fs : Env → Option (List Opd × Env)} {es : List Expr} {L LA LB : List Addr} {st : Stmt} {sts : List Stmt} {tg it : Expr}
theorem at_len {α : Type} {l : List α} {i : Nat} {x : α} (h : l[i]? = some x) : i < l.length := (List.getElem?_eq_some_iff.mp h).1
theorem Reps.at0 {ds : List D} {xs : List V} (r : Reps K F H ds xs []) {i : Nat} {d : D} {x : V} (h : ds[i]? = some d) (hx : xs[i]? = some x) : Rep K F H d x [] := by
  obtain ⟨v, h1, h2⟩ := r.all0 i d h
  rw [hx] at h1
  cases h1
  exact h2
theorem serves_list {a : Addr} {xs : List V} {ds : List D} (h : H a = some (.lst xs)) (f : F a) (r : Reps K F H ds xs []) : Serves K (Itl K a) F H ds := fun W F1 H1 x wf => by
  have h1 : H1 a = some (.lst xs) := x.keep _ _ h fun z => (x.wok _ z).1 f
  have r1 := Reps.mono0 x r
  refine ⟨fun i d hd => ?_, xs, SqL.of h1, Nat.le_of_eq r.length.symm⟩
  obtain ⟨v, e1, e2⟩ := r1.all0 i d hd
  refine ⟨⟨xs, v, SqL.of h1, e1⟩, fun y H2 hy => ?_⟩
  obtain ⟨rfl, hy⟩ := hy
  exact ⟨.refl0, r1.at0 hd (hy xs (SqL.of h1))⟩
theorem serves_tup {a : Addr} {xs : List V} {ds : List D} (h : H a = some (.tup xs)) (r : Reps K F H ds xs []) : Serves K (Itt K a) F H ds := fun W F1 H1 x wf => by
  have h1 : H1 a = some (.tup xs) := x.keep _ _ h fun z => by
    obtain ⟨_, ys, q⟩ := x.wok _ z
    rw [h] at q; cases q
  have r1 := Reps.mono0 x r
  refine ⟨fun i d hd => ?_, xs, SqT.of h1, Nat.le_of_eq r.length.symm⟩
  obtain ⟨v, e1, e2⟩ := r1.all0 i d hd
  refine ⟨⟨xs, v, SqT.of h1, e1⟩, fun y H2 hy => ?_⟩
  obtain ⟨rfl, hy⟩ := hy
  exact ⟨.refl0, r1.at0 hd (hy xs (SqT.of h1))⟩
theorem seqOf_rep {d : D} {v : V} {l : List D} (r : Rep K F H d.freeze v []) (h : seqOf d.freeze = some l) : (∃ a xs, v = .ref a ∧ H a = some (.lst xs) ∧ F a ∧ Reps K F H l xs []) ∨ ∃ a xs, v = .ref a ∧ H a = some (.tup xs) ∧ Reps K F H l xs [] := by
  cases d with
  | tup l0 =>
    cases h
    obtain ⟨a, xs, rfl, h1, h2⟩ := (ORep.of r).tup
    exact .inr ⟨a, xs, rfl, h1, h2⟩
  | lst o l0 =>
    cases h
    cases r with
    | frz h1 h2 h3 => exact .inl ⟨_, _, rfl, h1, h2, h3⟩
  | io l0 =>
    cases h
    cases r with
    | frz h1 h2 h3 => exact .inl ⟨_, _, rfl, h1, h2, h3⟩
  | _ => cases h
theorem Post.freeze1 {d : D} {v : V} (x : Post K F H σ e F1 H1 e1 [.v d] [v] L) : Post K F H σ e (fun a => F1 a ∨ a ∈ L) H1 e1 [] [] [] ∧ Rep K (fun a => F1 a ∨ a ∈ L) H1 d.freeze v [] := by
  have pf := x.freeze (ds := [d]) rfl
  exact ⟨pf.drop, pf.rep.one'⟩
theorem i_seq (ha : PE X a (tE X.K f)) : PI X tg a (tI X.K fun e => (f e).bind fun x => (val x.1).bind fun d => (seqOf d.freeze).map fun l => (l, x.2)) :=
  PI_imp (PI_or (pi_list (tg := tg) ha) (pi_tup ha)) fun σ H R ⟨F, e, ds, e', s, hf, q⟩ => by
    obtain ⟨⟨o, e1⟩, h1, hf⟩ := Option.bind_eq_some_iff.mp hf
    obtain ⟨d, h2, hf⟩ := Option.bind_eq_some_iff.mp hf
    obtain ⟨l, h3, h4⟩ := Option.map_eq_some_iff.mp hf
    cases h4
    cases o with
    | b i => cases h2
    | v d1 =>
    cases h2
    have key := fun (F1 : Addr → Prop) (H1 : Hp) (v : V) (L : List Addr) (x : Post X.K F H σ e F1 H1 e1 [.v d] [v] L) => seqOf_rep x.freeze1.2 h3
    have lcase : (∃ o m, d.freeze = .lst o m) → tE X.K f σ H (fun x H1 => ∃ a, x = .ref a ∧ (∃ xs, SqL X.K H1 a xs) ∧ R (Itl X.K a) H1) := fun ⟨o, m, em⟩ => ⟨F, e, .v d, e1, s, h1, fun F1 H1 v L x => by
      rcases key F1 H1 v L x with ⟨a, xs, rfl, g1, g2, g3⟩ | ⟨a, xs, rfl, g1, g3⟩
      · exact ⟨a, rfl, ⟨xs, SqL.of g1⟩, q _ _ _ x.freeze1.1 (serves_list g1 g2 g3)⟩
      · have r := x.freeze1.2
        rw [em] at r
        obtain ⟨b, ys, eb, z, _⟩ := (ORep.of r).lst
        cases eb
        rw [g1] at z
        cases z⟩
    have tcase : (∃ m, d.freeze = .tup m) → tE X.K f σ H (fun x H1 => ∃ a, x = .ref a ∧ (∃ xs, SqT X.K H1 a xs) ∧ R (Itt X.K a) H1) := fun ⟨m, em⟩ => ⟨F, e, .v d, e1, s, h1, fun F1 H1 v L x => by
      rcases key F1 H1 v L x with ⟨a, xs, rfl, g1, g2, g3⟩ | ⟨a, xs, rfl, g1, g3⟩
      · have r := x.freeze1.2
        rw [em] at r
        obtain ⟨b, ys, eb, z, _⟩ := (ORep.of r).tup
        cases eb
        rw [g1] at z
        cases z
      · exact ⟨a, rfl, ⟨xs, SqT.of g1⟩, q _ _ _ x.freeze1.1 (serves_tup g1 g3)⟩⟩
    cases d with
    | tup m => exact .inr (tcase ⟨_, rfl⟩)
    | lst o m => exact .inl (lcase ⟨_, _, rfl⟩)
    | io m => exact .inl (lcase ⟨_, _, rfl⟩)
    | _ => cases h3
/-! ### ranges -/
theorem serves_range (i j : Int) : Serves K (Itr i (j - i).toNat) F H (rangeL i j) := fun W F1 H1 x wf => by
  refine ⟨fun k d hd => ?_, by unfold rangeL; rw [List.length_map, List.length_range]; exact Nat.le_refl _⟩
  unfold rangeL at hd
  rw [List.getElem?_map] at hd
  obtain ⟨n, h1, rfl⟩ := Option.map_eq_some_iff.mp hd
  have hn := List.getElem?_eq_some_iff.mp h1
  obtain ⟨hk, en⟩ := hn
  rw [List.getElem_range] at en
  subst en
  rw [List.length_range] at hk
  refine ⟨hk, fun y H2 hy => ?_⟩
  obtain ⟨rfl, rfl⟩ := hy
  exact ⟨.refl0, .int _⟩
theorem serves_rangeC (i j : Int) : Serves K (Itc i (-1) (i - j).toNat) F H (rangeC i j) := fun W F1 H1 x wf => by
  refine ⟨fun k d hd => ?_, by unfold rangeC; rw [List.length_map, List.length_range]; exact Nat.le_refl _⟩
  unfold rangeC at hd
  rw [List.getElem?_map] at hd
  obtain ⟨n, h1, rfl⟩ := Option.map_eq_some_iff.mp hd
  have hn := List.getElem?_eq_some_iff.mp h1
  obtain ⟨hk, en⟩ := hn
  rw [List.getElem_range] at en
  subst en
  rw [List.length_range] at hk
  refine ⟨hk, fun y H2 hy => ?_⟩
  obtain ⟨rfl, rfl⟩ := hy
  refine ⟨.refl0, ?_⟩
  have : i + (k : Int) * (-1) = i - k := by omega
  rw [this]
  exact .int _
theorem ints1 {v : List V} {L : List Addr} {j : Int} (r : Reps K F H [.int j] v L) : v = [.int j] := by
  cases r with
  | cons r t => cases t; cases r; rfl
theorem ints2 {v : List V} {L : List Addr} {i j : Int} (r : Reps K F H [.int i, .int j] v L) : v = [.int i, .int j] := by
  cases r with
  | cons r t => cases t with | cons r' t => cases t; cases r; cases r'; rfl
theorem ints3 {v : List V} {L : List Addr} {i j k : Int} (r : Reps K F H [.int i, .int j, .int k] v L) : v = [.int i, .int j, .int k] := by
  cases r with
  | cons r t => cases t with | cons r' t => cases t with | cons r'' t => cases t; cases r; cases r'; cases r''; rfl
theorem rangeOk_2 {i : Int} (h : rangeOk i = true) : -(2 ^ 62) ≤ i ∧ i < 2 ^ 62 := by
  have := rangeOk_iff h
  omega
theorem i_range1 (hg : Gl X "range") (hm : X.mg "range" = none) (ha : PA X [a] (tA X.K fs)) (ns : noStar [a] = true) (hlen : ∀ e os e', fs e = some (os, e') → os.length = 1) : PI X tg (.Call (.Name "range" p) [a] [] pos) (tI X.K fun e => (fs e).bind fun x => (vals x.1).bind fun ds => (rangeD ds).map fun l => (l, x.2)) :=
  PI_imp (pi_range1 hg hm ha (star_cons ns)) fun σ H R ⟨F, e, ds, e', s, hf, q⟩ => by
    obtain ⟨⟨os, e1⟩, h1, hf⟩ := Option.bind_eq_some_iff.mp hf
    obtain ⟨d, h2, hf⟩ := Option.bind_eq_some_iff.mp hf
    obtain ⟨l, h3, h4⟩ := Option.map_eq_some_iff.mp hf
    cases h4
    refine ⟨F, e, os, e1, s, h1, fun F1 H1 vs L x => ?_⟩
    have rp := x.rep.vals h2
    have hl := (vals_len h2).symm.trans (hlen _ _ _ h1)
    match d, hl, rp, h3 with
    | [.int j], _, rp, h3 =>
      have h3 : (if rangeOk j = true then some (rangeL 0 j) else none) = some _ := h3
      split at h3
      · rename_i hj
        cases h3
        have z := q _ _ (Itr 0 (j - 0).toNat) x.drop (serves_range 0 j)
        rw [Int.sub_zero] at z
        exact ⟨j, ints1 rp, (rangeOk_2 hj).1, (rangeOk_2 hj).2, z⟩
      · cases h3
theorem i_range2 (hg : Gl X "range") (hm : X.mg "range" = none) (ha : PA X [a, b] (tA X.K fs)) (ns : noStar [a, b] = true) (hlen : ∀ e os e', fs e = some (os, e') → os.length = 2) : PI X tg (.Call (.Name "range" p) [a, b] [] pos) (tI X.K fun e => (fs e).bind fun x => (vals x.1).bind fun ds => (rangeD ds).map fun l => (l, x.2)) :=
  PI_imp (pi_range2 hg hm ha (by rw [star_cons ns, star_cons (star_tail ns)]; rfl) (by rw [star_cons (star_tail ns)]; rfl)) fun σ H R ⟨F, e, ds, e', s, hf, q⟩ => by
    obtain ⟨⟨os, e1⟩, h1, hf⟩ := Option.bind_eq_some_iff.mp hf
    obtain ⟨d, h2, hf⟩ := Option.bind_eq_some_iff.mp hf
    obtain ⟨l, h3, h4⟩ := Option.map_eq_some_iff.mp hf
    cases h4
    refine ⟨F, e, os, e1, s, h1, fun F1 H1 vs L x => ?_⟩
    have rp := x.rep.vals h2
    have hl := (vals_len h2).symm.trans (hlen _ _ _ h1)
    match d, hl, rp, h3 with
    | [.int i, .int j], _, rp, h3 =>
      have h3 : (if rangeOk i = true ∧ rangeOk j = true then some (rangeL i j) else none) = some _ := h3
      split at h3
      · rename_i hj
        cases h3
        exact ⟨i, j, ints2 rp, ⟨(rangeOk_2 hj.1).1, (rangeOk_2 hj.1).2, (rangeOk_2 hj.2).1, (rangeOk_2 hj.2).2⟩, q _ _ _ x.drop (serves_range i j)⟩
      · cases h3
theorem i_range3 (hg : Gl X "range") (hm : X.mg "range" = none) (ha : PA X [a, b, c] (tA X.K fs)) (ns : noStar [a, b, c] = true) (hlen : ∀ e os e', fs e = some (os, e') → os.length = 3) : PI X tg (.Call (.Name "range" p) [a, b, c] [] pos) (tI X.K fun e => (fs e).bind fun x => (vals x.1).bind fun ds => (rangeD ds).map fun l => (l, x.2)) :=
  PI_imp (pi_range3 hg hm ha (star_cons ns) (star_any (star_tail ns))) fun σ H R ⟨F, e, ds, e', s, hf, q⟩ => by
    obtain ⟨⟨os, e1⟩, h1, hf⟩ := Option.bind_eq_some_iff.mp hf
    obtain ⟨d, h2, hf⟩ := Option.bind_eq_some_iff.mp hf
    obtain ⟨l, h3, h4⟩ := Option.map_eq_some_iff.mp hf
    cases h4
    refine ⟨F, e, os, e1, s, h1, fun F1 H1 vs L x => ?_⟩
    have rp := x.rep.vals h2
    have hl := (vals_len h2).symm.trans (hlen _ _ _ h1)
    match d, hl, rp, h3 with
    | [.int i, .int j, .int k], _, rp, h3 =>
      have h3' : (if rangeOk i = true ∧ rangeOk j = true ∧ k = -1 then some (rangeC i j) else none) = some _ := h3
      clear h3
      by_cases hc : rangeOk i = true ∧ rangeOk j = true ∧ k = -1
      · rw [if_pos hc] at h3'
        obtain ⟨hi, hj, rfl⟩ := hc
        cases h3'
        exact ⟨i, j, -1, _, ints3 rp, RgC.neg (rangeOk_2 hi).1 (rangeOk_2 hi).2 (rangeOk_2 hj).1 (rangeOk_2 hj).2, q _ _ _ x.drop (serves_rangeC i j)⟩
      · rw [if_neg hc] at h3'
        cases h3'

/-! ### enumerate, zip -/
theorem enumL_at : ∀ {n : Nat} {ds : List D} {i : Nat} {d : D}, (enumL n ds)[i]? = some d → ∃ d0, ds[i]? = some d0 ∧ d = .tup [.int ((n + i : Nat) : Int), d0]
  | n, [], i, d, h => by simp [enumL] at h
  | n, d0 :: r, 0, d, h => by
    have h : some (D.tup [.int n, d0]) = some d := h
    cases h
    exact ⟨d0, rfl, rfl⟩
  | n, d0 :: r, i + 1, d, h => by
    obtain ⟨d1, h1, h2⟩ := enumL_at (n := n + 1) (ds := r) (i := i) h
    refine ⟨d1, h1, ?_⟩
    rw [h2]
    have : n + 1 + i = n + (i + 1) := by omega
    rw [this]
theorem enumL_len : ∀ {n : Nat} {ds : List D}, (enumL n ds).length = ds.length
  | n, [] => rfl
  | n, d0 :: r => congrArg Nat.succ enumL_len
theorem pair_new {T : Addr} {d d' : D} {x y : V} (h : H T = none) (r : Rep K F H d x []) (r' : Rep K F H d' y []) : Ext W0 F H F (upd H T (.tup [x, y])) ∧ Rep K F (upd H T (.tup [x, y])) (.tup [d, d']) (.ref T) [] :=
  ⟨Ext.new h, .tup upd_same (.cons (L1 := []) (L2 := []) (r.mono0 (Ext.new h)) (.cons (L1 := []) (L2 := []) (r'.mono0 (Ext.new h)) .nil))⟩
theorem serves_enumL {a : Addr} {xs : List V} {ds : List D} (h : H a = some (.lst xs)) (f : F a) (r : Reps K F H ds xs []) : Serves K (Ite K a) F H (enumL 0 ds) := fun W F1 H1 x wf => by
  have h1 : H1 a = some (.lst xs) := x.keep _ _ h fun z => (x.wok _ z).1 f
  have r1 := Reps.mono0 x r
  refine ⟨fun i d hd => ?_, xs, SqL.of h1, by rw [enumL_len, r.length]; exact Nat.le_refl _⟩
  obtain ⟨d0, hd0, rfl⟩ := enumL_at hd
  obtain ⟨v, e1, e2⟩ := r1.all0 i d0 hd0
  refine ⟨⟨xs, v, SqL.of h1, e1⟩, fun y H2 hy => ?_⟩
  obtain ⟨T, z, rfl, hT, rfl, hz⟩ := hy
  rw [Nat.zero_add]
  exact pair_new hT (.int _) (r1.at0 hd0 (hz xs (SqL.of h1)))
theorem serves_enumT {a : Addr} {xs : List V} {ds : List D} (h : H a = some (.tup xs)) (r : Reps K F H ds xs []) : Serves K (ItN K a) F H (enumL 0 ds) := fun W F1 H1 x wf => by
  have h1 : H1 a = some (.tup xs) := x.keep _ _ h fun z => by
    obtain ⟨_, ys, q⟩ := x.wok _ z
    rw [h] at q; cases q
  have r1 := Reps.mono0 x r
  refine ⟨fun i d hd => ?_, xs, SqT.of h1, by rw [enumL_len, r.length]⟩
  obtain ⟨d0, hd0, rfl⟩ := enumL_at hd
  obtain ⟨v, e1, e2⟩ := r1.all0 i d0 hd0
  refine ⟨⟨xs, v, SqT.of h1, e1⟩, fun y H2 hy => ?_⟩
  obtain ⟨T, z, rfl, hT, rfl, hz⟩ := hy
  rw [Nat.zero_add]
  exact pair_new hT (.int _) (r1.at0 hd0 (hz xs (SqT.of h1)))
theorem i_enum {elts : List Expr} {kk : Nat} {tpos : Pos} (hg : Gl X "enumerate") (hm : X.mg "enumerate" = none) (ha : PE X a (tE X.K f)) (ns : noStar [a] = true) :
    PI X (.Tuple elts kk tpos) (.Call (.Name "enumerate" p) [a] [] pos) (tI X.K fun e => (f e).bind fun x => (val x.1).bind fun d => (seqOf d.freeze).map fun l => (enumL 0 l, x.2)) :=
  PI_imp (PI_or (pi_enum hg hm (pa_cons ha pa_nil (star_cons ns)) (star_cons ns)) (pi_enumN hg hm (pa_cons ha pa_nil (star_cons ns)) (star_cons ns))) fun σ H R ⟨F, e, ds, e', s, hf, q⟩ => by
    obtain ⟨⟨o, e1⟩, h1, hf⟩ := Option.bind_eq_some_iff.mp hf
    obtain ⟨d, h2, hf⟩ := Option.bind_eq_some_iff.mp hf
    obtain ⟨l, h3, h4⟩ := Option.map_eq_some_iff.mp hf
    cases h4
    cases o with
    | b i => cases h2
    | v d1 =>
    cases h2
    have key := fun (F1 : Addr → Prop) (H1 : Hp) (v : V) (L : List Addr) (x : Post X.K F H σ e F1 H1 e1 [.v d] [v] L) => seqOf_rep x.freeze1.2 h3
    have lcase : (∃ o m, d.freeze = .lst o m) → tE X.K f σ H (fun x H1 => ∃ a xs, [x] = [.ref a] ∧ SqL X.K H1 a xs ∧ R (Ite X.K a) H1) := fun ⟨o, m, em⟩ => ⟨F, e, .v d, e1, s, h1, fun F1 H1 v L x => by
      rcases key F1 H1 v L x with ⟨a, xs, rfl, g1, g2, g3⟩ | ⟨a, xs, rfl, g1, g3⟩
      · exact ⟨a, xs, rfl, SqL.of g1, q _ _ _ x.freeze1.1 (serves_enumL g1 g2 g3)⟩
      · have r := x.freeze1.2
        rw [em] at r
        obtain ⟨b, ys, eb, z, _⟩ := (ORep.of r).lst
        cases eb
        rw [g1] at z
        cases z⟩
    have tcase : (∃ m, d.freeze = .tup m) → tE X.K f σ H (fun x H1 => ∃ a xs, [x] = [.ref a] ∧ SqT X.K H1 a xs ∧ R (ItN X.K a) H1) := fun ⟨m, em⟩ => ⟨F, e, .v d, e1, s, h1, fun F1 H1 v L x => by
      rcases key F1 H1 v L x with ⟨a, xs, rfl, g1, g2, g3⟩ | ⟨a, xs, rfl, g1, g3⟩
      · have r := x.freeze1.2
        rw [em] at r
        obtain ⟨b, ys, eb, z, _⟩ := (ORep.of r).tup
        cases eb
        rw [g1] at z
        cases z
      · exact ⟨a, xs, rfl, SqT.of g1, q _ _ _ x.freeze1.1 (serves_enumT g1 g3)⟩⟩
    cases d with
    | tup m => exact .inr (tcase ⟨_, rfl⟩)
    | lst o m => exact .inl (lcase ⟨_, _, rfl⟩)
    | io m => exact .inl (lcase ⟨_, _, rfl⟩)
    | _ => cases h3
theorem zipL_at : ∀ {ds es : List D} {i : Nat} {d : D}, (zipL ds es)[i]? = some d → ∃ d0 d1, ds[i]? = some d0 ∧ es[i]? = some d1 ∧ d = .tup [d0, d1]
  | [], es, i, d, h => by simp [zipL] at h
  | _ :: _, [], i, d, h => by simp [zipL] at h
  | d0 :: r, d1 :: t, 0, d, h => by
    have h : some (D.tup [d0, d1]) = some d := h
    cases h
    exact ⟨d0, d1, rfl, rfl, rfl⟩
  | d0 :: r, d1 :: t, i + 1, d, h => zipL_at (ds := r) (es := t) (i := i) h
theorem zipL_len : ∀ {ds es : List D}, ds.length ≤ (zipL ds es).length ∨ es.length ≤ (zipL ds es).length
  | [], es => .inl (Nat.zero_le _)
  | _ :: _, [] => .inr (Nat.zero_le _)
  | d0 :: r, d1 :: t => (zipL_len (ds := r) (es := t)).elim (fun z => .inl (Nat.succ_le_succ z)) fun z => .inr (Nat.succ_le_succ z)
/-- a sequence that stays -/
def FrK (k : Bool) (F : Addr → Prop) (H : Hp) (a : Addr) (xs : List V) : Prop := match k with
  | true => H a = some (.tup xs)
  | false => H a = some (.lst xs) ∧ F a
theorem FrK.mono {k : Bool} {W : Addr → Prop} {a : Addr} {xs : List V} (h : FrK k F H a xs) (x : Ext W F H F' H') : FrK k F' H' a xs := by
  cases k with
  | true =>
    have h : H a = some (.tup xs) := h
    exact x.keep _ _ h fun z => by
      obtain ⟨_, ys, q⟩ := x.wok _ z
      rw [h] at q; cases q
  | false => exact ⟨x.keep _ _ h.1 fun z => (x.wok _ z).1 h.2, x.frz _ h.2⟩
theorem FrK.sq {k : Bool} {a : Addr} {xs : List V} (h : FrK k F H a xs) : SqK k K H a xs := by
  cases k with
  | true => exact SqT.of h
  | false => exact SqL.of h.1
theorem zipL_min : ∀ {ds es : List D}, (zipL ds es).length = min ds.length es.length
  | [], es => by simp [zipL]
  | _ :: _, [] => by simp [zipL]
  | d0 :: r, d1 :: t => by
    show (zipL r t).length + 1 = _
    rw [zipL_min, List.length_cons, List.length_cons]
    omega
theorem serves_zip {k m : Bool} {a b : Addr} {xs ys : List V} {ds es : List D} (h : FrK k F H a xs) (r : Reps K F H ds xs []) (h' : FrK m F H b ys) (r' : Reps K F H es ys []) : Serves K (ItM k m K a b) F H (zipL ds es) := fun W F1 H1 x wf => by
  have h1 := h.mono x
  have h1' := h'.mono x
  have r1 := Reps.mono0 x r
  have r1' := Reps.mono0 x r'
  refine ⟨fun i d hd => ?_, xs, ys, h1.sq, h1'.sq, by rw [← r.length, ← r'.length]; exact zipL_min.symm⟩
  obtain ⟨d0, d1, hd0, hd1, rfl⟩ := zipL_at hd
  obtain ⟨v, e1, e2⟩ := r1.all0 i d0 hd0
  obtain ⟨v', e1', e2'⟩ := r1'.all0 i d1 hd1
  refine ⟨⟨xs, ys, v, v', h1.sq, h1'.sq, e1, e1'⟩, fun y H2 hy => ?_⟩
  obtain ⟨T, z, z', rfl, hT, rfl, hz, hz'⟩ := hy
  exact pair_new hT (r1.at0 hd0 (hz xs h1.sq)) (r1'.at0 hd1 (hz' ys h1'.sq))
def isTupD : D → Bool
  | .tup _ => true
  | _ => false
theorem seqK_rep {d : D} {v : V} {l : List D} (r : Rep K F H d.freeze v []) (h : seqOf d.freeze = some l) : ∃ a xs, v = .ref a ∧ FrK (isTupD d.freeze) F H a xs ∧ Reps K F H l xs [] := by
  cases d with
  | tup l0 =>
    cases h
    obtain ⟨a, xs, rfl, h1, h2⟩ := (ORep.of r).tup
    exact ⟨a, xs, rfl, h1, h2⟩
  | lst o l0 =>
    cases h
    cases r with
    | frz h1 h2 h3 => exact ⟨_, _, rfl, ⟨h1, h2⟩, h3⟩
  | io l0 =>
    cases h
    cases r with
    | frz h1 h2 h3 => exact ⟨_, _, rfl, ⟨h1, h2⟩, h3⟩
  | _ => cases h
end
section
variable {K : PySem.W.Frag} {F F' F1 F2 : Addr → Prop} {H H' H1 H2 : Hp} {X : Cx} {σ σ' σ1 σ2 : L2.St} {e e' e1 e2 : Env} {a b c : Expr} {pos p p2 q : Pos} {f g h : Env → Option (Opd × Env)} {fs : Env → Option (List Opd × Env)} {es : List Expr} {L LA LB : List Addr} {st : Stmt} {sts : List Stmt} {tg it : Expr}
theorem i_zip {elts : List Expr} {kk : Nat} {tpos : Pos} (hg : Gl X "zip") (hm : X.mg "zip" = none) (ha : PE X a (tE X.K f)) (hb : PE X b (tE X.K g)) (ns : noStar [a, b] = true) :
    PI X (.Tuple elts kk tpos) (.Call (.Name "zip" p) [a, b] [] pos) (tI X.K fun e => (f e).bind fun x => (g x.2).bind fun y => (val x.1).bind fun d => (val y.1).bind fun d' => (zipD d.freeze d'.freeze).map fun l => (l, y.2)) :=
  have pa := pa_cons ha (pa_cons hb pa_nil (star_cons (star_tail ns))) (star_cons ns)
  have one := fun (k m : Bool) => pi_zipM (k := k) (m := m) (p := p) (pos := pos) (elts := elts) (kk := kk) (tpos := tpos) hg hm pa (star_cons ns) (star_any (star_tail ns))
  PI_imp (PI_or (PI_or (one true true) (one true false)) (PI_or (one false true) (one false false))) fun σ H R ⟨F, e, ds, e', s, hf, q⟩ => by
    obtain ⟨⟨o, e1⟩, h1, hf⟩ := Option.bind_eq_some_iff.mp hf
    obtain ⟨⟨o', e2⟩, h2, hf⟩ := Option.bind_eq_some_iff.mp hf
    obtain ⟨d, h3, hf⟩ := Option.bind_eq_some_iff.mp hf
    obtain ⟨d', h4, hf⟩ := Option.bind_eq_some_iff.mp hf
    obtain ⟨l, h5, h6⟩ := Option.map_eq_some_iff.mp hf
    obtain ⟨l1, g1, h7⟩ := Option.bind_eq_some_iff.mp h5
    obtain ⟨l2, g2, h8⟩ := Option.bind_eq_some_iff.mp h7
    cases h8
    cases h6
    cases o with
    | b i => cases h3
    | v d1 =>
    cases o' with
    | b i => cases h4
    | v d1' =>
    cases h3
    cases h4
    have key : ∀ k m, isTupD d.freeze = k → isTupD d'.freeze = m → iZipM k m X.K (tCons (tE X.K f) (tCons (tE X.K g) tNil)) σ H R := fun k m ek em => by
      refine tE_two (R := fun x y H1 => ∃ a b xs ys, [x, y] = [.ref a, .ref b] ∧ SqK k X.K H1 a xs ∧ SqK m X.K H1 b ys ∧ R (ItM k m X.K a b) H1) s h1 h2 fun F1 H1 x y L pp => ?_
      have pf := pp.freeze (ds := [d, d']) rfl
      have rr := pf.rep.vals map_v_inj
      obtain ⟨a, xs, rfl, a1, a2⟩ := seqK_rep rr.cons0.1 g1
      obtain ⟨b, ys, rfl, b1, b2⟩ := seqK_rep rr.cons0.2.cons0.1 g2
      rw [ek] at a1
      rw [em] at b1
      exact ⟨a, b, xs, ys, rfl, a1.sq, b1.sq, q _ _ _ pf.drop (serves_zip a1 a2 b1 b2)⟩
    cases ek : isTupD d.freeze with
    | true => cases em : isTupD d'.freeze with
      | true => exact .inl (.inl (key true true ek em))
      | false => exact .inl (.inr (key true false ek em))
    | false => cases em : isTupD d'.freeze with
      | true => exact .inr (.inl (key false true ek em))
      | false => exact .inr (.inr (key false false ek em))

/-! ### for, while -/
theorem SPost.ext0 (s : Sta K F H σ e) (x : Ext W0 F H F' H') : SPost K F H σ e F' H' σ e :=
  GPost.mk (x.grow (fun _ z => z.elim) fun c hc => hc.elim (s.ownOk c) fun z => nomatch z) (s.mono x fun _ _ z => z) (fun c hc => .inr (.inl hc)) (fun i l h => ⟨⟨l, h⟩, rfl⟩)
theorem s_for {f : Env → Option (List D × Env)} {tt : Tg} {u : Env → Option Out} {body : List Stmt} (hp : PassesOwn (model X.prog X.w) X.A X.env X.xe) (hc : X.calm = true) (hi : PI X tg it (tI X.K f)) (hg : PG X tg (tG X.K (store tt))) (hb : PSs X body (tS X.K u))
    (hs : ∀ x, foldedSetIterable it X.env x = pure x) : PS X (.For tg it body [] pos) (tS X.K fun e => (f e).bind fun x => forL (fun d e => (store tt d e).bind u) x.1 x.2) :=
  PS_imp (ps_for hp hc hi hg hb hs) fun D σ H ⟨F, e, o, s, hf, q⟩ => by
    obtain ⟨⟨ds, e1⟩, h1, h2⟩ := Option.bind_eq_some_iff.mp hf
    refine ⟨F, e, ds, e1, s, h1, fun F1 H1 J pp sv => ?_⟩
    have qf := pp.stmt.fin q
    refine ⟨fun i m σ' H' => m = ds.length - i ∧ i ≤ ds.length ∧ ∃ F' e', SPost X.K F1 H1 σ e1 F' H' σ' e' ∧ forL (fun d e => (store tt d e).bind u) (ds.drop i) e' = some o, ⟨_, rfl, Nat.zero_le _, F1, e1, .refl pp.sta, h2⟩, ?_⟩
    rintro i m σ' H' ⟨rfl, hi, F', e', sp, hl⟩
    obtain ⟨sv1, sv2⟩ := sv _ F' H' sp.ext sp.sta.wf
    by_cases hlt : i < ds.length
    · refine .inr ⟨?_, ?_⟩
      · exact (sv1 i _ (List.getElem?_eq_getElem hlt)).1
      rw [List.drop_eq_getElem_cons hlt] at hl
      obtain ⟨o1, h3, h4⟩ := Option.bind_eq_some_iff.mp (show ((store tt ds[i] e').bind u).bind _ = some o from hl)
      obtain ⟨e2, h5, h6⟩ := Option.bind_eq_some_iff.mp h3
      refine ⟨fun σ'' H'' => ∃ F'' e'', SPost X.K F1 H1 σ e1 F'' H'' σ'' e'' ∧ forL (fun d e => (store tt d e).bind u) (ds.drop (i + 1)) e'' = some o, fun σ'' H'' ⟨F'', e'', z1, z2⟩ => ⟨ds.length - (i + 1), by omega, rfl, hlt, F'', e'', z1, z2⟩, fun x H2 hy => ?_⟩
      obtain ⟨ex, rx⟩ := (sv1 i _ (List.getElem?_eq_getElem hlt)).2 x H2 hy
      have sp2 := sp.trans (SPost.ext0 sp.sta ex)
      refine ⟨F', e', ds[i], [], e2, sp2.sta, rx, .nil, (fun _ z => nomatch z), h5, fun F3 H3 σ3 g3 => ?_⟩
      have sp3 := sp2.trans g3
      refine ⟨F3, e2, o1, sp3.sta, h6, ?_⟩
      cases o1 with
      | nx e3 => exact fun F4 H4 σ4 g4 => ⟨F4, e3, sp3.trans g4, h4⟩
      | ct e3 => exact fun F4 H4 σ4 g4 => ⟨F4, e3, sp3.trans g4, h4⟩
      | bk e3 =>
        cases h4
        exact sp3.fin qf
      | rt d e3 =>
        cases h4
        exact sp3.fin qf
    · have ei : i = ds.length := by omega
      subst ei
      refine .inl ⟨sv2, ?_⟩
      rw [List.drop_length] at hl
      cases hl
      exact qf _ _ _ sp
theorem s_while {t : Env → Option (Bool × Env)} {u : Env → Option Out} {body : List Stmt} {n : Nat} (hp : PassesOwn (model X.prog X.w) X.A X.env X.xe) (hc : PT X c (tT X.K t)) (hb : PSs X body (tS X.K u)) : PS X (.While c body [] pos) (tS X.K fun e => whileL t u n e) :=
  PS_imp (ps_while hp hc hb) fun D σ H ⟨F, e, o, s, hf, q⟩ => by
    refine ⟨fun m σ' H' => ∃ F' e', SPost X.K F H σ e F' H' σ' e' ∧ whileL t u m e' = some o, ⟨n, F, e, .refl s, hf⟩, ?_⟩
    rintro m σ' H' ⟨F', e', sp, hl⟩
    cases m with
    | zero => cases hl
    | succ m =>
      obtain ⟨⟨k, e1⟩, h1, h2⟩ := Option.bind_eq_some_iff.mp (show (t e').bind _ = some o from hl)
      refine ⟨F', e', k, e1, sp.sta, h1, fun F1 H1 pp => ?_⟩
      have sp1 := sp.trans pp.stmt
      cases k with
      | false =>
        cases h2
        exact q _ _ _ sp1
      | true =>
        obtain ⟨o1, h3, h4⟩ := Option.bind_eq_some_iff.mp (show (u e1).bind _ = some o from h2)
        show ∃ N : L2.St → Hp → Prop, _
        refine ⟨fun σ'' H'' => ∃ F'' e'', SPost X.K F H σ e F'' H'' σ'' e'' ∧ whileL t u m e'' = some o, fun σ'' H'' z => ⟨m, Nat.lt_succ_self m, z⟩, F1, e1, o1, sp1.sta, h3, ?_⟩
        cases o1 with
        | nx e3 => exact fun F4 H4 σ4 g4 => ⟨F4, e3, sp1.trans g4, h4⟩
        | ct e3 => exact fun F4 H4 σ4 g4 => ⟨F4, e3, sp1.trans g4, h4⟩
        | bk e3 =>
          cases h4
          exact sp1.fin q
        | rt d e3 =>
          cases h4
          exact sp1.fin q
end
end PV
set_option Elab.async false
set_option linter.all false
set_option maxRecDepth 100000
set_option maxHeartbeats 1000000
/-! Comprehensions. -/
namespace PV
open PySem PySem.Spec PyProof.Rows L2

mutual
def Tg.slots : Tg → List Nat
  | .name i => [i]
  | .tup ts => slotsL ts
def slotsL : List Tg → List Nat
  | [] => []
  | t :: r => t.slots ++ slotsL r
end
def Agree {α : Type} (vs : List Nat) (σ σ' : List α) : Prop := σ'.length = σ.length ∧ ∀ i, i ∉ vs → σ'[i]? = σ[i]?
def tGv (K : PySem.W.Frag) (vs : List Nat) (st : D → Env → Option Env) : TG := fun v σ H Q => ∃ F e d L e', Sta K F H σ e ∧ Rep K F H d v L ∧ L.Nodup ∧ (∀ a ∈ L, ¬ Own σ e a) ∧ st d e = some e' ∧ ∀ F' H' σ', GPost K F H σ e L F' H' σ' e' → Agree vs σ σ' → Q σ' H'
def tGvs (K : PySem.W.Frag) (vs : List Nat) (st : List D → Env → Option Env) : TGs := fun us σ H Q => ∃ F e ds L e', Sta K F H σ e ∧ Reps K F H ds us L ∧ L.Nodup ∧ (∀ a ∈ L, ¬ Own σ e a) ∧ st ds e = some e' ∧ ∀ F' H' σ', GPost K F H σ e L F' H' σ' e' → Agree vs σ σ' → Q σ' H'
section
variable {K : PySem.W.Frag} {F F' F1 F2 : Addr → Prop} {H H' H1 H2 : Hp} {X : Cx} {σ σ' σ1 σ2 : L2.St} {e e' e1 e2 : Env} {a b c : Expr} {pos p p2 q : Pos} {f g h : Env → Option (Opd × Env)} {fs : Env → Option (List Opd × Env)} {es : List Expr} {L LA LB : List Addr} {st : Stmt} {sts : List Stmt} {tg it : Expr} {vs : List Nat}
theorem Agree.refl {α : Type} {l : List α} : Agree vs l l := ⟨rfl, fun _ _ => rfl⟩
theorem Agree.trans {α : Type} {l m n : List α} (h : Agree vs l m) (k : Agree vs m n) : Agree vs l n := ⟨k.1.trans h.1, fun i hi => (k.2 i hi).trans (h.2 i hi)⟩
theorem Agree.mono {α : Type} {l m : List α} {ws : List Nat} (h : Agree vs l m) (k : ∀ i ∈ vs, i ∈ ws) : Agree ws l m := ⟨h.1, fun i hi => h.2 i fun z => hi (k i z)⟩
theorem Agree.set {α : Type} {l : List α} {i : Nat} {x : α} : Agree [i] l (l.set i x) := ⟨List.length_set, fun j hj => List.getElem?_set_ne fun z => hj (by rw [z]; exact List.mem_cons_self)⟩
theorem gv_name {i : Nat} (h : PG X a (gName i)) : PG X a (tGv X.K [i] (store (.name i))) :=
  PG_imp h fun v σ H Q ⟨F, e, d, L, e', s, r, nd, dis, hf, q⟩ => by
    obtain ⟨F', gp⟩ := setVar_ok s r nd dis hf
    exact q _ _ _ gp Agree.set
theorem gvs_nil : PGs X [] (tGvs X.K [] (storeL [])) :=
  PGs_imp pgs_nil fun vs σ H Q ⟨F, e, ds, L, e', s, r, nd, dis, hf, q⟩ => by
    cases r with
    | nil => cases hf; exact ⟨rfl, q _ _ _ (.refl s fun _ z => nomatch z) .refl⟩
    | cons r t => cases hf
theorem gvs_cons {t : Tg} {ts : List Tg} (h : PG X a (tGv X.K t.slots (store t))) (hr : PGs X es (tGvs X.K (slotsL ts) (storeL ts))) (hs : (assignEach (a :: es) X.env).map (·.2) = assign a X.env :: (assignEach es X.env).map (·.2)) : PGs X (a :: es) (tGvs X.K (slotsL (t :: ts)) (storeL (t :: ts))) :=
  PGs_imp (pgs_cons h hr hs) fun vs σ H Q ⟨F, e, ds, L, e', s, r, nd, dis, hf, q⟩ => by
    cases r with
    | nil => cases hf
    | @cons d v ds vs L1 L2 r tl =>
      obtain ⟨e1, h1, h2⟩ := Option.bind_eq_some_iff.mp (show (store t d e).bind (storeL ts ds) = some e' from hf)
      have nd' := List.nodup_append.mp nd
      refine ⟨v, vs, rfl, F, e, d, L1, e1, s, r, nd'.1, fun a ha => dis a (List.mem_append_left _ ha), h1, fun F1 H1 σ1 g1 ag1 => ?_⟩
      have dj : ∀ a ∈ L2, ¬ (Own σ e a ∨ a ∈ L1) := fun a ha z => z.elim (dis a (List.mem_append_right _ ha)) fun z => nd'.2.2 a z a ha rfl
      have tl' := tl.mono g1.ext dj
      refine ⟨F1, e1, ds, L2, e', g1.sta, tl', nd'.2.1, fun a ha ho => ?_, h2, fun F2 H2 σ2 g2 ag2 => q _ _ _ (g1.trans g2 fun a ha => tl.ownOk ha) ((ag1.mono fun i hi => List.mem_append_left _ hi).trans (ag2.mono fun i hi => List.mem_append_right _ hi))⟩
      rcases g1.own a ho with z | z
      · obtain ⟨_, xs, e5⟩ := tl.ownOk ha
        rw [z] at e5; cases e5
      · exact dj a ha z
theorem storeL_len : ∀ {ts : List Tg} {ds : List D} {e e' : Env}, storeL ts ds e = some e' → ds.length = ts.length
  | [], [], _, _, _ => rfl
  | t :: ts, d :: ds, e, e', h => by
    obtain ⟨e1, h1, h2⟩ := Option.bind_eq_some_iff.mp (show (store t d e).bind (storeL ts ds) = some e' from h)
    exact congrArg Nat.succ (storeL_len h2)
  | [], _ :: _, _, _, h => by cases h
  | _ :: _, [], _, _, h => by cases h
theorem gv_tup {ts : List Tg} {n : Nat} (hc : X.calm = true) (h : PGs X es (tGvs X.K (slotsL ts) (storeL ts))) (hn : (assignEach es X.env).length = ts.length) (hst : (assignEach es X.env).findIdx? (·.1) = none) : PG X (.Tuple es n pos) (tGv X.K (Tg.tup ts).slots (store (.tup ts))) :=
  PG_imp (PG_or (pg_tup hc h hn hst) (pg_unl hc h hn hst)) fun v σ H Q ⟨F, e, d, L, e', s, r, nd, dis, hf, q⟩ => by
    cases d with
    | tup ds =>
      have hf : storeL ts ds e = some e' := hf
      cases r with
      | @tup p xs _ _ h1 rr =>
        exact .inl ⟨p, xs, rfl, SqT.of h1, by rw [← rr.length]; exact storeL_len hf, F, e, ds, L, e', s, rr, nd, dis, hf, q⟩
    | lst o ds =>
      have hf : storeL ts ds e = some e' := hf
      have key : ∀ (p : Addr) (xs : List V), H p = some (.lst xs) → Reps X.K F H ds xs [] → L2.gUnl X.K ts.length (tGvs X.K (slotsL ts) (storeL ts)) (.ref p) σ H Q := fun p xs h1 rr => by
        refine ⟨p, xs, rfl, SqL.of h1, by rw [← rr.length]; exact storeL_len hf, F, e, ds, [], e', s, rr, .nil, (fun _ z => nomatch z), hf, fun F2 H2 σ2 g2 ag2 => q F2 H2 σ2 ?_ ag2⟩
        exact ⟨g2.ext.grow (fun c hc => hc.elim .inl (fun z => nomatch z)) (fun c hc => hc.elim (s.ownOk c) (fun z => r.ownOk z)), g2.sta, (fun a ha => (g2.own a ha).elim .inl (fun z => z.elim (fun z => .inr (.inl z)) (fun z => nomatch z))), g2.io⟩
      cases r with
      | frz h1 _ rr => exact .inr (key _ _ h1 rr)
      | own h1 _ rr => exact .inr (key _ _ h1 rr)
    | _ => cases hf
theorem gv_drop {t : Tg} (h : PG X a (tGv X.K t.slots (store t))) : PG X a (tG X.K (store t)) :=
  PG_imp h fun v σ H Q ⟨F, e, d, L, e', s, r, nd, dis, hf, q⟩ => ⟨F, e, d, L, e', s, r, nd, dis, hf, fun F' H' σ' g _ => q F' H' σ' g⟩
mutual
theorem store_out : ∀ {t : Tg} {d : D} {e e' : Env}, store t d e = some e' → Agree t.slots e e'
  | .name i, d, e, e', h => by
    obtain ⟨_, _, _, rfl⟩ := setVar_some (show setVar e i d = some e' from h)
    exact Agree.set
  | .tup ts, .tup ds, e, e', h => storeL_out (ts := ts) (ds := ds) h
  | .tup ts, .lst _ ds, e, e', h => storeL_out (ts := ts) (ds := ds) h
  | .tup _, .non, _, _, h => by cases h
  | .tup _, .bl _, _, _, h => by cases h
  | .tup _, .int _, _, _, h => by cases h
  | .tup _, .str _, _, _, h => by cases h
  | .tup _, .io _, _, _, h => by cases h
  | .tup _, .scr _, _, _, h => by cases h
theorem storeL_out : ∀ {ts : List Tg} {ds : List D} {e e' : Env}, storeL ts ds e = some e' → Agree (slotsL ts) e e'
  | [], [], e, e', h => by cases h; exact .refl
  | t :: ts, d :: ds, e, e', h => by
    obtain ⟨e1, h1, h2⟩ := Option.bind_eq_some_iff.mp (show (store t d e).bind (storeL ts ds) = some e' from h)
    exact ((store_out h1).mono fun i hi => List.mem_append_left _ hi).trans ((storeL_out h2).mono fun i hi => List.mem_append_right _ hi)
  | [], _ :: _, _, _, h => by cases h
  | _ :: _, [], _, _, h => by cases h
end

/-! ### slots forgotten -/
theorem wipeE_len (e : Env) : ∀ vs : List Nat, (wipeE e vs).length = e.length
  | [] => rfl
  | v :: vs => by unfold wipeE; rw [List.length_set, wipeE_len e vs]
theorem wipeE_some {i : Nat} {x : D} : ∀ {vs : List Nat}, (wipeE e vs)[i]? = some (some x) → e[i]? = some (some x) ∧ i ∉ vs
  | [], h => ⟨h, by simp⟩
  | v :: vs, h => by
    unfold wipeE at h
    rcases set_at h with ⟨_, z⟩ | ⟨n, z⟩
    · cases z
    · obtain ⟨h1, h2⟩ := wipeE_some z
      exact ⟨h1, by simp only [List.mem_cons, not_or]; exact ⟨n, h2⟩⟩
theorem wipe_out {i : Nat} : ∀ {vs : List Nat}, i ∉ vs → (wipe σ vs)[i]? = σ[i]?
  | [], _ => rfl
  | v :: vs, h => by
    unfold wipe
    have h := not_or.mp (fun z => h (List.mem_cons.mpr z))
    rw [List.getElem?_set_ne (fun z => h.1 z.symm)]
    exact wipe_out h.2
theorem wipeE_out {i : Nat} : ∀ {vs : List Nat}, i ∉ vs → (wipeE e vs)[i]? = e[i]?
  | [], _ => rfl
  | v :: vs, h => by
    unfold wipeE
    have h := not_or.mp (fun z => h (List.mem_cons.mpr z))
    rw [List.getElem?_set_ne (fun z => h.1 z.symm)]
    exact wipeE_out h.2
theorem wipe_in {i : Nat} : ∀ {vs : List Nat}, i ∈ vs → i < σ.length → (wipe σ vs)[i]? = some none
  | v :: vs, h, hl => by
    unfold wipe
    by_cases hv : v = i
    · subst hv
      rw [List.getElem?_set_self (by rw [wipe_length]; exact hl)]
    · rw [List.getElem?_set_ne hv]
      exact wipe_in ((List.mem_cons.mp h).resolve_left fun z => hv z.symm) hl
theorem wipe_agree (h : Agree vs σ σ') : wipe σ' vs = wipe σ vs := by
  refine List.ext_getElem? fun i => ?_
  by_cases hi : i ∈ vs
  · by_cases hl : i < σ.length
    · rw [wipe_in hi hl, wipe_in hi (by rw [h.1]; exact hl)]
    · rw [List.getElem?_eq_none (by rw [wipe_length, h.1]; omega), List.getElem?_eq_none (by rw [wipe_length]; omega)]
  · rw [wipe_out hi, wipe_out hi, h.2 i hi]
theorem own_wipe {i : Nat} {x : Addr} (h : OwnAt (wipe σ vs) (wipeE e vs) i x) : OwnAt σ e i x ∧ i ∉ vs := by
  obtain ⟨d, h1, h2, h3⟩ := h
  obtain ⟨h4, h5⟩ := wipeE_some h1
  rw [wipe_out h5] at h3
  exact ⟨⟨d, h4, h2, h3⟩, h5⟩
theorem Sta.wipe (s : Sta K F H σ e) : Sta K F H (wipe σ vs) (wipeE e vs) where
  wf := s.wf
  len := by rw [wipeE_len, wipe_length]; exact s.len
  val := fun i d h => by
    obtain ⟨h1, h2⟩ := wipeE_some h
    obtain ⟨v, L, h3, h4⟩ := s.val i d h1
    exact ⟨v, L, by rw [wipe_out h2]; exact h3, h4⟩
  uni := fun i j x h h' => s.uni i j x (own_wipe h).1 (own_wipe h').1
theorem wipe_wipe : wipe (wipe σ vs) vs = wipe σ vs := wipe_agree ⟨wipe_length σ vs, fun i hi => wipe_out hi⟩
/-- the own names as they were -/
theorem unwipe_out {i : Nat} {e0 : Env} : ∀ {vs : List Nat} {e : Env}, i ∉ vs → (unwipe e0 vs e)[i]? = e[i]?
  | [], _, _ => rfl
  | v :: vs, e, h => by
    have h := not_or.mp (fun z => h (List.mem_cons.mpr z))
    show (unwipe e0 vs (e.set v (e0.getD v none)))[i]? = _
    rw [unwipe_out h.2, List.getElem?_set_ne fun z => h.1 z.symm]
theorem unwipe_len {e0 : Env} : ∀ {vs : List Nat} {e : Env}, (unwipe e0 vs e).length = e.length
  | [], _ => rfl
  | v :: vs, e => by
    show (unwipe e0 vs (e.set v (e0.getD v none))).length = _
    rw [unwipe_len, List.length_set]
theorem unwipe_in {i : Nat} {e0 : Env} : ∀ {vs : List Nat} {e : Env}, i ∈ vs → i < e.length → (unwipe e0 vs e)[i]? = some (e0.getD i none)
  | v :: vs, e, h, hl => by
    show (unwipe e0 vs (e.set v (e0.getD v none)))[i]? = _
    by_cases hv : i ∈ vs
    · exact unwipe_in hv (by rw [List.length_set]; exact hl)
    · have : i = v := (List.mem_cons.mp h).resolve_right hv
      subst this
      rw [unwipe_out hv, List.getElem?_set_self hl]
theorem unwipe_at {i : Nat} {e0 : Env} {d : D} (hl : e0.length = e.length) (h : (unwipe e0 vs e)[i]? = some (some d)) : (i ∈ vs ∧ e0[i]? = some (some d)) ∨ (i ∉ vs ∧ e[i]? = some (some d)) := by
  by_cases hi : i ∈ vs
  · refine .inl ⟨hi, ?_⟩
    have hlt : i < e.length := by
      have := (List.getElem?_eq_some_iff.mp h).1
      rwa [unwipe_len] at this
    rw [unwipe_in hi hlt] at h
    have hlt' : i < e0.length := by rw [hl]; exact hlt
    rw [List.getD_eq_getElem?_getD, List.getElem?_eq_getElem hlt'] at h
    rw [List.getElem?_eq_getElem hlt']
    exact h
  · rw [unwipe_out hi] at h
    exact .inr ⟨hi, h⟩

/-! ### the comprehension -/
def compF (g : D → Env → Option Env) (t : Env → Option (Bool × Env)) (u : Env → Option (Opd × Env)) (vs : List Nat) (d : D) (e : Env) : Option (Option D × Env) :=
  (g d e).bind fun e1 => (t e1).bind fun y => if y.1 = true then (u y.2).bind fun z => (val z.1).map fun d => (some d.freeze, wipeE z.2 vs) else some (none, wipeE y.2 vs)
def compV (it : Env → Option (List D × Env)) (g : D → Env → Option Env) (t : Env → Option (Bool × Env)) (u : Env → Option (Opd × Env)) (vs : List Nat) (e : Env) : Option (Opd × Env) :=
  (it e).bind fun x => if vs.all (freeAt x.2) = true then (compL (compF g t u vs) x.1 (wipeE x.2 vs)).bind fun y => if y.1.length ≤ lim then some (.v (.lst true y.1), unwipe x.2 vs y.2) else none else none
theorem free_own {i : Nat} {x : Addr} (h : freeAt e i = true) (o : OwnAt σ e i x) : False := by
  obtain ⟨d, h1, h2, _⟩ := o
  unfold freeAt at h
  rw [h1] at h
  have h : (!d.isOwn) = true := h
  rw [h2] at h
  cases h
theorem SPost.newL (x : SPost K F H σ e F1 H1 σ1 e1) {os : List Opd} {ws : List V} (y : Post K F1 H1 σ1 e1 F2 H2 e2 os ws L) : ∀ a ∈ L, H a = none ∨ Own σ e a := fun a ha => (y.new a ha).elim (fun z => .inl (x.ext.none_of z)) fun z => (x.own a z).elim .inl fun z => .inr (z.elim (fun z => z) fun z => nomatch z)
theorem turn_end {A : Addr} {σw : L2.St} {ew e5 : Env} {zs : List D} {F5 : Addr → Prop} {H5 : Hp} {σ5 : L2.St} (P : Post K F1 H1 σw ew F' H' e' [.v (.lst true zs)] [.ref A] [A]) (hw : ∀ (i : Nat) (d : D), ew[i]? = some (some d) → i ∉ vs) (hσ : wipe σ5 vs = σw) (sp : SPost K F' H' σw e' F5 H5 σ5 e5)
    (sub : ∀ (i : Nat) (a : Addr), OwnAt σ5 e5 i a → i ∉ vs → OwnAt σw e' i a) : Post K F1 H1 σw ew F5 H5 (wipeE e5 vs) [.v (.lst true zs)] [.ref A] [A] := by
  have own5 : ∀ (i : Nat) (a : Addr), OwnAt σw (wipeE e5 vs) i a → OwnAt σw e' i a := fun i a h => by
    rw [← hσ] at h
    obtain ⟨h1, h2⟩ := own_wipe h
    exact sub i a h1 h2
  refine ⟨P.ext.trans sp.ext (fun c hc => hc.elim (fun ⟨i, z⟩ => .inr ⟨i, P.sub i c z⟩) (fun z => nomatch z)), ?_, fun i a h => P.sub i a (own5 i a h), ?_, P.nd, P.new, fun a ha ⟨i, h⟩ => P.dis a ha ⟨i, own5 i a h⟩, fun i l h => ?_⟩
  · have := sp.sta.wipe (vs := vs)
    rwa [hσ] at this
  · exact P.rep.mono sp.ext fun a ha z => z.elim (P.dis a ha) fun z => nomatch z
  · obtain ⟨l1, h1⟩ := P.io i l h
    obtain ⟨⟨l2, h2⟩, _⟩ := sp.io i l1 h1
    exact ⟨l2, by rw [wipeE_out (hw i _ h)]; exact h2⟩
theorem turn_add {A : Addr} {σw : L2.St} {ew e5 : Env} {zs : List D} {F5 : Addr → Prop} {H5 : Hp} {d : D} {v : V} (P : Post K F1 H1 σw ew F5 H5 e5 [.v (.lst true zs)] [.ref A] [A]) (r : Rep K F5 H5 d v L) (nw : ∀ a ∈ L, H1 a = none ∨ Own σw ew a) (nA : A ∉ L) (dis : ∀ a ∈ L, ¬ Own σw e5 a) :
    ∃ acc, H5 A = some (.lst acc) ∧ acc.length = zs.length ∧ Post K F1 H1 σw ew (fun a => F5 a ∨ a ∈ L) (upd H5 A (.lst (acc ++ [v]))) e5 [.v (.lst true (zs ++ [d.freeze]))] [.ref A] [A] := by
  have rA := P.rep.one'
  cases rA with
  | @own _ acc _ hA nF rr =>
    have exf := Ext.freeze (F := F5) (H := H5) (L := L) fun c hc => r.ownOk hc
    have nF' : ¬ (F5 A ∨ A ∈ L) := fun z => z.elim nF nA
    have exw : Ext (· ∈ [A]) (fun b => F5 b ∨ b ∈ L) H5 (fun b => F5 b ∨ b ∈ L) (upd H5 A (.lst (acc ++ [v]))) := Ext.write hA nF' List.mem_cons_self fun c hc => by rw [List.mem_singleton.mp hc]; exact ⟨nF', _, hA⟩
    have st1 := P.sta.mono exf fun c ho hc => dis c hc ho
    refine ⟨acc, hA, rr.length.symm, (P.ext.trans exf nw).trans exw fun c hc => P.new c hc, st1.mono exw fun c ho hc => P.dis c hc ho, P.sub, ?_, P.nd, P.new, P.dis, P.io⟩
    exact .one (.own upd_same nF' (Reps.mono0 exw (Reps.append (L := []) (M := []) (Reps.mono0 exf rr) (.one (Rep.freeze (fun c hc => r.ownOk hc) r fun a ha => ha)))))
theorem lc_imp {f : Env → Option (List D × Env)} {tt : Tg} {t : Env → Option (Bool × Env)} {u : Env → Option (Opd × Env)} (hv : ∀ i ∈ tt.slots, i ∈ vs) {Q : VK} (h : tE K (compV f (store tt) t u vs) σ H Q) : tLc (tI K f) (tGv K tt.slots (store tt)) (tT K t) (tE K u) vs σ H Q := by
  obtain ⟨F, e, o, e', s, hf, q⟩ := h
  obtain ⟨⟨ds, e1⟩, h1, hf⟩ := Option.bind_eq_some_iff.mp hf
  dsimp only at hf
  split at hf
  case isFalse => cases hf
  rename_i hfree
  obtain ⟨⟨all, e2⟩, h2, hf⟩ := Option.bind_eq_some_iff.mp hf
  dsimp only at hf
  split at hf
  case isFalse => cases hf
  rename_i hlim
  cases hf
  refine ⟨F, e, ds, e1, s, h1, fun F1 H1 J pp sv A hA => ?_⟩
  have hw : ∀ (i : Nat) (d : D), (wipeE e1 vs)[i]? = some (some d) → i ∉ vs := fun i d h => (wipeE_some h).2
  have sw : Sta K F1 H1 (wipe σ vs) (wipeE e1 vs) := pp.sta.wipe
  have P0 := (Post.refl sw).op (VPost.newL0 (ds := []) (vs := []) (L := []) .nil hA sw.wf fun _ z => nomatch z)
  refine ⟨fun i m H' => m = ds.length - i ∧ i ≤ ds.length ∧ ∃ F' e' zs rest, Post K F1 H1 (wipe σ vs) (wipeE e1 vs) F' H' e' [.v (.lst true zs)] [.ref A] [A] ∧ compL (compF (store tt) t u vs) (ds.drop i) e' = some (rest, e2) ∧ zs ++ rest = all, ⟨_, rfl, Nat.zero_le _, F1, _, [], all, P0, h2, rfl⟩, ?_⟩
  rintro i m H' ⟨rfl, hi, F', e', zs, rest, P, hl, hall⟩
  obtain ⟨sv1, sv2⟩ := sv _ F' H' P.ext P.sta.wf
  by_cases hlt : i < ds.length
  · refine .inr ⟨(sv1 i _ (List.getElem?_eq_getElem hlt)).1, ?_⟩
    rw [List.drop_eq_getElem_cons hlt] at hl
    obtain ⟨⟨od, e3⟩, h3, hl2⟩ := Option.bind_eq_some_iff.mp (show (compF (store tt) t u vs ds[i] e').bind _ = some (rest, e2) from hl)
    clear hl
    obtain ⟨⟨r2, e4⟩, h4, h5⟩ := Option.map_eq_some_iff.mp hl2
    clear hl2
    obtain ⟨es, hs, h6⟩ := Option.bind_eq_some_iff.mp (show (store tt ds[i] e').bind _ = some (od, e3) from h3)
    clear h3
    obtain ⟨⟨b, et⟩, ht, h7⟩ := Option.bind_eq_some_iff.mp h6
    clear h6
    refine ⟨fun H'' => ∃ F'' e'' zs'' rest'', Post K F1 H1 (wipe σ vs) (wipeE e1 vs) F'' H'' e'' [.v (.lst true zs'')] [.ref A] [A] ∧ compL (compF (store tt) t u vs) (ds.drop (i + 1)) e'' = some (rest'', e2) ∧ zs'' ++ rest'' = all, fun H'' z => ⟨ds.length - (i + 1), by omega, rfl, hlt, z⟩, fun x H2 hy => ?_⟩
    obtain ⟨ex, rx⟩ := (sv1 i _ (List.getElem?_eq_getElem hlt)).2 x H2 hy
    have sp0 := SPost.ext0 P.sta ex
    refine ⟨F', e', ds[i], [], es, sp0.sta, rx, .nil, (fun _ z => nomatch z), hs, fun F3 H3 σ3 g3 ag3 => ?_⟩
    have hσ : wipe σ3 vs = wipe σ vs := (wipe_agree (ag3.mono hv)).trans wipe_wipe
    refine ⟨hσ, F3, es, b, et, g3.sta, ht, fun F4 H4 p4 => ?_⟩
    have sp4 := (sp0.trans g3).trans p4.stmt
    have sub4 : ∀ (i : Nat) (a : Addr), OwnAt σ3 et i a → i ∉ vs → OwnAt (wipe σ vs) e' i a := fun j a h n => by
      obtain ⟨d, k1, k2, k3⟩ := p4.sub j a h
      rw [(store_out hs).2 j fun z => n (hv j z)] at k1
      rw [ag3.2 j fun z => n (hv j z)] at k3
      exact ⟨d, k1, k2, k3⟩
    cases b with
    | false =>
      cases h7
      have h8 : r2 = rest := congrArg Prod.fst h5
      have h9 : e4 = e2 := congrArg Prod.snd h5
      clear h5
      subst h8 h9
      exact ⟨F4, _, zs, _, turn_end P hw hσ sp4 sub4, h4, hall⟩
    | true =>
      obtain ⟨⟨oz, ez⟩, hz, h3⟩ := Option.bind_eq_some_iff.mp (show (u et).bind _ = some (od, e3) from h7)
      clear h7
      obtain ⟨d, hd, h10⟩ := Option.map_eq_some_iff.mp h3
      clear h3
      cases h10
      have h8 : d.freeze :: r2 = rest := congrArg Prod.fst h5
      have h9 : e4 = e2 := congrArg Prod.snd h5
      clear h5
      subst h8 h9
      cases oz with
      | b i => cases hd
      | v d1 =>
      cases hd
      show tE K u σ3 H4 _
      refine ⟨F4, et, .v d, ez, p4.sta, hz, fun F5 H5 v L p5 => ?_⟩
      have sp5 := sp4.trans p5.stmt
      have P5 := turn_end P hw hσ sp5 fun j a h n => sub4 j a (p5.sub j a h) n
      have nL := sp4.newL p5
      have rA := P.rep.one'
      obtain ⟨acc0, hA0⟩ : ∃ acc, H' A = some (.lst acc) := by
        cases rA with | own h _ _ => exact ⟨_, h⟩
      obtain ⟨acc, k1, k2, k3⟩ := turn_add P5 p5.rep.one' (fun a ha => (nL a ha).elim (fun z => .inl (P.ext.none_of z)) fun ⟨j, hj⟩ => .inr ⟨j, P.sub j a hj⟩) (fun hA' => (nL A hA').elim (fun z => by rw [hA0] at z; cases z) fun z => P.dis A List.mem_cons_self z)
        (fun a ha ⟨j, hj⟩ => by
          rw [← hσ] at hj
          exact p5.dis a ha ⟨j, (own_wipe hj).1⟩)
      refine ⟨acc, k1, ?_, _, _, _, _, k3, h4, ?_⟩
      · rw [k2]
        have : zs.length < all.length := by rw [← hall, List.length_append, List.length_cons]; omega
        exact Nat.lt_of_lt_of_le (Nat.lt_of_lt_of_le this hlim) (by rw [sizeLine_eq]; decide)
      · rw [List.append_assoc]
        exact hall
  · have ei : i = ds.length := by omega
    subst ei
    refine .inl ⟨sv2, ?_⟩
    rw [List.drop_length] at hl
    have hl : some ([], e') = some (rest, e2) := hl
    have hr : [] = rest := congrArg Prod.fst (Option.some.inj hl)
    have hee : e' = e2 := congrArg Prod.snd (Option.some.inj hl)
    clear hl
    subst hr hee
    rw [List.append_nil] at hall
    subst hall
    have fr : ∀ i ∈ vs, freeAt e1 i = true := fun i hi => List.all_eq_true.mp hfree i hi
    have len2 : e1.length = e'.length := by rw [pp.sta.len, P.sta.len, wipe_length]
    have own : ∀ (i : Nat) (a : Addr), OwnAt σ (unwipe e1 vs e') i a → OwnAt (wipe σ vs) e' i a := fun i a ⟨d, h1, h2, h3⟩ => by
      rcases unwipe_at len2 h1 with ⟨z1, z2⟩ | ⟨z1, z2⟩
      · exact (free_own (fr i z1) ⟨d, z2, h2, h3⟩).elim
      · exact ⟨d, z2, h2, by rw [wipe_out z1]; exact h3⟩
    have PF : Post K F1 H1 σ e1 F' H' (unwipe e1 vs e') [.v (.lst true zs)] [.ref A] [A] := by
      refine ⟨P.ext.grow (fun c ⟨i, h⟩ => ⟨i, (own_wipe h).1⟩) pp.sta.ownOk, ⟨P.sta.wf, ?_, fun i d h => ?_, fun i j a h h' => P.sta.uni i j a (own i a h) (own j a h')⟩, fun i a h => (own_wipe (P.sub i a (own i a h))).1, .one P.rep.one', P.nd, fun a ha => (P.new a ha).elim .inl fun ⟨i, h⟩ => .inr ⟨i, (own_wipe h).1⟩, fun a ha ⟨i, h⟩ => P.dis a ha ⟨i, own i a h⟩, fun i l h => ?_⟩
      · rw [unwipe_len, P.sta.len, wipe_length]
      · rcases unwipe_at len2 h with ⟨z1, z2⟩ | ⟨z1, z2⟩
        · obtain ⟨v, L, h3, h4, h5⟩ := pp.sta.val i d z2
          have hf := fr i z1
          unfold freeAt at hf
          rw [z2] at hf
          have hf : (!d.isOwn) = true := hf
          have : L = [] := h5.resolve_left fun z => by rw [z] at hf; cases hf
          subst this
          exact ⟨v, [], h3, h4.mono0 P.ext, .inr rfl⟩
        · obtain ⟨v, L, h3, h4⟩ := P.sta.val i d z2
          rw [wipe_out z1] at h3
          exact ⟨v, L, h3, h4⟩
      · have n : i ∉ vs := fun z => by
          have hf := fr i z
          unfold freeAt at hf
          rw [h] at hf
          cases hf
        obtain ⟨l', h'⟩ := P.io i l (by rw [wipeE_out n]; exact h)
        exact ⟨l', by rw [unwipe_out n]; exact h'⟩
    exact q F' H' (.ref A) [A] (pp.app PF)
end
end PV
set_option Elab.async false
set_option linter.all false
set_option maxRecDepth 100000
set_option maxHeartbeats 2000000
/-! A checker: the text against the small language. -/
namespace PV
open PySem PySem.Spec PyProof.Rows L2

/-! ### names -/
def nseq : List Nat → List Nat → Bool
  | [], [] => true
  | a :: r, b :: s => Nat.beq a b && nseq r s
  | _, _ => false
theorem nseq_eq : ∀ {a b : List Nat}, nseq a b = true → a = b
  | [], [], _ => rfl
  | a :: r, b :: s, h => by
    have h : (Nat.beq a b && nseq r s) = true := h
    rw [Bool.and_eq_true] at h
    rw [Nat.eq_of_beq_eq_true h.1, nseq_eq h.2]
  | [], _ :: _, h => by cases h
  | _ :: _, [], h => by cases h
theorem nseq_refl : ∀ a : List Nat, nseq a a = true
  | [] => rfl
  | a :: r => by
    show (Nat.beq a a && nseq r r) = true
    rw [nseq_refl r, Nat.beq_refl]
    rfl
def seq (x y : Str) : Bool := nseq x.cps.toList y.cps.toList
theorem seq_eq {x y : Str} (h : seq x y = true) : x = y := by
  have h1 := nseq_eq h
  cases x
  cases y
  rw [Str.mk.injEq]
  exact Array.toList_inj.mp h1
theorem seq_refl (x : Str) : seq x x = true := nseq_refl _
theorem seq_ne {x y : Str} (h : seq x y = false) : x ≠ y := fun z => by rw [z, seq_refl] at h; cases h
theorem seq_beq {x y : Str} (h : seq x y = false) : (x == y) = false := by
  cases z : x == y with
  | false => rfl
  | true => exact absurd (eq_of_beq z) (seq_ne h)
def lk {α : Type} : List (Str × α) → Str → Option α
  | [], _ => none
  | p :: r, x => if seq x p.1 = true then some p.2 else lk r x
theorem lk_lookup {α : Type} : ∀ (l : List (Str × α)) (x : Str), l.lookup x = lk l x
  | [], _ => rfl
  | (y, v) :: r, x => by
    unfold lk
    cases h : seq x y with
    | true => rw [if_pos rfl, List.lookup_cons, seq_eq h, beq_self_eq_true]
    | false => rw [if_neg Bool.false_ne_true, List.lookup_cons, seq_beq h, lk_lookup r x]
theorem lk_mem {α : Type} : ∀ {l : List (Str × α)} {x : Str} {v : α}, lk l x = some v → (x, v) ∈ l
  | [], _, _, h => by cases h
  | (y, w) :: r, x, v, h => by
    unfold lk at h
    split at h
    · rename_i z
      cases h
      rw [seq_eq z]
      exact List.mem_cons_self
    · exact List.mem_cons_of_mem _ (lk_mem h)
def nkB : NameKind → NameKind → Bool
  | .local, .local => true
  | .cell, .cell => true
  | .free, .free => true
  | .globalExplicit, .globalExplicit => true
  | .globalImplicit, .globalImplicit => true
  | _, _ => false
theorem nkB_eq {a b : NameKind} (h : nkB a b = true) : a = b := by cases a <;> cases b <;> first | rfl | cases h

/-! ### what is known of a place in the text -/
structure Sc where
  N : List Str
  scope : Scope
  fn : Str → Bool
  defs : List (Str × Nat × Nat × Bool)
  glo : List (Str × Int)
def kind (S : Sc) (x : Str) : Option NameKind := lk S.scope.names x
def isK (k : NameKind) (S : Sc) (x : Str) : Bool := match kind S x with
  | some j => nkB j k
  | none => false
def isGl (S : Sc) (x : Str) : Bool := isK .globalImplicit S x
def isVis (S : Sc) (x : Str) : Bool := isK .local S x || isK .cell S x || isK .free S x
def isLoc (S : Sc) (x : Str) : Bool := isK .local S x || (isK .cell S x && S.fn x)
def bNames : List Str := ["len", "max", "min", "sum", "all", "any", "sorted", "tuple", "list", "int", "abs", "set", "range", "isinstance", "enumerate", "zip", "bool", "str"]
def DefOk (C : Ora) (X : Cx) (x : Str) (i np : Nat) (io : Bool) : Prop := ∃ k fa fd ps, FnOk X.prog X.w X.K X.mg X.base CX0 k fa fd ps (spF X.K np io (C i)) ∧ Room k X.A ∧ X.mg x = some (.ref fa) ∧ PySem.W.keepIn X.K (.ref fa) = true ∧ Binds X.K fd ps []
structure Good (S : Sc) (C : Ora) (X : Cx) : Prop where
  calm : X.calm = true
  N : X.N = S.N
  nd : X.N.Nodup
  sc : X.env.scope = S.scope
  fn : ∀ x, S.fn x = true → X.fn x = true
  u : X.A.units + 65 < cLine
  free : ∀ x ∈ bNames, X.mg x = none
  glo : ∀ x i, (x, i) ∈ S.glo → ∃ u, X.mg x = some u ∧ RelV (.int i) u
  defs : ∀ x i np io, (x, i, np, io) ∈ S.defs → DefOk C X x i np io
section
variable {S : Sc} {C : Ora} {X : Cx} {a b c : Expr} {x y : Str}
theorem isK_look {k : NameKind} (G : Good S C X) (h : isK k S x = true) : X.env.scope.names.lookup x = some k := by
  rw [G.sc, lk_lookup]
  unfold isK kind at h
  split at h
  · rename_i j hj
    rw [hj, nkB_eq h]
  · cases h
theorem isGl_ok (G : Good S C X) (h : isGl S x = true) : Gl X x := isK_look G h
theorem isVis_ok (G : Good S C X) (h : isVis S x = true) : Vis X.env.scope x := by
  unfold isVis at h
  rw [Bool.or_eq_true, Bool.or_eq_true] at h
  rcases h with (h | h) | h
  · exact .inl (isK_look G h)
  · exact .inr (.inl (isK_look G h))
  · exact .inr (.inr (isK_look G h))
theorem isLoc_ok (G : Good S C X) (h : isLoc S x = true) : Loc X.env.scope x ∧ (X.fn x = true ∨ X.env.scope.names.lookup x = some .local) := by
  unfold isLoc at h
  rw [Bool.or_eq_true, Bool.and_eq_true] at h
  rcases h with h | ⟨h, h'⟩
  · exact ⟨.inl (isK_look G h), .inr (isK_look G h)⟩
  · exact ⟨.inr (isK_look G h), .inl (G.fn x h')⟩
def Sc.blk (S : Sc) (sc : Scope) : Sc := { S with scope := relS sc S.scope, fn := fun x => sc.names.lookup x == some .cell }
theorem Good.blk (G : Good S C X) (s : Shared) (H : Hp) (sc : Scope) (A : Addr) (cl : List (Str × Addr)) (fp : List Addr) : Good (S.blk sc) C (X.blk s H sc (compEnvC sc cl A X.env) fp) where
  calm := G.calm
  N := G.N
  nd := G.nd
  sc := by
    show relS sc X.env.scope = relS sc S.scope
    rw [G.sc]
  fn := fun x h => h
  u := G.u
  free := G.free
  glo := G.glo
  defs := G.defs

/-! ### what an expression is -/
def isNon : Expr → Bool
  | .Constant .none _ _ => true
  | _ => false
def isBl (v : Bool) : Expr → Bool
  | .Constant (.bool c) _ _ => v == c
  | _ => false
def isInt (i : Int) : Expr → Bool
  | .Constant (.int j) _ _ => decide (i = j)
  | _ => false
def isStrE (x : Str) : Expr → Bool
  | .Constant (.str y) _ _ => seq x y
  | _ => false
def asName : Expr → Option Str
  | .Name x _ => some x
  | _ => none
def asBin : Expr → Option (Expr × Operator × Expr)
  | .BinOp l o r _ => some (l, o, r)
  | _ => none
def asNeg : Expr → Option Expr
  | .UnaryOp .USub l _ => some l
  | _ => none
def asNot : Expr → Option Expr
  | .UnaryOp .Not l _ => some l
  | _ => none
def asCmp : Expr → Option (Expr × CmpOp × Expr)
  | .Compare l [o] [r] _ => some (l, o, r)
  | _ => none
def asChain3 : Expr → Option (Expr × CmpOp × CmpOp × CmpOp × Expr × Expr × Expr)
  | .Compare a [o, q, s] [b, c, d] _ => some (a, o, q, s, b, c, d)
  | _ => none
def asChain : Expr → Option (Expr × CmpOp × CmpOp × Expr × Expr)
  | .Compare l [o, p] [r, s] _ => some (l, o, p, r, s)
  | _ => none
def asBool : Expr → Option (BoolOp × List Expr)
  | .BoolOp o es _ => some (o, es)
  | _ => none
def asIfE : Expr → Option (Expr × Expr × Expr)
  | .IfExp c a b _ => some (c, a, b)
  | _ => none
def asTup : Expr → Option (List Expr)
  | .Tuple es _ _ => some es
  | _ => none
def asLst : Expr → Option (List Expr)
  | .List es _ => some es
  | _ => none
def asSub : Expr → Option (Expr × Expr)
  | .Subscript a b _ => some (a, b)
  | _ => none
def asSlc : Expr → Option (Option Expr × Option Expr)
  | .Slice lo hi none _ => some (lo, hi)
  | _ => none
def isRevS : Expr → Bool
  | .Slice none none (some (.UnaryOp .USub (.Constant (.int 1) _ _) _)) _ => true
  | _ => false
def asCall : Expr → Option (Str × List Expr)
  | .Call (.Name x _) es [] _ => some (x, es)
  | _ => none
def asComp : Expr → Option (Expr × Expr × Expr × List Expr × Scope)
  | .ListComp elt [⟨tg, it, ifs, 0⟩] sc _ => some (elt, tg, it, ifs, sc)
  | _ => none
def isSet : Expr → Bool
  | .Set _ _ _ => true
  | _ => false
def isSlc : Expr → Bool
  | .Slice _ _ _ _ => true
  | _ => false
def plainT : Expr → Bool
  | .UnaryOp .Not _ _ => false
  | .BoolOp _ _ _ => false
  | .IfExp _ _ _ _ => false
  | .Compare _ _ _ _ => false
  | _ => true
theorem isNon_eq (h : isNon a = true) : ∃ k p, a = .Constant .none k p := by
  unfold isNon at h
  split at h
  · exact ⟨_, _, rfl⟩
  · cases h
theorem isBl_eq {v : Bool} (h : isBl v a = true) : ∃ k p, a = .Constant (.bool v) k p := by
  unfold isBl at h
  split at h
  · rw [eq_of_beq h]; exact ⟨_, _, rfl⟩
  · cases h
theorem isInt_eq {i : Int} (h : isInt i a = true) : ∃ k p, a = .Constant (.int i) k p := by
  unfold isInt at h
  split at h
  · rw [of_decide_eq_true h]; exact ⟨_, _, rfl⟩
  · cases h
theorem isStrE_eq (h : isStrE x a = true) : ∃ k p, a = .Constant (.str x) k p := by
  unfold isStrE at h
  split at h
  · rw [seq_eq h]; exact ⟨_, _, rfl⟩
  · cases h
theorem asName_eq (h : asName a = some x) : ∃ p, a = .Name x p := by
  unfold asName at h
  split at h
  · cases h; exact ⟨_, rfl⟩
  · cases h
theorem asBin_eq {o : Operator} (h : asBin a = some (b, o, c)) : ∃ p, a = .BinOp b o c p := by
  unfold asBin at h
  split at h
  · cases h; exact ⟨_, rfl⟩
  · cases h
theorem asNeg_eq (h : asNeg a = some b) : ∃ p, a = .UnaryOp .USub b p := by
  unfold asNeg at h
  split at h
  · cases h; exact ⟨_, rfl⟩
  · cases h
theorem asNot_eq (h : asNot a = some b) : ∃ p, a = .UnaryOp .Not b p := by
  unfold asNot at h
  split at h
  · cases h; exact ⟨_, rfl⟩
  · cases h
theorem asCmp_eq {o : CmpOp} (h : asCmp a = some (b, o, c)) : ∃ p, a = .Compare b [o] [c] p := by
  unfold asCmp at h
  split at h
  · cases h; exact ⟨_, rfl⟩
  · cases h
theorem asChain3_eq {o q t : CmpOp} {d f : Expr} (h : asChain3 a = some (b, o, q, t, c, d, f)) : ∃ p, a = .Compare b [o, q, t] [c, d, f] p := by
  unfold asChain3 at h
  split at h
  · cases h
    exact ⟨_, rfl⟩
  · cases h
theorem asChain_eq {o q : CmpOp} {d : Expr} (h : asChain a = some (b, o, q, c, d)) : ∃ p, a = .Compare b [o, q] [c, d] p := by
  unfold asChain at h
  split at h
  · cases h; exact ⟨_, rfl⟩
  · cases h
theorem asBool_eq {o : BoolOp} {es : List Expr} (h : asBool a = some (o, es)) : ∃ p, a = .BoolOp o es p := by
  unfold asBool at h
  split at h
  · cases h; exact ⟨_, rfl⟩
  · cases h
theorem asIfE_eq {d : Expr} (h : asIfE a = some (b, c, d)) : ∃ p, a = .IfExp b c d p := by
  unfold asIfE at h
  split at h
  · cases h; exact ⟨_, rfl⟩
  · cases h
theorem asTup_eq {es : List Expr} (h : asTup a = some es) : ∃ k p, a = .Tuple es k p := by
  unfold asTup at h
  split at h
  · cases h; exact ⟨_, _, rfl⟩
  · cases h
theorem asLst_eq {es : List Expr} (h : asLst a = some es) : ∃ p, a = .List es p := by
  unfold asLst at h
  split at h
  · cases h; exact ⟨_, rfl⟩
  · cases h
theorem asSub_eq (h : asSub a = some (b, c)) : ∃ p, a = .Subscript b c p := by
  unfold asSub at h
  split at h
  · cases h; exact ⟨_, rfl⟩
  · cases h
theorem asSlc_eq {lo hi : Option Expr} (h : asSlc a = some (lo, hi)) : ∃ p, a = .Slice lo hi none p := by
  unfold asSlc at h
  split at h
  · cases h; exact ⟨_, rfl⟩
  · cases h
theorem isRevS_eq (h : isRevS a = true) : ∃ k p1 p2 p3, a = .Slice none none (some (.UnaryOp .USub (.Constant (.int 1) k p1) p2)) p3 := by
  unfold isRevS at h
  split at h
  · exact ⟨_, _, _, _, rfl⟩
  · cases h
theorem asCall_eq {es : List Expr} (h : asCall a = some (x, es)) : ∃ p q, a = .Call (.Name x p) es [] q := by
  unfold asCall at h
  split at h
  · cases h; exact ⟨_, _, rfl⟩
  · cases h
theorem asComp_eq {elt tg it : Expr} {ifs : List Expr} {sc : Scope} (h : asComp a = some (elt, tg, it, ifs, sc)) : ∃ p, a = .ListComp elt [⟨tg, it, ifs, 0⟩] sc p := by
  unfold asComp at h
  split at h
  · cases h; exact ⟨_, rfl⟩
  · cases h
theorem plainT_is {env : PySem.Env} (h : plainT a = true) : ∀ whole, isTrue a env whole = (do let v ← whole; standAt a.pos; holding [v] (truthy v)) := by
  intro whole
  cases a with
  | UnaryOp op o p => cases op <;> first | rfl | cases h
  | BoolOp _ _ _ => cases h
  | IfExp _ _ _ _ => cases h
  | Compare _ _ _ _ => cases h
  | _ => rfl
theorem notSet_mark {op : CmpOp} (h : isSet a = false) : behindInMarks op a = false := by
  cases a <;> first | rfl | cases h
theorem notSlc_ix (h : isSlc a = false) : PlainIx a := by
  intro o i
  cases a <;> first | rfl | cases h
def bopB : Bop → Operator → Bool
  | .add, .Add => true
  | .sub, .Sub => true
  | .mul, .Mult => true
  | .fdiv, .FloorDiv => true
  | .mod, .Mod => true
  | .pow, .Pow => true
  | _, _ => false
theorem bopB_eq {p : Bop} {o : Operator} (h : bopB p o = true) : o = p.py := by cases p <;> cases o <;> first | rfl | cases h
def copB : Cop → CmpOp → Bool
  | .lt, .Lt => true
  | .le, .LtE => true
  | .gt, .Gt => true
  | .ge, .GtE => true
  | .eq, .Eq => true
  | .ne, .NotEq => true
  | .isN, .Is => true
  | .notN, .IsNot => true
  | .isB, .Is => true
  | .notB, .IsNot => true
  | .isin, .In => true
  | .notin, .NotIn => true
  | _, _ => false
theorem copB_eq {p : Cop} {o : CmpOp} (h : copB p o = true) : o = p.py := by cases p <;> cases o <;> first | rfl | cases h
def blB : Bool → BoolOp → Bool
  | true, .And => true
  | false, .Or => true
  | _, _ => false
def blO : Bool → BoolOp
  | true => .And
  | false => .Or
theorem blB_eq {k : Bool} {o : BoolOp} (h : blB k o = true) : o = blO k := by cases k <;> cases o <;> first | rfl | cases h
end

/-! ### the checker -/
def ckV (S : Sc) (a : Expr) (i : Nat) : Bool := match asName a with
  | some x => (match S.N[i]? with | some y => seq x y | none => false) && isVis S x && !seq x "__debug__" && !seq x "__classdict__"
  | none => false
mutual
def ckG (S : Sc) (a : Expr) : Tg → Bool
  | .name i => (match asName a with
    | some x => (match S.N[i]? with | some y => seq x y | none => false) && isLoc S x
    | none => false)
  | .tup ts => (match asTup a with
    | some es => ckGs S es ts
    | none => false)
def ckGs (S : Sc) (es : List Expr) : List Tg → Bool
  | [] => es.isEmpty
  | t :: ts => (match es with
    | a :: r => !isStar a && ckG S a t && ckGs S r ts
    | [] => false)
end
def ownN (S : Sc) (own : List Nat) : List (Str × Nat) := own.map fun i => (S.N.getD i "", i)
def natIn (l : List Nat) (i : Nat) : Bool := l.any fun j => Nat.beq i j
def Blt.nm : Blt → String
  | .len => "len" | .max2 => "max" | .min2 => "min" | .minL => "min" | .maxL => "max" | .sum => "sum" | .all => "all" | .any => "any" | .sorted => "sorted" | .tuple => "tuple" | .list => "list" | .int => "int" | .abs => "abs" | _ => ""
def Blt.plain : Blt → Bool
  | .len => true | .max2 => true | .min2 => true | .minL => true | .maxL => true | .sum => true | .all => true | .any => true | .sorted => true | .tuple => true | .list => true | .int => true | .abs => true | _ => false
def Blt.isTy : Blt → Bool
  | .isInt => true | .isBool => true | .isTup => true | .isList => true | .isStr => true | _ => false
def Blt.tyS (k : Blt) : String := k.ty.getD ""
def ckIsi (S : Sc) (k : Blt) (x : Str) (es : List Expr) : Bool := match es with
  | [_, t] => seq x "isinstance" && isGl S "isinstance" && (match asName t with | some y => seq y (Str.ofString k.tyS) && isGl S y | none => false)
  | _ => false
def isNilS : IEs → Bool
  | .nil => true
  | _ => false
def IEs.len : IEs → Nat
  | .nil => 0
  | .cons _ r => r.len + 1
mutual
def ckE (S : Sc) (t : Bool) (a : Expr) : IE → Bool
  | .non => isNon a
  | .bl b => isBl b a
  | .int i => isInt i a
  | .str x => isStrE x a
  | .glo x i => (match asName a with
    | some y => seq x y && isGl S y && !seq y "__debug__" && (match lk S.glo y with | some j => decide (i = j) | none => false)
    | none => false)
  | .var i => ckV S a i
  | .mov i => ckV S a i
  | .bor i => ckV S a i
  | .bin op x y => (match asBin a with
    | some (l, o, r) => bopB op o && ckE S false l x && ckE S false r y
    | none => false)
  | .neg x => (match asNeg a with
    | some l => ckE S false l x
    | none => false)
  | .cmp op x y => (match asCmp a with
    | some (l, o, r) => copB op o && !isSet r && ckE S false l x && ckE S false r y
    | none => false)
  | .chain o1 o2 x y z => (match asChain a with
    | some (l, p, q, r, s) => copB o1 p && copB o2 q && !isSet s && ckE S false l x && ckE S false r y && ckE S false s z
    | none => false)
  | .chain3 o1 o2 o3 x y z w => (match asChain3 a with
    | some (l, p, q, t3, r, s, u) => copB o1 p && copB o2 q && copB o3 t3 && !isSet u && ckE S false l x && ckE S false r y && ckE S false s z && ckE S false u w
    | none => false)
  | .boolop k es => (match asBool a with
    | some (o, xs) => blB k o && ckB S t xs es
    | none => false)
  | .not x => (match asNot a with
    | some l => ckE S t l x
    | none => false)
  | .ife c x y => !t && (match asIfE a with
    | some (d, l, r) => ckE S true d c && ckE S false l x && ckE S false r y
    | none => false)
  | .tup es => (match asTup a with
    | some xs => ckEs S xs es
    | none => false)
  | .lst es => (match asLst a with
    | some xs => ckEs S xs es
    | none => false)
  | .idx x y => (match asSub a with
    | some (l, r) => !isSlc r && ckE S false l x && ckE S false r y
    | none => false)
  | .slice x lo hi => (match asSub a with
    | some (l, r) => (match asSlc r with
      | some (p, q) => ckE S false l x && ckO S p lo && ckO S q hi
      | none => false)
    | none => false)
  | .rev x => (match asSub a with
    | some (l, r) => isRevS r && ckE S false l x
    | none => false)
  | .call f es => (match asCall a with
    | some (x, xs) => !xs.isEmpty && isGl S x && !seq x "__debug__" && (match lk S.defs x with | some (i, np, io) => Nat.beq i f && Nat.beq np xs.length && !io | none => false) && ckEs S xs es
    | none => false)
  | .callio f j es => (match asCall a with
    | some (x, y :: xs) => ckV S y j && isGl S x && !seq x "__debug__" && (match lk S.defs x with | some (i, np, io) => Nat.beq i f && Nat.beq np (xs.length + 1) && io | none => false) && ckEs S xs es
    | _ => false)
  | .blt k es => (match asCall a with
    | some (x, xs) => if k.plain = true then !xs.isEmpty && seq x (Str.ofString k.nm) && isGl S x && ckEs S xs es
      else if k.isTy = true then ckIsi S k x xs && (match xs with | [y, _] => ckEs S [y] es | _ => false)
      else (match k with
        | .range1 => seq x "list" && isGl S x && (match xs with | [y] => (match asCall y with | some (z, [u]) => seq z "range" && isGl S z && ckEs S [u] es | _ => false) | _ => false)
        | .range2 => seq x "list" && isGl S x && (match xs with | [y] => (match asCall y with | some (z, [u, v]) => seq z "range" && isGl S z && ckEs S [u, v] es | _ => false) | _ => false)
        | .sset => seq x "sorted" && isGl S x && (match xs with | [y] => (match asCall y with | some (z, [u]) => seq z "set" && isGl S z && ckEs S [u] es | _ => false) | _ => false)
        | _ => false)
    | none => false)
  | .comp elt tg it conds own => (match asComp a with
    | some (ae, at_, ai, ifs, sc) => blkC S.N S.scope sc (ownN S own) && tg.slots.all (natIn own) && !isSet ai && ckI S at_ ai it && ckG (S.blk sc) at_ tg && ckE (S.blk sc) false ae elt && ckC (S.blk sc) ifs conds
    | none => false)
def ckEs (S : Sc) (es : List Expr) : IEs → Bool
  | .nil => es.isEmpty
  | .cons a r => (match es with
    | x :: xs => !isStar x && ckE S false x a && ckEs S xs r
    | [] => false)
def ckB (S : Sc) (t : Bool) (es : List Expr) : IEs → Bool
  | .nil => false
  | .cons a r => (match es with
    | [] => false
    | x :: xs => ckE S t x a && (match xs with
      | [] => isNilS r
      | _ :: _ => ckB S t xs r))
/-- the conditions of a comprehension: none or one -/
def ckC (S : Sc) (es : List Expr) : IEs → Bool
  | .nil => es.isEmpty
  | .cons a r => isNilS r && (match es with
    | [x] => ckE S true x a
    | _ => false)
def ckO (S : Sc) (e : Option Expr) : IO → Bool
  | .none => e.isNone
  | .some a => (match e with
    | some x => ckE S false x a
    | none => false)
def ckI (S : Sc) (tg a : Expr) : IT → Bool
  | .seq x => ckE S false a x
  | .range es => (match asCall a with
    | some (x, xs) => seq x "range" && isGl S x && !xs.isEmpty && Nat.ble xs.length 3 && ckEs S xs es
    | none => false)
  | .enum x => (match asTup tg, asCall a with
    | some _, some (z, [y]) => seq z "enumerate" && isGl S z && !isStar y && ckE S false y x
    | _, _ => false)
  | .zip x y => (match asTup tg, asCall a with
    | some _, some (z, [u, v]) => seq z "zip" && isGl S z && !isStar u && !isStar v && ckE S false u x && ckE S false v y
    | _, _ => false)
end
end PV
set_option Elab.async false
set_option linter.all false
set_option maxRecDepth 100000
set_option maxHeartbeats 2000000
/-! The checker is right: targets, built-ins. -/
namespace PV
open PySem PySem.Spec PyProof.Rows L2
section
variable {S : Sc} {C : Ora} {X : Cx} {a b c : Expr} {x y : Str} {f g h : Env → Option (Opd × Env)} {fs : Env → Option (List Opd × Env)} {es : List Expr} {p pos : Pos}
theorem and_t {a b : Bool} (h : (a && b) = true) : a = true ∧ b = true := by rwa [Bool.and_eq_true] at h
theorem not_t {a : Bool} (h : (!a) = true) : a = false := by cases a <;> first | rfl | cases h
theorem ckV_ok (G : Good S C X) {i : Nat} (h : ckV S a i = true) : (∃ x p, a = .Name x p) ∧ PE X a (tVar i) := by
  unfold ckV at h
  split at h
  · rename_i x hx
    obtain ⟨p, rfl⟩ := asName_eq hx
    obtain ⟨h, h4⟩ := and_t h
    obtain ⟨h, h3⟩ := and_t h
    obtain ⟨h1, h2⟩ := and_t h
    split at h1
    · rename_i y hy
      rw [← seq_eq h1, ← G.N] at hy
      exact ⟨⟨_, _, rfl⟩, pe_var hy (isVis_ok G h2) (seq_beq (not_t h3)) (seq_beq (not_t h4))⟩
    · cases h1
  · cases h
theorem assign_cons (h : isStar a = false) {env : PySem.Env} : assignEach (a :: es) env = (false, assign a env) :: assignEach es env := by
  cases a <;> first | rfl | cases h
mutual
theorem ckG_ok (G : Good S C X) : ∀ (t : Tg) {a : Expr}, ckG S a t = true → PG X a (tGv X.K t.slots (store t))
  | .name i, a, h => by
    unfold ckG at h
    split at h
    · rename_i x hx
      obtain ⟨p, rfl⟩ := asName_eq hx
      obtain ⟨h1, h2⟩ := and_t h
      split at h1
      · rename_i y hy
        rw [← seq_eq h1, ← G.N] at hy
        exact gv_name (pg_name G.nd hy (isLoc_ok G h2).1 (isLoc_ok G h2).2)
      · cases h1
    · cases h
  | .tup ts, a, h => by
    unfold ckG at h
    split at h
    · rename_i es hx
      obtain ⟨k, p, rfl⟩ := asTup_eq hx
      obtain ⟨h1, h2, h3⟩ := ckGs_ok G ts h
      exact gv_tup G.calm h1 h2 h3
    · cases h
theorem ckGs_ok (G : Good S C X) : ∀ (ts : List Tg) {es : List Expr}, ckGs S es ts = true → PGs X es (tGvs X.K (slotsL ts) (storeL ts)) ∧ (assignEach es X.env).length = ts.length ∧ (assignEach es X.env).findIdx? (·.1) = none
  | [], es, h => by
    unfold ckGs at h
    cases es with
    | nil => exact ⟨gvs_nil, rfl, rfl⟩
    | cons _ _ => cases h
  | t :: ts, es, h => by
    unfold ckGs at h
    cases es with
    | nil => cases h
    | cons a r =>
      obtain ⟨h, h3⟩ := and_t h
      obtain ⟨h1, h2⟩ := and_t h
      obtain ⟨k1, k2, k3⟩ := ckGs_ok G ts h3
      have e := assign_cons (es := r) (not_t h1) (env := X.env)
      refine ⟨gvs_cons (ckG_ok G t h2) k1 (by rw [e]; rfl), by rw [e, List.length_cons, k2]; rfl, ?_⟩
      rw [e, List.findIdx?_cons]
      rw [k3]
      rfl
end

/-! ### built-ins -/
theorem free_b (G : Good S C X) (s : String) (h : (bNames.any fun y => seq y (Str.ofString s)) = true) : X.mg (Str.ofString s) = none := by
  obtain ⟨y, h1, h2⟩ := List.any_eq_true.mp h
  rw [← seq_eq h2]
  exact G.free y h1
theorem e_bcall (G : Good S C X) {k : Blt} (hk : k.plain = true) (hg : Gl X (Str.ofString k.nm)) (ha : PA X (a :: es) (tA X.K fs)) (ns : noStar (a :: es) = true) : PE X (.Call (.Name (Str.ofString k.nm) p) (a :: es) [] pos) (tE X.K fun e => evBlt k (fs e)) := by
  have s1 := star_cons (env := X.env) ns
  have s2 := fun q => star_any (env := X.env) (pos := q) (star_tail ns)
  cases k with
  | len => exact e_blt (fun t ht => pe_callB call_len hg (free_b G "len" (by decide +kernel)) (by decide +kernel) ht (by decide +kernel) (by decide +kernel) s1 (s2 _)) ok_len ha
  | max2 => exact e_blt (fun t ht => pe_callB (call_max2 G.calm) hg (free_b G "max" (by decide +kernel)) (by decide +kernel) ht (by decide +kernel) (by decide +kernel) s1 (s2 _)) ok_max2 ha
  | min2 => exact e_blt (fun t ht => pe_callB (call_min2 G.calm) hg (free_b G "min" (by decide +kernel)) (by decide +kernel) ht (by decide +kernel) (by decide +kernel) s1 (s2 _)) ok_min2 ha
  | maxL => exact e_blt (fun t ht => pe_callB (cr_max G.calm) hg (free_b G "max" (by decide +kernel)) (by decide +kernel) ht (by decide +kernel) (by decide +kernel) s1 (s2 _)) ok_maxL ha
  | minL => exact e_blt (fun t ht => pe_callB (cr_min G.calm) hg (free_b G "min" (by decide +kernel)) (by decide +kernel) ht (by decide +kernel) (by decide +kernel) s1 (s2 _)) ok_minL ha
  | sum => exact e_blt (fun t ht => pe_callB (cr_sum G.calm) hg (free_b G "sum" (by decide +kernel)) (by decide +kernel) ht (by decide +kernel) (by decide +kernel) s1 (s2 _)) ok_sum ha
  | all => exact e_blt (fun t ht => pe_callB (cr_all G.calm) hg (free_b G "all" (by decide +kernel)) (by decide +kernel) ht (by decide +kernel) (by decide +kernel) s1 (s2 _)) ok_all ha
  | any => exact e_blt (fun t ht => pe_callB (cr_any G.calm) hg (free_b G "any" (by decide +kernel)) (by decide +kernel) ht (by decide +kernel) (by decide +kernel) s1 (s2 _)) ok_any ha
  | sorted => exact e_blt (fun t ht => pe_callB cr_sortPT hg (free_b G "sorted" (by decide +kernel)) (by decide +kernel) ht (by decide +kernel) (by decide +kernel) s1 (s2 _)) ok_sortedT ha
  | tuple => exact e_blt (fun t ht => pe_callTy (call_tuple_of (X := X)) hg (free_b G "tuple" (by decide +kernel)) (by decide +kernel) ht (by decide +kernel) (by decide +kernel) s1 (s2 _)) ok_tuple ha
  | list => exact e_blt (fun t ht => pe_callTy (call_list_of (X := X)) hg (free_b G "list" (by decide +kernel)) (by decide +kernel) ht (by decide +kernel) (by decide +kernel) s1 (s2 _)) ok_list ha
  | int => exact e_blt (fun t ht => pe_callTy call_int1 hg (free_b G "int" (by decide +kernel)) (by decide +kernel) ht (by decide +kernel) (by decide +kernel) s1 (s2 _)) ok_int ha
  | abs => exact e_blt (fun t ht => pe_callB call_abs hg (free_b G "abs" (by decide +kernel)) (by decide +kernel) ht (by decide +kernel) (by decide +kernel) s1 (s2 _)) ok_abs ha
  | _ => cases hk

/-! ### readings of both kinds -/
structure RdE (X : Cx) (t : Bool) (a : Expr) (f : Env → Option (Opd × Env)) : Prop where
  v : t = false → PE X a (tE X.K f)
  b : t = true → PT X a (tT X.K fun e => toB (f e))
theorem RdE.of {t : Bool} (h : PE X a (tE X.K f)) (hp : plainT a = true) : RdE X t a f := ⟨fun _ => h, fun _ => t_val h (plainT_is hp)⟩
theorem e_comp {it elt tg : Expr} {ifs : List Expr} {sc : Scope} {own : List (Str × Nat)} {fi : Env → Option (List D × Env)} {tt : Tg} {t : Env → Option (Bool × Env)} {u : Env → Option (Opd × Env)} (hc : X.calm = true) (hN : X.N.Nodup) (hi : PI X tg it (tI X.K fi)) (ok : BlkOk X.N X.env.scope sc own)
    (hg : ∀ (s : Shared) (H : Hp) (A : Addr) (cl : List (Str × Addr)) (fp : List Addr), PG (X.blk s H sc (compEnvC sc cl A X.env) fp) tg (tGv X.K tt.slots (store tt)))
    (ht : ∀ (s : Shared) (H : Hp) (A : Addr) (cl : List (Str × Addr)) (fp : List Addr), PTs (X.blk s H sc (compEnvC sc cl A X.env) fp) ifs (tT X.K t))
    (he : ∀ (s : Shared) (H : Hp) (A : Addr) (cl : List (Str × Addr)) (fp : List Addr), PE (X.blk s H sc (compEnvC sc cl A X.env) fp) elt (tE X.K u)) (hs : ∀ x, foldedSetIterable it X.env x = pure x) (hv : ∀ i ∈ tt.slots, i ∈ own.map (·.2)) :
    PE X (.ListComp elt [⟨tg, it, ifs, 0⟩] sc p) (tE X.K fun e => compV fi (store tt) t u (own.map (·.2)) e) :=
  PE_imp (pe_lc hc hN hi ok hg ht he hs) fun σ H Q h => lc_imp hv h
theorem notSet_fold {env : PySem.Env} (h : isSet a = false) : ∀ x, foldedSetIterable a env x = pure x := by
  intro x
  cases a <;> first | rfl | cases h
theorem pts_nil' : PTs X [] (tT X.K fun e => some (true, e)) := ⟨fun pins s σ H Q I ⟨F, e, b, e', st, hf, q⟩ => by
  cases hf
  exact pts_nil.run pins s σ H Q I (q _ _ (.refl st))⟩
theorem natIn_ok {l : List Nat} {i : Nat} (h : natIn l i = true) : i ∈ l := by
  obtain ⟨j, h1, h2⟩ := List.any_eq_true.mp h
  rw [Nat.eq_of_beq_eq_true h2]
  exact h1
theorem ownN_snd (S : Sc) : ∀ own : List Nat, (ownN S own).map (·.2) = own
  | [] => rfl
  | i :: r => by
    show i :: (ownN S r).map (·.2) = i :: r
    rw [ownN_snd S r]
theorem evs_len {C : Ora} : ∀ (es : IEs) {e e' : Env} {os : List Opd}, evs C es e = some (os, e') → os.length = es.len
  | .nil, e, e', os, h => by cases h; rfl
  | .cons a r, e, e', os, h => by
    obtain ⟨x, h1, h2⟩ := Option.bind_eq_some_iff.mp (show (ev C a e).bind _ = some (os, e') from h)
    obtain ⟨y, h3, h4⟩ := Option.map_eq_some_iff.mp h2
    cases h4
    exact congrArg Nat.succ (evs_len r h3)
end
end PV
set_option Elab.async false
set_option linter.all false
set_option maxRecDepth 100000
set_option maxHeartbeats 4000000
/-! The checker is right: expressions. -/
namespace PV
open PySem PySem.Spec PyProof.Rows L2
theorem evB_one {C : Ora} {k : Bool} {a : IE} : evB C k (.cons a .nil) = fun e => toB (ev C a e) := by
  funext e
  show (toB (ev C a e)).bind (fun x => if x.1 = k then evB C k .nil x.2 else some (x.1, x.2)) = _
  cases h : toB (ev C a e) with
  | none => rfl
  | some x =>
    show (if x.1 = k then some (k, x.2) else some (x.1, x.2)) = some x
    split
    · rename_i z; rw [← z]
    · rfl
theorem evB_cons {C : Ora} {k : Bool} {a : IE} {r : IEs} : evB C k (.cons a r) = fun e => andOr k (toB (ev C a e)) (evB C k r) := rfl
mutual
theorem ckE_ok (S : Sc) (C : Ora) : ∀ (r : IE) {X : Cx} {t : Bool} {a : Expr}, Good S C X → ckE S t a r = true → RdE X t a (ev C r)
  | .non, X, t, a, G, h => by
    obtain ⟨k, p, rfl⟩ := isNon_eq (show isNon a = true by unfold ckE at h; exact h)
    exact .of (e_const pe_non fun _ _ => .non) rfl
  | .bl b, X, t, a, G, h => by
    obtain ⟨k, p, rfl⟩ := isBl_eq (show isBl b a = true by unfold ckE at h; exact h)
    exact .of (e_const pe_bl fun _ _ => .bl b) rfl
  | .int i, X, t, a, G, h => by
    obtain ⟨k, p, rfl⟩ := isInt_eq (show isInt i a = true by unfold ckE at h; exact h)
    exact .of (e_const pe_int fun _ _ => .int i) rfl
  | .str x, X, t, a, G, h => by
    obtain ⟨k, p, rfl⟩ := isStrE_eq (show isStrE x a = true by unfold ckE at h; exact h)
    exact .of (e_const pe_str fun _ _ => .str x) rfl
  | .glo x i, X, t, a, G, h => by
    unfold ckE at h
    split at h
    · rename_i y hy
      obtain ⟨p, rfl⟩ := asName_eq hy
      obtain ⟨h, h4⟩ := and_t h
      obtain ⟨h, h3⟩ := and_t h
      obtain ⟨h1, h2⟩ := and_t h
      split at h4
      · rename_i j hj
        obtain ⟨u, hu, ru⟩ := G.glo _ _ (lk_mem hj)
        rw [← of_decide_eq_true h4] at ru
        exact .of (e_const (pe_glob (isGl_ok G h2) hu ru (seq_beq (not_t h3))) fun _ _ => .int i) rfl
      · cases h4
    · cases h
  | .var i, X, t, a, G, h => by
    obtain ⟨⟨x, p, rfl⟩, h1⟩ := ckV_ok G (show ckV S a i = true by unfold ckE at h; exact h)
    exact .of (e_var h1) rfl
  | .mov i, X, t, a, G, h => by
    obtain ⟨⟨x, p, rfl⟩, h1⟩ := ckV_ok G (show ckV S a i = true by unfold ckE at h; exact h)
    exact .of (e_mov h1) rfl
  | .bor i, X, t, a, G, h => by
    obtain ⟨⟨x, p, rfl⟩, h1⟩ := ckV_ok G (show ckV S a i = true by unfold ckE at h; exact h)
    exact .of (e_bor h1) rfl
  | .bin op x y, X, t, a, G, h => by
    unfold ckE at h
    split at h
    · rename_i l o r ha
      obtain ⟨p, rfl⟩ := asBin_eq ha
      obtain ⟨h, h3⟩ := and_t h
      obtain ⟨h1, h2⟩ := and_t h
      rw [bopB_eq h1]
      exact .of (e_bin ((ckE_ok S C x G h2).v rfl) ((ckE_ok S C y G h3).v rfl)) rfl
    · cases h
  | .neg x, X, t, a, G, h => by
    unfold ckE at h
    split at h
    · rename_i l ha
      obtain ⟨p, rfl⟩ := asNeg_eq ha
      exact .of (e_neg ((ckE_ok S C x G h).v rfl)) rfl
    · cases h
  | .cmp op x y, X, t, a, G, h => by
    unfold ckE at h
    split at h
    · rename_i l o r ha
      obtain ⟨p, rfl⟩ := asCmp_eq ha
      obtain ⟨h, h4⟩ := and_t h
      obtain ⟨h, h3⟩ := and_t h
      obtain ⟨h1, h2⟩ := and_t h
      rw [copB_eq h1]
      have hx := (ckE_ok S C x G h3).v rfl
      have hy := (ckE_ok S C y G h4).v rfl
      exact ⟨fun _ => e_cmp G.u hx hy (notSet_mark (not_t h2)), fun _ => t_cmp G.u hx hy (notSet_mark (not_t h2))⟩
    · cases h
  | .chain o1 o2 x y z, X, t, a, G, h => by
    unfold ckE at h
    split at h
    · rename_i l p q r s ha
      obtain ⟨pp, rfl⟩ := asChain_eq ha
      obtain ⟨h, h6⟩ := and_t h
      obtain ⟨h, h5⟩ := and_t h
      obtain ⟨h, h4⟩ := and_t h
      obtain ⟨h, h3⟩ := and_t h
      obtain ⟨h1, h2⟩ := and_t h
      rw [copB_eq h1, copB_eq h2]
      have hx := (ckE_ok S C x G h4).v rfl
      have hy := (ckE_ok S C y G h5).v rfl
      have hz := (ckE_ok S C z G h6).v rfl
      have hm : lastMarks [o1.py, o2.py] [r, s] = false := notSet_mark (not_t h3)
      exact ⟨fun _ => e_chain G.u hx hy hz hm, fun _ => t_chain G.u hx hy hz hm⟩
    · cases h
  | .chain3 o1 o2 o3 x y z w, X, t, a, G, h => by
    unfold ckE at h
    split at h
    · rename_i l p q t3 r s u ha
      obtain ⟨pp, rfl⟩ := asChain3_eq ha
      obtain ⟨h, h8⟩ := and_t h
      obtain ⟨h, h7⟩ := and_t h
      obtain ⟨h, h6⟩ := and_t h
      obtain ⟨h, h5⟩ := and_t h
      obtain ⟨h, h4⟩ := and_t h
      obtain ⟨h, h3⟩ := and_t h
      obtain ⟨h1, h2⟩ := and_t h
      rw [copB_eq h1, copB_eq h2, copB_eq h3]
      have hx := (ckE_ok S C x G h5).v rfl
      have hy := (ckE_ok S C y G h6).v rfl
      have hz := (ckE_ok S C z G h7).v rfl
      have hw := (ckE_ok S C w G h8).v rfl
      have hm : lastMarks [o1.py, o2.py, o3.py] [r, s, u] = false := notSet_mark (not_t h4)
      exact ⟨fun _ => e_chain3 G.u hx hy hz hw hm, fun _ => t_chain3 G.u hx hy hz hw hm⟩
    · cases h
  | .boolop k es, X, t, a, G, h => by
    unfold ckE at h
    split at h
    · rename_i o xs ha
      obtain ⟨p, rfl⟩ := asBool_eq ha
      obtain ⟨h1, h2⟩ := and_t h
      rw [blB_eq h1]
      have hb := ckB_ok S C es k G h2
      exact ⟨fun z => hb.1 z p, fun z => PT_imp (hb.2 z p).pt fun σ H Q ⟨F, e, b, e', s, hf, q⟩ => by
        obtain ⟨x, h3, h4⟩ := Option.map_eq_some_iff.mp (show (evB C k es e).map _ = _ from toB_some hf)
        cases h4
        exact ⟨F, e, _, _, s, h3, q⟩⟩
    · cases h
  | .not x, X, t, a, G, h => by
    unfold ckE at h
    split at h
    · rename_i l ha
      obtain ⟨p, rfl⟩ := asNot_eq ha
      have hx := ckE_ok S C x G h
      exact ⟨fun z => e_not (hx.v z), fun z => t_not (hx.b z)⟩
    · cases h
  | .ife c x y, X, t, a, G, h => by
    unfold ckE at h
    obtain ⟨h0, h9⟩ := and_t h
    clear h
    split at h9
    · rename_i d l r ha
      obtain ⟨p, rfl⟩ := asIfE_eq ha
      obtain ⟨h8, h3⟩ := and_t h9
      obtain ⟨h1, h2⟩ := and_t h8
      exact ⟨fun _ => e_ife ((ckE_ok S C c G h1).b rfl) ((ckE_ok S C x G h2).v rfl) ((ckE_ok S C y G h3).v rfl), fun z => by rw [z] at h0; cases h0⟩
    · cases h9
  | .tup es, X, t, a, G, h => by
    unfold ckE at h
    split at h
    · rename_i xs ha
      obtain ⟨k, p, rfl⟩ := asTup_eq ha
      exact .of (e_tup (ckEs_ok S C es G h).1) rfl
    · cases h
  | .lst es, X, t, a, G, h => by
    unfold ckE at h
    split at h
    · rename_i xs ha
      obtain ⟨p, rfl⟩ := asLst_eq ha
      exact .of (e_lst (ckEs_ok S C es G h).1) rfl
    · cases h
  | .idx x y, X, t, a, G, h => by
    unfold ckE at h
    split at h
    · rename_i l r ha
      obtain ⟨p, rfl⟩ := asSub_eq ha
      obtain ⟨h, h3⟩ := and_t h
      obtain ⟨h1, h2⟩ := and_t h
      exact .of (e_idx ((ckE_ok S C x G h2).v rfl) ((ckE_ok S C y G h3).v rfl) (notSlc_ix (not_t h1))) rfl
    · cases h
  | .slice x lo hi, X, t, a, G, h => by
    unfold ckE at h
    split at h
    · rename_i l r ha
      obtain ⟨p, rfl⟩ := asSub_eq ha
      split at h
      · rename_i pl ph hs
        obtain ⟨p2, rfl⟩ := asSlc_eq hs
        obtain ⟨h, h3⟩ := and_t h
        obtain ⟨h1, h2⟩ := and_t h
        exact .of (e_slice ((ckE_ok S C x G h1).v rfl) (ckO_ok S C lo G h2) (ckO_ok S C hi G h3)) rfl
      · cases h
    · cases h
  | .rev x, X, t, a, G, h => by
    unfold ckE at h
    split at h
    · rename_i l r ha
      obtain ⟨p, rfl⟩ := asSub_eq ha
      obtain ⟨h1, h2⟩ := and_t h
      obtain ⟨k, p1, p2, p3, rfl⟩ := isRevS_eq h1
      exact .of (e_rev ((ckE_ok S C x G h2).v rfl)) rfl
    · cases h
  | .call f es, X, t, a, G, h => by
    unfold ckE at h
    split at h
    · rename_i x xs ha
      obtain ⟨p, q, rfl⟩ := asCall_eq ha
      obtain ⟨h, h5⟩ := and_t h
      obtain ⟨h, h4⟩ := and_t h
      obtain ⟨h, h3⟩ := and_t h
      obtain ⟨h1, h2⟩ := and_t h
      cases xs with
      | nil => cases h1
      | cons a0 xs =>
        split at h4
        · rename_i i np io hl
          obtain ⟨h4, h8⟩ := and_t h4
          obtain ⟨h6, h7⟩ := and_t h4
          have h6 := Nat.eq_of_beq_eq_true h6
          have h7 := Nat.eq_of_beq_eq_true h7
          have h8 := not_t h8
          subst h6 h8
          obtain ⟨k, fa, fd, ps, k1, k2, k3, k4, k5⟩ := G.defs _ _ _ _ (lk_mem hl)
          obtain ⟨j1, j2, j3⟩ := ckEs_ok S C es G h5
          exact .of (e_call k1 k2 (isGl_ok G h2) k3 k4 k5 (fun _ _ _ _ _ _ _ z => z.elim) (seq_beq (not_t h3)) h7.symm j1 j2 fun e os e' z => (evs_len es z).trans j3) rfl
        · cases h4
    · cases h
  | .callio f j es, X, t, a, G, h => by
    unfold ckE at h
    split at h
    · rename_i x y xs ha
      obtain ⟨p, q, rfl⟩ := asCall_eq ha
      obtain ⟨h, h5⟩ := and_t h
      obtain ⟨h, h4⟩ := and_t h
      obtain ⟨h, h3⟩ := and_t h
      obtain ⟨h1, h2⟩ := and_t h
      split at h4
      · rename_i i np io hl
        obtain ⟨h4, h8⟩ := and_t h4
        obtain ⟨h6, h7⟩ := and_t h4
        have h6 := Nat.eq_of_beq_eq_true h6
        have h7 := Nat.eq_of_beq_eq_true h7
        subst h6 h8
        obtain ⟨k, fa, fd, ps, k1, k2, k3, k4, k5⟩ := G.defs _ _ _ _ (lk_mem hl)
        obtain ⟨j1, j2, j3⟩ := ckEs_ok S C es G h5
        obtain ⟨⟨z, pz, rfl⟩, hv⟩ := ckV_ok G h1
        exact .of (e_callio k1 k2 (isGl_ok G h2) k3 k4 k5 (fun _ _ _ _ _ _ _ z => z.elim) (seq_beq (not_t h3)) h7.symm hv j1 j2 fun e os e' z => (evs_len es z).trans j3) rfl
      · cases h4
    · cases h
  | .blt k es, X, t, a, G, h => by
    unfold ckE at h
    split at h
    · rename_i x xs ha
      obtain ⟨p, q, rfl⟩ := asCall_eq ha
      split at h
      · rename_i hk
        obtain ⟨h, h4⟩ := and_t h
        obtain ⟨h, h3⟩ := and_t h
        obtain ⟨h1, h2⟩ := and_t h
        cases xs with
        | nil => cases h1
        | cons a0 xs =>
          obtain ⟨j1, j2, j3⟩ := ckEs_ok S C es G h4
          have e := seq_eq h2
          subst e
          exact .of (e_bcall G hk (isGl_ok G h3) j1 j2) rfl
      · split at h
        · rename_i hk
          obtain ⟨h, h2⟩ := and_t h
          unfold ckIsi at h
          split at h2
          · rename_i y u
            obtain ⟨h, h3⟩ := and_t h
            obtain ⟨h1, h4⟩ := and_t h
            have e := seq_eq h1
            subst e
            split at h3
            · rename_i w hw
              obtain ⟨pw, rfl⟩ := asName_eq hw
              obtain ⟨h5, h6⟩ := and_t h3
              have e := seq_eq h5
              subst e
              cases es with
              | nil => unfold ckEs at h2; cases h2
              | cons a0 r =>
                unfold ckEs at h2
                obtain ⟨h2, h7⟩ := and_t h2
                obtain ⟨h8, h9⟩ := and_t h2
                cases r with
                | cons _ _ => unfold ckEs at h7; cases h7
                | nil =>
                  have ha0 := (ckE_ok S C a0 G h9).v rfl
                  have ns := (fun (w : Expr) (z : (!isStar w) = true) => (show (!isStar w && true) = true by rw [z]; rfl : noStar [w] = true)) _ h8
                  have g1 := isGl_ok G h4
                  have g2 := isGl_ok G h6
                  have m1 := free_b G "isinstance" (by decide +kernel)
                  cases k with
                  | isInt => exact .of (e_isi (k := .isInt) rfl g1 m1 g2 (free_b G "int" (by decide +kernel)) (by decide +kernel) (by decide +kernel) (by decide +kernel) ha0 ns) rfl
                  | isBool => exact .of (e_isi (k := .isBool) rfl g1 m1 g2 (free_b G "bool" (by decide +kernel)) (by decide +kernel) (by decide +kernel) (by decide +kernel) ha0 ns) rfl
                  | isTup => exact .of (e_isi (k := .isTup) rfl g1 m1 g2 (free_b G "tuple" (by decide +kernel)) (by decide +kernel) (by decide +kernel) (by decide +kernel) ha0 ns) rfl
                  | isList => exact .of (e_isi (k := .isList) rfl g1 m1 g2 (free_b G "list" (by decide +kernel)) (by decide +kernel) (by decide +kernel) (by decide +kernel) ha0 ns) rfl
                  | isStr => exact .of (e_isi (k := .isStr) rfl g1 m1 g2 (free_b G "str" (by decide +kernel)) (by decide +kernel) (by decide +kernel) (by decide +kernel) ha0 ns) rfl
                  | _ => cases hk
            · cases h3
          · cases h2
        · split at h
          · obtain ⟨h, h2⟩ := and_t h
            obtain ⟨h1, h3⟩ := and_t h
            have e := seq_eq h1
            subst e
            split at h2
            · rename_i y
              split at h2
              · rename_i z u hz
                obtain ⟨pz, qz, rfl⟩ := asCall_eq hz
                obtain ⟨h2, h4⟩ := and_t h2
                obtain ⟨h5, h6⟩ := and_t h2
                have e := seq_eq h5
                subst e
                cases es with
                | nil => unfold ckEs at h4; cases h4
                | cons a0 r =>
                  unfold ckEs at h4
                  obtain ⟨h4, h7⟩ := and_t h4
                  obtain ⟨h8, h9⟩ := and_t h4
                  cases r with
                  | cons _ _ => unfold ckEs at h7; cases h7
                  | nil => exact .of (e_range1 G.calm (isGl_ok G h3) (free_b G "list" (by decide +kernel)) (isGl_ok G h6) (free_b G "range" (by decide +kernel)) ((ckE_ok S C a0 G h9).v rfl) (by show (!isStar u && true) = true; rw [h8]; rfl)) rfl
              · cases h2
            · cases h2
          · obtain ⟨h, h2⟩ := and_t h
            obtain ⟨h1, h3⟩ := and_t h
            have e := seq_eq h1
            subst e
            split at h2
            · rename_i y
              split at h2
              · rename_i z u v hz
                obtain ⟨pz, qz, rfl⟩ := asCall_eq hz
                obtain ⟨h2, h4⟩ := and_t h2
                obtain ⟨h5, h6⟩ := and_t h2
                have e := seq_eq h5
                subst e
                cases es with
                | nil => unfold ckEs at h4; cases h4
                | cons a0 r =>
                  unfold ckEs at h4
                  obtain ⟨h4, h7⟩ := and_t h4
                  obtain ⟨h8, h9⟩ := and_t h4
                  cases r with
                  | nil => unfold ckEs at h7; cases h7
                  | cons a1 r =>
                    unfold ckEs at h7
                    obtain ⟨h7, h10⟩ := and_t h7
                    obtain ⟨h11, h12⟩ := and_t h7
                    cases r with
                    | cons _ _ => unfold ckEs at h10; cases h10
                    | nil => exact .of (e_range2 G.calm (isGl_ok G h3) (free_b G "list" (by decide +kernel)) (isGl_ok G h6) (free_b G "range" (by decide +kernel)) ((ckE_ok S C a0 G h9).v rfl) ((ckE_ok S C a1 G h12).v rfl) (by show (!isStar u && (!isStar v && true)) = true; rw [h8, h11]; rfl)) rfl
              · cases h2
            · cases h2
          · obtain ⟨h, h2⟩ := and_t h
            obtain ⟨h1, h3⟩ := and_t h
            have e := seq_eq h1
            subst e
            split at h2
            · rename_i y
              split at h2
              · rename_i z u hz
                obtain ⟨pz, qz, rfl⟩ := asCall_eq hz
                obtain ⟨h2, h4⟩ := and_t h2
                obtain ⟨h5, h6⟩ := and_t h2
                have e := seq_eq h5
                subst e
                cases es with
                | nil => unfold ckEs at h4; cases h4
                | cons a0 r =>
                  unfold ckEs at h4
                  obtain ⟨h4, h7⟩ := and_t h4
                  obtain ⟨h8, h9⟩ := and_t h4
                  cases r with
                  | cons _ _ => unfold ckEs at h7; cases h7
                  | nil => exact .of (e_sset G.calm (isGl_ok G h3) (free_b G "sorted" (by decide +kernel)) (isGl_ok G h6) (free_b G "set" (by decide +kernel)) ((ckE_ok S C a0 G h9).v rfl) (star_cons (show (!isStar u && true) = true by rw [h8]; rfl))) rfl
              · cases h2
            · cases h2
          · cases h
    · cases h
  | .comp elt tg it conds own, X, t, a, G, h => by
    unfold ckE at h
    split at h
    · rename_i ae at_ ai ifs sc ha
      obtain ⟨p, rfl⟩ := asComp_eq ha
      obtain ⟨h, h7⟩ := and_t h
      obtain ⟨h, h6⟩ := and_t h
      obtain ⟨h, h5⟩ := and_t h
      obtain ⟨h, h4⟩ := and_t h
      obtain ⟨h, h3⟩ := and_t h
      obtain ⟨h1, h2⟩ := and_t h
      have ok : BlkOk X.N X.env.scope sc (ownN S own) := by rw [G.N, G.sc]; exact blkOk_by h1
      have z := e_comp (p := p) G.calm G.nd (ckI_ok S C it G h4) ok (fun s H A cl fp => ckG_ok (G.blk s H sc A cl fp) tg h5)
        (fun s H A cl fp => ckC_ok (S.blk sc) C conds (G.blk s H sc A cl fp) h7) (fun s H A cl fp => (ckE_ok (S.blk sc) C elt (G.blk s H sc A cl fp) h6).v rfl) (notSet_fold (not_t h3)) (fun i hi => by
          rw [ownN_snd]
          exact natIn_ok (List.all_eq_true.mp h2 i hi))
      rw [ownN_snd] at z
      exact .of z rfl
    · cases h
theorem ckEs_ok (S : Sc) (C : Ora) : ∀ (es : IEs) {X : Cx} {xs : List Expr}, Good S C X → ckEs S xs es = true → PA X xs (tA X.K (evs C es)) ∧ noStar xs = true ∧ es.len = xs.length
  | .nil, X, xs, G, h => by
    unfold ckEs at h
    cases xs with
    | nil => exact ⟨a_nil, rfl, rfl⟩
    | cons _ _ => cases h
  | .cons a r, X, xs, G, h => by
    unfold ckEs at h
    cases xs with
    | nil => cases h
    | cons x xs =>
      obtain ⟨h, h3⟩ := and_t h
      obtain ⟨h1, h2⟩ := and_t h
      obtain ⟨j1, j2, j3⟩ := ckEs_ok S C r G h3
      have ns : noStar (x :: xs) = true := by
        show (!isStar x && noStar xs) = true
        rw [h1, j2]
        rfl
      exact ⟨a_cons ((ckE_ok S C a G h2).v rfl) j1 (star_cons ns), ns, congrArg Nat.succ j3⟩
theorem ckB_ok (S : Sc) (C : Ora) : ∀ (es : IEs) (k : Bool) {X : Cx} {t : Bool} {xs : List Expr}, Good S C X → ckB S t xs es = true →
    (t = false → ∀ p, PE X (.BoolOp (blO k) xs p) (tE X.K fun e => (evB C k es e).map fun x => (.v (.bl x.1), x.2))) ∧ (t = true → ∀ p, PW X (.BoolOp (blO k) xs p) (tT X.K (evB C k es)))
  | .nil, k, X, t, xs, G, h => by unfold ckB at h; cases h
  | .cons a r, k, X, t, xs, G, h => by
    unfold ckB at h
    cases xs with
    | nil => cases h
    | cons x xs =>
      obtain ⟨h1, h2⟩ := and_t h
      have hx := ckE_ok S C a G h1
      cases xs with
      | nil =>
        cases r with
        | cons _ _ => cases h2
        | nil =>
          rw [evB_one]
          refine ⟨fun z p => v_one (hx.v z), fun z p => ?_⟩
          cases k with
          | true => exact pw_and1 (hx.b z)
          | false => exact pw_or1 (hx.b z)
      | cons y xs =>
        have hr := ckB_ok S C r k G h2
        rw [evB_cons]
        cases k with
        | true => exact ⟨fun z p => v_and (hx.v z) (hr.1 z p), fun z p => w_and (hx.b z) (hr.2 z p)⟩
        | false => exact ⟨fun z p => v_or (hx.v z) (hr.1 z p), fun z p => w_or (hx.b z) (hr.2 z p)⟩
theorem ckC_ok (S : Sc) (C : Ora) : ∀ (es : IEs) {X : Cx} {xs : List Expr}, Good S C X → ckC S xs es = true → PTs X xs (tT X.K (evB C true es))
  | .nil, X, xs, G, h => by
    unfold ckC at h
    cases xs with
    | nil => exact pts_nil'
    | cons _ _ => cases h
  | .cons a r, X, xs, G, h => by
    unfold ckC at h
    obtain ⟨h1, h2⟩ := and_t h
    cases r with
    | cons _ _ => cases h1
    | nil =>
      split at h2
      · rw [evB_one]
        exact pts_one ((ckE_ok S C a G h2).b rfl)
      · cases h2
theorem ckO_ok (S : Sc) (C : Ora) : ∀ (o : IO) {X : Cx} {x : Option Expr}, Good S C X → ckO S x o = true → PO X x (tP X.K (evO C o))
  | .none, X, x, G, h => by
    unfold ckO at h
    cases x with
    | none => exact o_none
    | some _ => cases h
  | .some a, X, x, G, h => by
    unfold ckO at h
    cases x with
    | none => cases h
    | some x => exact o_some ((ckE_ok S C a G h).v rfl)
theorem ckI_ok (S : Sc) (C : Ora) : ∀ (it : IT) {X : Cx} {tg a : Expr}, Good S C X → ckI S tg a it = true → PI X tg a (tI X.K (evI C it))
  | .seq x, X, tg, a, G, h => i_seq ((ckE_ok S C x G (by unfold ckI at h; exact h)).v rfl)
  | .range es, X, tg, a, G, h => by
    unfold ckI at h
    split at h
    · rename_i x xs ha
      obtain ⟨p, q, rfl⟩ := asCall_eq ha
      obtain ⟨h, h5⟩ := and_t h
      obtain ⟨h, h4⟩ := and_t h
      obtain ⟨h, h3⟩ := and_t h
      obtain ⟨h1, h2⟩ := and_t h
      have e := seq_eq h1
      subst e
      obtain ⟨j1, j2, j3⟩ := ckEs_ok S C es G h5
      have hl : ∀ e os e', evs C es e = some (os, e') → os.length = xs.length := fun e os e' z => (evs_len es z).trans j3
      have hm := free_b G "range" (by decide +kernel)
      match xs, h3, h4, j1, j2, hl with
      | [], h3, _, _, _, _ => cases h3
      | [_], _, _, j1, j2, hl => exact i_range1 (isGl_ok G h2) hm j1 j2 hl
      | [_, _], _, _, j1, j2, hl => exact i_range2 (isGl_ok G h2) hm j1 j2 hl
      | [_, _, _], _, _, j1, j2, hl => exact i_range3 (isGl_ok G h2) hm j1 j2 hl
      | _ :: _ :: _ :: _ :: l, _, h4, _, _, _ => exact absurd (Nat.le_of_ble_eq_true h4) (by simp)
    · cases h
  | .enum x, X, tg, a, G, h => by
    unfold ckI at h
    split at h
    · rename_i es z y ht ha
      obtain ⟨k, p, rfl⟩ := asTup_eq ht
      obtain ⟨p, q, rfl⟩ := asCall_eq ha
      obtain ⟨h, h4⟩ := and_t h
      obtain ⟨h, h3⟩ := and_t h
      obtain ⟨h1, h2⟩ := and_t h
      have e := seq_eq h1
      subst e
      exact i_enum (isGl_ok G h2) (free_b G "enumerate" (by decide +kernel)) ((ckE_ok S C x G h4).v rfl) (by show (!isStar y && true) = true; rw [h3]; rfl)
    · cases h
  | .zip x y, X, tg, a, G, h => by
    unfold ckI at h
    split at h
    · rename_i es z u v ht ha
      obtain ⟨k, p, rfl⟩ := asTup_eq ht
      obtain ⟨p, q, rfl⟩ := asCall_eq ha
      obtain ⟨h, h6⟩ := and_t h
      obtain ⟨h, h5⟩ := and_t h
      obtain ⟨h, h4⟩ := and_t h
      obtain ⟨h, h3⟩ := and_t h
      obtain ⟨h1, h2⟩ := and_t h
      have e := seq_eq h1
      subst e
      exact i_zip (isGl_ok G h2) (free_b G "zip" (by decide +kernel)) ((ckE_ok S C x G h5).v rfl) ((ckE_ok S C y G h6).v rfl) (by show (!isStar u && (!isStar v && true)) = true; rw [h3, h4]; rfl)
    · cases h
end
end PV
set_option Elab.async false
set_option linter.all false
set_option maxRecDepth 100000
set_option maxHeartbeats 4000000
/-! The checker is right: statements. -/
namespace PV
open PySem PySem.Spec PyProof.Rows L2

def isFn (S : Sc) : Bool := match S.scope.kind with
  | .function => true
  | _ => false
/-- name = [..] on one line -/
def lcSwap (S : Sc) : Expr → Expr → Bool
  | .Name y py, .ListComp _ _ sc p => isK .local S y && (py.line == p.line) && !(sc.names.any fun q => seq q.1 y && (nkB q.2 .local || nkB q.2 .cell))
  | _, _ => false
def otherComp : Expr → Bool
  | .SetComp _ _ _ _ => true
  | .DictComp _ _ _ _ _ => true
  | _ => false
def isComp : Expr → Bool
  | .ListComp _ _ _ _ => true
  | .SetComp _ _ _ _ => true
  | .DictComp _ _ _ _ _ => true
  | _ => false
/-- the pair of a tuple of targets and a tuple of values that is no pair of swapped stores -/
def isCellT (S : Sc) : Expr → Bool
  | .Name y _ => isK .cell S y
  | _ => false
def noSwap (S : Sc) : Expr → Expr → Bool
  | .Tuple ts _ _, .Tuple vs _ _ => vs.all (foldedForSure 8) || ts.any (isCellT S)
  | .List _ _, _ => false
  | _, _ => true
def parT (S : Sc) (line : Nat) : List Expr → List Nat → Bool
  | [], [] => true
  | .Name y p :: r, i :: s => (match S.N[i]? with | some z => seq y z | none => false) && isK .local S y && (p.line == line) && parT S line r s
  | _, _ => false
def distinct : List Nat → Bool
  | [] => true
  | i :: r => !natIn r i && distinct r
def lineOf : List Expr → Nat
  | a :: _ => a.pos.line
  | [] => 0
def asAsg : Stmt → Option (Expr × Expr)
  | .Assign [t] v _ => some (t, v)
  | _ => none
def asMeth (m : Str) : Stmt → Option (Expr × Expr)
  | .Expr (.Call (.Attribute o x ap) [e] [] cp) _ => if seq x m = true ∧ (ap.endLine == cp.line) = true then some (o, e) else none
  | _ => none
def asMeth2 (m : Str) : Stmt → Option (Expr × Expr × Expr)
  | .Expr (.Call (.Attribute o x ap) [e, e2] [] cp) _ => if seq x m = true ∧ (ap.endLine == cp.line) = true then some (o, e, e2) else none
  | _ => none
def asSlc2 : Expr → Option (Expr × Expr)
  | .Slice (some lo) (some hi) none _ => some (lo, hi)
  | _ => none
mutual
def ckS (S : Sc) (s : Stmt) : IS → Bool
  | .asg tg a => (match asAsg s with
    | some (t, v) => if lcSwap S t v = true then (match tg, a with
        | .name i, .comp elt tg it conds own => (match asName t with
          | some y => (match S.N[i]? with | some z => seq y z | none => false) && ckE S false v (.comp elt tg it conds own)
          | none => false)
        | _, _ => false)
      else !otherComp v && !isStar t && noSwap S t v && ckG S t tg && ckE S false v a
    | none => false)
  | .par is es => (match asAsg s with
    | some (t, v) => (match asTup t, asTup v with
      | some ts, some vs => parT S (lineOf ts) ts is && distinct is && (Nat.beq is.length 2 || Nat.beq is.length 3) && Nat.beq vs.length is.length && !vs.all (foldedForSure 8) && !vs.all (constantsAlone 8) && ckEs S vs es
      | _, _ => false)
    | none => false)
  | .setI i k a => (match asAsg s with
    | some (t, v) => !isComp v && (match asSub t with
      | some (o, x) => ckV S o i && !isSlc x && ckE S false x k && ckE S false v a
      | none => false)
    | none => false)
  | .append i a => (match asMeth "append" s with
    | some (o, e) => ckV S o i && !isStar e && ckE S false e a
    | none => false)
  | .extend i a => (match asMeth "extend" s with
    | some (o, e) => ckV S o i && !isStar e && ckE S false e a
    | none => false)
  | .popAt i k => (match asMeth "pop" s with
    | some (o, e) => ckV S o i && !isStar e && ckE S false e k
    | none => false)
  | .insAt i es => (match asMeth2 "insert" s with
    | some (o, e, e2) => ckV S o i && ckEs S [e, e2] es
    | none => false)
  | .setSl i lo hi a => (match asAsg s with
    | some (t, v) => !isComp v && (match asSub t with
      | some (o, x) => (match asSlc2 x with
        | some (l, r) => ckV S o i && ckE S false l lo && ckE S false r hi && ckE S false v a
        | none => false)
      | none => false)
    | none => false)
  | .expr a => (match s with
    | .Expr e _ => !isComp e && ckE S false e a
    | _ => false)
  | .ret a => (match s with
    | .Return (some e) _ => ckE S false e a
    | _ => false)
  | .ife c a b => (match s with
    | .If d as bs _ => ckE S true d c && ckSs S as a && ckSs S bs b
    | _ => false)
  | .for_ tg it b => (match s with
    | .For t i bs [] _ => !isSet i && ckG S t tg && ckI S t i it && ckSs S bs b
    | _ => false)
  | .while_ c b => (match s with
    | .While d bs [] _ => ckE S true d c && ckSs S bs b
    | _ => false)
  | .brk => (match s with
    | .Break _ => true
    | _ => false)
  | .cont => (match s with
    | .Continue _ => true
    | _ => false)
  | .raise => true
def ckSs (S : Sc) (ss : List Stmt) : ISs → Bool
  | .nil => ss.isEmpty
  | .cons a r => (match ss with
    | s :: rest => ckS S s a && ckSs S rest r
    | [] => false)
end

section
variable {S : Sc} {C : Ora} {X : Cx} {a b c t v : Expr} {x y : Str} {f g h : Env → Option (Opd × Env)} {fs : Env → Option (List Opd × Env)} {es ts vs : List Expr} {p pos : Pos} {st : Stmt}
theorem isK_iff (G : Good S C X) {k : NameKind} : (X.env.kindOf x == some k) = isK k S x := by
  have e : X.env.kindOf x = kind S x := by
    show X.env.scope.names.lookup x = _
    rw [G.sc, lk_lookup]
    rfl
  rw [e]
  unfold isK
  cases kind S x with
  | none => rfl
  | some j => cases j <;> cases k <;> rfl
theorem seq_iff : (x == y) = seq x y := by
  cases h : seq x y with
  | true => rw [seq_eq h]; exact beq_self_eq_true _
  | false => exact seq_beq h
theorem blk_fn (G : Good S C X) (hk : isFn S = true) : (X.env.blockKind == ScopeKind.function) = true := by
  unfold Env.blockKind
  rw [G.sc]
  unfold isFn at hk
  split at hk
  · rename_i e
    rw [e]
    rfl
  · cases hk
theorem nk_local (k : NameKind) : (k == .local) = nkB k .local := by cases k <;> rfl
theorem nk_cell (k : NameKind) : (k == .cell) = nkB k .cell := by cases k <;> rfl
theorem swaps_is (G : Good S C X) (hk : isFn S = true) (ho : otherComp v = false) {line : Nat} : swapsWith v (some t) line X.env = pure (lcSwap S t v) := by
  cases v with
  | ListComp e gs sc p =>
    cases t with
    | Name y py =>
      show (pure _ : Sem Bool) = pure _
      rw [blk_fn G hk, isK_iff G]
      congr 1
      show (true && isK .local S y && (py.line == p.line) && !(sc.names.any fun q => q.1 == y && (q.2 == .local || q.2 == .cell))) = _
      rw [Bool.true_and]
      have : (sc.names.any fun q => q.1 == y && (q.2 == .local || q.2 == .cell)) = (sc.names.any fun q => seq q.1 y && (nkB q.2 .local || nkB q.2 .cell)) := by
        congr 1
        funext q
        rw [seq_iff, nk_local, nk_cell]
      rw [this]
      rfl
    | _ => rfl
  | SetComp _ _ _ _ => cases ho
  | DictComp _ _ _ _ _ => cases ho
  | _ => first | rfl | (cases t <;> rfl)
theorem filterMap_short {α β : Type} {f : α → Option β} : ∀ {l : List α} {a : α}, a ∈ l → f a = none → (l.filterMap f).length < l.length
  | [], _, h, _ => by cases h
  | b :: r, a, h, hf => by
    rcases List.mem_cons.mp h with z | z
    · subst z
      rw [List.filterMap_cons, hf, List.length_cons]
      exact Nat.lt_succ_of_le (List.length_filterMap_le _ _)
    · have ih := filterMap_short (f := f) z hf
      rw [List.filterMap_cons, List.length_cons]
      split
      · omega
      · rw [List.length_cons]; omega
theorem nk_cell_local {j : NameKind} (h : nkB j .cell = true) : nkB j .local = false := by cases j <;> first | rfl | cases h
theorem cell_not {k : Str} (G : Good S C X) (h : isK .cell S k = true) : (X.env.kindOf k == some .local) = false := by
  rw [isK_iff G]
  unfold isK at h ⊢
  cases hk : kind S k with
  | none => rfl
  | some j =>
    rw [hk] at h
    exact nk_cell_local h
theorem stores_none (G : Good S C X) (hn : noSwap S t v = true) : swappedStores [t] v X.env = pure none := by
  cases t with
  | Tuple ts k p =>
    cases v with
    | Tuple vs k2 p2 =>
      have hn : (vs.all (foldedForSure 8) || ts.any (isCellT S)) = true := hn
      rw [Bool.or_eq_true] at hn
      rcases hn with hn | hn
      · unfold swappedStores
        simp only [hn, if_true]
        repeat (first | rfl | split)
      · obtain ⟨a, ha, hc⟩ := List.any_eq_true.mp hn
        cases a with
        | Name y py =>
          have hy := cell_not G (show isK .cell S y = true from hc)
          unfold swappedStores
          dsimp only
          split
          · rfl
          · split
            · rfl
            · rw [if_pos]
              rw [Bool.or_eq_true]
              refine .inl ?_
              rw [bne_iff_ne]
              refine Nat.ne_of_lt (filterMap_short ha ?_)
              simp only [hy, Bool.false_and, if_false, Bool.false_eq_true]
        | _ => cases hc
    | _ => rfl
  | List _ _ => cases hn
  | _ => rfl
def starQ : Expr → Bool := fun | .Starred _ _ => true | _ => false
theorem isStar_any {a : Expr} (h : isStar a = false) : starQ a = false := by
  cases a <;> first | rfl | cases h
theorem loc_is (G : Good S C X) (h : isK .local S x = true) : (X.env.kindOf x == some .local) = true := by rw [isK_iff G]; exact h
theorem sw_par2 (G : Good S C X) (hk : isFn S = true) {px py pt pt2 : Pos} {kt k2 : Nat} (hx : isK .local S x = true) (hy : isK .local S y = true) (hl : (py.line == px.line) = true) (hxy : x ≠ y) (ha : isStar a = false) (hb : isStar b = false)
    (hf : [a, b].all (foldedForSure 8) = false) (hc : [a, b].all (constantsAlone 8) = false) : swappedStores [.Tuple [.Name x px, .Name y py] kt pt] (.Tuple [a, b] k2 pt2) X.env = pure (some [x, y]) := by
  have e1 := blk_fn G hk
  have ex := loc_is G hx
  have ey := loc_is G hy
  have eb : (X.env.blockKind != ScopeKind.function) = false := by rw [bne, e1]; rfl
  have s1 := isStar_any ha
  have s2 := isStar_any hb
  have nd : ([x, y].eraseDups.length != [x, y].length) = false := by
    have : (y == x) = false := by
      cases z : y == x with
      | false => rfl
      | true => exact absurd (eq_of_beq z).symm hxy
    simp [List.eraseDups, List.eraseDupsBy, List.eraseDupsBy.loop, this]
  unfold swappedStores
  simp only [Expr.pos, List.length_cons, List.length_nil, List.head?_cons, Option.map_some, Option.getD_some, List.filterMap_cons, List.filterMap_nil, ex, ey, hl, beq_self_eq_true, Bool.and_self, Bool.true_and, if_true, List.any_cons, List.any_nil, hf, hc, eb]
  rw [if_neg (by decide), if_neg (fun z => ?_), if_neg (fun z => ?_), if_neg (by decide), if_neg (by decide)]
  · have nd' : (0 + 1 + 1 != 0 + 1 + 1 || [x, y].eraseDups.length != 0 + 1 + 1) = false := nd
    rw [nd'] at z
    cases z
  · rw [Bool.or_eq_true, Bool.or_eq_true] at z
    rcases z with z | z | z
    · exact absurd (s1.symm.trans z) Bool.false_ne_true
    · exact absurd (s2.symm.trans z) Bool.false_ne_true
    · cases z
theorem sw_par3 (G : Good S C X) (hk : isFn S = true) {w : Str} {px py pw pt pt2 : Pos} {kt k2 : Nat} (hx : isK .local S x = true) (hy : isK .local S y = true) (hw : isK .local S w = true) (hl : (py.line == px.line) = true) (hl2 : (pw.line == px.line) = true) (hxy : x ≠ y) (hxw : x ≠ w) (hyw : y ≠ w)
    (ha : isStar a = false) (hb : isStar b = false) (hd : isStar c = false) (hf : [a, b, c].all (foldedForSure 8) = false) (hc : [a, b, c].all (constantsAlone 8) = false) :
    swappedStores [.Tuple [.Name x px, .Name y py, .Name w pw] kt pt] (.Tuple [a, b, c] k2 pt2) X.env = pure (some [x, y, w]) := by
  have e1 := blk_fn G hk
  have ex := loc_is G hx
  have ey := loc_is G hy
  have ew := loc_is G hw
  have eb : (X.env.blockKind != ScopeKind.function) = false := by rw [bne, e1]; rfl
  have s1 := isStar_any ha
  have s2 := isStar_any hb
  have s3 := isStar_any hd
  have nb : ∀ {u v : Str}, u ≠ v → (v == u) = false := fun {u v} h => by
    cases z : v == u with
    | false => rfl
    | true => exact absurd (eq_of_beq z).symm h
  have nd : ([x, y, w].eraseDups.length != [x, y, w].length) = false := by
    simp [List.eraseDups, List.eraseDupsBy, List.eraseDupsBy.loop, nb hxy, nb hxw, nb hyw]
  unfold swappedStores
  simp only [Expr.pos, List.length_cons, List.length_nil, List.head?_cons, Option.map_some, Option.getD_some, List.filterMap_cons, List.filterMap_nil, ex, ey, ew, hl, hl2, beq_self_eq_true, Bool.and_self, Bool.true_and, if_true, List.any_cons, List.any_nil, hf, hc, eb]
  rw [if_neg (by decide), if_neg (fun z => ?_), if_neg (fun z => ?_), if_neg (by decide), if_neg (by decide)]
  · have nd' : (0 + 1 + 1 + 1 != 0 + 1 + 1 + 1 || [x, y, w].eraseDups.length != 0 + 1 + 1 + 1) = false := nd
    rw [nd'] at z
    cases z
  · rw [Bool.or_eq_true, Bool.or_eq_true, Bool.or_eq_true] at z
    rcases z with z | z | z | z
    · exact absurd (s1.symm.trans z) Bool.false_ne_true
    · exact absurd (s2.symm.trans z) Bool.false_ne_true
    · exact absurd (s3.symm.trans z) Bool.false_ne_true
    · cases z
theorem asAsg_eq (h : asAsg st = some (t, v)) : ∃ p, st = .Assign [t] v p := by
  unfold asAsg at h
  split at h
  · cases h; exact ⟨_, rfl⟩
  · cases h
end
end PV
set_option Elab.async false
set_option linter.all false
set_option maxRecDepth 100000
set_option maxHeartbeats 4000000
/-! The checker is right: statements. -/
namespace PV
open PySem PySem.Spec PyProof.Rows L2
section
variable {S : Sc} {C : Ora} {X : Cx} {a b c t v : Expr} {x y : Str} {f g h : Env → Option (Opd × Env)} {fs : Env → Option (List Opd × Env)} {es ts vs : List Expr} {p pos : Pos} {st : Stmt}
theorem asMeth_eq {m : Str} (h : asMeth m st = some (a, b)) : ∃ ap cp p, st = .Expr (.Call (.Attribute a m ap) [b] [] cp) p ∧ (ap.endLine == cp.line) = true := by
  unfold asMeth at h
  split at h
  · split at h
    · rename_i z
      cases h
      rw [seq_eq z.1]
      exact ⟨_, _, _, rfl, z.2⟩
    · cases h
  · cases h
theorem asMeth2_eq {m : Str} (h : asMeth2 m st = some (a, b, c)) : ∃ ap cp p, st = .Expr (.Call (.Attribute a m ap) [b, c] [] cp) p ∧ (ap.endLine == cp.line) = true := by
  unfold asMeth2 at h
  split at h
  · split at h
    · rename_i z
      cases h
      rw [seq_eq z.1]
      exact ⟨_, _, _, rfl, z.2⟩
    · cases h
  · cases h
theorem asSlc2_eq (h : asSlc2 a = some (b, c)) : ∃ p, a = .Slice (some b) (some c) none p := by
  unfold asSlc2 at h
  split at h
  · cases h; exact ⟨_, rfl⟩
  · cases h
theorem distinct2 {i j : Nat} (h : distinct [i, j] = true) : i ≠ j := by
  rintro rfl
  have h : (!(Nat.beq i i || false) && (!false && true)) = true := h
  rw [Nat.beq_refl] at h
  cases h
theorem distinct3 {i j k : Nat} (h : distinct [i, j, k] = true) : i ≠ j ∧ i ≠ k ∧ j ≠ k := by
  have h : (!(Nat.beq i j || (Nat.beq i k || false)) && (!(Nat.beq j k || false) && (!false && true))) = true := h
  refine ⟨?_, ?_, ?_⟩
  · rintro rfl
    rw [Nat.beq_refl] at h
    cases h
  · rintro rfl
    rw [Nat.beq_refl, Bool.true_or, Bool.or_true] at h
    cases h
  · rintro rfl
    rw [Nat.beq_refl, Bool.true_or, Bool.not_true, Bool.false_and, Bool.and_false] at h
    cases h
theorem nd_ne {N : List Str} (nd : N.Nodup) {i j : Nat} (hi : N[i]? = some x) (hj : N[j]? = some y) (h : i ≠ j) : x ≠ y := by
  rintro rfl
  obtain ⟨h1, h2⟩ := List.getElem?_eq_some_iff.mp hi
  obtain ⟨h3, h4⟩ := List.getElem?_eq_some_iff.mp hj
  have nd' := List.pairwise_iff_getElem.mp nd
  rcases Nat.lt_or_gt_of_ne h with z | z
  · exact nd' i j h1 h3 z (h2.trans h4.symm)
  · exact nd' j i h3 h1 z (h4.trans h2.symm)
theorem parT_cons {line i : Nat} {is : List Nat} (G : Good S C X) (h : parT S line (t :: ts) (i :: is) = true) : ∃ y p, t = .Name y p ∧ X.N[i]? = some y ∧ isK .local S y = true ∧ (p.line == line) = true ∧ parT S line ts is = true := by
  cases t with
  | Name y p =>
    obtain ⟨h, h4⟩ := and_t (show ((match S.N[i]? with | some z => seq y z | none => false) && isK .local S y && (p.line == line) && parT S line ts is) = true from h)
    obtain ⟨h, h3⟩ := and_t h
    obtain ⟨h1, h2⟩ := and_t h
    split at h1
    · rename_i z hz
      rw [← seq_eq h1, ← G.N] at hz
      exact ⟨y, p, rfl, hz, h2, h3, h4⟩
    · cases h1
  | _ => cases h
theorem parT_len {line : Nat} : ∀ {ts : List Expr} {is : List Nat}, parT S line ts is = true → ts.length = is.length
  | [], [], _ => rfl
  | .Name y p :: r, i :: s, h => by
    obtain ⟨_, h⟩ := and_t (show ((match S.N[i]? with | some z => seq y z | none => false) && isK .local S y && (p.line == line) && parT S line r s) = true from h)
    exact congrArg Nat.succ (parT_len h)
  | [], _ :: _, h => by cases h
  | a :: _, [], h => by cases a <;> cases h
  | .BoolOp _ _ _ :: _, _ :: _, h => by cases h
  | .NamedExpr _ _ _ :: _, _ :: _, h => by cases h
  | .BinOp _ _ _ _ :: _, _ :: _, h => by cases h
  | .UnaryOp _ _ _ :: _, _ :: _, h => by cases h
  | .Lambda _ _ _ _ :: _, _ :: _, h => by cases h
  | .IfExp _ _ _ _ :: _, _ :: _, h => by cases h
  | .Dict _ _ _ :: _, _ :: _, h => by cases h
  | .Set _ _ _ :: _, _ :: _, h => by cases h
  | .ListComp _ _ _ _ :: _, _ :: _, h => by cases h
  | .SetComp _ _ _ _ :: _, _ :: _, h => by cases h
  | .DictComp _ _ _ _ _ :: _, _ :: _, h => by cases h
  | .GeneratorExp _ _ _ _ :: _, _ :: _, h => by cases h
  | .Await _ _ :: _, _ :: _, h => by cases h
  | .Yield _ _ :: _, _ :: _, h => by cases h
  | .YieldFrom _ _ :: _, _ :: _, h => by cases h
  | .Compare _ _ _ _ :: _, _ :: _, h => by cases h
  | .Call _ _ _ _ :: _, _ :: _, h => by cases h
  | .FormattedValue _ _ _ _ :: _, _ :: _, h => by cases h
  | .JoinedStr _ _ :: _, _ :: _, h => by cases h
  | .Constant _ _ _ :: _, _ :: _, h => by cases h
  | .Attribute _ _ _ :: _, _ :: _, h => by cases h
  | .Subscript _ _ _ :: _, _ :: _, h => by cases h
  | .Starred _ _ :: _, _ :: _, h => by cases h
  | .List _ _ :: _, _ :: _, h => by cases h
  | .Tuple _ _ _ :: _, _ :: _, h => by cases h
  | .Slice _ _ _ _ :: _, _ :: _, h => by cases h
theorem noComp_swap (h : isComp v = false) {o : Option Expr} {line : Nat} {env : PySem.Env} : swapsWith v o line env = pure false := by
  cases v with
  | ListComp _ _ _ _ => cases h
  | SetComp _ _ _ _ => cases h
  | DictComp _ _ _ _ _ => cases h
  | _ => rfl
theorem noComp_sole (h : isComp v = false) {line : Nat} {env : PySem.Env} : swapsWithSole [t] v line env = pure false := by
  cases v with
  | ListComp _ _ _ _ => cases h
  | SetComp _ _ _ _ => cases h
  | DictComp _ _ _ _ _ => cases h
  | _ => rfl
theorem sub_assign {o i : Expr} {env : PySem.Env} (h : isSlc i = false) : ∀ v, assign (.Subscript o i pos) env v = (do
      let ov ← holding [v] (eval o env)
      let iv ← holding [v, ov] (eval i env)
      standAt pos
      holding [v, ov, iv] (setItem ov iv v)
      release [v, ov, iv] []) := by
  intro v
  cases i <;> first | rfl | cases h
theorem sub_none {o i : Expr} {env : PySem.Env} : swappedStores [.Subscript o i pos] v env = pure none := by
  cases v <;> rfl
end
mutual
theorem ckS_ok (S : Sc) (C : Ora) (hk : isFn S = true) : ∀ (r : IS) {X : Cx} {s : Stmt}, Good S C X → PassesOwn (model X.prog X.w) X.A X.env X.xe → ckS S s r = true → PS X s (tS X.K (evS C r))
  | .asg tg a, X, s, G, hp, h => by
    unfold ckS at h
    split at h
    · rename_i t v hs
      obtain ⟨p, rfl⟩ := asAsg_eq hs
      split at h
      · rename_i hl
        split at h
        · rename_i i elt tg it conds own
          split at h
          · rename_i y hy
            obtain ⟨py, rfl⟩ := asName_eq hy
            obtain ⟨h1, h2⟩ := and_t h
            split at h1
            · rename_i z hz
              rw [← seq_eq h1, ← G.N] at hz
              unfold ckE at h2
              split at h2
              · rename_i ae at_ ai ifs sc ha
                obtain ⟨pv, rfl⟩ := asComp_eq ha
                obtain ⟨h2, h9⟩ := and_t h2
                obtain ⟨h2, h8⟩ := and_t h2
                obtain ⟨h2, h7⟩ := and_t h2
                obtain ⟨h2, h6⟩ := and_t h2
                obtain ⟨h2, h5⟩ := and_t h2
                obtain ⟨h3, h4⟩ := and_t h2
                have ok : BlkOk X.N X.env.scope sc (ownN S own) := by rw [G.N, G.sc]; exact blkOk_by h3
                have hloc : isK .local S y = true := (and_t (and_t (show (isK .local S y && (py.line == pv.line) && !(sc.names.any fun q => seq q.1 y && (nkB q.2 .local || nkB q.2 .cell))) = true from hl)).1).1
                have hsw : swapsWith (.ListComp ae [⟨at_, ai, ifs, 0⟩] sc pv) (some (.Name y py)) p.line X.env = pure true := by rw [swaps_is G hk rfl, hl]
                have z := ps_setLc (X := X) (te := tE X.K (ev C elt)) (tt := tT X.K (evB C true conds)) (g := tGv X.K tg.slots (store tg)) G.calm G.nd hz (isK_look G hloc) hsw (ckI_ok S C it G h6) ok (fun s H A cl fp => ckG_ok (G.blk s H sc A cl fp) tg h7)
                  (fun s H A cl fp => ckC_ok (S.blk sc) C conds (G.blk s H sc A cl fp) h9) (fun s H A cl fp => (ckE_ok (S.blk sc) C elt (G.blk s H sc A cl fp) h8).v rfl) (notSet_fold (not_t h5))
                refine s_asg z (f := ev C (.comp elt tg it conds own)) (tg := .name i) (fun σ H Q q => ?_) fun v σ H Q ⟨F, e, d, L, e', st, r, nd, dis, hf, q⟩ => ?_
                · have hv : ∀ i ∈ tg.slots, i ∈ (ownN S own).map (·.2) := fun i hi => by
                    rw [ownN_snd]
                    exact natIn_ok (List.all_eq_true.mp h4 i hi)
                  refine lc_imp hv ?_
                  rw [ownN_snd]
                  exact q
                · obtain ⟨F', gp⟩ := setVar_ok st r nd dis hf
                  exact q _ _ _ gp
              · cases h2
            · cases h1
          · cases h
        · cases h
      · rename_i hl
        obtain ⟨h, h5⟩ := and_t h
        obtain ⟨h, h4⟩ := and_t h
        obtain ⟨h, h3⟩ := and_t h
        obtain ⟨h1, h2⟩ := and_t h
        have hl' : lcSwap S t v = false := by cases z : lcSwap S t v with | false => rfl | true => exact absurd z hl
        have hsw : swapsWithSole [t] v p.line X.env = pure false := by
          show swapsWith v (some t) p.line X.env = _
          rw [swaps_is G hk (not_t h1), hl']
        exact s_asg (ps_asg ((ckE_ok S C a G h5).v rfl) (gv_drop (ckG_ok G tg h4)) hsw (stores_none G h3) (by rw [assign_cons (not_t h2)]; rfl)) (fun σ H Q q => q) fun v σ H Q q => q
    · cases h
  | .par is es, X, s, G, hp, h => by
    unfold ckS at h
    split at h
    · rename_i t v hs
      obtain ⟨p, rfl⟩ := asAsg_eq hs
      split at h
      · rename_i ts vs ht hv
        obtain ⟨k1, p1, rfl⟩ := asTup_eq ht
        obtain ⟨k2, p2, rfl⟩ := asTup_eq hv
        obtain ⟨h, h7⟩ := and_t h
        obtain ⟨h, h6⟩ := and_t h
        obtain ⟨h, h5⟩ := and_t h
        obtain ⟨h, h4⟩ := and_t h
        obtain ⟨h, h3⟩ := and_t h
        obtain ⟨h1, h2⟩ := and_t h
        obtain ⟨j1, j2, j3⟩ := ckEs_ok S C es G h7
        have l1 := parT_len h1
        have l2 := Nat.eq_of_beq_eq_true h4
        have nst : ∀ {a : Expr} {r : List Expr}, noStar (a :: r) = true → isStar a = false := fun {a r} z => not_t (and_t (show (!isStar a && noStar r) = true from z)).1
        match is, ts, vs, h1, h2, h3, l1, l2, j1, j2, h5, h6 with
        | [i, j], [t1, t2], [v1, v2], h1, h2, _, _, _, j1, j2, h5, h6 =>
          obtain ⟨y1, q1, rfl, n1, c1, e1, r1⟩ := parT_cons G h1
          obtain ⟨y2, q2, rfl, n2, c2, e2, r2⟩ := parT_cons G r1
          have hij := distinct2 h2
          exact s_par2 (fun ta hta => ps_par G.calm G.nd n1 n2 hij (isK_look G c1) (isK_look G c2) hta (sw_par2 G hk c1 c2 e2 (nd_ne G.nd n1 n2 hij) (nst j2) (nst (star_tail j2)) (not_t h5) (not_t h6))) j1
        | [i, j, k], [t1, t2, t3], [v1, v2, v3], h1, h2, _, _, _, j1, j2, h5, h6 =>
          obtain ⟨y1, q1, rfl, n1, c1, e1, r1⟩ := parT_cons G h1
          obtain ⟨y2, q2, rfl, n2, c2, e2, r2⟩ := parT_cons G r1
          obtain ⟨y3, q3, rfl, n3, c3, e3, r3⟩ := parT_cons G r2
          obtain ⟨hij, hik, hjk⟩ := distinct3 h2
          exact s_par3 (fun ta hta => ps_par3 G.calm G.nd n1 n2 n3 hij hik hjk (isK_look G c1) (isK_look G c2) (isK_look G c3) hta
            (sw_par3 G hk c1 c2 c3 e2 e3 (nd_ne G.nd n1 n2 hij) (nd_ne G.nd n1 n3 hik) (nd_ne G.nd n2 n3 hjk) (nst j2) (nst (star_tail j2)) (nst (star_tail (star_tail j2))) (not_t h5) (not_t h6))) j1
      · cases h
    · cases h
  | .setI i k a, X, s, G, hp, h => by
    unfold ckS at h
    split at h
    · rename_i t v hs
      obtain ⟨p, rfl⟩ := asAsg_eq hs
      obtain ⟨h0, h9⟩ := and_t h
      clear h
      split at h9
      · rename_i o x ho
        obtain ⟨q, rfl⟩ := asSub_eq ho
        obtain ⟨h, h4⟩ := and_t h9
        obtain ⟨h, h3⟩ := and_t h
        obtain ⟨h1, h2⟩ := and_t h
        obtain ⟨⟨w, pw, rfl⟩, hv⟩ := ckV_ok G h1
        exact s_setI (fun tv tk htv htk => ps_asg htv (pg_sub hv htk set_list (sub_assign (not_t h2))) (noComp_sole (not_t h0)) sub_none rfl) ((ckE_ok S C a G h4).v rfl) ((ckE_ok S C k G h3).v rfl)
      · cases h9
    · cases h
  | .append i a, X, s, G, hp, h => by
    unfold ckS at h
    split at h
    · rename_i o e hs
      obtain ⟨ap, cp, p, rfl, hl⟩ := asMeth_eq hs
      obtain ⟨h, h3⟩ := and_t h
      obtain ⟨h1, h2⟩ := and_t h
      obtain ⟨⟨w, pw, rfl⟩, hv⟩ := ckV_ok G h1
      have ns : noStar [e] = true := by show (!isStar e && true) = true; rw [h2]; rfl
      exact s_append (fun ta hta => ps_expr (pe_bm PySem.F.plainAttrs_list PySem.F.slot_list_append PySem.F.type_list_append mt_append hv hta rfl (by rw [star_cons ns]; rfl) hl (star_cons ns) rfl) rfl) ((ckE_ok S C a G h3).v rfl) ns
    · cases h
  | .extend i a, X, s, G, hp, h => by
    unfold ckS at h
    split at h
    · rename_i o e hs
      obtain ⟨ap, cp, p, rfl, hl⟩ := asMeth_eq hs
      obtain ⟨h, h3⟩ := and_t h
      obtain ⟨h1, h2⟩ := and_t h
      obtain ⟨⟨w, pw, rfl⟩, hv⟩ := ckV_ok G h1
      have ns : noStar [e] = true := by show (!isStar e && true) = true; rw [h2]; rfl
      exact s_extend (fun ta hta => ps_expr (pe_bm PySem.F.plainAttrs_list PySem.F.slot_list_extend PySem.F.type_list_extend mt_extend hv hta rfl (by rw [star_cons ns]; rfl) hl (star_cons ns) rfl) rfl) ((ckE_ok S C a G h3).v rfl) ns
    · cases h
  | .popAt i k, X, s, G, hp, h => by
    unfold ckS at h
    split at h
    · rename_i o e hs
      obtain ⟨ap, cp, p, rfl, hl⟩ := asMeth_eq hs
      obtain ⟨h, h3⟩ := and_t h
      obtain ⟨h1, h2⟩ := and_t h
      obtain ⟨⟨w, pw, rfl⟩, hv⟩ := ckV_ok G h1
      have ns : noStar [e] = true := by show (!isStar e && true) = true; rw [h2]; rfl
      exact s_popAt (fun ta hta => ps_expr (pe_bm PySem.F.plainAttrs_list PySem.F.slot_list_pop PySem.F.type_list_pop mt_popAt hv hta rfl (by rw [star_cons ns]; rfl) hl (star_cons ns) rfl) rfl) ((ckE_ok S C k G h3).v rfl) ns
    · cases h
  | .insAt i es, X, s, G, hp, h => by
    unfold ckS at h
    split at h
    · rename_i o e e2 hs
      obtain ⟨ap, cp, p, rfl, hl⟩ := asMeth2_eq hs
      obtain ⟨h1, h3⟩ := and_t h
      obtain ⟨⟨w, pw, rfl⟩, hv⟩ := ckV_ok G h1
      obtain ⟨j1, ns, j3⟩ := ckEs_ok S C es G h3
      have n1 := star_cons (env := X.env) ns
      have n2 := star_cons (env := X.env) (star_tail ns)
      exact s_insAt (fun ta hta => ps_expr (pe_bm PySem.F.plainAttrs_list PySem.F.slot_list_insert PySem.F.type_list_insert mt_insert hv hta rfl (by rw [n1, n2]; rfl) hl n1 (by rw [n2]; rfl)) rfl) j1
    · cases h
  | .setSl i lo hi a, X, s, G, hp, h => by
    unfold ckS at h
    split at h
    · rename_i t v hs
      obtain ⟨p, rfl⟩ := asAsg_eq hs
      obtain ⟨h0, h9⟩ := and_t h
      clear h
      split at h9
      · rename_i o x ho
        obtain ⟨q, rfl⟩ := asSub_eq ho
        split at h9
        · rename_i l r hx
          obtain ⟨q2, rfl⟩ := asSlc2_eq hx
          obtain ⟨h, h4⟩ := and_t h9
          obtain ⟨h, h3⟩ := and_t h
          obtain ⟨h1, h2⟩ := and_t h
          obtain ⟨⟨w, pw, rfl⟩, hv⟩ := ckV_ok G h1
          exact s_setSl (fun tv tl th htv htl hth => ps_asg htv (pg_slc hv (po_some htl) (po_some hth)) (noComp_sole (not_t h0)) sub_none rfl) ((ckE_ok S C a G h4).v rfl) ((ckE_ok S C lo G h2).v rfl) ((ckE_ok S C hi G h3).v rfl)
        · cases h9
      · cases h9
    · cases h
  | .expr a, X, s, G, hp, h => by
    unfold ckS at h
    split at h
    · obtain ⟨h1, h2⟩ := and_t h
      exact s_expr ((ckE_ok S C a G h2).v rfl) (noComp_swap (not_t h1))
    · cases h
  | .ret a, X, s, G, hp, h => by
    unfold ckS at h
    split at h
    · exact s_ret ((ckE_ok S C a G h).v rfl)
    · cases h
  | .ife c a b, X, s, G, hp, h => by
    unfold ckS at h
    split at h
    · obtain ⟨h, h3⟩ := and_t h
      obtain ⟨h1, h2⟩ := and_t h
      exact s_ife ((ckE_ok S C c G h1).b rfl) (ckSs_ok S C hk a G hp h2) (ckSs_ok S C hk b G hp h3)
    · cases h
  | .for_ tg it b, X, s, G, hp, h => by
    unfold ckS at h
    split at h
    · obtain ⟨h, h4⟩ := and_t h
      obtain ⟨h, h3⟩ := and_t h
      obtain ⟨h1, h2⟩ := and_t h
      exact s_for hp G.calm (ckI_ok S C it G h3) (gv_drop (ckG_ok G tg h2)) (ckSs_ok S C hk b G hp h4) (notSet_fold (not_t h1))
    · cases h
  | .while_ c b, X, s, G, hp, h => by
    unfold ckS at h
    split at h
    · obtain ⟨h1, h2⟩ := and_t h
      exact s_while hp ((ckE_ok S C c G h1).b rfl) (ckSs_ok S C hk b G hp h2)
    · cases h
  | .brk, X, s, G, hp, h => by
    unfold ckS at h
    split at h
    · exact s_brk
    · cases h
  | .cont, X, s, G, hp, h => by
    unfold ckS at h
    split at h
    · exact s_cont
    · cases h
  | .raise, X, s, G, hp, h => s_never
theorem ckSs_ok (S : Sc) (C : Ora) (hk : isFn S = true) : ∀ (r : ISs) {X : Cx} {ss : List Stmt}, Good S C X → PassesOwn (model X.prog X.w) X.A X.env X.xe → ckSs S ss r = true → PSs X ss (tS X.K (evSs C r))
  | .nil, X, ss, G, hp, h => by
    unfold ckSs at h
    cases ss with
    | nil => exact ss_nil
    | cons _ _ => cases h
  | .cons a r, X, ss, G, hp, h => by
    unfold ckSs at h
    cases ss with
    | nil => cases h
    | cons s rest =>
      obtain ⟨h1, h2⟩ := and_t h
      exact ss_cons (ckS_ok S C hk a G hp h1) (ckSs_ok S C hk r G hp h2)
end
end PV
set_option Elab.async false
set_option linter.all false
set_option maxRecDepth 100000
set_option maxHeartbeats 2000000
namespace PV
open PySem PySem.Spec PyProof.Rows L2
theorem zip_look : ∀ {ps : List Str} {us : List Value}, ps.Nodup → us.length = ps.length → ∀ x ∈ ps, ((ps.zip us).lookup x).isSome = true
  | [], _, _, _, x, h => by cases h
  | p :: ps, [], _, hl, _, _ => by cases hl
  | p :: ps, u :: us, nd, hl, x, h => by
    rw [List.zip_cons_cons, List.lookup_cons]
    cases z : x == p with
    | true => rfl
    | false =>
      have : x ∈ ps := (List.mem_cons.mp h).resolve_left fun e => by rw [e, beq_self_eq_true] at z; cases z
      exact zip_look (List.nodup_cons.mp nd).2 (by simpa using hl) x this
theorem zip_map : ∀ {ps : List Str} {us : List Value}, ps.Nodup → us.length = ps.length → ps.filterMap (fun n => ((ps.zip us).lookup n).map (n, ·)) = ps.zip us
  | [], [], _, _ => rfl
  | [], _ :: _, _, hl => by cases hl
  | p :: ps, [], _, hl => by cases hl
  | p :: ps, u :: us, nd, hl => by
    rw [List.zip_cons_cons, List.filterMap_cons]
    simp only [List.lookup_cons, beq_self_eq_true, Option.map_some]
    congr 1
    have hl' : us.length = ps.length := by simpa using hl
    have ih := zip_map (List.nodup_cons.mp nd).2 hl'
    have key : ∀ (qs : List Str), (∀ x ∈ qs, x ≠ p) → qs.filterMap (fun n => (match n == p with | true => some u | false => (ps.zip us).lookup n).map (n, ·)) = qs.filterMap (fun n => ((ps.zip us).lookup n).map (n, ·)) := by
      intro qs hq
      induction qs with
      | nil => rfl
      | cons q qs ih =>
        have z : (q == p) = false := by
          cases z : q == p with
          | false => rfl
          | true => exact absurd (eq_of_beq z) (hq q List.mem_cons_self)
        rw [List.filterMap_cons, List.filterMap_cons, z, ih fun x hx => hq x (List.mem_cons_of_mem _ hx)]
    exact (key ps fun x hx e => (List.nodup_cons.mp nd).1 (e ▸ hx)).trans ih
theorem bind_plain {fd : FuncData} {ps : List Str} {us : List Value} (h1 : fd.params.posonlyargs = []) (h2 : fd.params.kwonlyargs = []) (h3 : fd.params.vararg = none) (h4 : fd.params.kwarg = none) (h5 : fd.params.args.map (·.arg) = ps) (h6 : fd.defaults = .none) (nd : ps.Nodup) (hl : us.length = ps.length) : bindArgs fd ⟨us, []⟩ = pure (ps.zip us) := by
  unfold bindArgs
  simp only [h1, h2, h3, h4, h5, h6, List.map_nil, List.nil_append, List.append_nil, List.forIn_nil]
  have hs : seqItems? .none = pure none := rfl
  simp only [hs, pure_bind, Option.getD_none, List.drop_nil, List.length_nil, Nat.sub_zero, List.drop_length, List.take_length, List.zip_nil_left, List.forIn_nil]
  have c2 : ps.filter (fun n => ((ps.zip us).lookup n).isNone) = [] := List.filter_eq_nil_iff.mpr fun x hx => by
    have := zip_look nd hl x hx
    cases z : (ps.zip us).lookup x with
    | none => rw [z] at this; cases this
    | some v => simp
  rw [c2, if_neg (by rw [hl]; simp), if_neg (by simp), if_neg (by simp), zip_map nd hl]

/-! ### a def of the table -/
structure Df where
  gname : Str
  name : Str
  st : Stmt
  N : List Str
  ix : Nat
  fn : Fn
def strNodup : List Str → Bool
  | [] => true
  | x :: r => !(r.any fun y => seq x y) && strNodup r
theorem strNodup_ok : ∀ {l : List Str}, strNodup l = true → l.Nodup
  | [], _ => .nil
  | x :: r, h => by
    obtain ⟨h1, h2⟩ := and_t (show (!(r.any fun y => seq x y) && strNodup r) = true from h)
    refine List.nodup_cons.mpr ⟨fun z => ?_, strNodup_ok h2⟩
    have : (r.any fun y => seq x y) = true := List.any_eq_true.mpr ⟨x, z, seq_refl x⟩
    rw [this] at h1
    cases h1
def strsEq : List Str → List Str → Bool
  | [], [] => true
  | x :: r, y :: s => seq x y && strsEq r s
  | _, _ => false
theorem strsEq_ok : ∀ {a b : List Str}, strsEq a b = true → a = b
  | [], [], _ => rfl
  | x :: r, y :: s, h => by
    obtain ⟨h1, h2⟩ := and_t (show (seq x y && strsEq r s) = true from h)
    rw [seq_eq h1, strsEq_ok h2]
  | [], _ :: _, h => by cases h
  | _ :: _, [], h => by cases h
def argsC (a : Arguments) (ps : List Str) : Bool := match a with
  | ⟨[], as, none, [], _, none, _⟩ => strsEq (as.map (·.arg)) ps
  | _ => false
def Df.sc (d : Df) (defs : List (Str × Nat × Nat × Bool)) (glo : List (Str × Int)) : Sc := ⟨d.N, defScope d.st, fun _ => true, defs, glo⟩
def ckDf (defs : List (Str × Nat × Nat × Bool)) (glo : List (Str × Int)) (d : Df) : Bool :=
  isFn (d.sc defs glo) && !(defScope d.st).isCoroutine && !(defScope d.st).isGenerator && strNodup d.N && Nat.ble d.fn.np d.N.length && ((d.N.take d.fn.np).all fun x => isK .local (d.sc defs glo) x || isK .cell (d.sc defs glo) x) &&
    ((defScope d.st).names.all fun y => !nkB y.2 .free) && argsC (defArgs d.st) (d.N.take d.fn.np) && Nat.beq d.fn.ns d.N.length && ckSs (d.sc defs glo) (defBody d.st) d.fn.body
structure DfOk (defs : List (Str × Nat × Nat × Bool)) (glo : List (Str × Int)) (d : Df) : Prop where
  fn : isFn (d.sc defs glo) = true
  sc : FnScope d.N (d.N.take d.fn.np) (defScope d.st)
  len : (d.N.take d.fn.np).length = d.fn.np
  pos : (defArgs d.st).posonlyargs = []
  kwo : (defArgs d.st).kwonlyargs = []
  var : (defArgs d.st).vararg = none
  kwa : (defArgs d.st).kwarg = none
  args : (defArgs d.st).args.map (·.arg) = d.N.take d.fn.np
  ns : d.fn.ns = d.N.length
  body : ckSs (d.sc defs glo) (defBody d.st) d.fn.body = true
theorem isK_look' {S : Sc} {k : NameKind} {x : Str} (h : isK k S x = true) : S.scope.names.lookup x = some k := by
  rw [lk_lookup]
  unfold isK kind at h
  split at h
  · rename_i j hj
    rw [hj, nkB_eq h]
  · cases h
theorem ckDf_ok {defs : List (Str × Nat × Nat × Bool)} {glo : List (Str × Int)} {d : Df} (h : ckDf defs glo d = true) : DfOk defs glo d := by
  unfold ckDf at h
  obtain ⟨h, h10⟩ := and_t h
  obtain ⟨h, h9⟩ := and_t h
  obtain ⟨h, h8⟩ := and_t h
  obtain ⟨h, h7⟩ := and_t h
  obtain ⟨h, h6⟩ := and_t h
  obtain ⟨h, h5⟩ := and_t h
  obtain ⟨h, h4⟩ := and_t h
  obtain ⟨h, h3⟩ := and_t h
  obtain ⟨h1, h2⟩ := and_t h
  have hnp := Nat.le_of_ble_eq_true h5
  have hl : (d.N.take d.fn.np).length = d.fn.np := by rw [List.length_take]; omega
  have ha : (defArgs d.st).posonlyargs = [] ∧ (defArgs d.st).kwonlyargs = [] ∧ (defArgs d.st).vararg = none ∧ (defArgs d.st).kwarg = none ∧ (defArgs d.st).args.map (·.arg) = d.N.take d.fn.np := by
    generalize defArgs d.st = a at h8
    unfold argsC at h8
    split at h8
    · exact ⟨rfl, rfl, rfl, rfl, strsEq_ok h8⟩
    · cases h8
  refine ⟨h1, ⟨?_, not_t h2, not_t h3, strNodup_ok h4, by rw [hl], fun x hx => ?_, fun y hy e => ?_⟩, hl, ha.1, ha.2.1, ha.2.2.1, ha.2.2.2.1, ha.2.2.2.2, Nat.eq_of_beq_eq_true h9, h10⟩
  · unfold isFn at h1
    split at h1
    · rename_i e; exact e
    · cases h1
  · have := List.all_eq_true.mp h6 x hx
    rw [Bool.or_eq_true] at this
    rcases this with z | z
    · exact .inl (isK_look' z)
    · exact .inr (isK_look' z)
  · have := List.all_eq_true.mp h7 y hy
    rw [e] at this
    cases this

/-! ### its body -/
section
variable {P : Program} {w : World} {K : PySem.W.Frag} {mg : Str → Option Value} {base : Heap} {F F' : Addr → Prop} {H H' : Hp}
theorem start_at {N : List Str} {vs : List V} {i : Nat} (h : i < vs.length) : (L2.start N vs)[i]? = (vs[i]?).map some := by
  unfold L2.start
  rw [List.getElem?_append_left (by simpa using h), List.getElem?_map]
theorem env_at {ds : List D} {k i : Nat} {d : D} (h : (ds.map some ++ List.replicate k none)[i]? = some (some d)) : ds[i]? = some d := by
  by_cases hi : i < ds.length
  · rw [List.getElem?_append_left (by simpa using hi), List.getElem?_map] at h
    cases e : ds[i]? with
    | none => rw [e] at h; cases h
    | some x =>
      rw [e] at h
      have : some x = some d := Option.some.inj h
      exact this
  · rw [List.getElem?_append_right (by simpa using hi), List.getElem?_replicate] at h
    split at h <;> cases h
theorem reps_at {io : Bool} {ds : List D} {vs : List V} {L : List Addr} (r : Reps K F H ds vs L) (hl : L.length = (if io = true then 1 else 0)) (ha : argsOk io ds = true) :
    (∀ (i : Nat) (d : D), ds[i]? = some d → ∃ v M, vs[i]? = some v ∧ Rep K F H d v M ∧ ((d.isOwn = true ∧ i = 0 ∧ io = true ∧ M = L) ∨ (d.isOwn = false ∧ M = []))) := by
  cases io with
  | false =>
    have hL : L = [] := List.length_eq_zero_iff.mp hl
    subst hL
    intro i d hd
    obtain ⟨v, h1, h2⟩ := r.all0 i d hd
    have := List.all_eq_true.mp (show (ds.all fun d => !d.isOwn) = true from by cases ds <;> exact ha) d (List.mem_of_getElem? hd)
    exact ⟨v, [], h1, h2, .inr ⟨not_t this, rfl⟩⟩
  | true =>
    cases ds with
    | nil => cases ha
    | cons d0 ds =>
      cases d0 with
      | io l =>
        cases r with
        | @cons _ v0 _ vs L1 L2 r t =>
          have ha : (ds.all fun d => !d.isOwn) = true := ha
          obtain ⟨a, xs, rfl, rfl, _⟩ := r.own_shape rfl
          have hl : (a :: L2).length = 1 := hl
          have hL : L2 = [] := List.length_eq_zero_iff.mp (by simpa using hl)
          subst hL
          intro i d hd
          cases i with
          | zero =>
            cases hd
            exact ⟨.ref a, [a], rfl, r, .inl ⟨rfl, rfl, rfl, rfl⟩⟩
          | succ i =>
            obtain ⟨v, h1, h2⟩ := t.all0 i d (by simpa using hd)
            have := List.all_eq_true.mp ha d (List.mem_of_getElem? (by simpa using hd : ds[i]? = some d))
            exact ⟨v, [], by simpa using h1, h2, .inr ⟨not_t this, rfl⟩⟩
      | _ => cases ha

theorem fin_body {io : Bool} {np : Nat} {N : List Str} {ds : List D} {vs : List V} {L : List Addr} {o : Out} {d : D} {l' : List D} {Q : VK} (wf : WF F H) (r : Reps K F H ds vs L) (hl : L.length = (if io = true then 1 else 0)) (ha : argsOk io ds = true) (hn : ds.length ≤ N.length)
    (ho : (match o with | .nx e => some (D.non, ioOut io e) | .rt d e => some (d, ioOut io e) | _ => none) = some (d, l')) (q : ∀ F' H' v L', CPost K F H ds vs L F' H' d l' v L' → Q v H') :
    Sta K F H (L2.start N vs) (ds.map some ++ List.replicate (N.length - ds.length) none) ∧ Fin K { nx := fun _ H' => Q .non H', rt := Q } F H (L2.start N vs) (ds.map some ++ List.replicate (N.length - ds.length) none) o := by
  have rl := r.length
  have at0 := reps_at r hl ha
  have slot : ∀ {i : Nat} {d : D}, (ds.map some ++ List.replicate (N.length - ds.length) none)[i]? = some (some d) → ∃ v M, (L2.start N vs)[i]? = some (some v) ∧ vs[i]? = some v ∧ Rep K F H d v M ∧ ((d.isOwn = true ∧ i = 0 ∧ io = true ∧ M = L) ∨ (d.isOwn = false ∧ M = [])) := fun {i d} h => by
    obtain ⟨v, M, h1, h2, h3⟩ := at0 i d (env_at h)
    have hi : i < vs.length := at_len h1
    exact ⟨v, M, by rw [start_at hi, h1]; rfl, h1, h2, h3⟩
  have st : Sta K F H (L2.start N vs) (ds.map some ++ List.replicate (N.length - ds.length) none) := by
    refine ⟨wf, ?_, fun i d h => ?_, fun i j a ⟨d, h1, h2, h3⟩ ⟨d', h1', h2', h3'⟩ => ?_⟩
    · unfold L2.start
      simp [rl]
    · obtain ⟨v, M, h1, _, h2, h3⟩ := slot h
      exact ⟨v, M, h1, h2, h3.elim (fun z => .inl z.1) fun z => .inr z.2⟩
    · obtain ⟨v, M, _, _, _, k3⟩ := slot h1
      obtain ⟨v', M', _, _, _, k3'⟩ := slot h1'
      have e1 : i = 0 := k3.elim (fun z => z.2.1) fun z => by rw [h2] at z; cases z.1
      have e2 : j = 0 := k3'.elim (fun z => z.2.1) fun z => by rw [h2'] at z; cases z.1
      rw [e1, e2]
  refine ⟨st, ?_⟩
  have ownL : ∀ a, Own (L2.start N vs) (ds.map some ++ List.replicate (N.length - ds.length) none) a → a ∈ L := fun a ⟨i, d, h1, h2, h3⟩ => by
    obtain ⟨v, M, k1, _, k2, k3⟩ := slot h1
    rw [h3] at k1
    cases k1
    rcases k3 with ⟨_, _, _, rfl⟩ | ⟨z, _⟩
    · obtain ⟨b, xs, eb, eL, _⟩ := k2.own_shape h2
      cases eb
      rw [eL]
      exact List.mem_cons_self
    · rw [h2] at z; cases z
  have ext : ∀ {F' : Addr → Prop} {H' : Hp} {σ' : L2.St} {e' : Env}, SPost K F H (L2.start N vs) (ds.map some ++ List.replicate (N.length - ds.length) none) F' H' σ' e' → Ext (· ∈ L) F H F' H' := fun x => x.ext.grow (fun c hc => hc.elim (ownL c) fun z => nomatch z) fun c hc => r.ownOk hc
  -- the list that was handed in
  have ioR : ∀ {F' : Addr → Prop} {H' : Hp} {σ' : L2.St} {e' : Env}, SPost K F H (L2.start N vs) (ds.map some ++ List.replicate (N.length - ds.length) none) F' H' σ' e' → ∀ l r a, ds = .io l :: r → vs[0]? = some (.ref a) → Rep K F' H' (.io (ioOut io e')) (.ref a) [a] ∧ Own σ' e' a := fun {F' H' σ' e'} x l r a hd hv => by
    have hio : io = true := by
      cases io with
      | true => rfl
      | false => rw [hd] at ha; cases ha
    have he : (ds.map some ++ List.replicate (N.length - ds.length) none)[0]? = some (some (.io l)) := by rw [hd]; rfl
    obtain ⟨⟨m, hm⟩, hs⟩ := x.io 0 l he
    have hs0 : (L2.start N vs)[0]? = some (some (.ref a)) := by rw [start_at (at_len hv), hv]; rfl
    rw [hs0] at hs
    obtain ⟨v, M, h1, h2, _⟩ := x.sta.val 0 _ hm
    rw [hs] at h1
    cases h1
    obtain ⟨b, xs, eb, eM, _⟩ := h2.own_shape rfl
    cases eb
    subst eM hio
    have : ioOut true e' = m := by unfold ioOut; rw [hm]
    rw [this]
    exact ⟨h2, 0, _, hm, rfl, hs⟩
  cases o with
  | nx e' =>
    cases ho
    exact fun F' H' σ' x => q F' H' .non [] ⟨ext x, .non, .nil, (fun _ z => nomatch z), fun l r a hd hv => (ioR x l r a hd hv).1⟩
  | rt d0 e' =>
    cases ho
    refine fun F' H' σ' v L' x => q F' H' v L' ⟨ext x.post, x.rep, x.nd, fun a ha' => ?_, fun l r a hd hv => (ioR x.post l r a hd hv).1⟩
    rcases x.new a ha' with z | ⟨i, d1, h1, h2, h3⟩
    · exact z
    · exfalso
      obtain ⟨v1, M, k1, k2, k4, k3⟩ := slot h1
      rw [h3] at k1
      cases k1
      rcases k3 with ⟨_, rfl, rfl, rfl⟩ | ⟨z, _⟩
      · cases ds with
        | nil => cases ha
        | cons d0 r0 =>
          cases d0 with
          | io l => exact x.dis a ha' (ioR x.post l r0 a rfl k2).2
          | _ => cases ha
      · rw [h2] at z; cases z
  | bk e' => cases ho
  | ct e' => cases ho
end
/-! ### each def keeps its promise -/
section
variable {P : Program} {w : World} {K : PySem.W.Frag} {mg : Str → Option Value} {base : Heap} {defs : List (Str × Nat × Nat × Bool)} {glo : List (Str × Int)} {d : Df} {f : Addr} {fd : FuncData} {C : Ora} {n : Nat}
abbrev FnP (K : PySem.W.Frag) (d : Df) (f : Addr) (fd : FuncData) : Prop := FunD K d.name d.name (defArgs d.st) (defBody d.st) (defScope d.st) [] [] f fd
theorem fnP_bind (k : DfOk defs glo d) (F : FnP K d f fd) : Binds K fd (d.N.take d.fn.np) [] := FunD.bindsN F fun kV doc pm an cdv ct us hl => bind_plain (ps := d.N.take d.fn.np) k.pos k.kwo k.var k.kwa k.args rfl (k.sc.nd.sublist (List.take_sublist _ _)) hl
theorem df_ok (k : DfOk defs glo d) (F : FnP K d f fd) (free : ∀ x ∈ bNames, mg x = none) (hglo : ∀ x i, (x, i) ∈ glo → ∃ u, mg x = some u ∧ RelV (.int i) u)
    (hdefs : ∀ x i np io, (x, i, np, io) ∈ defs → ∃ fa fd ps, FnOk P w K mg base CX0 n fa fd ps (spF K np io (C i)) ∧ mg x = some (.ref fa) ∧ PySem.W.keepIn K (.ref fa) = true ∧ Binds K fd ps []) :
    FnOk P w K mg base CX0 (n + 1) f fd (d.N.take d.fn.np) (spF K d.fn.np d.fn.io (runFn C d.fn)) := by
  refine FunD.ok F k.sc (fun vs H Q E ⟨_, _, _, _, _, _, h, _⟩ => h.trans k.len.symm) fun cdv A outer s H vs Q E hr h => ?_
  obtain ⟨F0, ds, L, d0, l', wf, hvl, rp, hL, hA, hc, q⟩ := h
  have G : Good (d.sc defs glo) C (cxOf CX0 P w K mg base d.N d.name (defScope d.st) f cdv A outer s H E).nox :=
    ⟨rfl, rfl, k.sc.nd, rfl, fun _ _ => rfl, by have := hr.un; show (A.deeper _).units + 65 < cLine; omega, free, hglo, fun x i np io hm => by
      obtain ⟨fa, fd, ps, h1, h2, h3, h4⟩ := hdefs x i np io hm
      exact ⟨n, fa, fd, ps, h1, hr, h2, h3, h4⟩⟩
  refine ⟨_, PSs.nox (ckSs_ok (d.sc defs glo) C k.fn d.fn.body G PassesOwn.never k.body), ?_⟩
  unfold runFn at hc
  split at hc
  · rename_i hc1
    obtain ⟨e1, e2, e3⟩ := hc1
    obtain ⟨o, h1, h2⟩ := Option.bind_eq_some_iff.mp hc
    rw [k.ns, ← e1] at h1
    obtain ⟨st, fin⟩ := fin_body (N := d.N) (np := d.fn.np) wf rp hL hA (by rw [e1, ← k.ns]; exact e2) h2 q
    exact ⟨F0, _, o, st, h1, fin⟩
  · cases hc
/-- the table's defs by name -/
def tabN (Ds : List Df) : List (Str × Nat × Nat × Bool) := Ds.map fun d => (d.gname, d.ix, d.fn.np, d.fn.io)
structure Wld (P : Program) (K : PySem.W.Frag) (mg : Str → Option Value) (glo : List (Str × Int)) (U : Nat → Option Fn) (Ds : List Df) : Prop where
  ck : ∀ d ∈ Ds, ckDf (tabN Ds) glo d = true
  tab : ∀ d ∈ Ds, U d.ix = some d.fn
  fun_ : ∀ d ∈ Ds, ∃ fd, FnP K d (He.ga K d.gname) fd
  at_ : ∀ d ∈ Ds, mg d.gname = some (.ref (He.ga K d.gname))
  free : ∀ x ∈ bNames, mg x = none
  glo : ∀ x i, (x, i) ∈ glo → ∃ u, mg x = some u ∧ RelV (.int i) u
variable {U : Nat → Option Fn}
theorem all_ok {Ds : List Df} (W : Wld P K mg glo U Ds) : ∀ (n : Nat) (d : Df) (fd : FuncData), d ∈ Ds → FnP K d (He.ga K d.gname) fd → FnOk P w K mg base CX0 n (He.ga K d.gname) fd (d.N.take d.fn.np) (spF K d.fn.np d.fn.io (runs U n d.ix))
  | 0, d, fd, hd, F => .mk (fun vs H Q E ⟨_, _, _, _, _, _, _, _, _, _, h, _⟩ => nomatch h) (fun A outer s H args us vs Q E _ _ _ _ ⟨_, _, _, _, _, _, _, _, _, _, h, _⟩ => nomatch h)
  | n + 1, d, fd, hd, F => by
    have k := ckDf_ok (W.ck d hd)
    have e : runs U (n + 1) d.ix = runFn (runs U n) d.fn := by
      funext ds
      show (U d.ix).bind _ = _
      rw [W.tab d hd]
      rfl
    rw [e]
    refine df_ok k F W.free W.glo fun x j np io hm => ?_
    obtain ⟨d', h1, h2⟩ := List.mem_map.mp hm
    cases h2
    obtain ⟨fd', F'⟩ := W.fun_ d' h1
    exact ⟨_, fd', _, all_ok W n d' fd' h1 F', W.at_ d' h1, F'.kp, fnP_bind (ckDf_ok (W.ck d' h1)) F'⟩
theorem sqs_of {H : Hp} {a : Addr} {ns : List Int} (h : SqL K H a (ns.map V.int)) (o : Only H) : SqS K H a ns := by
  rcases h with h | h
  · rcases h with h | ⟨o', h⟩
    · rcases o a with z | ⟨o2, xs, z⟩
      · rw [z] at h; cases h
      · rw [z] at h; cases h
    · exact .inl ⟨o', h⟩
  · exact .inr h
/-- the law's def: the pure law says True -/
theorem law_of {Ds : List Df} (W : Wld P K mg glo U Ds) {n : Nat} {d : Df} (hd : d ∈ Ds) (hnp : d.fn.np = 1) (hio : d.fn.io = false) (hN : d.N.take 1 = [("script" : Str)])
    (law : ∀ ns : List Int, ns.length ≤ 63 → ∃ l, runs U n d.ix [.scr ns] = some (.bl true, l)) :
    ∃ (fd : FuncData) (sp : Sp), (∀ (s : Shared) (u : Value), BindsTo s fd ⟨[u], []⟩ [(("script" : Str), u)]) ∧
        (∀ (H : Hp) (a : Addr) (ns : List Int), ns.length ≤ 63 → Only H → SqL K H a (ns.map V.int) → sp [.ref a] H (fun v _ => v = .bl true) fun _ _ _ => False) ∧
        ∀ base : Heap, FnOk P w K mg base CX0 n (He.ga K d.gname) fd [("script" : Str)] sp := by
  obtain ⟨fd, F⟩ := W.fun_ d hd
  have k := ckDf_ok (W.ck d hd)
  have eps : d.N.take d.fn.np = [("script" : Str)] := by rw [hnp]; exact hN
  refine ⟨fd, spF K d.fn.np d.fn.io (runs U n d.ix), fun s u => ?_, fun H a ns hl ho hs => ?_, fun base => ?_⟩
  · have b := FunD.bindsA (ps := [("script" : Str)]) F (fun kV doc pm an cdv ct us hl => bind_plain (ps := [("script" : Str)]) k.pos k.kwo k.var k.kwa (k.args.trans eps) rfl (by simp) hl) s [u] rfl
    exact b
  · obtain ⟨l, hr⟩ := law ns hl
    refine ⟨fun _ => False, [.scr ns], [], .bl true, l, (fun _ z => z.elim), by rw [hnp]; rfl, .cons (L1 := []) (L2 := []) (.scr (sqs_of hs ho)) .nil, by rw [hio]; rfl, by rw [hio]; rfl, hr, fun F' H' v L' cp => ?_⟩
    have := cp.rep
    cases this
    rfl
  · have := all_ok (w := w) (base := base) W n d fd hd F
    rw [eps] at this
    exact this
end
end PV
set_option Elab.async false
set_option linter.all false
set_option maxRecDepth 100000
set_option maxHeartbeats 0
/-! The functions of the program and of the laws, in the small language (printed by gen.py). -/
namespace PV
open PySem
/-- is_integer: value low high -/
def f0 : Fn := ⟨3, 3, false, (.cons (.ret (.boolop true (.cons (.blt .isInt (.cons (.var 0) .nil)) (.cons (.not (.blt .isBool (.cons (.var 0) .nil))) (.cons (.chain .le .le (.var 1) (.var 0) (.var 2)) .nil))))) .nil)⟩
/-- is_pair: value first second -/
def f1 : Fn := ⟨3, 3, false, (.cons (.ife (.boolop false (.cons (.not (.blt .isTup (.cons (.var 0) .nil))) (.cons (.cmp .ne (.blt .len (.cons (.var 0) .nil)) (.int 2)) .nil))) (.cons (.ret (.bl false)) .nil) .nil) (.cons (.ret (.boolop true (.cons (.call 0 (.cons (.idx (.var 0) (.int 0)) (.cons (.idx (.var 1) (.int 0)) (.cons (.idx (.var 1) (.int 1)) .nil)))) (.cons (.call 0 (.cons (.idx (.var 0) (.int 1)) (.cons (.idx (.var 2) (.int 0)) (.cons (.idx (.var 2) (.int 1)) .nil)))) .nil)))) .nil))⟩
/-- are_bands: value one other band -/
def f2 : Fn := ⟨1, 4, false, (.cons (.ife (.boolop false (.cons (.not (.blt .isTup (.cons (.var 0) .nil))) (.cons (.not (.chain .le .le (.int 1) (.blt .len (.cons (.var 0) .nil)) (.glo (Str.ofString "MAX_BANDS") (5)))) .nil))) (.cons (.ret (.bl false)) .nil) .nil) (.cons (.ife (.boolop false (.cons (.not (.blt .all (.cons (.comp (.call 1 (.cons (.var 3) (.cons (.tup (.cons (.int 0) (.cons (.glo (Str.ofString "MAX_START") (1000000)) .nil))) (.cons (.tup (.cons (.int 0) (.cons (.glo (Str.ofString "MAX_RATE") (100)) .nil))) .nil)))) (.name 3) (.seq (.var 0)) .nil [3]) .nil))) (.cons (.cmp .ne (.idx (.idx (.var 0) (.int 0)) (.int 0)) (.int 0)) .nil))) (.cons (.ret (.bl false)) .nil) .nil) (.cons (.ret (.blt .all (.cons (.comp (.cmp .lt (.idx (.var 1) (.int 0)) (.idx (.var 2) (.int 0))) (.tup [(.name 1), (.name 2)]) (.zip (.var 0) (.slice (.var 0) (.some (.int 1)) .none)) .nil [1, 2]) .nil))) .nil)))⟩
/-- is_plan: value manner rounding bonus fee charge -/
def f3 : Fn := ⟨1, 6, false, (.cons (.ife (.boolop false (.cons (.not (.blt .isTup (.cons (.var 0) .nil))) (.cons (.cmp .ne (.blt .len (.cons (.var 0) .nil)) (.int 6)) (.cons (.not (.call 2 (.cons (.idx (.var 0) (.int 0)) .nil))) .nil)))) (.cons (.ret (.bl false)) .nil) .nil) (.cons (.asg (.tup [(.name 1), (.name 2), (.name 3), (.name 4), (.name 5)]) (.slice (.var 0) (.some (.int 1)) .none)) (.cons (.ife (.boolop false (.cons (.not (.blt .isStr (.cons (.var 1) .nil))) (.cons (.cmp .notin (.var 1) (.tup (.cons (.str (Str.ofString "parts")) (.cons (.str (Str.ofString "whole")) .nil)))) .nil))) (.cons (.ret (.bl false)) .nil) .nil) (.cons (.ife (.boolop false (.cons (.not (.blt .isStr (.cons (.var 2) .nil))) (.cons (.cmp .notin (.var 2) (.tup (.cons (.str (Str.ofString "down")) (.cons (.str (Str.ofString "half")) .nil)))) .nil))) (.cons (.ret (.bl false)) .nil) .nil) (.cons (.ife (.boolop true (.cons (.cmp .notN (.var 3) .non) (.cons (.not (.call 1 (.cons (.var 3) (.cons (.tup (.cons (.int 1) (.cons (.glo (Str.ofString "MAX_MONTHS") (12)) .nil))) (.cons (.tup (.cons (.int 1) (.cons (.glo (Str.ofString "MAX_RATE") (100)) .nil))) .nil))))) .nil))) (.cons (.ret (.bl false)) .nil) .nil) (.cons (.ife (.boolop true (.cons (.cmp .notN (.var 4) .non) (.cons (.not (.call 1 (.cons (.var 4) (.cons (.tup (.cons (.int 1) (.cons (.glo (Str.ofString "MAX_START") (1000000)) .nil))) (.cons (.tup (.cons (.int 1) (.cons (.glo (Str.ofString "MAX_FEE") (1000)) .nil))) .nil))))) .nil))) (.cons (.ret (.bl false)) .nil) .nil) (.cons (.ret (.call 0 (.cons (.var 5) (.cons (.int 0) (.cons (.glo (Str.ofString "MAX_CHARGE") (500)) .nil))))) .nil)))))))⟩
/-- is_payment: value -/
def f4 : Fn := ⟨1, 1, false, (.cons (.ret (.call 0 (.cons (.var 0) (.cons (.neg (.glo (Str.ofString "MAX_PAYMENT") (1000000000))) (.cons (.glo (Str.ofString "MAX_PAYMENT") (1000000000)) .nil))))) .nil)⟩
/-- is_row: value payment -/
def f5 : Fn := ⟨1, 2, false, (.cons (.ret (.boolop true (.cons (.blt .isTup (.cons (.var 0) .nil)) (.cons (.cmp .le (.blt .len (.cons (.var 0) .nil)) (.glo (Str.ofString "MAX_ROW") (200))) (.cons (.blt .all (.cons (.comp (.call 4 (.cons (.var 1) .nil)) (.name 1) (.seq (.var 0)) .nil [1]) .nil)) .nil))))) .nil)⟩
/-- _law_source: script k cell primes seed -/
def f6 : Fn := ⟨2, 5, false, (.cons (.asg (.name 2) (.int 0)) (.cons (.ife (.cmp .lt (.var 1) (.blt .len (.cons (.var 0) .nil))) (.cons (.asg (.name 2) (.idx (.var 0) (.var 1))) .nil) .nil) (.cons (.asg (.name 3) (.lst (.cons (.int 2147483647) (.cons (.int 2147483629) (.cons (.int 2147483587) (.cons (.int 2147483579) (.cons (.int 2147483563) (.cons (.int 2147483549) (.cons (.int 2147483543) (.cons (.int 2147483497) .nil)))))))))) (.cons (.asg (.name 4) (.bin .mod (.blt .int (.cons (.bin .mul (.bin .add (.bin .mod (.blt .int (.cons (.var 2) .nil)) (.int 2147483489)) (.int 1)) (.bin .add (.int 48271) (.bin .mul (.int 2) (.var 1)))) .nil)) (.int 2147483489))) (.cons (.asg (.name 4) (.bin .add (.bin .add (.bin .mod (.blt .int (.cons (.bin .mul (.var 4) (.var 4)) .nil)) (.int 2147483477)) (.var 1)) (.int 1))) (.cons (.ife (.cmp .ge (.var 2) (.bin .pow (.int 10) (.int 18))) (.cons (.ret (.lst (.cons (.var 2) (.cons (.var 4) (.cons (.idx (.var 3) (.bin .mod (.blt .int (.cons (.var 1) .nil)) (.int 8))) .nil))))) .nil) .nil) (.cons (.ret (.lst (.cons (.int 0) (.cons (.var 4) (.cons (.idx (.var 3) (.bin .mod (.blt .int (.cons (.var 1) .nil)) (.int 8))) .nil))))) .nil)))))))⟩
/-- _law_pick: source size drawn -/
def f7 : Fn := ⟨2, 3, true, (.cons (.ife (.cmp .gt (.idx (.bor 0) (.int 0)) (.int 0)) (.cons (.asg (.name 2) (.bin .mod (.blt .int (.cons (.idx (.bor 0) (.int 0)) .nil)) (.var 1))) (.cons (.setI 0 (.int 0) (.bin .fdiv (.idx (.bor 0) (.int 0)) (.var 1))) (.cons (.ret (.mov 2)) .nil))) .nil) (.cons (.setI 0 (.int 1) (.bin .add (.bin .mod (.blt .int (.cons (.bin .mul (.idx (.bor 0) (.int 1)) (.int 48271)) .nil)) (.idx (.bor 0) (.int 2))) (.int 1))) (.cons (.ret (.bin .mod (.blt .int (.cons (.bin .fdiv (.bin .mod (.blt .int (.cons (.bin .mul (.idx (.bor 0) (.int 1)) (.idx (.bor 0) (.int 1))) .nil)) (.int 2147483423)) (.int 7)) .nil)) (.var 1))) .nil)))⟩
/-- _law_is_bool: actual expected -/
def f8 : Fn := ⟨2, 2, false, (.cons (.ret (.boolop true (.cons (.blt .isBool (.cons (.var 0) .nil)) (.cons (.cmp .eq (.var 0) (.var 1)) .nil)))) .nil)⟩
/-- _law_chosen: source some -/
def f9 : Fn := ⟨2, 2, true, (.cons (.ret (.idx (.var 1) (.callio 7 0 (.cons (.blt .len (.cons (.var 1) .nil)) .nil)))) .nil)⟩
/-- _law_is_integer: value low high -/
def f10 : Fn := ⟨3, 3, false, (.cons (.ret (.boolop true (.cons (.blt .isInt (.cons (.var 0) .nil)) (.cons (.not (.blt .isBool (.cons (.var 0) .nil))) (.cons (.cmp .le (.var 1) (.var 0)) (.cons (.cmp .le (.var 0) (.var 2)) .nil)))))) .nil)⟩
/-- _law_any_value: source depth kind items some k -/
def f11 : Fn := ⟨2, 6, true, (.cons (.asg (.name 2) (.callio 7 0 (.cons (.int 9) .nil))) (.cons (.ife (.boolop false (.cons (.cmp .lt (.var 2) (.int 6)) (.cons (.cmp .eq (.var 1) (.int 0)) .nil))) (.cons (.asg (.name 4) (.lst (.cons (.int 0) (.cons (.neg (.int 1)) (.cons (.int 1) (.cons (.bl true) (.cons (.bl false) (.cons .non (.cons (.str (Str.ofString "")) (.cons (.str (Str.ofString "a")) (.cons (.str (Str.ofString "ab")) (.cons (.str (Str.ofString "red")) (.cons (.str (Str.ofString "a b")) (.cons (.str (Str.ofString "abcdefghi")) (.cons (.int 2) (.cons (.int 3) (.cons (.neg (.int 7)) (.cons (.str (Str.ofString "<")) (.cons (.bin .pow (.int 10) (.int 11)) (.cons (.int 8) .nil)))))))))))))))))))) (.cons (.ret (.idx (.bin .add (.var 4) (.lst (.cons (.tup .nil) (.cons (.lst .nil) (.cons (.tup (.cons (.int 0) (.cons (.int 1) .nil))) .nil))))) (.callio 7 0 (.cons (.int 21) .nil)))) .nil)) .nil) (.cons (.asg (.name 3) (.comp (.callio 11 0 (.cons (.bin .sub (.var 1) (.int 1)) .nil)) (.name 5) (.range (.cons (.callio 7 0 (.cons (.int 6) .nil)) .nil)) .nil [5])) (.cons (.ret (.idx (.lst (.cons (.var 3) (.cons (.blt .tuple (.cons (.var 3) .nil)) (.cons (.blt .tuple (.cons (.var 3) .nil)) .nil)))) (.bin .sub (.var 2) (.int 6)))) .nil))))⟩
/-- _law_variant: source value depth items at kind near -/
def f12 : Fn := ⟨3, 7, true, (.cons (.asg (.name 3) (.blt .list (.cons (.var 1) .nil))) (.cons (.ife (.cmp .eq (.bor 3) (.lst .nil)) (.cons (.ret (.tup (.cons (.callio 11 0 (.cons (.int 1) .nil)) .nil))) .nil) .nil) (.cons (.asg (.name 4) (.callio 7 0 (.cons (.blt .len (.cons (.bor 3) .nil)) .nil))) (.cons (.ife (.boolop true (.cons (.blt .isTup (.cons (.idx (.bor 3) (.var 4)) .nil)) (.cons (.cmp .gt (.var 2) (.int 0)) (.cons (.cmp .gt (.callio 7 0 (.cons (.int 4) .nil)) (.int 0)) .nil)))) (.cons (.setI 3 (.var 4) (.callio 12 0 (.cons (.idx (.bor 3) (.var 4)) (.cons (.bin .sub (.var 2) (.int 1)) .nil)))) (.cons (.ret (.blt .tuple (.cons (.bor 3) .nil))) .nil)) .nil) (.cons (.asg (.name 5) (.callio 7 0 (.cons (.int 9) .nil))) (.cons (.ife (.cmp .eq (.var 5) (.int 0)) (.cons (.popAt 3 (.var 4)) .nil) (.cons (.ife (.cmp .eq (.var 5) (.int 1)) (.cons (.insAt 3 (.cons (.var 4) (.cons (.idx (.bor 3) (.var 4)) .nil))) .nil) (.cons (.ife (.cmp .eq (.var 5) (.int 2)) (.cons (.setSl 3 (.var 4) (.bin .add (.var 4) (.int 2)) (.rev (.slice (.bor 3) (.some (.var 4)) (.some (.bin .add (.var 4) (.int 2)))))) .nil) (.cons (.ife (.cmp .eq (.var 5) (.int 3)) (.cons (.setI 3 (.var 4) (.callio 11 0 (.cons (.int 2) .nil))) .nil) (.cons (.ife (.boolop false (.cons (.cmp .eq (.var 5) (.int 4)) (.cons (.cmp .eq (.var 5) (.int 5)) .nil))) (.cons (.asg (.name 6) (.lst (.cons (.int 0) (.cons (.int 1) (.cons (.neg (.int 1)) (.cons (.int 12) (.cons (.int 13) (.cons (.int 100) (.cons (.int 101) (.cons (.int 500) (.cons (.int 501) (.cons .non (.cons (.bl true) (.cons (.bl false) (.cons (.tup (.cons (.int 12) (.cons (.int 100) .nil))) (.cons (.tup (.cons (.int 13) (.cons (.int 1) .nil))) (.cons (.tup (.cons (.int 1) (.cons (.int 0) .nil))) (.cons (.tup (.cons (.int 0) (.cons (.int 1) .nil))) .nil)))))))))))))))))) (.cons (.asg (.name 6) (.bin .add (.var 6) (.lst (.cons (.int 1000) (.cons (.int 1001) (.cons (.bin .pow (.int 10) (.int 6)) (.cons (.bin .add (.bin .pow (.int 10) (.int 6)) (.int 1)) (.cons (.bin .pow (.int 10) (.int 9)) (.cons (.bin .add (.bin .pow (.int 10) (.int 9)) (.int 1)) (.cons (.str (Str.ofString "parts")) (.cons (.str (Str.ofString "whole")) (.cons (.str (Str.ofString "half")) (.cons (.str (Str.ofString "")) (.cons (.tup (.cons (.int 1) (.cons (.int 1000) .nil))) .nil)))))))))))))) (.cons (.setI 3 (.var 4) (.callio 9 0 (.cons (.var 6) .nil))) .nil))) (.cons (.ife (.boolop true (.cons (.cmp .eq (.var 5) (.int 6)) (.cons (.blt .isInt (.cons (.idx (.bor 3) (.var 4)) .nil)) (.cons (.not (.blt .isBool (.cons (.idx (.bor 3) (.var 4)) .nil))) .nil)))) (.cons (.setI 3 (.var 4) (.bin .add (.idx (.bor 3) (.var 4)) (.idx (.lst (.cons (.int 1) (.cons (.neg (.int 1)) (.cons (.int 8) (.cons (.neg (.int 12)) .nil))))) (.callio 7 0 (.cons (.int 4) .nil))))) .nil) (.cons (.ife (.boolop true (.cons (.cmp .eq (.var 5) (.int 7)) (.cons (.blt .isTup (.cons (.idx (.bor 3) (.var 4)) .nil)) .nil))) (.cons (.setI 3 (.var 4) (.blt .list (.cons (.idx (.bor 3) (.var 4)) .nil))) .nil) (.cons (.ife (.boolop true (.cons (.cmp .eq (.var 5) (.int 8)) (.cons (.blt .isStr (.cons (.idx (.bor 3) (.var 4)) .nil)) .nil))) (.cons (.setI 3 (.var 4) (.bin .add (.idx (.bor 3) (.var 4)) (.idx (.lst (.cons (.str (Str.ofString "a")) (.cons (.str (Str.ofString "A")) (.cons (.str (Str.ofString " ")) (.cons (.str (Str.ofString "s")) .nil))))) (.callio 7 0 (.cons (.int 4) .nil))))) .nil) (.cons (.ret (.mov 3)) .nil)) .nil)) .nil)) .nil)) .nil)) .nil)) .nil)) .nil)) (.cons (.ret (.blt .tuple (.cons (.bor 3) .nil))) .nil)))))))⟩
/-- _law_bands: source most wide starts_so start_so found many turn -/
def f13 : Fn := ⟨3, 8, true, (.cons (.par [5, 6] (.cons (.lst (.cons (.tup (.cons (.int 0) (.cons (.callio 7 0 (.cons (.int 101) .nil)) .nil))) .nil)) (.cons (.callio 7 0 (.cons (.var 1) .nil)) .nil))) (.cons (.asg (.name 3) (.blt .sset (.cons (.comp (.bin .add (.int 1) (.callio 7 0 (.cons (.var 2) .nil))) (.name 7) (.range (.cons (.var 6) .nil)) .nil [7]) .nil))) (.cons (.for_ (.name 4) (.seq (.var 3)) (.cons (.append 5 (.tup (.cons (.var 4) (.cons (.callio 9 0 (.cons (.lst (.cons (.int 0) (.cons (.int 1) (.cons (.int 5) (.cons (.int 10) (.cons (.int 20) (.cons (.int 50) (.cons (.int 100) (.cons (.callio 7 0 (.cons (.int 101) .nil)) .nil))))))))) .nil)) .nil)))) .nil)) (.cons (.ife (.cmp .eq (.callio 7 0 (.cons (.int 2) .nil)) (.int 0)) (.cons (.setI 5 (.int 0) (.tup (.cons (.int 0) (.cons (.callio 9 0 (.cons (.lst (.cons (.int 0) (.cons (.int 1) (.cons (.int 10) .nil)))) .nil)) .nil)))) .nil) .nil) (.cons (.ret (.blt .tuple (.cons (.bor 5) .nil))) .nil)))))⟩
/-- _law_plan: source wide charge_so bonus_so fee_so manner_so rounding_so -/
def f14 : Fn := ⟨2, 7, true, (.cons (.asg (.tup [(.name 3), (.name 4)]) (.tup (.cons .non (.cons .non .nil)))) (.cons (.ife (.cmp .eq (.callio 7 0 (.cons (.int 2) .nil)) (.int 0)) (.cons (.asg (.name 3) (.tup (.cons (.bin .add (.int 1) (.callio 7 0 (.cons (.int 12) .nil))) (.cons (.callio 9 0 (.cons (.lst (.cons (.int 1) (.cons (.int 5) (.cons (.int 10) (.cons (.bin .add (.int 1) (.callio 7 0 (.cons (.int 100) .nil))) .nil))))) .nil)) .nil)))) .nil) .nil) (.cons (.ife (.cmp .eq (.callio 7 0 (.cons (.int 2) .nil)) (.int 0)) (.cons (.asg (.name 4) (.tup (.cons (.bin .add (.int 1) (.callio 7 0 (.cons (.var 1) .nil))) (.cons (.callio 9 0 (.cons (.lst (.cons (.int 1) (.cons (.int 2) (.cons (.int 100) (.cons (.bin .add (.int 1) (.callio 7 0 (.cons (.int 1000) .nil))) .nil))))) .nil)) .nil)))) .nil) .nil) (.cons (.par [5, 6] (.cons (.callio 9 0 (.cons (.lst (.cons (.str (Str.ofString "parts")) (.cons (.str (Str.ofString "whole")) .nil))) .nil)) (.cons (.callio 9 0 (.cons (.lst (.cons (.str (Str.ofString "down")) (.cons (.str (Str.ofString "half")) .nil))) .nil)) .nil))) (.cons (.asg (.name 2) (.callio 9 0 (.cons (.lst (.cons (.int 0) (.cons (.int 0) (.cons (.int 1) (.cons (.int 50) (.cons (.int 500) (.cons (.callio 7 0 (.cons (.int 501) .nil)) .nil))))))) .nil))) (.cons (.ret (.tup (.cons (.callio 13 0 (.cons (.int 5) (.cons (.var 1) .nil))) (.cons (.var 5) (.cons (.var 6) (.cons (.var 3) (.cons (.var 4) (.cons (.var 2) .nil)))))))) .nil))))))⟩
/-- _law_row: source most wide found turn way amount_so -/
def f15 : Fn := ⟨3, 7, true, (.cons (.asg (.name 3) (.lst .nil)) (.cons (.for_ (.name 4) (.range (.cons (.callio 7 0 (.cons (.bin .add (.var 1) (.int 1)) .nil)) .nil)) (.cons (.asg (.name 5) (.callio 7 0 (.cons (.int 6) .nil))) (.cons (.asg (.name 6) (.callio 7 0 (.cons (.var 2) .nil))) (.cons (.append 3 (.idx (.lst (.cons (.int 0) (.cons (.int 0) (.cons (.var 6) (.cons (.var 6) (.cons (.bin .sub (.int 0) (.var 6)) (.cons (.bin .sub (.int 0) (.bin .fdiv (.var 6) (.int 4))) .nil))))))) (.var 5))) .nil)))) (.cons (.ret (.blt .tuple (.cons (.bor 3) .nil))) .nil)))⟩
/-- _law_is_good_pair: value first second -/
def f16 : Fn := ⟨3, 3, false, (.cons (.ife (.boolop false (.cons (.not (.blt .isTup (.cons (.var 0) .nil))) (.cons (.cmp .ne (.blt .len (.cons (.var 0) .nil)) (.int 2)) .nil))) (.cons (.ret (.bl false)) .nil) .nil) (.cons (.ret (.boolop true (.cons (.call 10 (.cons (.idx (.var 0) (.int 0)) (.cons (.idx (.var 1) (.int 0)) (.cons (.idx (.var 1) (.int 1)) .nil)))) (.cons (.call 10 (.cons (.idx (.var 0) (.int 1)) (.cons (.idx (.var 2) (.int 0)) (.cons (.idx (.var 2) (.int 1)) .nil)))) .nil)))) .nil))⟩
/-- _law_is_good_bands: value last band_so -/
def f17 : Fn := ⟨1, 3, false, (.cons (.ife (.boolop false (.cons (.not (.blt .isTup (.cons (.var 0) .nil))) (.cons (.not (.chain .le .le (.int 1) (.blt .len (.cons (.var 0) .nil)) (.int 5))) .nil))) (.cons (.ret (.bl false)) .nil) .nil) (.cons (.asg (.name 1) (.neg (.int 1))) (.cons (.for_ (.name 2) (.seq (.var 0)) (.cons (.ife (.boolop false (.cons (.not (.call 16 (.cons (.var 2) (.cons (.tup (.cons (.int 0) (.cons (.bin .pow (.int 10) (.int 6)) .nil))) (.cons (.tup (.cons (.int 0) (.cons (.int 100) .nil))) .nil))))) (.cons (.cmp .le (.idx (.var 2) (.int 0)) (.var 1)) .nil))) (.cons (.ret (.bl false)) .nil) .nil) (.cons (.asg (.name 1) (.idx (.var 2) (.int 0))) .nil))) (.cons (.ret (.cmp .eq (.idx (.idx (.var 0) (.int 0)) (.int 0)) (.int 0))) .nil))))⟩
/-- _law_is_good_plan: value -/
def f18 : Fn := ⟨1, 1, false, (.cons (.ife (.boolop false (.cons (.not (.blt .isTup (.cons (.var 0) .nil))) (.cons (.cmp .ne (.blt .len (.cons (.var 0) .nil)) (.int 6)) (.cons (.not (.call 17 (.cons (.idx (.var 0) (.int 0)) .nil))) .nil)))) (.cons (.ret (.bl false)) .nil) .nil) (.cons (.ife (.boolop false (.cons (.not (.blt .isStr (.cons (.idx (.var 0) (.int 1)) .nil))) (.cons (.cmp .notin (.idx (.var 0) (.int 1)) (.lst (.cons (.str (Str.ofString "parts")) (.cons (.str (Str.ofString "whole")) .nil)))) .nil))) (.cons (.ret (.bl false)) .nil) .nil) (.cons (.ife (.boolop false (.cons (.not (.blt .isStr (.cons (.idx (.var 0) (.int 2)) .nil))) (.cons (.cmp .notin (.idx (.var 0) (.int 2)) (.lst (.cons (.str (Str.ofString "down")) (.cons (.str (Str.ofString "half")) .nil)))) .nil))) (.cons (.ret (.bl false)) .nil) .nil) (.cons (.ife (.boolop true (.cons (.cmp .notN (.idx (.var 0) (.int 3)) .non) (.cons (.not (.call 16 (.cons (.idx (.var 0) (.int 3)) (.cons (.tup (.cons (.int 1) (.cons (.int 12) .nil))) (.cons (.tup (.cons (.int 1) (.cons (.int 100) .nil))) .nil))))) .nil))) (.cons (.ret (.bl false)) .nil) .nil) (.cons (.ife (.boolop true (.cons (.cmp .notN (.idx (.var 0) (.int 4)) .non) (.cons (.not (.call 16 (.cons (.idx (.var 0) (.int 4)) (.cons (.tup (.cons (.int 1) (.cons (.bin .pow (.int 10) (.int 6)) .nil))) (.cons (.tup (.cons (.int 1) (.cons (.int 1000) .nil))) .nil))))) .nil))) (.cons (.ret (.bl false)) .nil) .nil) (.cons (.ret (.call 10 (.cons (.idx (.var 0) (.int 5)) (.cons (.int 0) (.cons (.int 500) .nil))))) .nil))))))⟩
/-- _law_is_good_row: value part -/
def f19 : Fn := ⟨1, 2, false, (.cons (.ife (.boolop false (.cons (.not (.blt .isTup (.cons (.var 0) .nil))) (.cons (.cmp .gt (.blt .len (.cons (.var 0) .nil)) (.int 200)) .nil))) (.cons (.ret (.bl false)) .nil) .nil) (.cons (.ret (.cmp .eq (.comp (.int 1) (.name 1) (.seq (.var 0)) (.cons (.not (.call 10 (.cons (.var 1) (.cons (.neg (.bin .pow (.int 10) (.int 9))) (.cons (.bin .pow (.int 10) (.int 9)) .nil))))) .nil) [1]) (.lst .nil))) .nil))⟩
/-- law: script k source rest values turn value p payments many at -/
def f20 : Fn := ⟨1, 11, false, (.cons (.for_ (.name 1) (.range (.cons (.blt .max2 (.cons (.int 6) (.cons (.blt .min2 (.cons (.int 20) (.cons (.blt .len (.cons (.var 0) .nil)) .nil))) .nil))) .nil)) (.cons (.asg (.name 2) (.call 6 (.cons (.var 0) (.cons (.var 1) .nil)))) (.cons (.par [7, 8] (.cons (.callio 14 2 (.cons (.int 2000) .nil)) (.cons (.callio 15 2 (.cons (.int 12) (.cons (.bin .pow (.int 10) (.int 6)) .nil))) .nil))) (.cons (.asg (.name 3) (.tup (.cons (.str (Str.ofString "parts")) (.cons (.str (Str.ofString "down")) (.cons .non (.cons .non (.cons (.int 0) .nil))))))) (.cons (.asg (.name 4) (.lst (.cons (.var 7) (.cons (.var 8) (.cons (.tup .nil) (.cons .non (.cons (.blt .list (.cons (.var 7) .nil)) (.cons (.bin .add (.tup (.cons (.tup (.cons (.tup (.cons (.int 0) (.cons (.int 100) .nil))) .nil)) .nil)) (.var 3)) (.cons (.bin .add (.tup (.cons (.tup (.cons (.tup (.cons (.int 0) (.cons (.int 101) .nil))) .nil)) .nil)) (.var 3)) (.cons (.bin .add (.tup (.cons (.tup (.cons (.tup (.cons (.int 1) (.cons (.int 0) .nil))) .nil)) .nil)) (.var 3)) .nil)))))))))) (.cons (.asg (.name 4) (.bin .add (.bor 4) (.lst (.cons (.bin .add (.tup (.cons (.tup (.cons (.tup (.cons (.int 0) (.cons (.int 1) .nil))) (.cons (.tup (.cons (.int 0) (.cons (.int 2) .nil))) .nil))) .nil)) (.var 3)) (.cons (.bin .add (.tup (.cons (.tup (.cons (.tup (.cons (.int 0) (.cons (.int 1) .nil))) (.cons (.tup (.cons (.bin .pow (.int 10) (.int 6)) (.cons (.int 2) .nil))) .nil))) .nil)) (.var 3)) .nil))))) (.cons (.asg (.name 4) (.bin .add (.bor 4) (.comp (.bin .add (.tup (.cons (.blt .tuple (.cons (.comp (.tup (.cons (.var 10) (.cons (.var 10) .nil))) (.name 10) (.range (.cons (.var 9) .nil)) .nil [10]) .nil)) .nil)) (.var 3)) (.name 9) (.seq (.tup (.cons (.int 0) (.cons (.int 5) (.cons (.int 6) .nil))))) .nil [9]))) (.cons (.asg (.name 4) (.bin .add (.bor 4) (.lst (.cons (.bin .mul (.tup (.cons (.int 0) .nil)) (.int 200)) (.cons (.bin .mul (.tup (.cons (.int 0) .nil)) (.int 201)) (.cons (.tup (.cons (.bin .pow (.int 10) (.int 9)) (.cons (.neg (.bin .pow (.int 10) (.int 9))) .nil))) (.cons (.tup (.cons (.bin .add (.bin .pow (.int 10) (.int 9)) (.int 1)) .nil)) (.cons (.tup (.cons (.bl true) .nil)) (.cons (.lst (.cons (.int 0) .nil)) .nil))))))))) (.cons (.for_ (.name 5) (.range (.cons (.int 8) .nil)) (.cons (.append 4 (.callio 12 2 (.cons (.var 7) (.cons (.int 3) .nil)))) (.cons (.append 4 (.callio 12 2 (.cons (.var 8) (.cons (.int 1) .nil)))) (.cons (.append 4 (.callio 11 2 (.cons (.int 3) .nil))) .nil)))) (.cons (.for_ (.name 6) (.seq (.var 4)) (.cons (.ife (.not (.call 8 (.cons (.call 3 (.cons (.var 6) .nil)) (.cons (.call 18 (.cons (.var 6) .nil)) .nil)))) (.cons (.ret (.bl false)) .nil) .nil) (.cons (.ife (.not (.call 8 (.cons (.call 5 (.cons (.var 6) .nil)) (.cons (.call 19 (.cons (.var 6) .nil)) .nil)))) (.cons (.ret (.bl false)) .nil) .nil) .nil))) .nil)))))))))) (.cons (.ret (.bl true)) .nil))⟩
/-- require_plan: value -/
def f21 : Fn := ⟨1, 1, false, (.cons (.ife (.not (.call 3 (.cons (.var 0) .nil))) (.cons .raise .nil) .nil) .nil)⟩
/-- require_row: value -/
def f22 : Fn := ⟨1, 1, false, (.cons (.ife (.not (.call 5 (.cons (.var 0) .nil))) (.cons .raise .nil) .nil) .nil)⟩
/-- require_number: value low high -/
def f23 : Fn := ⟨3, 3, false, (.cons (.ife (.not (.call 0 (.cons (.var 0) (.cons (.var 1) (.cons (.var 2) .nil))))) (.cons .raise .nil) .nil) .nil)⟩
/-- is_due: plan idle -/
def f24 : Fn := ⟨2, 2, false, (.cons (.ret (.boolop true (.cons (.cmp .notN (.idx (.var 0) (.int 3)) .non) (.cons (.cmp .gt (.var 1) (.int 0)) (.cons (.cmp .eq (.bin .mod (.var 1) (.idx (.idx (.var 0) (.int 3)) (.int 0))) (.int 0)) .nil))))) .nil)⟩
/-- thousandths: plan base due bands found ends start rate end -/
def f25 : Fn := ⟨3, 9, false, (.cons (.asg (.name 3) (.idx (.var 0) (.int 0))) (.cons (.ife (.cmp .eq (.idx (.var 0) (.int 1)) (.str (Str.ofString "whole"))) (.cons (.asg (.name 4) (.bin .mul (.var 1) (.idx (.comp (.var 7) (.tup [(.name 6), (.name 7)]) (.seq (.var 3)) (.cons (.cmp .le (.var 6) (.var 1)) .nil) [6, 7]) (.neg (.int 1))))) .nil) (.cons (.asg (.name 5) (.bin .add (.comp (.var 6) (.tup [(.name 6), (.name 7)]) (.seq (.slice (.var 3) (.some (.int 1)) .none)) .nil [6, 7]) (.lst (.cons (.blt .max2 (.cons (.var 1) (.cons (.idx (.idx (.var 3) (.neg (.int 1))) (.int 0)) .nil))) .nil)))) (.cons (.asg (.name 4) (.blt .sum (.cons (.comp (.bin .mul (.var 7) (.blt .max2 (.cons (.int 0) (.cons (.bin .sub (.blt .min2 (.cons (.var 1) (.cons (.var 8) .nil))) (.var 6)) .nil)))) (.tup [(.tup [(.name 6), (.name 7)]), (.name 8)]) (.zip (.var 3) (.var 5)) .nil [8, 6, 7]) .nil))) .nil))) (.cons (.ret (.ife (.var 2) (.bin .add (.var 4) (.bin .mul (.var 1) (.idx (.idx (.var 0) (.int 3)) (.int 1)))) (.mov 4))) .nil)))⟩
/-- interest_of: plan base due found -/
def f26 : Fn := ⟨3, 4, false, (.cons (.asg (.name 3) (.call 25 (.cons (.var 0) (.cons (.var 1) (.cons (.var 2) .nil))))) (.cons (.ret (.ife (.cmp .eq (.idx (.var 0) (.int 2)) (.str (Str.ofString "half"))) (.bin .fdiv (.bin .add (.var 3) (.int 500)) (.int 1000)) (.bin .fdiv (.var 3) (.int 1000)))) .nil))⟩
/-- balance_from: plan base due found -/
def f27 : Fn := ⟨3, 4, false, (.cons (.asg (.name 3) (.bin .add (.var 1) (.call 26 (.cons (.var 0) (.cons (.var 1) (.cons (.var 2) .nil)))))) (.cons (.ret (.ife (.boolop true (.cons (.cmp .notN (.idx (.var 0) (.int 4)) .non) (.cons (.cmp .lt (.var 1) (.idx (.idx (.var 0) (.int 4)) (.int 0))) .nil))) (.blt .max2 (.cons (.int 0) (.cons (.bin .sub (.var 3) (.idx (.idx (.var 0) (.int 4)) (.int 1))) .nil))) (.mov 3))) .nil))⟩
/-- kept_of: plan taken -/
def f28 : Fn := ⟨2, 2, false, (.cons (.ret (.bin .fdiv (.bin .add (.bin .mul (.var 1) (.idx (.var 0) (.int 5))) (.int 999)) (.int 1000))) .nil)⟩
/-- month_of: plan balance idle payment taken -/
def f29 : Fn := ⟨4, 5, false, (.cons (.ife (.cmp .lt (.var 3) (.int 0)) (.cons (.asg (.name 4) (.blt .min2 (.cons (.var 1) (.cons (.neg (.var 3)) .nil)))) (.cons (.ret (.tup (.cons (.bin .sub (.var 4) (.call 28 (.cons (.var 0) (.cons (.var 4) .nil)))) (.cons (.call 27 (.cons (.var 0) (.cons (.bin .sub (.var 1) (.var 4)) (.cons (.bl false) .nil)))) (.cons (.int 0) .nil))))) .nil)) .nil) (.cons (.ret (.tup (.cons (.int 0) (.cons (.call 27 (.cons (.var 0) (.cons (.bin .add (.var 1) (.var 3)) (.cons (.call 24 (.cons (.var 0) (.cons (.bin .add (.var 2) (.int 1)) .nil))) .nil)))) (.cons (.bin .add (.var 2) (.int 1)) .nil))))) .nil))⟩
/-- told_from: plan balance idle row found payment got -/
def f30 : Fn := ⟨4, 7, false, (.cons (.asg (.name 4) (.lst .nil)) (.cons (.for_ (.name 5) (.seq (.var 3)) (.cons (.asg (.tup [(.name 6), (.name 1), (.name 2)]) (.call 29 (.cons (.var 0) (.cons (.var 1) (.cons (.var 2) (.cons (.var 5) .nil)))))) (.cons (.append 4 (.tup (.cons (.var 6) (.cons (.var 1) .nil)))) .nil))) (.cons (.ret (.tup (.cons (.mov 4) (.cons (.var 2) .nil)))) .nil)))⟩
/-- told_of: plan row -/
def f31 : Fn := ⟨2, 2, false, (.cons (.ret (.idx (.call 30 (.cons (.var 0) (.cons (.int 0) (.cons (.int 0) (.cons (.var 1) .nil))))) (.int 0))) .nil)⟩
/-- end_of: plan row told -/
def f32 : Fn := ⟨2, 3, false, (.cons (.asg (.name 2) (.call 31 (.cons (.var 0) (.cons (.var 1) .nil)))) (.cons (.ret (.ife (.cmp .ne (.var 2) (.lst .nil)) (.idx (.idx (.var 2) (.neg (.int 1))) (.int 1)) (.int 0))) .nil))⟩
/-- statement: plan row -/
def f33 : Fn := ⟨2, 2, false, (.cons (.expr (.call 21 (.cons (.var 0) .nil))) (.cons (.expr (.call 22 (.cons (.var 1) .nil))) (.cons (.ret (.call 31 (.cons (.var 0) (.cons (.var 1) .nil)))) .nil)))⟩
/-- end_balance: plan row -/
def f34 : Fn := ⟨2, 2, false, (.cons (.expr (.call 21 (.cons (.var 0) .nil))) (.cons (.expr (.call 22 (.cons (.var 1) .nil))) (.cons (.ret (.call 32 (.cons (.var 0) (.cons (.var 1) .nil)))) .nil)))⟩
/-- interest: plan base idle -/
def f35 : Fn := ⟨3, 3, false, (.cons (.expr (.call 21 (.cons (.var 0) .nil))) (.cons (.expr (.call 23 (.cons (.var 1) (.cons (.int 0) (.cons (.glo (Str.ofString "MAX_BASE") (1000000000000)) .nil))))) (.cons (.expr (.call 23 (.cons (.var 2) (.cons (.int 0) (.cons (.glo (Str.ofString "MAX_IDLE") (1000)) .nil))))) (.cons (.ret (.call 26 (.cons (.var 0) (.cons (.var 1) (.cons (.call 24 (.cons (.var 0) (.cons (.var 2) .nil))) .nil))))) .nil))))⟩
/-- _law_rate_of: p base_so found rate_so at band_so upper start_so rate -/
def f36 : Fn := ⟨2, 9, false, (.cons (.ife (.cmp .eq (.idx (.var 0) (.int 1)) (.str (Str.ofString "whole"))) (.cons (.asg (.name 3) (.int 0)) (.cons (.for_ (.tup [(.name 7), (.name 8)]) (.seq (.idx (.var 0) (.int 0))) (.cons (.asg (.name 3) (.ife (.cmp .le (.var 7) (.var 1)) (.var 8) (.var 3))) .nil)) (.cons (.ret (.bin .mul (.var 3) (.var 1))) .nil))) .nil) (.cons (.asg (.name 2) (.int 0)) (.cons (.for_ (.tup [(.name 4), (.name 5)]) (.enum (.idx (.var 0) (.int 0))) (.cons (.asg (.name 6) (.var 1)) (.cons (.ife (.cmp .lt (.bin .add (.var 4) (.int 1)) (.blt .len (.cons (.idx (.var 0) (.int 0)) .nil))) (.cons (.asg (.name 6) (.blt .min2 (.cons (.var 1) (.cons (.idx (.idx (.idx (.var 0) (.int 0)) (.bin .add (.var 4) (.int 1))) (.int 0)) .nil)))) .nil) .nil) (.cons (.asg (.name 2) (.bin .add (.var 2) (.bin .mul (.idx (.var 5) (.int 1)) (.blt .max2 (.cons (.int 0) (.cons (.bin .sub (.var 6) (.idx (.var 5) (.int 0))) .nil)))))) .nil)))) (.cons (.ret (.mov 2)) .nil))))⟩
/-- _law_due: p months_so -/
def f37 : Fn := ⟨2, 2, false, (.cons (.ret (.boolop true (.cons (.cmp .notN (.idx (.var 0) (.int 3)) .non) (.cons (.cmp .gt (.var 1) (.int 0)) (.cons (.cmp .eq (.bin .mod (.blt .int (.cons (.var 1) .nil)) (.idx (.idx (.var 0) (.int 3)) (.int 0))) (.int 0)) .nil))))) .nil)⟩
/-- _law_interest: p base_so due_so found -/
def f38 : Fn := ⟨3, 4, false, (.cons (.asg (.name 3) (.bin .add (.call 36 (.cons (.var 0) (.cons (.var 1) .nil))) (.ife (.var 2) (.bin .mul (.idx (.idx (.var 0) (.int 3)) (.int 1)) (.var 1)) (.int 0)))) (.cons (.ret (.ife (.cmp .eq (.idx (.var 0) (.int 2)) (.str (Str.ofString "half"))) (.bin .fdiv (.bin .add (.var 3) (.int 500)) (.int 1000)) (.bin .fdiv (.var 3) (.int 1000)))) .nil))⟩
/-- _law_left: p base_so due_so found -/
def f39 : Fn := ⟨3, 4, false, (.cons (.asg (.name 3) (.bin .add (.var 1) (.call 38 (.cons (.var 0) (.cons (.var 1) (.cons (.var 2) .nil)))))) (.cons (.ife (.boolop true (.cons (.cmp .notN (.idx (.var 0) (.int 4)) .non) (.cons (.cmp .lt (.var 1) (.idx (.idx (.var 0) (.int 4)) (.int 0))) .nil))) (.cons (.asg (.name 3) (.blt .max2 (.cons (.int 0) (.cons (.bin .sub (.var 3) (.idx (.idx (.var 0) (.int 4)) (.int 1))) .nil)))) .nil) .nil) (.cons (.ret (.mov 3)) .nil)))⟩
/-- _law_kept: p taken -/
def f40 : Fn := ⟨2, 2, false, (.cons (.ret (.bin .sub (.int 0) (.bin .fdiv (.bin .sub (.int 0) (.bin .mul (.var 1) (.idx (.var 0) (.int 5)))) (.int 1000)))) .nil)⟩
/-- _law_month: p here payment taken -/
def f41 : Fn := ⟨3, 4, false, (.cons (.ife (.cmp .ge (.var 2) (.int 0)) (.cons (.ret (.tup (.cons (.int 0) (.cons (.tup (.cons (.call 39 (.cons (.var 0) (.cons (.bin .add (.idx (.var 1) (.int 0)) (.var 2)) (.cons (.call 37 (.cons (.var 0) (.cons (.bin .add (.idx (.var 1) (.int 1)) (.int 1)) .nil))) .nil)))) (.cons (.bin .add (.idx (.var 1) (.int 1)) (.int 1)) .nil))) .nil)))) .nil) .nil) (.cons (.asg (.name 3) (.blt .min2 (.cons (.idx (.var 1) (.int 0)) (.cons (.bin .sub (.int 0) (.var 2)) .nil)))) (.cons (.ret (.tup (.cons (.bin .sub (.var 3) (.call 40 (.cons (.var 0) (.cons (.var 3) .nil)))) (.cons (.tup (.cons (.call 39 (.cons (.var 0) (.cons (.bin .sub (.idx (.var 1) (.int 0)) (.var 3)) (.cons (.bl false) .nil)))) (.cons (.int 0) .nil))) .nil)))) .nil)))⟩
/-- _law_told: p here payments found payment told -/
def f42 : Fn := ⟨3, 6, false, (.cons (.asg (.name 3) (.lst .nil)) (.cons (.for_ (.name 4) (.seq (.var 2)) (.cons (.asg (.tup [(.name 5), (.name 1)]) (.call 41 (.cons (.var 0) (.cons (.var 1) (.cons (.var 4) .nil))))) (.cons (.append 3 (.tup (.cons (.var 5) (.cons (.idx (.var 1) (.int 0)) .nil)))) .nil))) (.cons (.ret (.tup (.cons (.mov 3) (.cons (.var 1) .nil)))) .nil)))⟩
/-- law: script k p due source turn wide found look payments here base_so months_so -/
def f43 : Fn := ⟨1, 13, false, (.cons (.for_ (.name 1) (.range (.cons (.blt .max2 (.cons (.int 6) (.cons (.blt .min2 (.cons (.int 20) (.cons (.blt .len (.cons (.var 0) .nil)) .nil))) .nil))) .nil)) (.cons (.asg (.name 4) (.call 6 (.cons (.var 0) (.cons (.var 1) .nil)))) (.cons (.for_ (.name 5) (.range (.cons (.int 4) .nil)) (.cons (.asg (.name 6) (.callio 9 4 (.cons (.lst (.cons (.int 60) (.cons (.int 2000) (.cons (.bin .pow (.int 10) (.int 6)) .nil)))) .nil))) (.cons (.par [2, 9] (.cons (.callio 14 4 (.cons (.var 6) .nil)) (.cons (.callio 15 4 (.cons (.int 30) (.cons (.bin .mul (.int 2) (.var 6)) .nil))) .nil))) (.cons (.asg (.tup [(.name 3), (.name 10)]) (.call 42 (.cons (.var 2) (.cons (.tup (.cons (.int 0) (.cons (.int 0) .nil))) (.cons (.var 9) .nil))))) (.cons (.asg (.name 7) (.call 33 (.cons (.var 2) (.cons (.var 9) .nil)))) (.cons (.ife (.boolop false (.cons (.not (.blt .isList (.cons (.bor 7) .nil))) (.cons (.cmp .ne (.bor 7) (.var 3)) (.cons (.cmp .ne (.call 34 (.cons (.var 2) (.cons (.var 9) .nil))) (.idx (.var 10) (.int 0))) .nil)))) (.cons (.ret (.bl false)) .nil) .nil) (.cons (.append 7 (.int 1)) (.cons (.ife (.cmp .ne (.call 33 (.cons (.var 2) (.cons (.var 9) .nil))) (.var 3)) (.cons (.ret (.bl false)) .nil) .nil) (.cons (.for_ (.name 8) (.range (.cons (.int 4) .nil)) (.cons (.asg (.name 11) (.callio 9 4 (.cons (.lst (.cons (.int 0) (.cons (.int 1) (.cons (.var 6) (.cons (.callio 7 4 (.cons (.bin .mul (.int 3) (.var 6)) .nil)) (.cons (.bin .pow (.int 10) (.int 12)) .nil)))))) .nil))) (.cons (.asg (.name 11) (.callio 9 4 (.cons (.lst (.cons (.var 11) (.cons (.idx (.idx (.idx (.var 2) (.int 0)) (.neg (.int 1))) (.int 0)) (.cons (.blt .max2 (.cons (.int 0) (.cons (.bin .sub (.idx (.idx (.idx (.var 2) (.int 0)) (.neg (.int 1))) (.int 0)) (.int 1)) .nil))) .nil)))) .nil))) (.cons (.asg (.name 12) (.callio 9 4 (.cons (.lst (.cons (.int 0) (.cons (.int 1) (.cons (.int 12) (.cons (.int 1000) (.cons (.callio 7 4 (.cons (.int 30) .nil)) .nil)))))) .nil))) (.cons (.ife (.cmp .ne (.call 35 (.cons (.var 2) (.cons (.var 11) (.cons (.var 12) .nil)))) (.call 38 (.cons (.var 2) (.cons (.var 11) (.cons (.call 37 (.cons (.var 2) (.cons (.var 12) .nil))) .nil))))) (.cons (.ret (.bl false)) .nil) .nil) .nil))))) .nil))))))))) .nil))) (.cons (.asg (.name 2) (.tup (.cons (.tup (.cons (.tup (.cons (.int 0) (.cons (.int 50) .nil))) (.cons (.tup (.cons (.int 1000) (.cons (.int 0) .nil))) .nil))) (.cons (.str (Str.ofString "whole")) (.cons (.str (Str.ofString "half")) (.cons (.tup (.cons (.int 2) (.cons (.int 100) .nil))) (.cons (.tup (.cons (.int 10) (.cons (.int 1000) .nil))) (.cons (.int 1) .nil)))))))) (.cons (.asg (.name 3) (.lst (.cons (.tup (.cons (.int 0) (.cons (.int 0) .nil))) (.cons (.tup (.cons (.int 0) (.cons (.int 1144) .nil))) (.cons (.tup (.cons (.int 0) (.cons (.int 1144) .nil))) (.cons (.tup (.cons (.int 0) (.cons (.int 1258) .nil))) (.cons (.tup (.cons (.int 0) (.cons (.int 1257) .nil))) (.cons (.tup (.cons (.int 1255) (.cons (.int 0) .nil))) .nil)))))))) (.cons (.ife (.cmp .ne (.call 33 (.cons (.var 2) (.cons (.tup (.cons (.int 5) (.cons (.int 995) (.cons (.int 0) (.cons (.int 0) (.cons (.neg (.int 1)) (.cons (.neg (.int 5000)) .nil))))))) .nil))) (.var 3)) (.cons (.ret (.bl false)) .nil) .nil) (.cons (.ret (.boolop true (.cons (.cmp .eq (.call 34 (.cons (.var 2) (.cons (.tup .nil) .nil))) (.int 0)) (.cons (.cmp .eq (.call 33 (.cons (.var 2) (.cons (.tup .nil) .nil))) (.lst .nil)) .nil)))) .nil)))))⟩
def x44_0 : IE := (.var 1)
def u44_0 : Tg := (.tup [(.name 1), (.name 2)])
def i44_0 : IT := (.seq (.idx (.var 0) (.int 0)))
def c44_0 : IEs := .nil
/-- edges_of: plan start rate -/
def f44 : Fn := ⟨1, 3, false, (.cons (.ret (.bin .add (.comp x44_0 u44_0 i44_0 c44_0 [1, 2]) (.ife (.cmp .notN (.idx (.var 0) (.int 4)) .non) (.lst (.cons (.idx (.idx (.var 0) (.int 4)) (.int 0)) .nil)) (.lst .nil)))) .nil)⟩
def x45_0 : IE := (.tup (.cons (.var 2) (.cons (.bin .sub (.var 3) (.int 1)) .nil)))
def u45_0 : Tg := (.tup [(.name 2), (.name 3)])
def i45_0 : IT := (.zip (.var 1) (.slice (.var 1) (.some (.int 1)) .none))
def c45_0 : IEs := .nil
/-- stretches_between: edges ordered one other -/
def f45 : Fn := ⟨1, 4, false, (.cons (.asg (.name 1) (.blt .sset (.cons (.var 0) .nil))) (.cons (.ret (.bin .add (.comp x45_0 u45_0 i45_0 c45_0 [2, 3]) (.lst (.cons (.tup (.cons (.idx (.var 1) (.neg (.int 1))) (.cons .non .nil))) .nil)))) .nil))⟩
/-- stretches_of: plan -/
def f46 : Fn := ⟨1, 1, false, (.cons (.ret (.call 45 (.cons (.call 44 (.cons (.var 0) .nil)) .nil))) .nil)⟩
def x47_0 : IE := (.var 6)
def u47_0 : Tg := (.name 6)
def i47_0 : IT := (.seq (.idx (.var 0) (.int 0)))
def c47_0 : IEs := (.cons (.cmp .le (.idx (.var 6) (.int 0)) (.var 1)) .nil)
def x47_1 : IE := (.bin .mul (.idx (.var 7) (.int 1)) (.bin .sub (.idx (.var 8) (.int 0)) (.idx (.var 7) (.int 0))))
def u47_1 : Tg := (.tup [(.name 7), (.name 8)])
def i47_1 : IT := (.zip (.var 3) (.slice (.var 3) (.some (.int 1)) .none))
def c47_1 : IEs := .nil
/-- whole_line: plan base due bands rate rest band one other -/
def f47 : Fn := ⟨3, 9, false, (.cons (.asg (.name 3) (.comp x47_0 u47_0 i47_0 c47_0 [6])) (.cons (.par [4, 5] (.cons (.idx (.idx (.var 3) (.neg (.int 1))) (.int 1)) (.cons (.int 0) .nil))) (.cons (.ife (.cmp .eq (.idx (.var 0) (.int 1)) (.str (Str.ofString "parts"))) (.cons (.asg (.name 5) (.bin .sub (.blt .sum (.cons (.comp x47_1 u47_1 i47_1 c47_1 [7, 8]) .nil)) (.bin .mul (.var 4) (.idx (.idx (.var 3) (.neg (.int 1))) (.int 0))))) .nil) .nil) (.cons (.ife (.cmp .eq (.idx (.var 0) (.int 2)) (.str (Str.ofString "half"))) (.cons (.asg (.name 5) (.bin .add (.var 5) (.int 500))) .nil) .nil) (.cons (.ife (.boolop true (.cons (.cmp .notN (.idx (.var 0) (.int 4)) .non) (.cons (.cmp .lt (.var 1) (.idx (.idx (.var 0) (.int 4)) (.int 0))) .nil))) (.cons (.asg (.name 5) (.bin .sub (.var 5) (.bin .mul (.int 1000) (.idx (.idx (.var 0) (.int 4)) (.int 1))))) .nil) .nil) (.cons (.ret (.tup (.cons (.bin .add (.bin .add (.int 1000) (.var 4)) (.ife (.var 2) (.idx (.idx (.var 0) (.int 3)) (.int 1)) (.int 0))) (.cons (.var 5) .nil)))) .nil))))))⟩
/-- line_of: plan base due slope rest -/
def f48 : Fn := ⟨3, 5, false, (.cons (.asg (.tup [(.name 3), (.name 4)]) (.call 47 (.cons (.var 0) (.cons (.var 1) (.cons (.var 2) .nil))))) (.cons (.ret (.ife (.cmp .ge (.bin .add (.bin .mul (.var 3) (.var 1)) (.var 4)) (.int 0)) (.tup (.cons (.var 3) (.cons (.var 4) .nil))) (.tup (.cons (.int 0) (.cons (.int 0) .nil))))) .nil))⟩
def t49_0 : Tg := (.tup [(.name 3), (.name 4)])
def b49_0 : ISs := (.cons (.asg (.tup [(.name 6), (.name 7)]) (.call 47 (.cons (.var 0) (.cons (.var 3) (.cons (.var 1) .nil))))) (.cons (.asg (.name 5) (.neg (.bin .fdiv (.var 7) (.var 6)))) (.cons (.ife (.boolop true (.cons (.cmp .lt (.var 3) (.var 5)) (.cons (.boolop false (.cons (.cmp .isN (.var 4) .non) (.cons (.cmp .le (.var 5) (.var 4)) .nil))) .nil))) (.cons (.append 2 (.var 5)) .nil) .nil) .nil)))
/-- kinks_of: plan due found first last kink slope rest -/
def f49 : Fn := ⟨2, 8, false, (.cons (.asg (.name 2) (.lst .nil)) (.cons (.for_ t49_0 (.seq (.call 46 (.cons (.var 0) .nil))) b49_0) (.cons (.ret (.mov 2)) .nil)))⟩
def x50_0 : IE := (.tup (.cons (.var 4) (.cons (.var 5) (.cons (.call 48 (.cons (.var 0) (.cons (.var 4) (.cons (.idx (.var 2) (.int 0)) .nil)))) (.cons (.call 48 (.cons (.var 1) (.cons (.var 4) (.cons (.idx (.var 2) (.int 1)) .nil)))) .nil)))))
def u50_0 : Tg := (.tup [(.name 4), (.name 5)])
def i50_0 : IT := (.seq (.call 45 (.cons (.var 3) .nil)))
def c50_0 : IEs := .nil
/-- lines_of: one other dues edges first last -/
def f50 : Fn := ⟨3, 6, false, (.cons (.asg (.name 3) (.bin .add (.bin .add (.bin .add (.call 44 (.cons (.var 0) .nil)) (.call 44 (.cons (.var 1) .nil))) (.call 49 (.cons (.var 0) (.cons (.idx (.var 2) (.int 0)) .nil)))) (.call 49 (.cons (.var 1) (.cons (.idx (.var 2) (.int 1)) .nil))))) (.cons (.ret (.comp x50_0 u50_0 i50_0 c50_0 [4, 5])) .nil))⟩
/-- value_at: line base -/
def f51 : Fn := ⟨2, 2, false, (.cons (.ret (.bin .fdiv (.bin .add (.bin .mul (.idx (.var 0) (.int 0)) (.var 1)) (.idx (.var 0) (.int 1))) (.int 1000))) .nil)⟩
def t52_0 : Tg := (.tup [(.name 3), (.name 4), (.name 5), (.name 6)])
def b52_0 : ISs := (.cons (.append 2 (.tup (.cons (.var 3) (.cons (.ife (.cmp .isN (.var 4) .non) (.glo (Str.ofString "TOP") (1000000000)) (.var 4)) (.cons (.var 5) (.cons (.var 6) .nil)))))) .nil)
/-- month_lines: one other found first last here there -/
def f52 : Fn := ⟨2, 7, false, (.cons (.asg (.name 2) (.lst .nil)) (.cons (.for_ t52_0 (.seq (.call 50 (.cons (.var 0) (.cons (.var 1) (.cons (.tup (.cons (.call 24 (.cons (.var 0) (.cons (.int 1) .nil))) (.cons (.call 24 (.cons (.var 1) (.cons (.int 1) .nil))) .nil))) .nil))))) b52_0) (.cons (.ret (.mov 2)) .nil)))⟩
/-- require_both: one other -/
def f53 : Fn := ⟨2, 2, false, (.cons (.expr (.call 21 (.cons (.var 0) .nil))) (.cons (.expr (.call 21 (.cons (.var 1) .nil))) .nil))⟩
def t54_0 : Tg := (.name 8)
def b54_0 : ISs := (.cons (.asg (.name 9) (.bin .sub (.call 51 (.cons (.var 5) (.cons (.var 8) .nil))) (.call 51 (.cons (.var 6) (.cons (.var 8) .nil))))) (.cons (.ife (.boolop false (.cons (.cmp .isN (.var 2) .non) (.cons (.cmp .gt (.var 9) (.idx (.var 2) (.int 0))) .nil))) (.cons (.asg (.name 2) (.tup (.cons (.var 9) (.cons (.var 8) .nil)))) .nil) .nil) .nil))
def t54_1 : Tg := (.tup [(.name 3), (.name 4), (.name 5), (.name 6)])
def b54_1 : ISs := (.cons (.asg (.name 7) (.blt .range2 (.cons (.var 3) (.cons (.bin .add (.blt .min2 (.cons (.var 4) (.cons (.bin .add (.var 3) (.glo (Str.ofString "NEAR") (2001))) .nil))) (.int 1)) .nil)))) (.cons (.for_ t54_0 (.seq (.bin .add (.var 7) (.blt .range2 (.cons (.blt .max2 (.cons (.bin .add (.idx (.var 7) (.neg (.int 1))) (.int 1)) (.cons (.bin .sub (.var 4) (.glo (Str.ofString "NEAR") (2001))) .nil))) (.cons (.bin .add (.var 4) (.int 1)) .nil))))) b54_0) .nil))
/-- month_lead: one other best first last here there near amount lead -/
def f54 : Fn := ⟨2, 10, false, (.cons (.expr (.call 53 (.cons (.var 0) (.cons (.var 1) .nil)))) (.cons (.asg (.name 2) .non) (.cons (.for_ t54_1 (.seq (.call 52 (.cons (.var 0) (.cons (.var 1) .nil)))) b54_1) (.cons (.ret (.mov 2)) .nil))))⟩
/-- _law_near: source p way at bands_so manner_so rounding_so bonus_so fee_so charge_so start_so rate -/
def f55 : Fn := ⟨2, 12, true, (.cons (.asg (.tup [(.name 4), (.name 5), (.name 6), (.name 7), (.name 8), (.name 9)]) (.var 1)) (.cons (.asg (.name 2) (.callio 7 0 (.cons (.int 8) .nil))) (.cons (.ife (.cmp .eq (.var 2) (.int 0)) (.cons (.ret (.tup (.cons (.var 4) (.cons (.var 5) (.cons (.ife (.cmp .eq (.var 6) (.str (Str.ofString "down"))) (.str (Str.ofString "half")) (.str (Str.ofString "down"))) (.cons (.var 7) (.cons (.var 8) (.cons (.var 9) .nil)))))))) .nil) .nil) (.cons (.ife (.cmp .eq (.var 2) (.int 1)) (.cons (.ret (.tup (.cons (.var 4) (.cons (.var 5) (.cons (.var 6) (.cons .non (.cons (.var 8) (.cons (.var 9) .nil)))))))) .nil) .nil) (.cons (.ife (.cmp .eq (.var 2) (.int 2)) (.cons (.ret (.tup (.cons (.var 4) (.cons (.var 5) (.cons (.var 6) (.cons (.var 7) (.cons .non (.cons (.var 9) .nil)))))))) .nil) .nil) (.cons (.ife (.cmp .eq (.var 2) (.int 3)) (.cons (.ret (.tup (.cons (.var 4) (.cons (.var 5) (.cons (.var 6) (.cons (.var 7) (.cons (.var 8) (.cons (.blt .max2 (.cons (.int 0) (.cons (.bin .sub (.var 9) (.int 1)) .nil))) .nil)))))))) .nil) .nil) (.cons (.asg (.name 3) (.callio 7 0 (.cons (.blt .len (.cons (.var 4) .nil)) .nil))) (.cons (.asg (.tup [(.name 10), (.name 11)]) (.idx (.var 4) (.var 3))) (.cons (.ife (.cmp .eq (.var 2) (.int 4)) (.cons (.asg (.name 4) (.bin .add (.bin .add (.slice (.var 4) .none (.some (.var 3))) (.tup (.cons (.tup (.cons (.var 10) (.cons (.blt .max2 (.cons (.int 0) (.cons (.bin .sub (.var 11) (.int 1)) .nil))) .nil))) .nil))) (.slice (.var 4) (.some (.bin .add (.var 3) (.int 1))) .none))) .nil) (.cons (.ife (.boolop true (.cons (.cmp .eq (.var 2) (.int 5)) (.cons (.cmp .gt (.var 3) (.int 0)) .nil))) (.cons (.asg (.name 4) (.bin .add (.slice (.var 4) .none (.some (.var 3))) (.slice (.var 4) (.some (.bin .add (.var 3) (.int 1))) .none))) .nil) (.cons (.ife (.boolop true (.cons (.cmp .eq (.var 2) (.int 6)) (.cons (.cmp .lt (.blt .len (.cons (.var 4) .nil)) (.int 5)) (.cons (.cmp .lt (.idx (.idx (.var 4) (.neg (.int 1))) (.int 0)) (.int 999000)) .nil)))) (.cons (.asg (.name 4) (.bin .add (.var 4) (.tup (.cons (.tup (.cons (.bin .add (.bin .add (.idx (.idx (.var 4) (.neg (.int 1))) (.int 0)) (.int 1)) (.callio 7 0 (.cons (.int 900) .nil))) (.cons (.idx (.idx (.var 4) (.neg (.int 1))) (.int 1)) .nil))) .nil)))) .nil) (.cons (.ife (.boolop true (.cons (.cmp .notN (.var 7) .non) (.cons (.cmp .eq (.var 2) (.int 7)) .nil))) (.cons (.asg (.name 7) (.tup (.cons (.blt .min2 (.cons (.int 12) (.cons (.bin .mul (.int 2) (.idx (.var 7) (.int 0))) .nil))) (.cons (.idx (.var 7) (.int 1)) .nil)))) .nil) .nil) .nil)) .nil)) .nil)) (.cons (.ret (.tup (.cons (.var 4) (.cons (.var 5) (.cons (.var 6) (.cons (.var 7) (.cons (.var 8) (.cons (.var 9) .nil)))))))) .nil))))))))))⟩
/-- _law_edge: p found -/
def f56 : Fn := ⟨1, 2, false, (.cons (.asg (.name 1) (.idx (.idx (.idx (.var 0) (.int 0)) (.neg (.int 1))) (.int 0))) (.cons (.ret (.ife (.cmp .isN (.idx (.var 0) (.int 4)) .non) (.mov 1) (.blt .max2 (.cons (.var 1) (.cons (.idx (.idx (.var 0) (.int 4)) (.int 0)) .nil))))) .nil))⟩
/-- _law_first: p amount -/
def f57 : Fn := ⟨2, 2, false, (.cons (.ret (.call 39 (.cons (.var 0) (.cons (.var 1) (.cons (.call 37 (.cons (.var 0) (.cons (.int 1) .nil))) .nil))))) .nil)⟩
/-- _law_pair: source one two -/
def f58 : Fn := ⟨1, 3, true, (.cons (.asg (.name 1) (.callio 14 0 (.cons (.int 300) .nil))) (.cons (.asg (.name 2) (.ife (.cmp .gt (.callio 7 0 (.cons (.int 3) .nil)) (.int 0)) (.callio 55 0 (.cons (.var 1) .nil)) (.callio 14 0 (.cons (.int 300) .nil)))) (.cons (.ret (.tup (.cons (.var 1) (.cons (.var 2) .nil)))) .nil)))⟩
def t59_0 : Tg := (.name 4)
def b59_0 : ISs := (.cons (.asg (.name 5) (.bin .sub (.call 57 (.cons (.var 0) (.cons (.var 4) .nil))) (.call 57 (.cons (.var 1) (.cons (.var 4) .nil))))) (.cons (.ife (.boolop false (.cons (.cmp .isN (.var 3) .non) (.cons (.cmp .gt (.var 5) (.idx (.var 3) (.int 0))) .nil))) (.cons (.asg (.name 3) (.tup (.cons (.var 5) (.cons (.var 4) .nil)))) .nil) .nil) .nil))
/-- _law_lead: one two start_so best amount lead_so -/
def f59 : Fn := ⟨2, 6, false, (.cons (.asg (.name 2) (.bin .add (.blt .max2 (.cons (.call 56 (.cons (.var 0) .nil)) (.cons (.call 56 (.cons (.var 1) .nil)) .nil))) (.int 2200))) (.cons (.asg (.name 3) .non) (.cons (.for_ t59_0 (.seq (.bin .add (.blt .range1 (.cons (.var 2) .nil)) (.blt .range2 (.cons (.bin .sub (.bin .pow (.int 10) (.int 9)) (.int 2200)) (.cons (.bin .add (.bin .pow (.int 10) (.int 9)) (.int 1)) .nil))))) b59_0) (.cons (.ret (.mov 3)) .nil))))⟩
def t60_0 : Tg := (.tup [(.name 8), (.name 9)])
def b60_0 : ISs := (.cons (.asg (.name 10) (.call 54 (.cons (.var 8) (.cons (.var 9) .nil)))) (.cons (.ife (.cmp .ne (.var 10) (.call 59 (.cons (.var 8) (.cons (.var 9) .nil)))) (.cons (.ret (.bl false)) .nil) .nil) (.cons (.ife (.cmp .ne (.bin .sub (.call 34 (.cons (.var 8) (.cons (.tup (.cons (.idx (.var 10) (.int 1)) .nil)) .nil))) (.call 34 (.cons (.var 9) (.cons (.tup (.cons (.idx (.var 10) (.int 1)) .nil)) .nil)))) (.idx (.var 10) (.int 0))) (.cons (.ret (.bl false)) .nil) .nil) .nil)))
def t60_1 : Tg := (.name 1)
def b60_1 : ISs := (.cons (.asg (.name 5) (.call 6 (.cons (.var 0) (.cons (.var 1) .nil)))) (.cons (.asg (.tup [(.name 6), (.name 7)]) (.callio 58 5 .nil)) (.cons (.for_ t60_0 (.seq (.tup (.cons (.tup (.cons (.var 6) (.cons (.var 7) .nil))) (.cons (.tup (.cons (.var 7) (.cons (.var 6) .nil))) .nil)))) b60_0) (.cons (.ife (.cmp .ne (.call 54 (.cons (.var 6) (.cons (.var 6) .nil))) (.tup (.cons (.int 0) (.cons (.int 0) .nil)))) (.cons (.ret (.bl false)) .nil) .nil) .nil))))
def r60_0 : ISs := (.cons (.asg (.name 2) (.tup (.cons (.tup (.cons (.tup (.cons (.int 0) (.cons (.int 10) .nil))) (.cons (.tup (.cons (.int 1000) (.cons (.int 30) .nil))) .nil))) (.cons (.str (Str.ofString "parts")) (.cons (.str (Str.ofString "down")) (.cons .non (.cons .non (.cons (.int 0) .nil)))))))) (.cons (.asg (.name 3) (.bin .add (.tup (.cons (.tup (.cons (.tup (.cons (.int 0) (.cons (.int 10) .nil))) (.cons (.tup (.cons (.int 2000) (.cons (.int 20) .nil))) .nil))) .nil)) (.slice (.var 2) (.some (.int 1)) .none))) (.cons (.ife (.boolop false (.cons (.cmp .ne (.call 54 (.cons (.var 2) (.cons (.var 3) .nil))) (.tup (.cons (.int 10000000) (.cons (.int 999999934) .nil)))) (.cons (.cmp .ne (.call 54 (.cons (.var 3) (.cons (.var 2) .nil))) (.tup (.cons (.int 0) (.cons (.int 0) .nil)))) .nil))) (.cons (.ret (.bl false)) .nil) .nil) (.cons (.asg (.name 4) (.bin .add (.slice (.var 2) .none (.some (.int 4))) (.tup (.cons (.tup (.cons (.int 10) (.cons (.int 5) .nil))) (.cons (.int 0) .nil))))) (.cons (.ret (.boolop true (.cons (.cmp .eq (.call 54 (.cons (.var 2) (.cons (.var 4) .nil))) (.tup (.cons (.int 5) (.cons (.int 5) .nil)))) (.cons (.cmp .eq (.call 54 (.cons (.var 4) (.cons (.var 2) .nil))) (.tup (.cons (.int 0) (.cons (.int 0) .nil)))) .nil)))) .nil)))))
/-- law: script k p q low source one two first last found -/
def f60 : Fn := ⟨1, 11, false, (.cons (.for_ t60_1 (.range (.cons (.blt .max2 (.cons (.int 4) (.cons (.blt .min2 (.cons (.int 8) (.cons (.blt .len (.cons (.var 0) .nil)) .nil))) .nil))) .nil)) b60_1) r60_0)⟩
def w61_0 : IE := (.cmp .gt (.var 1) (.int 0))
def v61_0 : ISs := (.cons (.par [0, 1] (.cons (.var 1) (.cons (.bin .mod (.var 0) (.var 1)) .nil))) .nil)
/-- greatest_common: one other -/
def f61 : Fn := ⟨2, 2, false, (.cons (.while_ w61_0 v61_0) (.cons (.ret (.mov 0)) .nil))⟩
/-- never_apart: one other step -/
def f62 : Fn := ⟨2, 3, false, (.cons (.ife (.cmp .ne (.idx (.var 0) (.int 0)) (.idx (.var 1) (.int 0))) (.cons (.ret (.bl false)) .nil) .nil) (.cons (.asg (.name 2) (.call 61 (.cons (.int 1000) (.cons (.idx (.var 0) (.int 0)) .nil)))) (.cons (.ret (.cmp .eq (.bin .fdiv (.idx (.var 0) (.int 1)) (.var 2)) (.bin .fdiv (.idx (.var 1) (.int 1)) (.var 2)))) .nil)))⟩
def t63_0 : Tg := (.name 4)
def b63_0 : ISs := (.cons (.ife (.cmp .lt (.call 51 (.cons (.var 2) (.cons (.var 4) .nil))) (.call 51 (.cons (.var 3) (.cons (.var 4) .nil)))) (.cons (.ret (.mov 4)) .nil) .nil) .nil)
/-- last_less: first last one other amount -/
def f63 : Fn := ⟨4, 5, false, (.cons (.ife (.call 62 (.cons (.var 2) (.cons (.var 3) .nil))) (.cons (.ret .non) .nil) .nil) (.cons (.ife (.cmp .gt (.idx (.var 2) (.int 0)) (.idx (.var 3) (.int 0))) (.cons (.asg (.name 1) (.blt .min2 (.cons (.var 1) (.cons (.bin .fdiv (.bin .sub (.bin .sub (.idx (.var 3) (.int 1)) (.idx (.var 2) (.int 1))) (.int 1)) (.bin .sub (.idx (.var 2) (.int 0)) (.idx (.var 3) (.int 0)))) .nil)))) .nil) .nil) (.cons (.for_ t63_0 (.range (.cons (.var 1) (.cons (.bin .sub (.blt .max2 (.cons (.var 0) (.cons (.bin .sub (.var 1) (.glo (Str.ofString "NEAR") (2001))) .nil))) (.int 1)) (.cons (.neg (.int 1)) .nil)))) b63_0) (.cons (.ret .non) .nil))))⟩
def t64_0 : Tg := (.tup [(.name 2), (.name 3), (.name 4), (.name 5)])
def b64_0 : ISs := (.cons (.asg (.name 6) (.call 63 (.cons (.var 2) (.cons (.var 3) (.cons (.var 4) (.cons (.var 5) .nil)))))) (.cons (.ife (.cmp .notN (.var 6) .non) (.cons (.ret (.ife (.cmp .lt (.var 6) (.glo (Str.ofString "TOP") (1000000000))) (.bin .add (.var 6) (.int 1)) .non)) .nil) .nil) .nil))
/-- ahead_from: one other first last here there amount -/
def f64 : Fn := ⟨2, 7, false, (.cons (.expr (.call 53 (.cons (.var 0) (.cons (.var 1) .nil)))) (.cons (.for_ t64_0 (.seq (.rev (.call 52 (.cons (.var 0) (.cons (.var 1) .nil))))) b64_0) (.cons (.ret (.int 0)) .nil)))⟩
def x65_0 : IE := (.var 3)
def u65_0 : Tg := (.name 3)
def i65_0 : IT := (.seq (.var 2))
def c65_0 : IEs := (.cons (.cmp .lt (.call 57 (.cons (.var 0) (.cons (.var 3) .nil))) (.call 57 (.cons (.var 1) (.cons (.var 3) .nil)))) .nil)
/-- _law_less: one two amounts amount -/
def f65 : Fn := ⟨3, 4, false, (.cons (.ret (.cmp .ne (.comp x65_0 u65_0 i65_0 c65_0 [3]) (.lst .nil))) .nil)⟩
/-- _law_ahead_right: one two near found top -/
def f66 : Fn := ⟨2, 5, false, (.cons (.par [3, 4] (.cons (.call 64 (.cons (.var 0) (.cons (.var 1) .nil))) (.cons (.bin .pow (.int 10) (.int 9)) .nil))) (.cons (.ife (.cmp .isN (.var 3) .non) (.cons (.ret (.call 65 (.cons (.var 0) (.cons (.var 1) (.cons (.lst (.cons (.var 4) .nil)) .nil))))) .nil) .nil) (.cons (.ife (.boolop false (.cons (.not (.blt .isInt (.cons (.var 3) .nil))) (.cons (.blt .isBool (.cons (.var 3) .nil)) (.cons (.not (.chain .le .le (.int 0) (.var 3) (.var 4))) .nil)))) (.cons (.ret (.bl false)) .nil) .nil) (.cons (.ife (.boolop true (.cons (.cmp .gt (.var 3) (.int 0)) (.cons (.not (.call 65 (.cons (.var 0) (.cons (.var 1) (.cons (.lst (.cons (.bin .sub (.var 3) (.int 1)) .nil)) .nil))))) .nil))) (.cons (.ret (.bl false)) .nil) .nil) (.cons (.asg (.name 2) (.blt .range2 (.cons (.var 3) (.cons (.bin .add (.blt .min2 (.cons (.var 4) (.cons (.bin .add (.bin .add (.var 3) (.blt .max2 (.cons (.call 56 (.cons (.var 0) .nil)) (.cons (.call 56 (.cons (.var 1) .nil)) .nil)))) (.int 2200)) .nil))) (.int 1)) .nil)))) (.cons (.ret (.not (.call 65 (.cons (.var 0) (.cons (.var 1) (.cons (.bin .add (.var 2) (.blt .range2 (.cons (.blt .max2 (.cons (.var 3) (.cons (.bin .sub (.var 4) (.int 2200)) .nil))) (.cons (.bin .add (.var 4) (.int 1)) .nil)))) .nil)))))) .nil))))))⟩
def t67_0 : Tg := (.name 6)
def b67_0 : ISs := (.cons (.asg (.tup [(.name 9), (.name 10)]) (.callio 58 5 .nil)) (.cons (.ife (.boolop false (.cons (.not (.call 66 (.cons (.var 9) (.cons (.var 10) .nil)))) (.cons (.not (.call 66 (.cons (.var 10) (.cons (.var 9) .nil)))) .nil))) (.cons (.ret (.bl false)) .nil) .nil) .nil))
def t67_1 : Tg := (.name 1)
def b67_1 : ISs := (.cons (.asg (.name 5) (.call 6 (.cons (.var 0) (.cons (.var 1) .nil)))) (.cons (.for_ t67_0 (.range (.cons (.int 2) .nil)) b67_0) (.cons (.ife (.boolop false (.cons (.cmp .ne (.call 64 (.cons (.var 9) (.cons (.var 9) .nil))) (.int 0)) (.cons (.cmp .isN (.call 64 (.cons (.var 9) (.cons (.bin .add (.slice (.var 9) .none (.some (.int 4))) (.tup (.cons .non (.cons (.idx (.var 9) (.int 5)) .nil)))) .nil))) .non) .nil))) (.cons (.ret (.bl false)) .nil) .nil) (.cons (.asg (.tup [(.name 7), (.name 8)]) (.call 54 (.cons (.var 9) (.cons (.var 10) .nil)))) (.cons (.ife (.cmp .ne (.cmp .le (.var 7) (.int 0)) (.cmp .eq (.call 64 (.cons (.var 10) (.cons (.var 9) .nil))) (.int 0))) (.cons (.ret (.bl false)) .nil) .nil) .nil)))))
def r67_0 : ISs := (.cons (.asg (.name 2) (.tup (.cons (.tup (.cons (.tup (.cons (.int 0) (.cons (.int 10) .nil))) (.cons (.tup (.cons (.int 1000) (.cons (.int 30) .nil))) .nil))) (.cons (.str (Str.ofString "parts")) (.cons (.str (Str.ofString "down")) (.cons .non (.cons .non (.cons (.int 0) .nil)))))))) (.cons (.asg (.name 3) (.tup (.cons (.tup (.cons (.tup (.cons (.int 0) (.cons (.int 50) .nil))) (.cons (.tup (.cons (.int 1000) (.cons (.int 0) .nil))) .nil))) (.cons (.str (Str.ofString "whole")) (.cons (.str (Str.ofString "half")) (.cons .non (.cons .non (.cons (.int 0) .nil)))))))) (.cons (.ife (.boolop false (.cons (.cmp .ne (.call 64 (.cons (.var 2) (.cons (.var 3) .nil))) (.int 1000)) (.cons (.cmp .notN (.call 64 (.cons (.var 3) (.cons (.var 2) .nil))) .non) .nil))) (.cons (.ret (.bl false)) .nil) .nil) (.cons (.asg (.name 4) (.tup (.cons (.tup (.cons (.tup (.cons (.int 0) (.cons (.int 0) .nil))) (.cons (.tup (.cons (.int 200) (.cons (.int 20) .nil))) .nil))) (.cons (.str (Str.ofString "parts")) (.cons (.str (Str.ofString "down")) (.cons .non (.cons .non (.cons (.int 0) .nil)))))))) (.cons (.ret (.boolop true (.cons (.cmp .eq (.call 64 (.cons (.var 4) (.cons (.tup (.cons (.tup (.cons (.tup (.cons (.int 0) (.cons (.int 10) .nil))) .nil)) (.cons (.str (Str.ofString "parts")) (.cons (.str (Str.ofString "down")) (.cons .non (.cons .non (.cons (.int 0) .nil))))))) .nil))) (.int 350)) (.cons (.cmp .eq (.call 64 (.cons (.var 4) (.cons (.var 4) .nil))) (.int 0)) .nil)))) .nil)))))
/-- law: script k p w late source turn lead_so amount one two -/
def f67 : Fn := ⟨1, 11, false, (.cons (.for_ t67_1 (.range (.cons (.blt .max2 (.cons (.int 4) (.cons (.blt .min2 (.cons (.int 8) (.cons (.blt .len (.cons (.var 0) .nil)) .nil))) .nil))) .nil)) b67_1) r67_0)⟩
def x68_0 : IE := (.int 1)
def u68_0 : Tg := (.name 4)
def i68_0 : IT := (.range (.cons (.var 0) (.cons (.bin .add (.var 1) (.int 1)) .nil)))
def c68_0 : IEs := (.cons (.cmp .eq (.call 51 (.cons (.var 2) (.cons (.var 4) .nil))) (.call 51 (.cons (.var 3) (.cons (.var 4) .nil)))) .nil)
/-- equal_in: low high one other amount -/
def f68 : Fn := ⟨4, 5, false, (.cons (.ret (.blt .len (.cons (.comp x68_0 u68_0 i68_0 c68_0 [4]) .nil))) .nil)⟩
/-- equal_on: first last one other middle step whole -/
def f69 : Fn := ⟨4, 7, false, (.cons (.ife (.call 62 (.cons (.var 2) (.cons (.var 3) .nil))) (.cons (.ret (.bin .add (.bin .sub (.var 1) (.var 0)) (.int 1))) .nil) .nil) (.cons (.ife (.cmp .eq (.idx (.var 2) (.int 0)) (.idx (.var 3) (.int 0))) (.cons (.asg (.name 5) (.bin .fdiv (.int 1000) (.call 61 (.cons (.int 1000) (.cons (.idx (.var 2) (.int 0)) .nil))))) (.cons (.asg (.name 6) (.bin .fdiv (.bin .add (.bin .sub (.var 1) (.var 0)) (.int 1)) (.var 5))) (.cons (.ret (.bin .add (.bin .mul (.var 6) (.call 68 (.cons (.var 0) (.cons (.bin .sub (.bin .add (.var 0) (.var 5)) (.int 1)) (.cons (.var 2) (.cons (.var 3) .nil)))))) (.call 68 (.cons (.bin .add (.var 0) (.bin .mul (.var 6) (.var 5))) (.cons (.var 1) (.cons (.var 2) (.cons (.var 3) .nil))))))) .nil))) .nil) (.cons (.asg (.name 4) (.bin .fdiv (.bin .sub (.idx (.var 3) (.int 1)) (.idx (.var 2) (.int 1))) (.bin .sub (.idx (.var 2) (.int 0)) (.idx (.var 3) (.int 0))))) (.cons (.ret (.call 68 (.cons (.blt .max2 (.cons (.var 0) (.cons (.bin .sub (.var 4) (.glo (Str.ofString "NEAR") (2001))) .nil))) (.cons (.blt .min2 (.cons (.var 1) (.cons (.bin .add (.var 4) (.glo (Str.ofString "NEAR") (2001))) .nil))) (.cons (.var 2) (.cons (.var 3) .nil)))))) .nil))))⟩
def x70_0 : IE := (.call 69 (.cons (.var 2) (.cons (.var 3) (.cons (.var 4) (.cons (.var 5) .nil)))))
def u70_0 : Tg := (.tup [(.name 2), (.name 3), (.name 4), (.name 5)])
def i70_0 : IT := (.seq (.call 52 (.cons (.var 0) (.cons (.var 1) .nil))))
def c70_0 : IEs := .nil
/-- count_equal: one other first last here there -/
def f70 : Fn := ⟨2, 6, false, (.cons (.expr (.call 53 (.cons (.var 0) (.cons (.var 1) .nil)))) (.cons (.ret (.blt .sum (.cons (.comp x70_0 u70_0 i70_0 c70_0 [2, 3, 4, 5]) .nil))) .nil))⟩
/-- _law_tail: p due_so slope_so rest base_so -/
def f71 : Fn := ⟨2, 5, false, (.cons (.par [2, 3] (.cons (.bin .add (.bin .add (.int 1000) (.idx (.idx (.idx (.var 0) (.int 0)) (.neg (.int 1))) (.int 1))) (.ife (.var 1) (.idx (.idx (.var 0) (.int 3)) (.int 1)) (.int 0))) (.cons (.ife (.cmp .eq (.idx (.var 0) (.int 2)) (.str (Str.ofString "half"))) (.int 500) (.int 0)) .nil))) (.cons (.ife (.cmp .eq (.idx (.var 0) (.int 1)) (.str (Str.ofString "parts"))) (.cons (.asg (.name 4) (.idx (.idx (.idx (.var 0) (.int 0)) (.neg (.int 1))) (.int 0))) (.cons (.asg (.name 3) (.bin .sub (.bin .add (.var 3) (.call 36 (.cons (.var 0) (.cons (.var 4) .nil)))) (.bin .mul (.idx (.idx (.idx (.var 0) (.int 0)) (.neg (.int 1))) (.int 1)) (.var 4)))) .nil)) .nil) (.cons (.ret (.tup (.cons (.var 2) (.cons (.var 3) .nil)))) .nil)))⟩
def t72_0 : Tg := (.name 3)
def b72_0 : ISs := (.cons (.ife (.chain .lt .lt (.bin .sub (.var 2) (.int 12)) (.idx (.var 3) (.int 0)) (.bin .add (.var 2) (.int 12))) (.cons (.ret (.mov 1)) .nil) .nil) .nil)
def x72_0 : IE := (.idx (.var 3) (.int 1))
def u72_0 : Tg := (.name 3)
def i72_0 : IT := (.seq (.idx (.var 1) (.int 0)))
def c72_0 : IEs := (.cons (.cmp .le (.idx (.var 3) (.int 0)) (.var 2)) .nil)
/-- _law_thin: source p start_so band_so rate last more -/
def f72 : Fn := ⟨2, 7, true, (.cons (.ife (.cmp .gt (.blt .len (.cons (.idx (.var 1) (.int 0)) .nil)) (.int 4)) (.cons (.ret (.mov 1)) .nil) .nil) (.cons (.asg (.name 2) (.bin .add (.int 1) (.callio 7 0 (.cons (.int 300) .nil)))) (.cons (.for_ t72_0 (.seq (.idx (.var 1) (.int 0))) b72_0) (.cons (.asg (.name 4) (.idx (.comp x72_0 u72_0 i72_0 c72_0 [3]) (.neg (.int 1)))) (.cons (.asg (.name 5) (.bin .add (.bin .add (.var 2) (.int 1)) (.callio 7 0 (.cons (.int 11) .nil)))) (.cons (.asg (.name 6) (.tup (.cons (.tup (.cons (.var 2) (.cons (.callio 9 0 (.cons (.lst (.cons (.int 0) (.cons (.int 1) (.cons (.int 3) (.cons (.var 4) .nil))))) .nil)) .nil))) (.cons (.tup (.cons (.var 5) (.cons (.var 4) .nil))) .nil)))) (.cons (.ret (.bin .add (.tup (.cons (.blt .tuple (.cons (.blt .sorted (.cons (.bin .add (.idx (.var 1) (.int 0)) (.slice (.var 6) .none (.some (.bin .sub (.int 5) (.blt .len (.cons (.idx (.var 1) (.int 0)) .nil)))))) .nil)) .nil)) .nil)) (.slice (.var 1) (.some (.int 1)) .none))) .nil)))))))⟩
/-- _law_meet: one two amount -/
def f73 : Fn := ⟨3, 3, false, (.cons (.ret (.cmp .eq (.bin .fdiv (.bin .add (.bin .mul (.idx (.var 0) (.int 0)) (.var 2)) (.idx (.var 0) (.int 1))) (.int 1000)) (.bin .fdiv (.bin .add (.bin .mul (.idx (.var 1) (.int 0)) (.var 2)) (.idx (.var 1) (.int 1))) (.int 1000)))) .nil)⟩
def t74_0 : Tg := (.name 6)
def b74_0 : ISs := (.cons (.ife (.call 73 (.cons (.var 7) (.cons (.var 8) (.cons (.var 6) .nil)))) (.cons (.append 9 (.var 6)) .nil) .nil) .nil)
def x74_0 : IE := (.bin .add (.int 1) (.bin .fdiv (.bin .sub (.var 3) (.var 6)) (.int 1000)))
def u74_0 : Tg := (.name 6)
def i74_0 : IT := (.seq (.var 9))
def c74_0 : IEs := .nil
def t74_1 : Tg := (.name 6)
def b74_1 : ISs := (.cons (.ife (.call 73 (.cons (.var 7) (.cons (.var 8) (.cons (.var 6) .nil)))) (.cons (.asg (.name 5) (.bin .add (.var 5) (.int 1))) .nil) .nil) .nil)
/-- _law_behind_edges: one two start_so top cross count_so amount first last good -/
def f74 : Fn := ⟨3, 10, false, (.cons (.par [7, 8] (.cons (.call 71 (.cons (.var 0) (.cons (.call 37 (.cons (.var 0) (.cons (.int 1) .nil))) .nil))) (.cons (.call 71 (.cons (.var 1) (.cons (.call 37 (.cons (.var 1) (.cons (.int 1) .nil))) .nil))) .nil))) (.cons (.asg (.name 3) (.bin .pow (.int 10) (.int 9))) (.cons (.ife (.cmp .eq (.idx (.var 7) (.int 0)) (.idx (.var 8) (.int 0))) (.cons (.asg (.name 9) (.lst .nil)) (.cons (.for_ t74_0 (.range (.cons (.var 2) (.cons (.bin .add (.var 2) (.int 1000)) .nil))) b74_0) (.cons (.ret (.blt .sum (.cons (.comp x74_0 u74_0 i74_0 c74_0 [6]) .nil))) .nil))) .nil) (.cons (.asg (.name 4) (.bin .fdiv (.bin .sub (.idx (.var 8) (.int 1)) (.idx (.var 7) (.int 1))) (.bin .sub (.idx (.var 7) (.int 0)) (.idx (.var 8) (.int 0))))) (.cons (.asg (.name 5) (.int 0)) (.cons (.for_ t74_1 (.range (.cons (.blt .max2 (.cons (.var 2) (.cons (.bin .sub (.var 4) (.int 1100)) .nil))) (.cons (.bin .add (.var 4) (.int 1101)) .nil))) b74_1) (.cons (.ret (.mov 5)) .nil)))))))⟩
def t75_0 : Tg := (.name 4)
def b75_0 : ISs := (.cons (.ife (.cmp .eq (.call 57 (.cons (.var 0) (.cons (.var 4) .nil))) (.call 57 (.cons (.var 1) (.cons (.var 4) .nil)))) (.cons (.asg (.name 3) (.bin .add (.var 3) (.int 1))) .nil) .nil) .nil)
/-- _law_count: one two start_so count_so amount -/
def f75 : Fn := ⟨2, 5, false, (.cons (.asg (.name 2) (.bin .add (.blt .max2 (.cons (.call 56 (.cons (.var 0) .nil)) (.cons (.call 56 (.cons (.var 1) .nil)) .nil))) (.int 1))) (.cons (.asg (.name 3) (.call 74 (.cons (.var 0) (.cons (.var 1) (.cons (.var 2) .nil))))) (.cons (.for_ t75_0 (.range (.cons (.var 2) .nil)) b75_0) (.cons (.ret (.mov 3)) .nil))))⟩
def t76_0 : Tg := (.name 4)
def b76_0 : ISs := (.cons (.asg (.tup [(.name 8), (.name 9)]) (.callio 58 3 .nil)) (.cons (.asg (.name 7) (.call 75 (.cons (.var 8) (.cons (.var 9) .nil)))) (.cons (.ife (.boolop false (.cons (.cmp .ne (.call 70 (.cons (.var 8) (.cons (.var 9) .nil))) (.var 7)) (.cons (.cmp .ne (.call 70 (.cons (.var 9) (.cons (.var 8) .nil))) (.var 7)) .nil))) (.cons (.ret (.bl false)) .nil) .nil) .nil)))
def t76_1 : Tg := (.name 1)
def b76_1 : ISs := (.cons (.asg (.name 3) (.call 6 (.cons (.var 0) (.cons (.var 1) .nil)))) (.cons (.for_ t76_0 (.range (.cons (.int 2) .nil)) b76_0) (.cons (.ife (.cmp .ne (.call 70 (.cons (.var 8) (.cons (.var 8) .nil))) (.bin .add (.bin .pow (.int 10) (.int 9)) (.int 1))) (.cons (.ret (.bl false)) .nil) .nil) (.cons (.par [8, 9] (.cons (.callio 72 3 (.cons (.var 8) .nil)) (.cons (.var 8) .nil))) (.cons (.ife (.cmp .ne (.call 70 (.cons (.var 8) (.cons (.var 9) .nil))) (.call 75 (.cons (.var 8) (.cons (.var 9) .nil)))) (.cons (.ret (.bl false)) .nil) .nil) .nil)))))
def r76_0 : ISs := (.cons (.asg (.name 2) (.tup (.cons (.tup (.cons (.tup (.cons (.int 0) (.cons (.int 10) .nil))) (.cons (.tup (.cons (.int 1000) (.cons (.int 30) .nil))) .nil))) (.cons (.str (Str.ofString "parts")) (.cons (.str (Str.ofString "down")) (.cons .non (.cons .non (.cons (.int 0) .nil)))))))) (.cons (.par [5, 6] (.cons (.bin .add (.tup (.cons (.tup (.cons (.tup (.cons (.int 0) (.cons (.int 10) .nil))) (.cons (.tup (.cons (.int 2000) (.cons (.int 20) .nil))) .nil))) .nil)) (.slice (.var 2) (.some (.int 1)) .none)) (.cons (.bin .add (.bin .add (.slice (.var 2) .none (.some (.int 2))) (.tup (.cons (.str (Str.ofString "half")) .nil))) (.slice (.var 2) (.some (.int 3)) .none)) .nil))) (.cons (.ret (.boolop true (.cons (.cmp .eq (.call 70 (.cons (.var 2) (.cons (.var 5) .nil))) (.int 1034)) (.cons (.cmp .eq (.call 70 (.cons (.var 2) (.cons (.var 6) .nil))) (.int 500000001)) .nil)))) .nil)))
/-- law: script k p source turn q half due one two -/
def f76 : Fn := ⟨1, 10, false, (.cons (.for_ t76_1 (.range (.cons (.blt .max2 (.cons (.int 4) (.cons (.blt .min2 (.cons (.int 10) (.cons (.blt .len (.cons (.var 0) .nil)) .nil))) .nil))) .nil)) b76_1) r76_0)⟩
def x77_0 : IE := (.idx (.var 4) (.int 0))
def u77_0 : Tg := (.name 4)
def i77_0 : IT := (.seq (.bin .add (.idx (.var 1) (.int 0)) (.idx (.var 2) (.int 0))))
def c77_0 : IEs := .nil
/-- _law_amount: source one two edges band_so -/
def f77 : Fn := ⟨3, 5, true, (.cons (.asg (.name 3) (.bin .add (.comp x77_0 u77_0 i77_0 c77_0 [4]) (.lst (.cons (.bin .sub (.bin .pow (.int 10) (.int 9)) (.int 30)) (.cons (.callio 7 0 (.cons (.bin .sub (.bin .pow (.int 10) (.int 9)) (.int 30)) .nil)) .nil))))) (.cons (.ret (.blt .max2 (.cons (.int 0) (.cons (.bin .sub (.bin .add (.callio 9 0 (.cons (.var 3) .nil)) (.callio 7 0 (.cons (.int 30) .nil))) (.callio 7 0 (.cons (.int 30) .nil))) .nil)))) .nil))⟩
def t78_0 : Tg := (.name 5)
def b78_0 : ISs := (.cons (.asg (.name 10) (.callio 77 2 (.cons (.var 3) (.cons (.var 4) .nil)))) (.cons (.par [11, 12] (.cons (.call 34 (.cons (.var 3) (.cons (.tup (.cons (.var 10) .nil)) .nil))) (.cons (.call 34 (.cons (.var 4) (.cons (.tup (.cons (.var 10) .nil)) .nil))) .nil))) (.cons (.ife (.not (.chain .le .le (.bin .sub (.int 0) (.idx (.var 7) (.int 0))) (.bin .sub (.var 11) (.var 12)) (.idx (.var 6) (.int 0)))) (.cons (.ret (.bl false)) .nil) .nil) (.cons (.ife (.boolop true (.cons (.cmp .notN (.var 8) .non) (.cons (.cmp .ge (.var 10) (.var 8)) (.cons (.cmp .lt (.var 11) (.var 12)) .nil)))) (.cons (.ret (.bl false)) .nil) .nil) (.cons (.ife (.boolop true (.cons (.cmp .eq (.bin .sub (.var 11) (.var 12)) (.idx (.var 6) (.int 0))) (.cons (.cmp .lt (.var 10) (.idx (.var 6) (.int 1))) .nil))) (.cons (.ret (.bl false)) .nil) .nil) (.cons (.ife (.boolop true (.cons (.cmp .eq (.var 9) (.bin .add (.bin .pow (.int 10) (.int 9)) (.int 1))) (.cons (.cmp .ne (.var 11) (.var 12)) .nil))) (.cons (.ret (.bl false)) .nil) .nil) .nil))))))
def t78_1 : Tg := (.name 1)
def b78_1 : ISs := (.cons (.asg (.name 2) (.call 6 (.cons (.var 0) (.cons (.var 1) .nil)))) (.cons (.asg (.name 3) (.callio 14 2 (.cons (.callio 9 2 (.cons (.lst (.cons (.int 300) (.cons (.bin .pow (.int 10) (.int 6)) .nil))) .nil)) .nil))) (.cons (.asg (.name 4) (.ife (.cmp .gt (.callio 7 2 (.cons (.int 3) .nil)) (.int 0)) (.callio 55 2 (.cons (.var 3) .nil)) (.callio 14 2 (.cons (.bin .pow (.int 10) (.int 6)) .nil)))) (.cons (.par [6, 7] (.cons (.call 54 (.cons (.var 3) (.cons (.var 4) .nil))) (.cons (.call 54 (.cons (.var 4) (.cons (.var 3) .nil))) .nil))) (.cons (.par [8, 9] (.cons (.call 64 (.cons (.var 3) (.cons (.var 4) .nil))) (.cons (.call 70 (.cons (.var 3) (.cons (.var 4) .nil))) .nil))) (.cons (.for_ t78_0 (.range (.cons (.int 12) .nil)) b78_0) (.cons (.ife (.boolop false (.cons (.cmp .ne (.cmp .eq (.idx (.var 6) (.int 0)) (.int 0)) (.cmp .eq (.call 64 (.cons (.var 4) (.cons (.var 3) .nil))) (.int 0))) (.cons (.cmp .lt (.idx (.var 6) (.int 0)) (.int 0)) (.cons (.cmp .lt (.idx (.var 7) (.int 0)) (.int 0)) .nil)))) (.cons (.ret (.bl false)) .nil) .nil) (.cons (.ife (.boolop false (.cons (.cmp .ne (.cmp .eq (.var 9) (.bin .add (.bin .pow (.int 10) (.int 9)) (.int 1))) (.chain .eq .eq (.idx (.var 6) (.int 0)) (.idx (.var 7) (.int 0)) (.int 0))) (.cons (.cmp .ne (.call 70 (.cons (.var 4) (.cons (.var 3) .nil))) (.var 9)) .nil))) (.cons (.ret (.bl false)) .nil) .nil) (.cons (.ife (.boolop true (.cons (.cmp .isN (.var 8) .non) (.cons (.cmp .isN (.call 64 (.cons (.var 4) (.cons (.var 3) .nil))) .non) .nil))) (.cons (.ret (.bl false)) .nil) .nil) .nil)))))))))
def r78_0 : ISs := (.cons (.ret (.bl true)) .nil)
/-- law: script k source one two turn lead_so back ahead_so equal_so amount first last -/
def f78 : Fn := ⟨1, 13, false, (.cons (.for_ t78_1 (.range (.cons (.blt .max2 (.cons (.int 5) (.cons (.blt .min2 (.cons (.int 12) (.cons (.blt .len (.cons (.var 0) .nil)) .nil))) .nil))) .nil)) b78_1) r78_0)⟩
def t79_0 : Tg := (.tup [(.name 3), (.name 4)])
def b79_0 : ISs := (.cons (.asg (.name 4) (.ife (.cmp .isN (.var 4) .non) (.glo (Str.ofString "TOP") (1000000000)) (.var 4))) (.cons (.append 2 (.tup (.cons (.var 3) (.cons (.var 4) (.cons (.call 27 (.cons (.var 0) (.cons (.var 3) (.cons (.var 1) .nil)))) (.cons (.call 27 (.cons (.var 0) (.cons (.var 4) (.cons (.var 1) .nil)))) .nil)))))) .nil))
/-- month_stretches: plan due found first last -/
def f79 : Fn := ⟨1, 5, false, (.cons (.par [1, 2] (.cons (.call 24 (.cons (.var 0) (.cons (.int 1) .nil))) (.cons (.lst .nil) .nil))) (.cons (.for_ t79_0 (.seq (.call 46 (.cons (.var 0) .nil))) b79_0) (.cons (.ret (.mov 2)) .nil)))⟩
def w80_0 : IE := (.cmp .lt (.var 5) (.var 6))
def v80_0 : ISs := (.cons (.asg (.name 7) (.bin .fdiv (.bin .add (.var 5) (.var 6)) (.int 2))) (.cons (.ife (.cmp .ge (.call 27 (.cons (.var 0) (.cons (.var 7) (.cons (.var 4) .nil)))) (.var 3)) (.cons (.asg (.name 6) (.var 7)) .nil) (.cons (.asg (.name 5) (.bin .add (.var 7) (.int 1))) .nil)) .nil))
/-- first_above: plan first last balance due low high middle -/
def f80 : Fn := ⟨4, 8, false, (.cons (.par [4, 5, 6] (.cons (.call 24 (.cons (.var 0) (.cons (.int 1) .nil))) (.cons (.var 1) (.cons (.var 2) .nil)))) (.cons (.while_ w80_0 v80_0) (.cons (.ret (.mov 5)) .nil)))⟩
def t81_0 : Tg := (.tup [(.name 8), (.name 9), (.name 10), (.name 11)])
def b81_0 : ISs := (.cons (.ife (.cmp .gt (.var 11) (.var 6)) (.cons (.asg (.name 12) (.call 80 (.cons (.var 0) (.cons (.var 8) (.cons (.var 9) (.cons (.var 11) .nil)))))) (.cons (.ife (.boolop false (.cons (.cmp .isN (.var 2) .non) (.cons (.cmp .lt (.tup (.cons (.bin .sub (.var 6) (.var 11)) (.cons (.var 12) (.cons (.var 4) .nil)))) (.var 2)) .nil))) (.cons (.asg (.name 2) (.tup (.cons (.bin .sub (.var 6) (.var 11)) (.cons (.var 12) (.cons (.var 4) .nil))))) .nil) .nil) .nil)) .nil) .nil)
def t81_1 : Tg := (.tup [(.name 3), (.tup [(.name 4), (.name 5), (.name 6), (.name 7)])])
def b81_1 : ISs := (.cons (.for_ t81_0 (.seq (.slice (.var 1) .none (.some (.var 3)))) b81_0) .nil)
/-- worst_pair: plan rows best at first last begin end less_first less_last less_begin less_end less -/
def f81 : Fn := ⟨1, 13, false, (.cons (.expr (.call 21 (.cons (.var 0) .nil))) (.cons (.par [1, 2] (.cons (.call 79 (.cons (.var 0) .nil)) (.cons .non .nil))) (.cons (.for_ t81_1 (.enum (.var 1)) b81_1) (.cons (.ret (.ife (.cmp .isN (.var 2) .non) .non (.tup (.cons (.neg (.idx (.var 2) (.int 0))) (.cons (.idx (.var 2) (.int 1)) (.cons (.idx (.var 2) (.int 2)) .nil)))))) .nil))))⟩
def t82_0 : Tg := (.name 1)
def b82_0 : ISs := (.cons (.asg (.name 2) (.call 6 (.cons (.var 0) (.cons (.var 1) .nil)))) (.cons (.par [12, 13] (.cons (.bin .mul (.int 1000) (.bin .add (.int 1) (.callio 7 2 (.cons (.int 999) .nil)))) (.cons (.bin .add (.int 1) (.callio 7 2 (.cons (.int 50) .nil))) .nil))) (.cons (.asg (.name 3) (.tup (.cons (.tup (.cons (.tup (.cons (.int 0) (.cons (.int 0) .nil))) .nil)) (.cons (.str (Str.ofString "parts")) (.cons (.str (Str.ofString "down")) (.cons .non (.cons .non (.cons (.int 0) .nil)))))))) (.cons (.asg (.name 4) (.bin .add (.tup (.cons (.tup (.cons (.tup (.cons (.int 0) (.cons (.int 0) .nil))) (.cons (.tup (.cons (.var 12) (.cons (.var 13) .nil))) .nil))) .nil)) (.slice (.var 3) (.some (.int 1)) .none))) (.cons (.asg (.name 5) (.bin .pow (.int 10) (.int 9))) (.cons (.asg (.name 6) (.bin .fdiv (.bin .sub (.bin .add (.int 1000) (.var 13)) (.int 1)) (.var 13))) (.cons (.ife (.boolop false (.cons (.cmp .ne (.call 64 (.cons (.var 4) (.cons (.var 3) .nil))) (.int 0)) (.cons (.cmp .notN (.call 64 (.cons (.var 3) (.cons (.var 4) .nil))) .non) .nil))) (.cons (.ret (.bl false)) .nil) .nil) (.cons (.ife (.boolop false (.cons (.cmp .ne (.call 70 (.cons (.var 4) (.cons (.var 3) .nil))) (.bin .add (.var 12) (.var 6))) (.cons (.cmp .ne (.call 54 (.cons (.var 3) (.cons (.var 4) .nil))) (.tup (.cons (.int 0) (.cons (.int 0) .nil)))) .nil))) (.cons (.ret (.bl false)) .nil) .nil) (.cons (.asg (.name 7) (.bin .fdiv (.bin .mul (.var 13) (.bin .sub (.var 5) (.var 12))) (.int 1000))) (.cons (.ife (.cmp .ne (.call 54 (.cons (.var 4) (.cons (.var 3) .nil))) (.tup (.cons (.var 7) (.cons (.bin .add (.var 12) (.bin .fdiv (.bin .sub (.bin .add (.bin .mul (.int 1000) (.var 7)) (.var 13)) (.int 1)) (.var 13))) .nil)))) (.cons (.ret (.bl false)) .nil) .nil) (.cons (.asg (.name 8) (.bin .add (.int 1) (.callio 7 2 (.cons (.blt .min2 (.cons (.int 999) (.cons (.bin .sub (.var 12) (.int 1)) .nil))) .nil)))) (.cons (.asg (.name 9) (.bin .add (.slice (.var 3) .none (.some (.int 4))) (.tup (.cons (.tup (.cons (.var 12) (.cons (.var 8) .nil))) (.cons (.int 0) .nil))))) (.cons (.ife (.boolop false (.cons (.cmp .ne (.call 54 (.cons (.var 3) (.cons (.var 9) .nil))) (.tup (.cons (.var 8) (.cons (.var 8) .nil)))) (.cons (.cmp .ne (.call 64 (.cons (.var 9) (.cons (.var 3) .nil))) (.var 12)) .nil))) (.cons (.ret (.bl false)) .nil) .nil) (.cons (.ife (.boolop false (.cons (.cmp .ne (.call 70 (.cons (.var 3) (.cons (.var 9) .nil))) (.bin .add (.bin .sub (.var 5) (.var 12)) (.int 2))) (.cons (.cmp .notN (.call 81 (.cons (.var 9) .nil)) .non) .nil))) (.cons (.ret (.bl false)) .nil) .nil) (.cons (.asg (.name 10) (.bin .add (.tup (.cons (.tup (.cons (.tup (.cons (.int 0) (.cons (.var 13) .nil))) (.cons (.tup (.cons (.var 12) (.cons (.int 0) .nil))) .nil))) (.cons (.str (Str.ofString "whole")) .nil))) (.slice (.var 3) (.some (.int 2)) .none))) (.cons (.asg (.name 11) (.bin .fdiv (.bin .mul (.var 13) (.bin .sub (.var 12) (.int 1))) (.int 1000))) (.cons (.ife (.cmp .ne (.call 54 (.cons (.var 10) (.cons (.var 3) .nil))) (.tup (.cons (.var 11) (.cons (.ife (.cmp .gt (.var 11) (.int 0)) (.bin .fdiv (.bin .sub (.bin .add (.bin .mul (.int 1000) (.var 11)) (.var 13)) (.int 1)) (.var 13)) (.int 0)) .nil)))) (.cons (.ret (.bl false)) .nil) .nil) (.cons (.ife (.boolop false (.cons (.cmp .ne (.call 64 (.cons (.var 3) (.cons (.var 10) .nil))) (.ife (.cmp .gt (.var 11) (.int 0)) (.var 12) (.int 0))) (.cons (.cmp .ne (.call 64 (.cons (.var 10) (.cons (.var 3) .nil))) (.int 0)) .nil))) (.cons (.ret (.bl false)) .nil) .nil) (.cons (.ife (.cmp .ne (.call 70 (.cons (.var 10) (.cons (.var 3) .nil))) (.bin .add (.bin .sub (.bin .add (.blt .min2 (.cons (.var 6) (.cons (.var 12) .nil))) (.var 5)) (.var 12)) (.int 1))) (.cons (.ret (.bl false)) .nil) .nil) .nil)))))))))))))))))))
def r82_0 : ISs := (.cons (.ret (.bl true)) .nil)
/-- law: script k source flat late top wait lead_so fee_so poor near loss far more -/
def f82 : Fn := ⟨1, 14, false, (.cons (.for_ t82_0 (.range (.cons (.blt .max2 (.cons (.int 5) (.cons (.blt .min2 (.cons (.int 14) (.cons (.blt .len (.cons (.var 0) .nil)) .nil))) .nil))) .nil)) b82_0) r82_0)⟩
def x83_0 : IE := (.ife (.cmp .notN (.idx (.var 8) (.int 3)) .non) (.idx (.idx (.var 8) (.int 3)) (.int 0)) (.int 1))
def u83_0 : Tg := (.name 8)
def i83_0 : IT := (.seq (.tup (.cons (.var 0) (.cons (.var 1) .nil))))
def c83_0 : IEs := .nil
def t83_0 : Tg := (.name 2)
def b83_0 : ISs := (.cons (.asg (.name 7) (.tup (.cons (.call 24 (.cons (.var 0) (.cons (.var 2) .nil))) (.cons (.call 24 (.cons (.var 1) (.cons (.var 2) .nil))) .nil)))) (.cons (.ife (.cmp .notin (.var 7) (.bor 6)) (.cons (.append 6 (.var 7)) (.cons (.append 5 (.tup (.cons (.var 2) (.cons (.var 7) .nil)))) .nil)) .nil) .nil))
/-- idle_pairs: one other idle first second found known dues plan -/
def f83 : Fn := ⟨2, 9, false, (.cons (.asg (.tup [(.name 3), (.name 4)]) (.comp x83_0 u83_0 i83_0 c83_0 [8])) (.cons (.par [5, 6] (.cons (.lst .nil) (.cons (.lst .nil) .nil))) (.cons (.for_ t83_0 (.range (.cons (.int 1) (.cons (.bin .add (.bin .fdiv (.bin .mul (.var 3) (.var 4)) (.call 61 (.cons (.var 3) (.cons (.var 4) .nil)))) (.int 1)) .nil))) b83_0) (.cons (.ret (.mov 5)) .nil))))⟩
def t84_0 : Tg := (.name 8)
def b84_0 : ISs := (.cons (.ife (.cmp .ne (.call 51 (.cons (.var 5) (.cons (.var 8) .nil))) (.call 51 (.cons (.var 6) (.cons (.var 8) .nil)))) (.cons (.ret (.mov 8)) .nil) .nil) .nil)
def t84_1 : Tg := (.tup [(.name 3), (.name 4), (.name 5), (.name 6)])
def b84_1 : ISs := (.cons (.ife (.not (.call 62 (.cons (.var 5) (.cons (.var 6) .nil)))) (.cons (.asg (.name 7) (.ife (.cmp .isN (.var 4) .non) (.bin .add (.var 3) (.glo (Str.ofString "NEAR") (2001))) (.blt .min2 (.cons (.var 4) (.cons (.bin .add (.var 3) (.glo (Str.ofString "NEAR") (2001))) .nil))))) (.cons (.for_ t84_0 (.range (.cons (.var 3) (.cons (.bin .add (.var 7) (.int 1)) .nil))) b84_0) .nil)) .nil) .nil)
/-- unlike_base: one other dues first last here there end base -/
def f84 : Fn := ⟨3, 9, false, (.cons (.for_ t84_1 (.seq (.call 50 (.cons (.var 0) (.cons (.var 1) (.cons (.var 2) .nil))))) b84_1) (.cons (.ret .non) .nil))⟩
def t85_0 : Tg := (.name 2)
def b85_0 : ISs := (.cons (.ife (.cmp .ne (.call 28 (.cons (.var 0) (.cons (.var 2) .nil))) (.call 28 (.cons (.var 1) (.cons (.var 2) .nil)))) (.cons (.ret (.mov 2)) .nil) .nil) .nil)
/-- unlike_taken: one other taken -/
def f85 : Fn := ⟨2, 3, false, (.cons (.ife (.cmp .eq (.idx (.var 0) (.int 5)) (.idx (.var 1) (.int 5))) (.cons (.ret .non) .nil) .nil) (.cons (.for_ t85_0 (.range (.cons (.int 1) (.cons (.int 1001) .nil))) b85_0) (.cons (.ret .non) .nil)))⟩
/-- taking_row: one other taken base -/
def f86 : Fn := ⟨2, 4, false, (.cons (.asg (.name 2) (.call 85 (.cons (.var 0) (.cons (.var 1) .nil)))) (.cons (.ife (.cmp .notN (.var 2) .non) (.cons (.ret (.tup (.cons (.glo (Str.ofString "DEPOSIT") (10000000)) (.cons (.neg (.var 2)) .nil)))) .nil) .nil) (.cons (.asg (.name 3) (.call 84 (.cons (.var 0) (.cons (.var 1) (.cons (.tup (.cons (.bl false) (.cons (.bl false) .nil))) .nil))))) (.cons (.ret (.ife (.cmp .isN (.var 3) .non) .non (.tup (.cons (.glo (Str.ofString "DEPOSIT") (10000000)) (.cons (.bin .sub (.var 3) (.call 32 (.cons (.var 0) (.cons (.tup (.cons (.glo (Str.ofString "DEPOSIT") (10000000)) .nil)) .nil)))) .nil))))) .nil))))⟩
/-- paying_row: one other idle dues base -/
def f87 : Fn := ⟨4, 5, false, (.cons (.asg (.name 4) (.call 84 (.cons (.var 0) (.cons (.var 1) (.cons (.var 3) .nil))))) (.cons (.ret (.ife (.cmp .isN (.var 4) .non) .non (.bin .add (.bin .mul (.tup (.cons (.int 0) .nil)) (.bin .sub (.var 2) (.int 1))) (.tup (.cons (.var 4) .nil))))) .nil))⟩
def t88_0 : Tg := (.tup [(.name 4), (.name 5)])
def b88_0 : ISs := (.cons (.ife (.cmp .isN (.var 3) .non) (.cons (.asg (.name 3) (.call 87 (.cons (.var 0) (.cons (.var 1) (.cons (.var 4) (.cons (.var 5) .nil)))))) .nil) .nil) .nil)
/-- parting_of: one other pairs found idle dues -/
def f88 : Fn := ⟨2, 6, false, (.cons (.asg (.name 2) (.call 83 (.cons (.var 0) (.cons (.var 1) .nil)))) (.cons (.asg (.name 3) (.call 87 (.cons (.var 0) (.cons (.var 1) (.cons (.idx (.idx (.var 2) (.int 0)) (.int 0)) (.cons (.idx (.idx (.var 2) (.int 0)) (.int 1)) .nil)))))) (.cons (.ife (.cmp .isN (.var 3) .non) (.cons (.asg (.name 3) (.call 86 (.cons (.var 0) (.cons (.var 1) .nil)))) .nil) .nil) (.cons (.for_ t88_0 (.seq (.slice (.var 2) (.some (.int 1)) .none)) b88_0) (.cons (.ret (.mov 3)) .nil)))))⟩
/-- are_alike: one other -/
def f89 : Fn := ⟨2, 2, false, (.cons (.ret (.cmp .isN (.call 88 (.cons (.var 0) (.cons (.var 1) .nil))) .non)) .nil)⟩
/-- alike: one other -/
def f90 : Fn := ⟨2, 2, false, (.cons (.expr (.call 21 (.cons (.var 0) .nil))) (.cons (.expr (.call 21 (.cons (.var 1) .nil))) (.cons (.ret (.call 89 (.cons (.var 0) (.cons (.var 1) .nil)))) .nil)))⟩
/-- parting_row: one other -/
def f91 : Fn := ⟨2, 2, false, (.cons (.expr (.call 21 (.cons (.var 0) .nil))) (.cons (.expr (.call 21 (.cons (.var 1) .nil))) (.cons (.ret (.call 88 (.cons (.var 0) (.cons (.var 1) .nil)))) .nil)))⟩
def t92_0 : Tg := (.name 3)
def b92_0 : ISs := (.cons (.ife (.cmp .ne (.call 39 (.cons (.var 0) (.cons (.var 3) (.cons (.idx (.var 2) (.int 0)) .nil)))) (.call 39 (.cons (.var 1) (.cons (.var 3) (.cons (.idx (.var 2) (.int 1)) .nil))))) (.cons (.ret (.mov 3)) .nil) .nil) .nil)
/-- _law_first_unlike: one two dues base_so -/
def f92 : Fn := ⟨3, 4, false, (.cons (.for_ t92_0 (.range (.cons (.int 4000) .nil)) b92_0) (.cons (.ret .non) .nil))⟩
def t93_0 : Tg := (.name 2)
def b93_0 : ISs := (.cons (.asg (.name 5) (.tup (.cons (.call 37 (.cons (.var 0) (.cons (.var 2) .nil))) (.cons (.call 37 (.cons (.var 1) (.cons (.var 2) .nil))) .nil)))) (.cons (.ife (.cmp .notin (.var 5) (.bor 4)) (.cons (.append 4 (.var 5)) (.cons (.append 3 (.tup (.cons (.var 2) (.cons (.var 5) .nil)))) .nil)) .nil) .nil))
/-- _law_kinds: one two months_so found known dues -/
def f93 : Fn := ⟨2, 6, false, (.cons (.par [3, 4] (.cons (.lst .nil) (.cons (.lst .nil) .nil))) (.cons (.for_ t93_0 (.range (.cons (.int 1) (.cons (.int 133) .nil))) b93_0) (.cons (.ret (.mov 3)) .nil)))⟩
def t94_0 : Tg := (.tup [(.name 2), (.name 3)])
def b94_0 : ISs := (.cons (.ife (.boolop true (.cons (.cmp .gt (.var 2) (.int 1)) (.cons (.call 95 (.cons (.var 0) (.cons (.var 1) .nil))) .nil))) (.cons (.ret (.int 2)) .nil) .nil) (.cons (.ife (.cmp .notN (.call 92 (.cons (.var 0) (.cons (.var 1) (.cons (.var 3) .nil)))) .non) (.cons (.ret (.mov 2)) .nil) .nil) .nil))
/-- _law_fewest: one two months_so dues -/
def f94 : Fn := ⟨2, 4, false, (.cons (.for_ t94_0 (.seq (.call 93 (.cons (.var 0) (.cons (.var 1) .nil)))) b94_0) (.cons (.ret (.ife (.call 95 (.cons (.var 0) (.cons (.var 1) .nil))) (.int 2) .non)) .nil))⟩
/-- _law_taking: one two -/
def f95 : Fn := ⟨2, 2, false, (.cons (.ret (.boolop false (.cons (.cmp .ne (.idx (.var 0) (.int 5)) (.idx (.var 1) (.int 5))) (.cons (.cmp .notN (.call 92 (.cons (.var 0) (.cons (.var 1) (.cons (.tup (.cons (.bl false) (.cons (.bl false) .nil))) .nil)))) .non) .nil)))) .nil)⟩
def t96_0 : Tg := (.name 5)
def b96_0 : ISs := (.cons (.asg (.name 12) (.callio 14 4 (.cons (.int 300) .nil))) (.cons (.asg (.name 13) (.ife (.cmp .gt (.callio 7 4 (.cons (.int 3) .nil)) (.int 0)) (.callio 55 4 (.cons (.var 12) .nil)) (.callio 14 4 (.cons (.int 300) .nil)))) (.cons (.par [14, 15] (.cons (.call 94 (.cons (.var 12) (.cons (.var 13) .nil))) (.cons (.call 91 (.cons (.var 12) (.cons (.var 13) .nil))) .nil))) (.cons (.ife (.not (.call 8 (.cons (.call 90 (.cons (.var 12) (.cons (.var 13) .nil))) (.cons (.cmp .isN (.var 14) .non) .nil)))) (.cons (.ret (.bl false)) .nil) .nil) (.cons (.ife (.not (.call 8 (.cons (.call 90 (.cons (.var 13) (.cons (.var 12) .nil))) (.cons (.cmp .isN (.var 14) .non) .nil)))) (.cons (.ret (.bl false)) .nil) .nil) (.cons (.ife (.cmp .isN (.var 14) .non) (.cons (.ife (.cmp .notN (.var 15) .non) (.cons (.ret (.bl false)) .nil) .nil) .nil) (.cons (.ife (.boolop false (.cons (.not (.call 5 (.cons (.var 15) .nil))) (.cons (.cmp .ne (.blt .len (.cons (.var 15) .nil)) (.var 14)) .nil))) (.cons (.ret (.bl false)) .nil) (.cons (.ife (.cmp .eq (.idx (.call 42 (.cons (.var 12) (.cons (.tup (.cons (.int 0) (.cons (.int 0) .nil))) (.cons (.var 15) .nil)))) (.int 0)) (.idx (.call 42 (.cons (.var 13) (.cons (.tup (.cons (.int 0) (.cons (.int 0) .nil))) (.cons (.var 15) .nil)))) (.int 0))) (.cons (.ret (.bl false)) .nil) .nil) .nil)) .nil)) .nil))))))
def t96_1 : Tg := (.name 1)
def b96_1 : ISs := (.cons (.asg (.name 4) (.call 6 (.cons (.var 0) (.cons (.var 1) .nil)))) (.cons (.for_ t96_0 (.range (.cons (.int 2) .nil)) b96_0) .nil))
def r96_0 : ISs := (.cons (.asg (.name 2) (.tup (.cons (.tup (.cons (.tup (.cons (.int 0) (.cons (.int 10) .nil))) .nil)) (.cons (.str (Str.ofString "parts")) (.cons (.str (Str.ofString "down")) (.cons .non (.cons .non (.cons (.int 499) .nil)))))))) (.cons (.ife (.boolop false (.cons (.cmp .ne (.blt .len (.cons (.call 91 (.cons (.var 2) (.cons (.bin .add (.slice (.var 2) .none (.some (.int 5))) (.tup (.cons (.int 500) .nil))) .nil))) .nil)) (.int 2)) (.cons (.cmp .notB (.call 90 (.cons (.bin .add (.slice (.var 2) .none (.some (.int 5))) (.tup (.cons (.int 0) .nil))) (.cons (.bin .add (.slice (.var 2) .none (.some (.int 5))) (.tup (.cons (.int 1) .nil))) .nil))) (.bl false)) .nil))) (.cons (.ret (.bl false)) .nil) .nil) (.cons (.par [6, 7] (.cons (.tup (.cons (.bin .pow (.int 10) (.int 6)) (.cons (.int 900) .nil))) (.cons (.tup (.cons (.bin .pow (.int 10) (.int 6)) (.cons (.int 1000) .nil))) .nil))) (.cons (.asg (.name 3) (.tup (.cons (.tup (.cons (.tup (.cons (.int 0) (.cons (.int 0) .nil))) (.cons (.tup (.cons (.int 50) (.cons (.int 0) .nil))) .nil))) (.cons (.str (Str.ofString "parts")) (.cons (.str (Str.ofString "down")) (.cons .non .nil)))))) (.cons (.ife (.cmp .ne (.blt .len (.cons (.call 91 (.cons (.bin .add (.var 3) (.tup (.cons (.var 6) (.cons (.int 0) .nil)))) (.cons (.bin .add (.var 3) (.tup (.cons (.var 7) (.cons (.int 0) .nil)))) .nil))) .nil)) (.int 1)) (.cons (.ret (.bl false)) .nil) .nil) (.cons (.par [8, 9] (.cons (.bin .add (.slice (.var 2) .none (.some (.int 3))) (.tup (.cons (.tup (.cons (.int 3) (.cons (.int 5) .nil))) (.cons .non (.cons (.int 0) .nil))))) (.cons (.bin .add (.slice (.var 2) .none (.some (.int 3))) (.tup (.cons (.tup (.cons (.int 3) (.cons (.int 6) .nil))) (.cons .non (.cons (.int 0) .nil))))) .nil))) (.cons (.ife (.cmp .ne (.blt .len (.cons (.call 91 (.cons (.var 8) (.cons (.var 9) .nil))) .nil)) (.int 3)) (.cons (.ret (.bl false)) .nil) .nil) (.cons (.par [10, 11] (.cons (.bin .add (.slice (.var 2) .none (.some (.int 3))) (.tup (.cons (.tup (.cons (.int 11) (.cons (.int 5) .nil))) (.cons .non (.cons (.int 0) .nil))))) (.cons (.bin .add (.slice (.var 2) .none (.some (.int 3))) (.tup (.cons (.tup (.cons (.int 12) (.cons (.int 5) .nil))) (.cons .non (.cons (.int 0) .nil))))) .nil))) (.cons (.ret (.boolop true (.cons (.cmp .eq (.blt .len (.cons (.call 91 (.cons (.var 10) (.cons (.var 11) .nil))) .nil)) (.int 11)) (.cons (.cmp .eq (.blt .len (.cons (.call 91 (.cons (.bin .add (.slice (.var 2) .none (.some (.int 5))) (.tup (.cons (.int 0) .nil))) (.cons (.var 11) .nil))) .nil)) (.int 12)) (.cons (.cmp .isN (.call 91 (.cons (.var 11) (.cons (.var 11) .nil))) .non) .nil))))) .nil)))))))))
/-- law: script k p low source turn high higher three more q r one two due found -/
def f96 : Fn := ⟨1, 16, false, (.cons (.for_ t96_1 (.range (.cons (.blt .max2 (.cons (.int 4) (.cons (.blt .min2 (.cons (.int 8) (.cons (.blt .len (.cons (.var 0) .nil)) .nil))) .nil))) .nil)) b96_1) r96_0)⟩
def x97_0 : IE := (.int 1)
def u97_0 : Tg := (.tup [(.name 6), (.name 7)])
def i97_0 : IT := (.seq (.var 2))
def c97_0 : IEs := (.cons (.cmp .ne (.var 7) (.idx (.idx (.var 2) (.int 0)) (.int 1))) .nil)
/-- _law_written_otherwise: source p bands_so manner_so at end_so start_so rate middle -/
def f97 : Fn := ⟨2, 9, true, (.cons (.asg (.name 2) (.idx (.var 1) (.int 0))) (.cons (.ife (.cmp .lt (.blt .len (.cons (.var 2) .nil)) (.int 5)) (.cons (.asg (.name 4) (.callio 7 0 (.cons (.blt .len (.cons (.var 2) .nil)) .nil))) (.cons (.asg (.tup [(.name 6), (.name 7)]) (.idx (.var 2) (.var 4))) (.cons (.asg (.name 5) (.ife (.cmp .lt (.bin .add (.var 4) (.int 1)) (.blt .len (.cons (.var 2) .nil))) (.idx (.idx (.var 2) (.bin .add (.var 4) (.int 1))) (.int 0)) (.bin .add (.bin .pow (.int 10) (.int 6)) (.int 1)))) (.cons (.ife (.cmp .gt (.bin .sub (.var 5) (.var 6)) (.int 1)) (.cons (.asg (.name 8) (.bin .add (.bin .add (.var 6) (.int 1)) (.callio 7 0 (.cons (.bin .sub (.bin .sub (.var 5) (.var 6)) (.int 1)) .nil)))) (.cons (.asg (.name 2) (.bin .add (.bin .add (.slice (.var 2) .none (.some (.bin .add (.var 4) (.int 1)))) (.tup (.cons (.tup (.cons (.var 8) (.cons (.var 7) .nil))) .nil))) (.slice (.var 2) (.some (.bin .add (.var 4) (.int 1))) .none))) .nil)) .nil) .nil)))) .nil) (.cons (.asg (.name 3) (.idx (.var 1) (.int 1))) (.cons (.ife (.cmp .eq (.comp x97_0 u97_0 i97_0 c97_0 [6, 7]) (.lst .nil)) (.cons (.asg (.name 3) (.callio 9 0 (.cons (.lst (.cons (.str (Str.ofString "parts")) (.cons (.str (Str.ofString "whole")) .nil))) .nil))) .nil) .nil) (.cons (.ret (.bin .add (.tup (.cons (.var 2) (.cons (.var 3) .nil))) (.slice (.var 1) (.some (.int 2)) .none))) .nil)))))⟩
def t98_0 : Tg := (.name 1)
def b98_0 : ISs := (.cons (.asg (.name 5) (.call 6 (.cons (.var 0) (.cons (.var 1) .nil)))) (.cons (.asg (.name 6) (.callio 14 5 (.cons (.callio 9 5 (.cons (.lst (.cons (.int 50) (.cons (.int 3000) (.cons (.bin .pow (.int 10) (.int 6)) .nil)))) .nil)) .nil))) (.cons (.ife (.cmp .eq (.callio 7 5 (.cons (.int 3) .nil)) (.int 0)) (.cons (.asg (.name 6) (.bin .add (.tup (.cons (.slice (.idx (.var 6) (.int 0)) .none (.some (.int 1))) .nil)) (.slice (.var 6) (.some (.int 1)) .none))) .nil) .nil) (.cons (.asg (.name 7) (.callio 97 5 (.cons (.callio 97 5 (.cons (.var 6) .nil)) .nil))) (.cons (.ife (.boolop false (.cons (.cmp .notB (.call 90 (.cons (.var 6) (.cons (.var 7) .nil))) (.bl true)) (.cons (.cmp .notB (.call 90 (.cons (.var 7) (.cons (.var 6) .nil))) (.bl true)) (.cons (.cmp .notN (.call 91 (.cons (.var 6) (.cons (.var 7) .nil))) .non) .nil)))) (.cons (.ret (.bl false)) .nil) .nil) (.cons (.asg (.name 8) (.callio 15 5 (.cons (.int 20) (.cons (.int 4000) .nil)))) (.cons (.ife (.cmp .ne (.call 33 (.cons (.var 6) (.cons (.var 8) .nil))) (.call 33 (.cons (.var 7) (.cons (.var 8) .nil)))) (.cons (.ret (.bl false)) .nil) .nil) .nil)))))))
def r98_0 : ISs := (.cons (.asg (.name 2) (.tup (.cons (.tup (.cons (.tup (.cons (.int 0) (.cons (.int 0) .nil))) (.cons (.tup (.cons (.int 100) (.cons (.int 1) .nil))) (.cons (.tup (.cons (.int 200) (.cons (.int 0) .nil))) .nil)))) (.cons (.str (Str.ofString "parts")) (.cons (.str (Str.ofString "down")) (.cons .non (.cons .non (.cons (.int 0) .nil)))))))) (.cons (.ife (.boolop false (.cons (.cmp .notB (.call 90 (.cons (.var 2) (.cons (.bin .add (.tup (.cons (.tup (.cons (.tup (.cons (.int 0) (.cons (.int 0) .nil))) .nil)) .nil)) (.slice (.var 2) (.some (.int 1)) .none)) .nil))) (.bl true)) (.cons (.cmp .notB (.call 90 (.cons (.var 2) (.cons (.bin .add (.bin .add (.slice (.var 2) .none (.some (.int 2))) (.tup (.cons (.str (Str.ofString "half")) .nil))) (.slice (.var 2) (.some (.int 3)) .none)) .nil))) (.bl true)) .nil))) (.cons (.ret (.bl false)) .nil) .nil) (.cons (.asg (.name 3) (.tup (.cons (.tup (.cons (.tup (.cons (.int 0) (.cons (.int 0) .nil))) .nil)) (.cons (.str (Str.ofString "parts")) (.cons (.str (Str.ofString "down")) (.cons .non (.cons (.tup (.cons (.int 5) (.cons (.int 4) .nil))) (.cons (.int 0) .nil)))))))) (.cons (.asg (.name 4) (.tup (.cons (.tup (.cons (.tup (.cons (.int 0) (.cons (.int 0) .nil))) .nil)) (.cons (.str (Str.ofString "parts")) (.cons (.str (Str.ofString "down")) (.cons .non (.cons (.tup (.cons (.int 5) (.cons (.int 1000) .nil))) (.cons (.int 0) .nil)))))))) (.cons (.ret (.boolop true (.cons (.cmp .isB (.call 90 (.cons (.var 3) (.cons (.var 4) .nil))) (.bl true)) (.cons (.cmp .isB (.call 90 (.cons (.var 3) (.cons (.bin .add (.slice (.var 3) .none (.some (.int 4))) (.tup (.cons (.tup (.cons (.int 5) (.cons (.int 3) .nil))) (.cons (.int 0) .nil)))) .nil))) (.bl false)) .nil)))) .nil)))))
/-- law: script k low fee_so higher source p q payments -/
def f98 : Fn := ⟨1, 9, false, (.cons (.for_ t98_0 (.range (.cons (.blt .max2 (.cons (.int 5) (.cons (.blt .min2 (.cons (.int 12) (.cons (.blt .len (.cons (.var 0) .nil)) .nil))) .nil))) .nil)) b98_0) r98_0)⟩
/-- _law_parts_by: one two months_so least_so found -/
def f99 : Fn := ⟨4, 5, false, (.cons (.asg (.name 4) (.call 91 (.cons (.var 0) (.cons (.var 1) .nil)))) (.cons (.ife (.boolop false (.cons (.not (.call 5 (.cons (.var 4) .nil))) (.cons (.cmp .ne (.blt .len (.cons (.var 4) .nil)) (.var 2)) (.cons (.cmp .notB (.call 90 (.cons (.var 0) (.cons (.var 1) .nil))) (.bl false)) .nil)))) (.cons (.ret (.bl false)) .nil) .nil) (.cons (.ife (.boolop true (.cons (.cmp .eq (.var 2) (.int 1)) (.cons (.cmp .lt (.idx (.var 4) (.neg (.int 1))) (.var 3)) .nil))) (.cons (.ret (.bl false)) .nil) .nil) (.cons (.ret (.cmp .ne (.idx (.call 42 (.cons (.var 0) (.cons (.tup (.cons (.int 0) (.cons (.int 0) .nil))) (.cons (.var 4) .nil)))) (.int 0)) (.idx (.call 42 (.cons (.var 1) (.cons (.tup (.cons (.int 0) (.cons (.int 0) .nil))) (.cons (.var 4) .nil)))) (.int 0)))) .nil))))⟩
def t100_0 : Tg := (.name 1)
def b100_0 : ISs := (.cons (.asg (.name 2) (.call 6 (.cons (.var 0) (.cons (.var 1) .nil)))) (.cons (.asg (.name 3) (.bin .add (.int 5000) (.callio 7 2 (.cons (.int 900000) .nil)))) (.cons (.asg (.name 4) (.bin .add (.int 1) (.callio 7 2 (.cons (.int 99) .nil)))) (.cons (.asg (.name 5) (.tup (.cons (.tup (.cons (.int 0) (.cons (.callio 7 2 (.cons (.int 101) .nil)) .nil))) (.cons (.tup (.cons (.var 3) (.cons (.var 4) .nil))) .nil)))) (.cons (.asg (.name 6) (.tup (.cons (.var 5) (.cons (.str (Str.ofString "parts")) (.cons (.callio 9 2 (.cons (.lst (.cons (.str (Str.ofString "down")) (.cons (.str (Str.ofString "half")) .nil))) .nil)) (.cons .non (.cons .non (.cons (.callio 7 2 (.cons (.int 3) .nil)) .nil)))))))) (.cons (.asg (.name 7) (.bin .add (.tup (.cons (.bin .add (.slice (.var 5) .none (.some (.int 1))) (.tup (.cons (.tup (.cons (.var 3) (.cons (.bin .add (.var 4) (.int 1)) .nil))) .nil))) .nil)) (.slice (.var 6) (.some (.int 1)) .none))) (.cons (.ife (.not (.call 99 (.cons (.var 6) (.cons (.var 7) (.cons (.int 1) (.cons (.var 3) .nil)))))) (.cons (.ret (.bl false)) .nil) .nil) (.cons (.asg (.name 8) (.bin .add (.tup (.cons (.bin .add (.var 5) (.tup (.cons (.tup (.cons (.bin .pow (.int 10) (.int 6)) (.cons (.bin .sub (.var 4) (.int 1)) .nil))) .nil))) .nil)) (.slice (.var 6) (.some (.int 1)) .none))) (.cons (.ife (.not (.call 99 (.cons (.var 6) (.cons (.var 8) (.cons (.int 1) (.cons (.bin .pow (.int 10) (.int 6)) .nil)))))) (.cons (.ret (.bl false)) .nil) .nil) (.cons (.asg (.name 9) (.bin .add (.bin .add (.slice (.var 6) .none (.some (.int 4))) (.tup (.cons (.tup (.cons (.var 3) (.cons (.int 1) .nil))) .nil))) (.slice (.var 6) (.some (.int 5)) .none))) (.cons (.ife (.not (.call 99 (.cons (.var 9) (.cons (.bin .add (.bin .add (.slice (.var 6) .none (.some (.int 4))) (.tup (.cons (.tup (.cons (.bin .add (.var 3) (.int 1)) (.cons (.int 1) .nil))) .nil))) (.slice (.var 6) (.some (.int 5)) .none)) (.cons (.int 1) (.cons (.var 3) .nil)))))) (.cons (.ret (.bl false)) .nil) .nil) (.cons (.asg (.name 10) (.bin .add (.int 2) (.callio 7 2 (.cons (.int 11) .nil)))) (.cons (.asg (.name 11) (.bin .add (.bin .add (.slice (.var 6) .none (.some (.int 3))) (.tup (.cons (.tup (.cons (.var 10) (.cons (.int 100) .nil))) .nil))) (.slice (.var 6) (.some (.int 4)) .none))) (.cons (.ife (.not (.call 99 (.cons (.var 6) (.cons (.var 11) (.cons (.var 10) (.cons (.int 0) .nil)))))) (.cons (.ret (.bl false)) .nil) .nil) (.cons (.asg (.name 12) (.bin .add (.slice (.var 11) .none (.some (.int 5))) (.tup (.cons (.bin .add (.idx (.var 6) (.int 5)) (.int 1)) .nil)))) (.cons (.ife (.not (.call 99 (.cons (.var 11) (.cons (.var 12) (.cons (.int 2) (.cons (.int 0) .nil)))))) (.cons (.ret (.bl false)) .nil) .nil) (.cons (.asg (.name 13) (.bin .add (.tup (.cons (.var 5) (.cons (.str (Str.ofString "whole")) .nil))) (.slice (.var 11) (.some (.int 2)) .none))) (.cons (.asg (.name 14) (.bin .add (.tup (.cons (.tup (.cons (.tup (.cons (.int 0) (.cons (.idx (.idx (.var 5) (.int 0)) (.int 1)) .nil))) (.cons (.tup (.cons (.bin .add (.var 3) (.int 1)) (.cons (.var 4) .nil))) .nil))) (.cons (.str (Str.ofString "whole")) .nil))) (.slice (.var 11) (.some (.int 2)) .none))) (.cons (.ife (.boolop true (.cons (.cmp .ne (.idx (.idx (.var 5) (.int 0)) (.int 1)) (.var 4)) (.cons (.not (.call 99 (.cons (.var 13) (.cons (.var 14) (.cons (.int 1) (.cons (.var 3) .nil)))))) .nil))) (.cons (.ret (.bl false)) .nil) .nil) .nil)))))))))))))))))))
def r100_0 : ISs := (.cons (.ret (.bl true)) .nil)
/-- law: script k source far rate head p more later fee_so months_so bonus_so short first second -/
def f100 : Fn := ⟨1, 15, false, (.cons (.for_ t100_0 (.range (.cons (.blt .max2 (.cons (.int 5) (.cons (.blt .min2 (.cons (.int 12) (.cons (.blt .len (.cons (.var 0) .nil)) .nil))) .nil))) .nil)) b100_0) r100_0)⟩
/-- is_plan: value manner rounding bonus fee charge -/
def f101 : Fn := ⟨1, 6, false, (.cons (.ife (.boolop false (.cons (.not (.blt .isTup (.cons (.var 0) .nil))) (.cons (.cmp .ne (.blt .len (.cons (.var 0) .nil)) (.int 6)) (.cons (.not (.call 2 (.cons (.idx (.var 0) (.int 0)) .nil))) .nil)))) (.cons (.ret (.bl false)) .nil) .nil) (.cons (.asg (.tup [(.name 1), (.name 2), (.name 3), (.name 4), (.name 5)]) (.slice (.var 0) (.some (.int 1)) .none)) (.cons (.ife (.boolop false (.cons (.not (.blt .isStr (.cons (.var 1) .nil))) (.cons (.cmp .notin (.var 1) (.tup (.cons (.str (Str.ofString "parts")) (.cons (.str (Str.ofString "whole")) .nil)))) .nil))) (.cons (.ret (.bl false)) .nil) .nil) (.cons (.ife (.boolop false (.cons (.not (.blt .isStr (.cons (.var 2) .nil))) (.cons (.cmp .notin (.var 2) (.tup (.cons (.str (Str.ofString "down")) (.cons (.str (Str.ofString "half")) .nil)))) .nil))) (.cons (.ret (.bl false)) .nil) .nil) (.cons (.ife (.boolop true (.cons (.cmp .notN (.var 3) .non) (.cons (.not (.call 1 (.cons (.var 3) (.cons (.tup (.cons (.int 1) (.cons (.glo (Str.ofString "MAX_MONTHS_plans") (12)) .nil))) (.cons (.tup (.cons (.int 1) (.cons (.glo (Str.ofString "MAX_RATE") (100)) .nil))) .nil))))) .nil))) (.cons (.ret (.bl false)) .nil) .nil) (.cons (.ife (.boolop true (.cons (.cmp .notN (.var 4) .non) (.cons (.not (.call 1 (.cons (.var 4) (.cons (.tup (.cons (.int 1) (.cons (.glo (Str.ofString "MAX_START") (1000000)) .nil))) (.cons (.tup (.cons (.int 1) (.cons (.glo (Str.ofString "MAX_FEE") (1000)) .nil))) .nil))))) .nil))) (.cons (.ret (.bl false)) .nil) .nil) (.cons (.ret (.call 0 (.cons (.var 5) (.cons (.int 0) (.cons (.glo (Str.ofString "MAX_CHARGE") (500)) .nil))))) .nil)))))))⟩
/-- require_plan: value -/
def f102 : Fn := ⟨1, 1, false, (.cons (.ife (.not (.call 101 (.cons (.var 0) .nil))) (.cons .raise .nil) .nil) .nil)⟩
/-- alike: one other -/
def f103 : Fn := ⟨2, 2, false, (.cons (.expr (.call 102 (.cons (.var 0) .nil))) (.cons (.expr (.call 102 (.cons (.var 1) .nil))) (.cons (.ret (.call 89 (.cons (.var 0) (.cons (.var 1) .nil)))) .nil)))⟩
/- 104 alike_months: Dict -/
/-- alike_months: one other -/
def f104 : Fn := ⟨2, 2, false, (.cons .raise .nil)⟩
/- 105 law: Dict -/
/-- law: script -/
def f105 : Fn := ⟨1, 1, false, (.cons .raise .nil)⟩
def x106_0 : IE := (.call 1 (.cons (.var 3) (.cons (.tup (.cons (.int 0) (.cons (.glo (Str.ofString "MAX_START") (1000000)) .nil))) (.cons (.tup (.cons (.int 0) (.cons (.glo (Str.ofString "MAX_RATE_plans") (100)) .nil))) .nil))))
def u106_0 : Tg := (.name 3)
def i106_0 : IT := (.seq (.var 0))
def c106_0 : IEs := .nil
def x106_1 : IE := (.cmp .lt (.idx (.var 1) (.int 0)) (.idx (.var 2) (.int 0)))
def u106_1 : Tg := (.tup [(.name 1), (.name 2)])
def i106_1 : IT := (.zip (.var 0) (.slice (.var 0) (.some (.int 1)) .none))
def c106_1 : IEs := .nil
/-- are_bands: value one other band -/
def f106 : Fn := ⟨1, 4, false, (.cons (.ife (.boolop false (.cons (.not (.blt .isTup (.cons (.var 0) .nil))) (.cons (.not (.chain .le .le (.int 1) (.blt .len (.cons (.var 0) .nil)) (.glo (Str.ofString "MAX_BANDS") (5)))) .nil))) (.cons (.ret (.bl false)) .nil) .nil) (.cons (.ife (.boolop false (.cons (.not (.blt .all (.cons (.comp x106_0 u106_0 i106_0 c106_0 [3]) .nil))) (.cons (.cmp .ne (.idx (.idx (.var 0) (.int 0)) (.int 0)) (.int 0)) .nil))) (.cons (.ret (.bl false)) .nil) .nil) (.cons (.ret (.blt .all (.cons (.comp x106_1 u106_1 i106_1 c106_1 [1, 2]) .nil))) .nil)))⟩
/-- is_plan: value manner rounding bonus fee charge -/
def f107 : Fn := ⟨1, 6, false, (.cons (.ife (.boolop false (.cons (.not (.blt .isTup (.cons (.var 0) .nil))) (.cons (.cmp .ne (.blt .len (.cons (.var 0) .nil)) (.int 6)) (.cons (.not (.call 106 (.cons (.idx (.var 0) (.int 0)) .nil))) .nil)))) (.cons (.ret (.bl false)) .nil) .nil) (.cons (.asg (.tup [(.name 1), (.name 2), (.name 3), (.name 4), (.name 5)]) (.slice (.var 0) (.some (.int 1)) .none)) (.cons (.ife (.boolop false (.cons (.not (.blt .isStr (.cons (.var 1) .nil))) (.cons (.cmp .notin (.var 1) (.tup (.cons (.str (Str.ofString "parts")) (.cons (.str (Str.ofString "whole")) .nil)))) .nil))) (.cons (.ret (.bl false)) .nil) .nil) (.cons (.ife (.boolop false (.cons (.not (.blt .isStr (.cons (.var 2) .nil))) (.cons (.cmp .notin (.var 2) (.tup (.cons (.str (Str.ofString "down")) (.cons (.str (Str.ofString "half")) .nil)))) .nil))) (.cons (.ret (.bl false)) .nil) .nil) (.cons (.ife (.boolop true (.cons (.cmp .notN (.var 3) .non) (.cons (.not (.call 1 (.cons (.var 3) (.cons (.tup (.cons (.int 1) (.cons (.glo (Str.ofString "MAX_MONTHS") (12)) .nil))) (.cons (.tup (.cons (.int 1) (.cons (.glo (Str.ofString "MAX_RATE_plans") (100)) .nil))) .nil))))) .nil))) (.cons (.ret (.bl false)) .nil) .nil) (.cons (.ife (.boolop true (.cons (.cmp .notN (.var 4) .non) (.cons (.not (.call 1 (.cons (.var 4) (.cons (.tup (.cons (.int 1) (.cons (.glo (Str.ofString "MAX_START") (1000000)) .nil))) (.cons (.tup (.cons (.int 1) (.cons (.glo (Str.ofString "MAX_FEE") (1000)) .nil))) .nil))))) .nil))) (.cons (.ret (.bl false)) .nil) .nil) (.cons (.ret (.call 0 (.cons (.var 5) (.cons (.int 0) (.cons (.glo (Str.ofString "MAX_CHARGE") (500)) .nil))))) .nil)))))))⟩
/-- require_plan: value -/
def f108 : Fn := ⟨1, 1, false, (.cons (.ife (.not (.call 107 (.cons (.var 0) .nil))) (.cons .raise .nil) .nil) .nil)⟩
def t109_0 : Tg := (.tup [(.name 2), (.name 3)])
def b109_0 : ISs := (.cons (.ife (.boolop true (.cons (.cmp .ne (.bor 1) (.lst .nil)) (.cons (.cmp .le (.var 2) (.bin .add (.idx (.idx (.bor 1) (.neg (.int 1))) (.int 1)) (.int 1))) .nil))) (.cons (.setI 1 (.neg (.int 1)) (.tup (.cons (.idx (.idx (.bor 1) (.neg (.int 1))) (.int 0)) (.cons (.blt .max2 (.cons (.var 3) (.cons (.idx (.idx (.bor 1) (.neg (.int 1))) (.int 1)) .nil))) .nil)))) .nil) (.cons (.append 1 (.tup (.cons (.var 2) (.cons (.var 3) .nil)))) .nil)) .nil)
/-- joined: ranges found low high -/
def f109 : Fn := ⟨1, 4, false, (.cons (.asg (.name 1) (.lst .nil)) (.cons (.for_ t109_0 (.seq (.blt .sorted (.cons (.var 0) .nil))) b109_0) (.cons (.ret (.mov 1)) .nil)))⟩
/-- with_rate: plan index rate bands -/
def f110 : Fn := ⟨3, 4, false, (.cons (.asg (.name 3) (.idx (.var 0) (.int 0))) (.cons (.ret (.bin .add (.tup (.cons (.bin .add (.bin .add (.slice (.var 3) .none (.some (.var 1))) (.tup (.cons (.tup (.cons (.idx (.idx (.var 3) (.var 1)) (.int 0)) (.cons (.var 2) .nil))) .nil))) (.slice (.var 3) (.some (.bin .add (.var 1) (.int 1))) .none)) .nil)) (.slice (.var 0) (.some (.int 1)) .none))) .nil))⟩
def x111_0 : IE := (.var 3)
def u111_0 : Tg := (.name 3)
def i111_0 : IT := (.range (.cons (.bin .add (.glo (Str.ofString "MAX_RATE_slack") (100)) (.int 1)) .nil))
def c111_0 : IEs := (.cons (.call 89 (.cons (.var 0) (.cons (.call 110 (.cons (.var 0) (.cons (.var 1) (.cons (.var 3) .nil)))) .nil))) .nil)
def x111_1 : IE := (.tup (.cons (.var 3) (.cons (.var 3) .nil)))
def u111_1 : Tg := (.name 3)
def i111_1 : IT := (.seq (.var 2))
def c111_1 : IEs := .nil
/-- same_rates: plan index rates rate -/
def f111 : Fn := ⟨2, 4, false, (.cons (.expr (.call 108 (.cons (.var 0) .nil))) (.cons (.ife (.not (.call 0 (.cons (.var 1) (.cons (.int 0) (.cons (.bin .sub (.blt .len (.cons (.idx (.var 0) (.int 0)) .nil)) (.int 1)) .nil))))) (.cons .raise .nil) .nil) (.cons (.asg (.name 2) (.comp x111_0 u111_0 i111_0 c111_0 [3])) (.cons (.ret (.call 109 (.cons (.comp x111_1 u111_1 i111_1 c111_1 [3]) .nil))) .nil))))⟩
def x112_0 : IE := (.int 1)
def u112_0 : Tg := (.tup [(.name 2), (.name 3)])
def i112_0 : IT := (.seq (.var 1))
def c112_0 : IEs := (.cons (.chain .le .le (.var 2) (.var 0) (.var 3)) .nil)
/-- _law_within: rate ranges_so low high -/
def f112 : Fn := ⟨2, 4, false, (.cons (.ret (.cmp .ne (.comp x112_0 u112_0 i112_0 c112_0 [2, 3]) (.lst .nil))) .nil)⟩
def x113_0 : IE := (.callio 7 4 (.cons (.int 101) .nil))
def u113_0 : Tg := (.name 14)
def i113_0 : IT := (.range (.cons (.int 5) .nil))
def c113_0 : IEs := .nil
def t113_0 : Tg := (.tup [(.name 9), (.name 10)])
def b113_0 : ISs := (.cons (.asg (.name 7) (.bin .add (.var 7) (.lst (.cons (.bin .sub (.var 9) (.int 1)) (.cons (.var 9) (.cons (.var 10) (.cons (.bin .add (.var 10) (.int 1)) .nil))))))) .nil)
def t113_1 : Tg := (.name 8)
def b113_1 : ISs := (.cons (.ife (.chain .le .le (.int 0) (.var 8) (.int 100)) (.cons (.asg (.name 13) (.bin .add (.bin .add (.slice (.idx (.var 2) (.int 0)) .none (.some (.var 5))) (.tup (.cons (.tup (.cons (.idx (.idx (.idx (.var 2) (.int 0)) (.var 5)) (.int 0)) (.cons (.var 8) .nil))) .nil))) (.slice (.idx (.var 2) (.int 0)) (.some (.bin .add (.var 5) (.int 1))) .none))) (.cons (.ife (.cmp .ne (.cmp .isN (.call 94 (.cons (.var 2) (.cons (.bin .add (.tup (.cons (.var 13) .nil)) (.slice (.var 2) (.some (.int 1)) .none)) .nil))) .non) (.call 112 (.cons (.var 8) (.cons (.var 6) .nil)))) (.cons (.ret (.bl false)) .nil) .nil) .nil)) .nil) .nil)
def t113_2 : Tg := (.tup [(.name 11), (.name 12)])
def b113_2 : ISs := (.cons (.ife (.not (.chain .le .lt (.idx (.var 11) (.int 0)) (.idx (.var 11) (.int 1)) (.bin .sub (.idx (.var 12) (.int 0)) (.int 1)))) (.cons (.ret (.bl false)) .nil) .nil) .nil)
def t113_3 : Tg := (.name 1)
def b113_3 : ISs := (.cons (.asg (.name 4) (.call 6 (.cons (.var 0) (.cons (.var 1) .nil)))) (.cons (.asg (.name 2) (.callio 72 4 (.cons (.callio 14 4 (.cons (.int 300) .nil)) .nil))) (.cons (.asg (.name 5) (.callio 7 4 (.cons (.blt .len (.cons (.idx (.var 2) (.int 0)) .nil)) .nil))) (.cons (.asg (.name 6) (.call 111 (.cons (.var 2) (.cons (.var 5) .nil)))) (.cons (.ife (.boolop false (.cons (.not (.blt .isList (.cons (.bor 6) .nil))) (.cons (.not (.call 112 (.cons (.idx (.idx (.idx (.var 2) (.int 0)) (.var 5)) (.int 1)) (.cons (.var 6) .nil)))) .nil))) (.cons (.ret (.bl false)) .nil) .nil) (.cons (.asg (.name 7) (.bin .add (.lst (.cons (.int 0) (.cons (.int 100) .nil))) (.comp x113_0 u113_0 i113_0 c113_0 [14]))) (.cons (.for_ t113_0 (.seq (.var 6)) b113_0) (.cons (.for_ t113_1 (.seq (.var 7)) b113_1) (.cons (.for_ t113_2 (.zip (.var 6) (.slice (.bor 6) (.some (.int 1)) .none)) b113_2) (.cons (.append 6 (.tup (.cons (.int 0) (.cons (.int 0) .nil)))) (.cons (.ife (.cmp .ne (.call 111 (.cons (.var 2) (.cons (.var 5) .nil))) (.slice (.bor 6) .none (.some (.neg (.int 1))))) (.cons (.ret (.bl false)) .nil) .nil) .nil)))))))))))
def r113_0 : ISs := (.cons (.asg (.name 2) (.tup (.cons (.tup (.cons (.tup (.cons (.int 0) (.cons (.int 0) .nil))) (.cons (.tup (.cons (.int 100) (.cons (.int 1) .nil))) (.cons (.tup (.cons (.int 200) (.cons (.int 0) .nil))) .nil)))) (.cons (.str (Str.ofString "parts")) (.cons (.str (Str.ofString "down")) (.cons .non (.cons .non (.cons (.int 0) .nil)))))))) (.cons (.ife (.boolop false (.cons (.cmp .ne (.call 111 (.cons (.var 2) (.cons (.int 1) .nil))) (.lst (.cons (.tup (.cons (.int 0) (.cons (.int 9) .nil))) .nil))) (.cons (.cmp .ne (.call 111 (.cons (.var 2) (.cons (.int 0) .nil))) (.lst (.cons (.tup (.cons (.int 0) (.cons (.int 8) .nil))) .nil))) (.cons (.cmp .ne (.call 111 (.cons (.var 2) (.cons (.int 2) .nil))) (.lst (.cons (.tup (.cons (.int 0) (.cons (.int 0) .nil))) .nil))) .nil)))) (.cons (.ret (.bl false)) .nil) .nil) (.cons (.ife (.cmp .ne (.call 111 (.cons (.bin .add (.tup (.cons (.tup (.cons (.tup (.cons (.int 0) (.cons (.int 0) .nil))) (.cons (.tup (.cons (.int 100) (.cons (.int 1) .nil))) (.cons (.tup (.cons (.int 109) (.cons (.int 0) .nil))) .nil)))) .nil)) (.slice (.var 2) (.some (.int 1)) .none)) (.cons (.int 1) .nil))) (.lst (.cons (.tup (.cons (.int 0) (.cons (.int 100) .nil))) .nil))) (.cons (.ret (.bl false)) .nil) .nil) (.cons (.asg (.name 3) (.tup (.cons (.tup (.cons (.tup (.cons (.int 0) (.cons (.int 0) .nil))) (.cons (.tup (.cons (.int 100) (.cons (.int 1) .nil))) (.cons (.tup (.cons (.int 102) (.cons (.int 0) .nil))) .nil)))) (.cons (.str (Str.ofString "whole")) (.cons (.str (Str.ofString "half")) (.cons .non (.cons .non (.cons (.int 0) .nil)))))))) (.cons (.ret (.boolop true (.cons (.cmp .eq (.call 111 (.cons (.var 3) (.cons (.int 1) .nil))) (.lst (.cons (.tup (.cons (.int 0) (.cons (.int 4) .nil))) .nil))) (.cons (.cmp .eq (.call 111 (.cons (.bin .add (.bin .add (.slice (.var 2) .none (.some (.int 1))) (.tup (.cons (.str (Str.ofString "parts")) (.cons (.str (Str.ofString "half")) .nil)))) (.slice (.var 2) (.some (.int 3)) .none)) (.cons (.int 1) .nil))) (.lst (.cons (.tup (.cons (.int 0) (.cons (.int 4) .nil))) .nil))) .nil)))) .nil)))))
/-- law: script k p whole source index found ends rate low high one two bands_so turn -/
def f113 : Fn := ⟨1, 15, false, (.cons (.for_ t113_3 (.range (.cons (.blt .max2 (.cons (.int 1) (.cons (.blt .min2 (.cons (.int 2) (.cons (.blt .len (.cons (.var 0) .nil)) .nil))) .nil))) .nil)) b113_3) r113_0)⟩
def t114_0 : Tg := (.name 1)
def b114_0 : ISs := (.cons (.ife (.call 89 (.cons (.var 0) (.cons (.bin .add (.slice (.var 0) .none (.some (.int 4))) (.tup (.cons (.tup (.cons (.var 2) (.cons (.var 1) .nil))) (.cons (.idx (.var 0) (.int 5)) .nil)))) .nil))) (.cons (.append 3 (.tup (.cons (.var 1) (.cons (.var 1) .nil)))) .nil) .nil) .nil)
/-- same_amounts: plan amount least found -/
def f114 : Fn := ⟨1, 4, false, (.cons (.expr (.call 21 (.cons (.var 0) .nil))) (.cons (.ife (.cmp .isN (.idx (.var 0) (.int 4)) .non) (.cons (.ret (.lst .nil)) .nil) .nil) (.cons (.par [2, 3] (.cons (.idx (.idx (.var 0) (.int 4)) (.int 0)) (.cons (.lst .nil) .nil))) (.cons (.for_ t114_0 (.range (.cons (.int 1) (.cons (.bin .add (.glo (Str.ofString "MAX_AMOUNT") (1000)) (.int 1)) .nil))) b114_0) (.cons (.ret (.call 109 (.cons (.var 3) .nil))) .nil)))))⟩
def t115_0 : Tg := (.name 2)
def b115_0 : ISs := (.cons (.ife (.boolop true (.cons (.cmp .ne (.bor 1) (.lst .nil)) (.cons (.cmp .eq (.idx (.idx (.bor 1) (.neg (.int 1))) (.int 1)) (.bin .sub (.var 2) (.int 1))) .nil))) (.cons (.setI 1 (.neg (.int 1)) (.tup (.cons (.idx (.idx (.bor 1) (.neg (.int 1))) (.int 0)) (.cons (.var 2) .nil)))) .nil) (.cons (.append 1 (.tup (.cons (.var 2) (.cons (.var 2) .nil)))) .nil)) .nil)
/-- _law_ranges: numbers found number -/
def f115 : Fn := ⟨1, 3, false, (.cons (.asg (.name 1) (.lst .nil)) (.cons (.for_ t115_0 (.seq (.var 0)) b115_0) (.cons (.ret (.mov 1)) .nil)))⟩
def x116_0 : IE := (.bin .add (.var 2) (.call 38 (.cons (.var 0) (.cons (.var 2) (.cons (.bl false) .nil)))))
def u116_0 : Tg := (.name 2)
def i116_0 : IT := (.range (.cons (.idx (.idx (.var 0) (.int 4)) (.int 0)) .nil))
def c116_0 : IEs := .nil
def x116_1 : IE := (.bin .add (.var 2) (.call 38 (.cons (.var 0) (.cons (.var 2) (.cons (.bl true) .nil)))))
def u116_1 : Tg := (.name 2)
def i116_1 : IT := (.range (.cons (.idx (.idx (.var 0) (.int 4)) (.int 0)) .nil))
def c116_1 : IEs := .nil
/-- _law_ahead: p rows base_so -/
def f116 : Fn := ⟨1, 3, false, (.cons (.asg (.name 1) (.comp x116_0 u116_0 i116_0 c116_0 [2])) (.cons (.ife (.cmp .notN (.idx (.var 0) (.int 3)) .non) (.cons (.asg (.name 1) (.bin .add (.var 1) (.comp x116_1 u116_1 i116_1 c116_1 [2]))) .nil) .nil) (.cons (.ret (.mov 1)) .nil)))⟩
def x117_0 : IE := (.blt .max2 (.cons (.int 0) (.cons (.bin .sub (.var 2) (.var 1)) .nil)))
def u117_0 : Tg := (.name 2)
def i117_0 : IT := (.seq (.var 0))
def c117_0 : IEs := .nil
/-- _law_rows: ahead_so amount left_so -/
def f117 : Fn := ⟨2, 3, false, (.cons (.ret (.comp x117_0 u117_0 i117_0 c117_0 [2])) .nil)⟩
def x118_0 : IE := (.var 9)
def u118_0 : Tg := (.name 9)
def i118_0 : IT := (.range (.cons (.int 1) (.cons (.int 1001) .nil)))
def c118_0 : IEs := (.cons (.cmp .eq (.call 117 (.cons (.var 6) (.cons (.var 9) .nil))) (.var 7)) .nil)
def t118_0 : Tg := (.name 1)
def b118_0 : ISs := (.cons (.asg (.name 3) (.call 6 (.cons (.var 0) (.cons (.var 1) .nil)))) (.cons (.asg (.name 2) (.callio 14 3 (.cons (.int 150) .nil))) (.cons (.asg (.name 4) (.bin .add (.int 1) (.callio 7 3 (.cons (.int 90) .nil)))) (.cons (.asg (.name 5) (.callio 9 3 (.cons (.lst (.cons (.bin .add (.int 1) (.callio 7 3 (.cons (.int 5) .nil))) (.cons (.bin .add (.int 1) (.callio 7 3 (.cons (.int 1000) .nil))) .nil))) .nil))) (.cons (.asg (.name 2) (.bin .add (.slice (.var 2) .none (.some (.int 4))) (.tup (.cons (.tup (.cons (.var 4) (.cons (.var 5) .nil))) (.cons (.idx (.var 2) (.int 5)) .nil))))) (.cons (.asg (.name 6) (.call 116 (.cons (.var 2) .nil))) (.cons (.asg (.name 7) (.call 117 (.cons (.var 6) (.cons (.idx (.idx (.var 2) (.int 4)) (.int 1)) .nil)))) (.cons (.asg (.name 8) (.comp x118_0 u118_0 i118_0 c118_0 [9])) (.cons (.ife (.boolop false (.cons (.cmp .ne (.call 114 (.cons (.var 2) .nil)) (.call 115 (.cons (.var 8) .nil))) (.cons (.cmp .notin (.idx (.idx (.var 2) (.int 4)) (.int 1)) (.var 8)) .nil))) (.cons (.ret (.bl false)) .nil) .nil) (.cons (.ife (.cmp .ne (.call 114 (.cons (.bin .add (.slice (.var 2) .none (.some (.int 4))) (.tup (.cons .non (.cons (.idx (.var 2) (.int 5)) .nil)))) .nil)) (.lst .nil)) (.cons (.ret (.bl false)) .nil) .nil) .nil))))))))))
def r118_0 : ISs := (.cons (.asg (.name 2) (.tup (.cons (.tup (.cons (.tup (.cons (.int 0) (.cons (.int 10) .nil))) (.cons (.tup (.cons (.int 1000) (.cons (.int 30) .nil))) .nil))) (.cons (.str (Str.ofString "parts")) (.cons (.str (Str.ofString "down")) (.cons .non (.cons (.tup (.cons (.int 50) (.cons (.int 60) .nil))) (.cons (.int 0) .nil)))))))) (.cons (.ife (.boolop false (.cons (.cmp .ne (.call 114 (.cons (.var 2) .nil)) (.lst (.cons (.tup (.cons (.int 49) (.cons (.int 1000) .nil))) .nil))) (.cons (.cmp .ne (.call 114 (.cons (.bin .add (.slice (.var 2) .none (.some (.int 4))) (.tup (.cons (.tup (.cons (.int 50) (.cons (.int 48) .nil))) (.cons (.int 0) .nil)))) .nil)) (.lst (.cons (.tup (.cons (.int 48) (.cons (.int 48) .nil))) .nil))) .nil))) (.cons (.ret (.bl false)) .nil) .nil) (.cons (.ret (.boolop true (.cons (.cmp .eq (.call 114 (.cons (.bin .add (.slice (.var 2) .none (.some (.int 4))) (.tup (.cons (.tup (.cons (.int 1) (.cons (.int 7) .nil))) (.cons (.int 0) .nil)))) .nil)) (.lst (.cons (.tup (.cons (.int 1) (.cons (.int 1000) .nil))) .nil))) (.cons (.cmp .eq (.call 114 (.cons (.bin .add (.slice (.var 2) .none (.some (.int 4))) (.tup (.cons (.tup (.cons (.int 2) (.cons (.int 1000) .nil))) (.cons (.int 0) .nil)))) .nil)) (.lst (.cons (.tup (.cons (.int 1) (.cons (.int 1000) .nil))) .nil))) .nil)))) .nil)))
/-- law: script k p source least_so amount_so ahead_so own good amount -/
def f118 : Fn := ⟨1, 10, false, (.cons (.for_ t118_0 (.range (.cons (.blt .max2 (.cons (.int 3) (.cons (.blt .min2 (.cons (.int 4) (.cons (.blt .len (.cons (.var 0) .nil)) .nil))) .nil))) .nil)) b118_0) r118_0)⟩
def x119_0 : IE := (.call 3 (.cons (.var 3) .nil))
def u119_0 : Tg := (.name 3)
def i119_0 : IT := (.seq (.var 0))
def c119_0 : IEs := .nil
def x119_1 : IE := (.var 5)
def u119_1 : Tg := (.tup [(.name 5), (.name 6)])
def i119_1 : IT := (.enum (.var 1))
def c119_1 : IEs := (.cons (.call 89 (.cons (.idx (.var 0) (.idx (.var 6) (.int 0))) (.cons (.var 3) .nil))) .nil)
def t119_0 : Tg := (.tup [(.name 2), (.name 3)])
def b119_0 : ISs := (.cons (.asg (.name 4) (.comp x119_1 u119_1 i119_1 c119_1 [5, 6])) (.cons (.ife (.cmp .eq (.var 4) (.lst .nil)) (.cons (.append 1 (.tup (.cons (.var 2) .nil))) .nil) (.cons (.setI 1 (.idx (.var 4) (.int 0)) (.bin .add (.idx (.bor 1) (.idx (.var 4) (.int 0))) (.tup (.cons (.var 2) .nil)))) .nil)) .nil))
/-- classes: plans found index plan places at some -/
def f119 : Fn := ⟨1, 7, false, (.cons (.ife (.boolop false (.cons (.not (.blt .isTup (.cons (.var 0) .nil))) (.cons (.not (.chain .le .le (.int 1) (.blt .len (.cons (.var 0) .nil)) (.glo (Str.ofString "MAX_PLANS") (5)))) (.cons (.not (.blt .all (.cons (.comp x119_0 u119_0 i119_0 c119_0 [3]) .nil))) .nil)))) (.cons .raise .nil) .nil) (.cons (.asg (.name 1) (.lst .nil)) (.cons (.for_ t119_0 (.enum (.var 0)) b119_0) (.cons (.ret (.mov 1)) .nil))))⟩
def t120_0 : Tg := (.name 2)
def b120_0 : ISs := (.cons (.asg (.name 3) (.callio 9 0 (.cons (.var 1) .nil))) (.cons (.append 1 (.callio 9 0 (.cons (.lst (.cons (.callio 72 0 (.cons (.var 3) .nil)) (.cons (.callio 55 0 (.cons (.var 3) .nil)) (.cons (.var 3) (.cons (.callio 14 0 (.cons (.int 200) .nil)) .nil))))) .nil))) .nil))
/-- _law_some: source found turn p -/
def f120 : Fn := ⟨1, 4, true, (.cons (.asg (.name 1) (.lst (.cons (.callio 14 0 (.cons (.int 200) .nil)) .nil))) (.cons (.for_ t120_0 (.range (.cons (.callio 7 0 (.cons (.int 5) .nil)) .nil)) b120_0) (.cons (.ret (.blt .tuple (.cons (.bor 1) .nil))) .nil)))⟩
def x121_0 : IE := (.var 11)
def u121_0 : Tg := (.tup [(.name 11), (.name 12)])
def i121_0 : IT := (.enum (.var 7))
def c121_0 : IEs := (.cons (.cmp .isN (.call 94 (.cons (.idx (.var 6) (.idx (.var 12) (.int 0))) (.cons (.var 2) .nil))) .non) .nil)
def t121_0 : Tg := (.tup [(.name 9), (.name 2)])
def b121_0 : ISs := (.cons (.asg (.name 10) (.comp x121_0 u121_0 i121_0 c121_0 [11, 12])) (.cons (.ife (.cmp .eq (.var 10) (.lst .nil)) (.cons (.append 7 (.tup (.cons (.var 9) .nil))) .nil) (.cons (.setI 7 (.idx (.var 10) (.int 0)) (.bin .add (.idx (.bor 7) (.idx (.var 10) (.int 0))) (.tup (.cons (.var 9) .nil)))) .nil)) .nil))
def t121_1 : Tg := (.name 1)
def b121_1 : ISs := (.cons (.asg (.name 5) (.call 6 (.cons (.var 0) (.cons (.var 1) .nil)))) (.cons (.asg (.name 6) (.callio 120 5 .nil)) (.cons (.asg (.name 7) (.lst .nil)) (.cons (.for_ t121_0 (.enum (.var 6)) b121_0) (.cons (.asg (.name 8) (.call 119 (.cons (.var 6) .nil))) (.cons (.ife (.boolop false (.cons (.not (.blt .isList (.cons (.bor 8) .nil))) (.cons (.cmp .ne (.bor 8) (.bor 7)) .nil))) (.cons (.ret (.bl false)) .nil) .nil) (.cons (.append 8 (.tup .nil)) (.cons (.ife (.boolop false (.cons (.cmp .ne (.call 119 (.cons (.var 6) .nil)) (.bor 7)) (.cons (.cmp .ne (.call 119 (.cons (.bin .add (.slice (.var 6) .none (.some (.int 1))) (.slice (.var 6) .none (.some (.int 1)))) .nil)) (.lst (.cons (.tup (.cons (.int 0) (.cons (.int 1) .nil))) .nil))) .nil))) (.cons (.ret (.bl false)) .nil) .nil) .nil))))))))
def r121_0 : ISs := (.cons (.asg (.name 2) (.tup (.cons (.tup (.cons (.tup (.cons (.int 0) (.cons (.int 10) .nil))) (.cons (.tup (.cons (.int 2000) (.cons (.int 20) .nil))) .nil))) (.cons (.str (Str.ofString "parts")) (.cons (.str (Str.ofString "down")) (.cons .non (.cons .non (.cons (.int 0) .nil)))))))) (.cons (.asg (.name 3) (.bin .add (.tup (.cons (.tup (.cons (.tup (.cons (.int 0) (.cons (.int 10) .nil))) (.cons (.tup (.cons (.int 1000) (.cons (.int 10) .nil))) (.cons (.tup (.cons (.int 2000) (.cons (.int 20) .nil))) .nil)))) .nil)) (.slice (.var 2) (.some (.int 1)) .none))) (.cons (.ife (.cmp .ne (.call 119 (.cons (.tup (.cons (.var 3) (.cons (.var 2) (.cons (.bin .add (.tup (.cons (.tup (.cons (.tup (.cons (.int 0) (.cons (.int 10) .nil))) (.cons (.tup (.cons (.int 1000) (.cons (.int 30) .nil))) .nil))) .nil)) (.slice (.var 2) (.some (.int 1)) .none)) (.cons (.var 2) .nil))))) .nil)) (.lst (.cons (.tup (.cons (.int 0) (.cons (.int 1) (.cons (.int 3) .nil)))) (.cons (.tup (.cons (.int 2) .nil)) .nil)))) (.cons (.ret (.bl false)) .nil) .nil) (.cons (.asg (.name 4) (.tup (.cons (.bin .add (.tup (.cons (.tup (.cons (.tup (.cons (.int 0) (.cons (.int 15) .nil))) .nil)) .nil)) (.slice (.var 2) (.some (.int 1)) .none)) (.cons (.tup (.cons (.tup (.cons (.tup (.cons (.int 0) (.cons (.int 10) .nil))) .nil)) (.cons (.str (Str.ofString "parts")) (.cons (.str (Str.ofString "down")) (.cons (.tup (.cons (.int 1) (.cons (.int 5) .nil))) (.cons .non (.cons (.int 0) .nil))))))) .nil)))) (.cons (.ret (.boolop true (.cons (.cmp .eq (.call 119 (.cons (.var 4) .nil)) (.lst (.cons (.tup (.cons (.int 0) .nil)) (.cons (.tup (.cons (.int 1) .nil)) .nil)))) (.cons (.cmp .eq (.call 119 (.cons (.tup (.cons (.var 2) (.cons (.bin .add (.slice (.var 2) .none (.some (.int 5))) (.tup (.cons (.int 1) .nil))) .nil))) .nil)) (.lst (.cons (.tup (.cons (.int 0) .nil)) (.cons (.tup (.cons (.int 1) .nil)) .nil)))) .nil)))) .nil)))))
/-- law: script k p longer both source some due found at spots spot lot -/
def f121 : Fn := ⟨1, 13, false, (.cons (.for_ t121_1 (.range (.cons (.blt .max2 (.cons (.int 4) (.cons (.blt .min2 (.cons (.int 7) (.cons (.blt .len (.cons (.var 0) .nil)) .nil))) .nil))) .nil)) b121_1) r121_0)⟩
/-- is_plan: value manner rounding bonus fee charge -/
def f122 : Fn := ⟨1, 6, false, (.cons (.ife (.boolop false (.cons (.not (.blt .isTup (.cons (.var 0) .nil))) (.cons (.cmp .ne (.blt .len (.cons (.var 0) .nil)) (.int 6)) (.cons (.not (.call 106 (.cons (.idx (.var 0) (.int 0)) .nil))) .nil)))) (.cons (.ret (.bl false)) .nil) .nil) (.cons (.asg (.tup [(.name 1), (.name 2), (.name 3), (.name 4), (.name 5)]) (.slice (.var 0) (.some (.int 1)) .none)) (.cons (.ife (.boolop false (.cons (.not (.blt .isStr (.cons (.var 1) .nil))) (.cons (.cmp .notin (.var 1) (.tup (.cons (.str (Str.ofString "parts")) (.cons (.str (Str.ofString "whole")) .nil)))) .nil))) (.cons (.ret (.bl false)) .nil) .nil) (.cons (.ife (.boolop false (.cons (.not (.blt .isStr (.cons (.var 2) .nil))) (.cons (.cmp .notin (.var 2) (.tup (.cons (.str (Str.ofString "down")) (.cons (.str (Str.ofString "half")) .nil)))) .nil))) (.cons (.ret (.bl false)) .nil) .nil) (.cons (.ife (.boolop true (.cons (.cmp .notN (.var 3) .non) (.cons (.not (.call 1 (.cons (.var 3) (.cons (.tup (.cons (.int 1) (.cons (.glo (Str.ofString "MAX_MONTHS_plans") (12)) .nil))) (.cons (.tup (.cons (.int 1) (.cons (.glo (Str.ofString "MAX_RATE_plans") (100)) .nil))) .nil))))) .nil))) (.cons (.ret (.bl false)) .nil) .nil) (.cons (.ife (.boolop true (.cons (.cmp .notN (.var 4) .non) (.cons (.not (.call 1 (.cons (.var 4) (.cons (.tup (.cons (.int 1) (.cons (.glo (Str.ofString "MAX_START") (1000000)) .nil))) (.cons (.tup (.cons (.int 1) (.cons (.glo (Str.ofString "MAX_FEE") (1000)) .nil))) .nil))))) .nil))) (.cons (.ret (.bl false)) .nil) .nil) (.cons (.ret (.call 0 (.cons (.var 5) (.cons (.int 0) (.cons (.glo (Str.ofString "MAX_CHARGE") (500)) .nil))))) .nil)))))))⟩
/-- require_plan: value -/
def f123 : Fn := ⟨1, 1, false, (.cons (.ife (.not (.call 122 (.cons (.var 0) .nil))) (.cons .raise .nil) .nil) .nil)⟩
def t124_0 : Tg := (.name 8)
def b124_0 : ISs := (.cons (.ife (.cmp .ne (.call 51 (.cons (.var 5) (.cons (.var 8) .nil))) (.call 51 (.cons (.var 6) (.cons (.var 8) .nil)))) (.cons (.ret (.mov 8)) .nil) .nil) .nil)
def t124_1 : Tg := (.tup [(.name 3), (.name 4), (.name 5), (.name 6)])
def b124_1 : ISs := (.cons (.ife (.not (.call 62 (.cons (.var 5) (.cons (.var 6) .nil)))) (.cons (.asg (.name 7) (.ife (.cmp .isN (.var 4) .non) (.bin .add (.var 3) (.glo (Str.ofString "NEAR_alike") (2001))) (.blt .min2 (.cons (.var 4) (.cons (.bin .add (.var 3) (.glo (Str.ofString "NEAR_alike") (2001))) .nil))))) (.cons (.for_ t124_0 (.range (.cons (.var 3) (.cons (.bin .add (.var 7) (.int 1)) .nil))) b124_0) .nil)) .nil) .nil)
/-- unlike_base: one other dues first last here there end base -/
def f124 : Fn := ⟨3, 9, false, (.cons (.for_ t124_1 (.seq (.call 50 (.cons (.var 0) (.cons (.var 1) (.cons (.var 2) .nil))))) b124_1) (.cons (.ret .non) .nil))⟩
/-- taking_row: one other taken base -/
def f125 : Fn := ⟨2, 4, false, (.cons (.asg (.name 2) (.call 85 (.cons (.var 0) (.cons (.var 1) .nil)))) (.cons (.ife (.cmp .notN (.var 2) .non) (.cons (.ret (.tup (.cons (.glo (Str.ofString "DEPOSIT") (10000000)) (.cons (.neg (.var 2)) .nil)))) .nil) .nil) (.cons (.asg (.name 3) (.call 124 (.cons (.var 0) (.cons (.var 1) (.cons (.tup (.cons (.bl false) (.cons (.bl false) .nil))) .nil))))) (.cons (.ret (.ife (.cmp .isN (.var 3) .non) .non (.tup (.cons (.glo (Str.ofString "DEPOSIT") (10000000)) (.cons (.bin .sub (.var 3) (.call 32 (.cons (.var 0) (.cons (.tup (.cons (.glo (Str.ofString "DEPOSIT") (10000000)) .nil)) .nil)))) .nil))))) .nil))))⟩
/-- paying_row: one other idle dues base -/
def f126 : Fn := ⟨4, 5, false, (.cons (.asg (.name 4) (.call 124 (.cons (.var 0) (.cons (.var 1) (.cons (.var 3) .nil))))) (.cons (.ret (.ife (.cmp .isN (.var 4) .non) .non (.bin .add (.bin .mul (.tup (.cons (.int 0) .nil)) (.bin .sub (.var 2) (.int 1))) (.tup (.cons (.var 4) .nil))))) .nil))⟩
def t127_0 : Tg := (.tup [(.name 4), (.name 5)])
def b127_0 : ISs := (.cons (.ife (.cmp .isN (.var 3) .non) (.cons (.asg (.name 3) (.call 126 (.cons (.var 0) (.cons (.var 1) (.cons (.var 4) (.cons (.var 5) .nil)))))) .nil) .nil) .nil)
/-- parting_of: one other pairs found idle dues -/
def f127 : Fn := ⟨2, 6, false, (.cons (.asg (.name 2) (.call 83 (.cons (.var 0) (.cons (.var 1) .nil)))) (.cons (.asg (.name 3) (.call 126 (.cons (.var 0) (.cons (.var 1) (.cons (.idx (.idx (.var 2) (.int 0)) (.int 0)) (.cons (.idx (.idx (.var 2) (.int 0)) (.int 1)) .nil)))))) (.cons (.ife (.cmp .isN (.var 3) .non) (.cons (.asg (.name 3) (.call 125 (.cons (.var 0) (.cons (.var 1) .nil)))) .nil) .nil) (.cons (.for_ t127_0 (.seq (.slice (.var 2) (.some (.int 1)) .none)) b127_0) (.cons (.ret (.mov 3)) .nil)))))⟩
/-- are_alike: one other -/
def f128 : Fn := ⟨2, 2, false, (.cons (.ret (.cmp .isN (.call 127 (.cons (.var 0) (.cons (.var 1) .nil))) .non)) .nil)⟩
/-- alike: one other -/
def f129 : Fn := ⟨2, 2, false, (.cons (.expr (.call 123 (.cons (.var 0) .nil))) (.cons (.expr (.call 123 (.cons (.var 1) .nil))) (.cons (.ret (.call 128 (.cons (.var 0) (.cons (.var 1) .nil)))) .nil)))⟩
/-- require_both: one other -/
def f130 : Fn := ⟨2, 2, false, (.cons (.expr (.call 123 (.cons (.var 0) .nil))) (.cons (.expr (.call 123 (.cons (.var 1) .nil))) .nil))⟩
/-- equal_on: first last one other middle step whole -/
def f131 : Fn := ⟨4, 7, false, (.cons (.ife (.call 62 (.cons (.var 2) (.cons (.var 3) .nil))) (.cons (.ret (.bin .add (.bin .sub (.var 1) (.var 0)) (.int 1))) .nil) .nil) (.cons (.ife (.cmp .eq (.idx (.var 2) (.int 0)) (.idx (.var 3) (.int 0))) (.cons (.asg (.name 5) (.bin .fdiv (.int 1000) (.call 61 (.cons (.int 1000) (.cons (.idx (.var 2) (.int 0)) .nil))))) (.cons (.asg (.name 6) (.bin .fdiv (.bin .add (.bin .sub (.var 1) (.var 0)) (.int 1)) (.var 5))) (.cons (.ret (.bin .add (.bin .mul (.var 6) (.call 68 (.cons (.var 0) (.cons (.bin .sub (.bin .add (.var 0) (.var 5)) (.int 1)) (.cons (.var 2) (.cons (.var 3) .nil)))))) (.call 68 (.cons (.bin .add (.var 0) (.bin .mul (.var 6) (.var 5))) (.cons (.var 1) (.cons (.var 2) (.cons (.var 3) .nil))))))) .nil))) .nil) (.cons (.asg (.name 4) (.bin .fdiv (.bin .sub (.idx (.var 3) (.int 1)) (.idx (.var 2) (.int 1))) (.bin .sub (.idx (.var 2) (.int 0)) (.idx (.var 3) (.int 0))))) (.cons (.ret (.call 68 (.cons (.blt .max2 (.cons (.var 0) (.cons (.bin .sub (.var 4) (.glo (Str.ofString "NEAR_single") (2001))) .nil))) (.cons (.blt .min2 (.cons (.var 1) (.cons (.bin .add (.var 4) (.glo (Str.ofString "NEAR_single") (2001))) .nil))) (.cons (.var 2) (.cons (.var 3) .nil)))))) .nil))))⟩
def x132_0 : IE := (.call 131 (.cons (.var 2) (.cons (.var 3) (.cons (.var 4) (.cons (.var 5) .nil)))))
def u132_0 : Tg := (.tup [(.name 2), (.name 3), (.name 4), (.name 5)])
def i132_0 : IT := (.seq (.call 52 (.cons (.var 0) (.cons (.var 1) .nil))))
def c132_0 : IEs := .nil
/-- count_equal: one other first last here there -/
def f132 : Fn := ⟨2, 6, false, (.cons (.expr (.call 130 (.cons (.var 0) (.cons (.var 1) .nil)))) (.cons (.ret (.blt .sum (.cons (.comp x132_0 u132_0 i132_0 c132_0 [2, 3, 4, 5]) .nil))) .nil))⟩
/- 133 alike_months: Dict -/
/-- alike_months: one other -/
def f133 : Fn := ⟨2, 2, false, (.cons .raise .nil)⟩
def x134_0 : IE := (.var 3)
def u134_0 : Tg := (.name 3)
def i134_0 : IT := (.range (.cons (.bin .add (.glo (Str.ofString "MAX_RATE_slack") (100)) (.int 1)) .nil))
def c134_0 : IEs := (.cons (.call 128 (.cons (.var 0) (.cons (.call 110 (.cons (.var 0) (.cons (.var 1) (.cons (.var 3) .nil)))) .nil))) .nil)
def x134_1 : IE := (.tup (.cons (.var 3) (.cons (.var 3) .nil)))
def u134_1 : Tg := (.name 3)
def i134_1 : IT := (.seq (.var 2))
def c134_1 : IEs := .nil
/-- same_rates: plan index rates rate -/
def f134 : Fn := ⟨2, 4, false, (.cons (.expr (.call 123 (.cons (.var 0) .nil))) (.cons (.ife (.not (.call 0 (.cons (.var 1) (.cons (.int 0) (.cons (.bin .sub (.blt .len (.cons (.idx (.var 0) (.int 0)) .nil)) (.int 1)) .nil))))) (.cons .raise .nil) .nil) (.cons (.asg (.name 2) (.comp x134_0 u134_0 i134_0 c134_0 [3])) (.cons (.ret (.call 109 (.cons (.comp x134_1 u134_1 i134_1 c134_1 [3]) .nil))) .nil))))⟩
def x135_0 : IE := (.call 122 (.cons (.var 3) .nil))
def u135_0 : Tg := (.name 3)
def i135_0 : IT := (.seq (.var 0))
def c135_0 : IEs := .nil
def x135_1 : IE := (.var 5)
def u135_1 : Tg := (.tup [(.name 5), (.name 6)])
def i135_1 : IT := (.enum (.var 1))
def c135_1 : IEs := (.cons (.call 128 (.cons (.idx (.var 0) (.idx (.var 6) (.int 0))) (.cons (.var 3) .nil))) .nil)
def t135_0 : Tg := (.tup [(.name 2), (.name 3)])
def b135_0 : ISs := (.cons (.asg (.name 4) (.comp x135_1 u135_1 i135_1 c135_1 [5, 6])) (.cons (.ife (.cmp .eq (.var 4) (.lst .nil)) (.cons (.append 1 (.tup (.cons (.var 2) .nil))) .nil) (.cons (.setI 1 (.idx (.var 4) (.int 0)) (.bin .add (.idx (.bor 1) (.idx (.var 4) (.int 0))) (.tup (.cons (.var 2) .nil)))) .nil)) .nil))
/-- classes: plans found index plan places at some -/
def f135 : Fn := ⟨1, 7, false, (.cons (.ife (.boolop false (.cons (.not (.blt .isTup (.cons (.var 0) .nil))) (.cons (.not (.chain .le .le (.int 1) (.blt .len (.cons (.var 0) .nil)) (.glo (Str.ofString "MAX_PLANS") (5)))) (.cons (.not (.blt .all (.cons (.comp x135_0 u135_0 i135_0 c135_0 [3]) .nil))) .nil)))) (.cons .raise .nil) .nil) (.cons (.asg (.name 1) (.lst .nil)) (.cons (.for_ t135_0 (.enum (.var 0)) b135_0) (.cons (.ret (.mov 1)) .nil))))⟩
/-- without_band: plan index -/
def f136 : Fn := ⟨2, 2, false, (.cons (.ret (.bin .add (.tup (.cons (.bin .add (.slice (.idx (.var 0) (.int 0)) .none (.some (.var 1))) (.slice (.idx (.var 0) (.int 0)) (.some (.bin .add (.var 1) (.int 1))) .none)) .nil)) (.slice (.var 0) (.some (.int 1)) .none))) .nil)⟩
/-- without_rule: plan place -/
def f137 : Fn := ⟨2, 2, false, (.cons (.ret (.bin .add (.bin .add (.slice (.var 0) .none (.some (.var 1))) (.tup (.cons .non .nil))) (.slice (.var 0) (.some (.bin .add (.var 1) (.int 1))) .none))) .nil)⟩
def x138_0 : IE := (.var 3)
def u138_0 : Tg := (.name 3)
def i138_0 : IT := (.range (.cons (.int 1) (.cons (.blt .len (.cons (.idx (.var 0) (.int 0)) .nil)) .nil)))
def c138_0 : IEs := (.cons (.call 128 (.cons (.call 136 (.cons (.var 0) (.cons (.var 3) .nil))) (.cons (.var 0) .nil))) .nil)
def x138_1 : IE := (.boolop true (.cons (.cmp .notN (.idx (.var 0) (.var 4)) .non) (.cons (.call 128 (.cons (.call 137 (.cons (.var 0) (.cons (.var 4) .nil))) (.cons (.var 0) .nil))) .nil)))
def u138_1 : Tg := (.name 4)
def i138_1 : IT := (.seq (.tup (.cons (.int 3) (.cons (.int 4) .nil))))
def c138_1 : IEs := .nil
/-- needless: plan bands rules index place -/
def f138 : Fn := ⟨1, 5, false, (.cons (.expr (.call 123 (.cons (.var 0) .nil))) (.cons (.asg (.name 1) (.comp x138_0 u138_0 i138_0 c138_0 [3])) (.cons (.asg (.name 2) (.comp x138_1 u138_1 i138_1 c138_1 [4])) (.cons (.ret (.tup (.cons (.var 1) (.cons (.idx (.var 2) (.int 0)) (.cons (.idx (.var 2) (.int 1)) .nil))))) .nil))))⟩
def t139_0 : Tg := (.name 2)
def b139_0 : ISs := (.cons (.ife (.call 128 (.cons (.call 136 (.cons (.var 1) (.cons (.var 2) .nil))) (.cons (.var 0) .nil))) (.cons (.asg (.name 1) (.call 136 (.cons (.var 1) (.cons (.var 2) .nil)))) .nil) .nil) .nil)
def t139_1 : Tg := (.name 3)
def b139_1 : ISs := (.cons (.ife (.call 128 (.cons (.call 137 (.cons (.var 1) (.cons (.var 3) .nil))) (.cons (.var 0) .nil))) (.cons (.asg (.name 1) (.call 137 (.cons (.var 1) (.cons (.var 3) .nil)))) .nil) .nil) .nil)
/-- shortened: plan left index place -/
def f139 : Fn := ⟨1, 4, false, (.cons (.expr (.call 123 (.cons (.var 0) .nil))) (.cons (.asg (.name 1) (.var 0)) (.cons (.for_ t139_0 (.range (.cons (.bin .sub (.blt .len (.cons (.idx (.var 0) (.int 0)) .nil)) (.int 1)) (.cons (.int 0) (.cons (.neg (.int 1)) .nil)))) b139_0) (.cons (.for_ t139_1 (.seq (.tup (.cons (.int 3) (.cons (.int 4) .nil)))) b139_1) (.cons (.ret (.mov 1)) .nil)))))⟩
def x140_0 : IE := (.int 1)
def u140_0 : Tg := (.tup [(.name 11), (.name 12)])
def i140_0 : IT := (.seq (.var 5))
def c140_0 : IEs := (.cons (.cmp .gt (.var 11) (.var 12)) .nil)
def t140_0 : Tg := (.tup [(.name 11), (.name 12)])
def b140_0 : ISs := (.cons (.asg (.name 6) (.bin .add (.var 6) (.blt .range2 (.cons (.var 11) (.cons (.bin .add (.var 12) (.int 1)) .nil))))) .nil)
def t140_1 : Tg := (.name 7)
def b140_1 : ISs := (.cons (.ife (.cmp .le (.var 7) (.int 100)) (.cons (.asg (.name 15) (.bin .add (.bin .add (.slice (.idx (.var 3) (.int 0)) .none (.some (.var 4))) (.tup (.cons (.tup (.cons (.idx (.idx (.idx (.var 3) (.int 0)) (.var 4)) (.int 0)) (.cons (.var 7) .nil))) .nil))) (.slice (.idx (.var 3) (.int 0)) (.some (.bin .add (.var 4) (.int 1))) .none))) (.cons (.asg (.name 16) (.bin .add (.tup (.cons (.var 15) .nil)) (.slice (.var 3) (.some (.int 1)) .none))) (.cons (.ife (.cmp .ne (.call 129 (.cons (.var 3) (.cons (.var 16) .nil))) (.cmp .isin (.var 7) (.var 6))) (.cons (.ret (.bl false)) .nil) .nil) (.cons (.ife (.boolop true (.cons (.cmp .isin (.var 7) (.var 6)) (.cons (.cmp .ne (.call 133 (.cons (.var 3) (.cons (.var 16) .nil))) (.blt .range2 (.cons (.int 1) (.cons (.int 133) .nil)))) .nil))) (.cons (.ret (.bl false)) .nil) .nil) (.cons (.ife (.cmp .ne (.cmp .eq (.call 135 (.cons (.tup (.cons (.var 3) (.cons (.var 16) .nil))) .nil)) (.lst (.cons (.tup (.cons (.int 0) (.cons (.int 1) .nil))) .nil))) (.cmp .isin (.var 7) (.var 6))) (.cons (.ret (.bl false)) .nil) .nil) .nil))))) .nil) .nil)
def t140_2 : Tg := (.name 10)
def b140_2 : ISs := (.cons (.ife (.cmp .ne (.call 135 (.cons (.tup (.cons (.var 3) (.cons (.bin .add (.tup (.cons (.bin .add (.slice (.idx (.var 3) (.int 0)) .none (.some (.var 10))) (.slice (.idx (.var 3) (.int 0)) (.some (.bin .add (.var 10) (.int 1))) .none)) .nil)) (.slice (.var 3) (.some (.int 1)) .none)) .nil))) .nil)) (.lst (.cons (.tup (.cons (.int 0) (.cons (.int 1) .nil))) .nil))) (.cons (.ret (.bl false)) .nil) .nil) .nil)
def t140_3 : Tg := (.name 1)
def b140_3 : ISs := (.cons (.asg (.name 2) (.call 6 (.cons (.var 0) (.cons (.var 1) .nil)))) (.cons (.asg (.name 3) (.callio 72 2 (.cons (.callio 14 2 (.cons (.int 300) .nil)) .nil))) (.cons (.asg (.name 4) (.callio 7 2 (.cons (.blt .len (.cons (.idx (.var 3) (.int 0)) .nil)) .nil))) (.cons (.asg (.name 5) (.call 134 (.cons (.var 3) (.cons (.var 4) .nil)))) (.cons (.ife (.boolop false (.cons (.cmp .ne (.var 5) (.blt .sorted (.cons (.var 5) .nil))) (.cons (.cmp .ne (.comp x140_0 u140_0 i140_0 c140_0 [11, 12]) (.lst .nil)) .nil))) (.cons (.ret (.bl false)) .nil) .nil) (.cons (.asg (.name 6) (.lst .nil)) (.cons (.for_ t140_0 (.seq (.var 5)) b140_0) (.cons (.for_ t140_1 (.seq (.tup (.cons (.callio 7 2 (.cons (.int 101) .nil)) (.cons (.callio 9 2 (.cons (.var 6) .nil)) (.cons (.bin .add (.blt .maxL (.cons (.var 6) .nil)) (.int 1)) .nil))))) b140_1) (.cons (.asg (.tup [(.name 13), (.name 14)]) (.callio 58 2 .nil)) (.cons (.asg (.name 8) (.call 133 (.cons (.var 13) (.cons (.var 14) .nil)))) (.cons (.ife (.boolop true (.cons (.call 129 (.cons (.var 13) (.cons (.var 14) .nil))) (.cons (.cmp .ne (.var 8) (.blt .range2 (.cons (.int 1) (.cons (.int 133) .nil)))) .nil))) (.cons (.ret (.bl false)) .nil) .nil) (.cons (.ife (.cmp .ne (.cmp .isin (.int 1) (.var 8)) (.cmp .eq (.call 132 (.cons (.var 13) (.cons (.var 14) .nil))) (.bin .add (.bin .pow (.int 10) (.int 9)) (.int 1)))) (.cons (.ret (.bl false)) .nil) .nil) (.cons (.asg (.name 9) (.call 139 (.cons (.var 3) .nil))) (.cons (.ife (.cmp .ne (.call 135 (.cons (.tup (.cons (.var 3) (.cons (.var 9) (.cons (.var 3) .nil)))) .nil)) (.lst (.cons (.tup (.cons (.int 0) (.cons (.int 1) (.cons (.int 2) .nil)))) .nil))) (.cons (.ret (.bl false)) .nil) .nil) (.cons (.for_ t140_2 (.seq (.idx (.call 138 (.cons (.var 3) .nil)) (.int 0))) b140_2) .nil)))))))))))))))
def r140_0 : ISs := (.cons (.ret (.bl true)) .nil)
/-- law: script k source p index ranges_so inside rate months_so short spot low high one two bands_so other -/
def f140 : Fn := ⟨1, 17, false, (.cons (.for_ t140_3 (.range (.cons (.blt .max2 (.cons (.int 1) (.cons (.blt .min2 (.cons (.int 2) (.cons (.blt .len (.cons (.var 0) .nil)) .nil))) .nil))) .nil)) b140_3) r140_0)⟩
/-- require_parts: plan -/
def f141 : Fn := ⟨1, 1, false, (.cons (.ife (.cmp .ne (.idx (.var 0) (.int 1)) (.str (Str.ofString "parts"))) (.cons .raise .nil) .nil) .nil)⟩
def t142_0 : Tg := (.name 5)
def b142_0 : ISs := (.cons (.ife (.cmp .lt (.call 51 (.cons (.var 2) (.cons (.var 5) .nil))) (.call 51 (.cons (.var 3) (.cons (.var 5) .nil)))) (.cons (.ret (.mov 5)) .nil) .nil) .nil)
/-- less_on: first last one other bases base -/
def f142 : Fn := ⟨4, 6, false, (.cons (.ife (.call 62 (.cons (.var 2) (.cons (.var 3) .nil))) (.cons (.ret .non) .nil) .nil) (.cons (.ife (.boolop true (.cons (.cmp .lt (.idx (.var 2) (.int 0)) (.idx (.var 3) (.int 0))) (.cons (.cmp .isN (.var 1) .non) .nil))) (.cons (.ret (.blt .max2 (.cons (.var 0) (.cons (.bin .add (.bin .fdiv (.bin .add (.bin .sub (.idx (.var 2) (.int 1)) (.idx (.var 3) (.int 1))) (.int 1000)) (.bin .sub (.idx (.var 3) (.int 0)) (.idx (.var 2) (.int 0)))) (.int 1)) .nil)))) .nil) .nil) (.cons (.asg (.name 4) (.blt .range2 (.cons (.var 0) (.cons (.ife (.cmp .isN (.var 1) .non) (.bin .add (.var 0) (.glo (Str.ofString "NEAR") (2001))) (.bin .add (.blt .min2 (.cons (.var 1) (.cons (.bin .add (.var 0) (.glo (Str.ofString "NEAR") (2001))) .nil))) (.int 1))) .nil)))) (.cons (.ife (.cmp .lt (.idx (.var 2) (.int 0)) (.idx (.var 3) (.int 0))) (.cons (.asg (.name 4) (.blt .range2 (.cons (.blt .max2 (.cons (.var 0) (.cons (.bin .sub (.var 1) (.glo (Str.ofString "NEAR") (2001))) .nil))) (.cons (.bin .add (.var 1) (.int 1)) .nil)))) .nil) .nil) (.cons (.for_ t142_0 (.seq (.var 4)) b142_0) (.cons (.ret .non) .nil))))))⟩
def t143_0 : Tg := (.tup [(.name 3), (.name 4), (.name 5), (.name 6)])
def b143_0 : ISs := (.cons (.asg (.name 7) (.call 142 (.cons (.var 3) (.cons (.var 4) (.cons (.var 5) (.cons (.var 6) .nil)))))) (.cons (.ife (.cmp .notN (.var 7) .non) (.cons (.ret (.mov 7)) .nil) .nil) .nil))
/-- less_base: one other dues first last here there base -/
def f143 : Fn := ⟨3, 8, false, (.cons (.for_ t143_0 (.seq (.call 50 (.cons (.var 0) (.cons (.var 1) (.cons (.var 2) .nil))))) b143_0) (.cons (.ret .non) .nil))⟩
def t144_0 : Tg := (.tup [(.name 2), (.name 3)])
def b144_0 : ISs := (.cons (.asg (.name 4) (.call 143 (.cons (.var 0) (.cons (.var 1) (.cons (.var 3) .nil))))) (.cons (.ife (.cmp .notN (.var 4) .non) (.cons (.ret (.bin .add (.bin .mul (.tup (.cons (.int 0) .nil)) (.bin .sub (.var 2) (.int 1))) (.tup (.cons (.var 4) .nil)))) .nil) .nil) .nil))
/-- behind_of: one other idle dues base -/
def f144 : Fn := ⟨2, 5, false, (.cons (.for_ t144_0 (.seq (.call 83 (.cons (.var 0) (.cons (.var 1) .nil)))) b144_0) (.cons (.ret .non) .nil))⟩
/-- require_both: one other -/
def f145 : Fn := ⟨2, 2, false, (.cons (.expr (.call 21 (.cons (.var 0) .nil))) (.cons (.expr (.call 21 (.cons (.var 1) .nil))) (.cons (.expr (.call 141 (.cons (.var 0) .nil))) (.cons (.expr (.call 141 (.cons (.var 1) .nil))) .nil))))⟩
/-- never_behind: one other -/
def f146 : Fn := ⟨2, 2, false, (.cons (.expr (.call 145 (.cons (.var 0) (.cons (.var 1) .nil)))) (.cons (.ret (.cmp .isN (.call 144 (.cons (.var 0) (.cons (.var 1) .nil))) .non)) .nil))⟩
/-- behind_row: one other -/
def f147 : Fn := ⟨2, 2, false, (.cons (.expr (.call 145 (.cons (.var 0) (.cons (.var 1) .nil)))) (.cons (.ret (.call 144 (.cons (.var 0) (.cons (.var 1) .nil)))) .nil))⟩
/-- _law_parts: p -/
def f148 : Fn := ⟨1, 1, false, (.cons (.ret (.bin .add (.tup (.cons (.idx (.var 0) (.int 0)) (.cons (.str (Str.ofString "parts")) .nil))) (.slice (.var 0) (.some (.int 2)) .none))) .nil)⟩
/-- _law_end: p payments -/
def f149 : Fn := ⟨2, 2, false, (.cons (.ret (.idx (.idx (.call 42 (.cons (.var 0) (.cons (.tup (.cons (.int 0) (.cons (.int 0) .nil))) (.cons (.var 1) .nil)))) (.int 1)) (.int 0))) .nil)⟩
/-- _law_last_rate: p due_so -/
def f150 : Fn := ⟨2, 2, false, (.cons (.ret (.bin .add (.idx (.idx (.idx (.var 0) (.int 0)) (.neg (.int 1))) (.int 1)) (.ife (.var 1) (.idx (.idx (.var 0) (.int 3)) (.int 1)) (.int 0)))) .nil)⟩
def t151_0 : Tg := (.name 3)
def b151_0 : ISs := (.cons (.ife (.cmp .lt (.call 39 (.cons (.var 0) (.cons (.var 3) (.cons (.idx (.var 2) (.int 0)) .nil)))) (.call 39 (.cons (.var 1) (.cons (.var 3) (.cons (.idx (.var 2) (.int 1)) .nil))))) (.cons (.ret (.bl true)) .nil) .nil) .nil)
/-- _law_falls: one two dues base_so -/
def f151 : Fn := ⟨3, 4, false, (.cons (.ife (.cmp .lt (.call 150 (.cons (.var 0) (.cons (.idx (.var 2) (.int 0)) .nil))) (.call 150 (.cons (.var 1) (.cons (.idx (.var 2) (.int 1)) .nil)))) (.cons (.ret (.bl true)) .nil) .nil) (.cons (.for_ t151_0 (.range (.cons (.int 4000) .nil)) b151_0) (.cons (.ret (.bl false)) .nil)))⟩
def t152_0 : Tg := (.tup [(.name 2), (.name 3)])
def b152_0 : ISs := (.cons (.ife (.call 151 (.cons (.var 0) (.cons (.var 1) (.cons (.var 3) .nil)))) (.cons (.ret (.mov 2)) .nil) .nil) .nil)
/-- _law_first_fall: one two months_so dues -/
def f152 : Fn := ⟨2, 4, false, (.cons (.for_ t152_0 (.seq (.call 93 (.cons (.var 0) (.cons (.var 1) .nil)))) b152_0) (.cons (.ret .non) .nil))⟩
def x153_0 : IE := (.int 1)
def u153_0 : Tg := (.name 12)
def i153_0 : IT := (.seq (.var 3))
def c153_0 : IEs := (.cons (.cmp .lt (.var 12) (.int 0)) .nil)
def t153_0 : Tg := (.name 8)
def b153_0 : ISs := (.cons (.asg (.name 4) (.call 148 (.cons (.callio 14 7 (.cons (.int 300) .nil)) .nil))) (.cons (.asg (.name 5) (.call 148 (.cons (.ife (.cmp .eq (.callio 7 7 (.cons (.int 2) .nil)) (.int 0)) (.callio 55 7 (.cons (.var 4) .nil)) (.callio 14 7 (.cons (.int 300) .nil))) .nil))) (.cons (.par [11, 3] (.cons (.call 152 (.cons (.var 4) (.cons (.var 5) .nil))) (.cons (.call 147 (.cons (.var 4) (.cons (.var 5) .nil))) .nil))) (.cons (.ife (.boolop false (.cons (.not (.call 8 (.cons (.call 146 (.cons (.var 4) (.cons (.var 5) .nil))) (.cons (.cmp .isN (.var 11) .non) .nil)))) (.cons (.cmp .ne (.cmp .isN (.var 3) .non) (.cmp .isN (.var 11) .non)) .nil))) (.cons (.ret (.bl false)) .nil) .nil) (.cons (.ife (.cmp .notN (.var 3) .non) (.cons (.ife (.boolop false (.cons (.not (.call 5 (.cons (.var 3) .nil))) (.cons (.cmp .ne (.blt .len (.cons (.var 3) .nil)) (.var 11)) (.cons (.cmp .ne (.comp x153_0 u153_0 i153_0 c153_0 [12]) (.lst .nil)) .nil)))) (.cons (.ret (.bl false)) .nil) .nil) (.cons (.ife (.cmp .ge (.call 149 (.cons (.var 4) (.cons (.var 3) .nil))) (.call 149 (.cons (.var 5) (.cons (.var 3) .nil)))) (.cons (.ret (.bl false)) .nil) .nil) .nil)) .nil) .nil)))))
def t153_1 : Tg := (.name 1)
def b153_1 : ISs := (.cons (.asg (.name 7) (.call 6 (.cons (.var 0) (.cons (.var 1) .nil)))) (.cons (.for_ t153_0 (.range (.cons (.int 2) .nil)) b153_0) (.cons (.ife (.cmp .notB (.call 146 (.cons (.var 4) (.cons (.var 4) .nil))) (.bl true)) (.cons (.ret (.bl false)) .nil) .nil) .nil)))
def r153_0 : ISs := (.cons (.asg (.name 2) (.tup (.cons (.str (Str.ofString "parts")) (.cons (.str (Str.ofString "down")) (.cons .non (.cons .non (.cons (.int 0) .nil))))))) (.cons (.par [9, 10] (.cons (.bin .add (.tup (.cons (.tup (.cons (.tup (.cons (.int 0) (.cons (.int 100) .nil))) (.cons (.tup (.cons (.bin .pow (.int 10) (.int 6)) (.cons (.int 9) .nil))) .nil))) .nil)) (.var 2)) (.cons (.bin .add (.tup (.cons (.tup (.cons (.tup (.cons (.int 0) (.cons (.int 10) .nil))) .nil)) .nil)) (.var 2)) .nil))) (.cons (.asg (.name 3) (.call 147 (.cons (.var 9) (.cons (.var 10) .nil)))) (.cons (.ife (.boolop false (.cons (.cmp .notB (.call 146 (.cons (.var 10) (.cons (.var 9) .nil))) (.bl false)) (.cons (.cmp .isN (.var 3) .non) (.cons (.cmp .ge (.call 149 (.cons (.var 9) (.cons (.var 3) .nil))) (.call 149 (.cons (.var 10) (.cons (.var 3) .nil)))) .nil)))) (.cons (.ret (.bl false)) .nil) .nil) (.cons (.asg (.name 4) (.bin .add (.tup (.cons (.tup (.cons (.tup (.cons (.int 0) (.cons (.int 10) .nil))) (.cons (.tup (.cons (.int 900000) (.cons (.int 0) .nil))) (.cons (.tup (.cons (.int 950000) (.cons (.int 10) .nil))) .nil)))) .nil)) (.var 2))) (.cons (.asg (.name 5) (.bin .add (.tup (.cons (.tup (.cons (.tup (.cons (.int 0) (.cons (.int 10) .nil))) (.cons (.tup (.cons (.int 900000) (.cons (.int 10) .nil))) (.cons (.tup (.cons (.int 949998) (.cons (.int 0) .nil))) (.cons (.tup (.cons (.int 950000) (.cons (.int 10) .nil))) .nil))))) .nil)) (.var 2))) (.cons (.ife (.boolop false (.cons (.cmp .notB (.call 146 (.cons (.var 5) (.cons (.var 4) .nil))) (.bl true)) (.cons (.cmp .notB (.call 146 (.cons (.var 4) (.cons (.var 5) .nil))) (.bl false)) .nil))) (.cons (.ret (.bl false)) .nil) .nil) (.cons (.asg (.name 6) (.bin .add (.slice (.var 10) .none (.some (.int 3))) (.tup (.cons (.tup (.cons (.int 12) (.cons (.int 1) .nil))) (.cons .non (.cons (.int 0) .nil)))))) (.cons (.ret (.boolop true (.cons (.cmp .isB (.call 146 (.cons (.var 6) (.cons (.var 10) .nil))) (.bl true)) (.cons (.cmp .eq (.blt .len (.cons (.call 147 (.cons (.var 10) (.cons (.var 6) .nil))) .nil)) (.int 12)) .nil)))) .nil)))))))))
/-- law: script k rest found one two bonus_so source turn late even due part -/
def f153 : Fn := ⟨1, 13, false, (.cons (.for_ t153_1 (.range (.cons (.blt .max2 (.cons (.int 4) (.cons (.blt .min2 (.cons (.int 8) (.cons (.blt .len (.cons (.var 0) .nil)) .nil))) .nil))) .nil)) b153_1) r153_0)⟩
def t154_0 : Tg := (.name 5)
def b154_0 : ISs := (.cons (.ife (.cmp .lt (.call 51 (.cons (.var 2) (.cons (.var 5) .nil))) (.call 51 (.cons (.var 3) (.cons (.var 5) .nil)))) (.cons (.ret (.mov 5)) .nil) .nil) .nil)
/-- less_on: first last one other bases base -/
def f154 : Fn := ⟨4, 6, false, (.cons (.ife (.call 62 (.cons (.var 2) (.cons (.var 3) .nil))) (.cons (.ret .non) .nil) .nil) (.cons (.ife (.boolop true (.cons (.cmp .lt (.idx (.var 2) (.int 0)) (.idx (.var 3) (.int 0))) (.cons (.cmp .isN (.var 1) .non) .nil))) (.cons (.ret (.blt .max2 (.cons (.var 0) (.cons (.bin .add (.bin .fdiv (.bin .add (.bin .sub (.idx (.var 2) (.int 1)) (.idx (.var 3) (.int 1))) (.int 1000)) (.bin .sub (.idx (.var 3) (.int 0)) (.idx (.var 2) (.int 0)))) (.int 1)) .nil)))) .nil) .nil) (.cons (.asg (.name 4) (.blt .range2 (.cons (.var 0) (.cons (.ife (.cmp .isN (.var 1) .non) (.bin .add (.var 0) (.glo (Str.ofString "NEAR_never") (2001))) (.bin .add (.blt .min2 (.cons (.var 1) (.cons (.bin .add (.var 0) (.glo (Str.ofString "NEAR_never") (2001))) .nil))) (.int 1))) .nil)))) (.cons (.ife (.cmp .lt (.idx (.var 2) (.int 0)) (.idx (.var 3) (.int 0))) (.cons (.asg (.name 4) (.blt .range2 (.cons (.blt .max2 (.cons (.var 0) (.cons (.bin .sub (.var 1) (.glo (Str.ofString "NEAR_never") (2001))) .nil))) (.cons (.bin .add (.var 1) (.int 1)) .nil)))) .nil) .nil) (.cons (.for_ t154_0 (.seq (.var 4)) b154_0) (.cons (.ret .non) .nil))))))⟩
def t155_0 : Tg := (.tup [(.name 3), (.name 4), (.name 5), (.name 6)])
def b155_0 : ISs := (.cons (.asg (.name 7) (.call 154 (.cons (.var 3) (.cons (.var 4) (.cons (.var 5) (.cons (.var 6) .nil)))))) (.cons (.ife (.cmp .notN (.var 7) .non) (.cons (.ret (.mov 7)) .nil) .nil) .nil))
/-- less_base: one other dues first last here there base -/
def f155 : Fn := ⟨3, 8, false, (.cons (.for_ t155_0 (.seq (.call 50 (.cons (.var 0) (.cons (.var 1) (.cons (.var 2) .nil))))) b155_0) (.cons (.ret .non) .nil))⟩
def t156_0 : Tg := (.tup [(.name 2), (.name 3)])
def b156_0 : ISs := (.cons (.asg (.name 4) (.call 155 (.cons (.var 0) (.cons (.var 1) (.cons (.var 3) .nil))))) (.cons (.ife (.cmp .notN (.var 4) .non) (.cons (.ret (.bin .add (.bin .mul (.tup (.cons (.int 0) .nil)) (.bin .sub (.var 2) (.int 1))) (.tup (.cons (.var 4) .nil)))) .nil) .nil) .nil))
/-- behind_of: one other idle dues base -/
def f156 : Fn := ⟨2, 5, false, (.cons (.for_ t156_0 (.seq (.call 83 (.cons (.var 0) (.cons (.var 1) .nil)))) b156_0) (.cons (.ret .non) .nil))⟩
/-- never_behind: one other -/
def f157 : Fn := ⟨2, 2, false, (.cons (.expr (.call 145 (.cons (.var 0) (.cons (.var 1) .nil)))) (.cons (.ret (.cmp .isN (.call 156 (.cons (.var 0) (.cons (.var 1) .nil))) .non)) .nil))⟩
/-- behind_row: one other -/
def f158 : Fn := ⟨2, 2, false, (.cons (.expr (.call 145 (.cons (.var 0) (.cons (.var 1) .nil)))) (.cons (.ret (.call 156 (.cons (.var 0) (.cons (.var 1) .nil)))) .nil))⟩
/-- alike: one other -/
def f159 : Fn := ⟨2, 2, false, (.cons (.expr (.call 21 (.cons (.var 0) .nil))) (.cons (.expr (.call 21 (.cons (.var 1) .nil))) (.cons (.ret (.call 128 (.cons (.var 0) (.cons (.var 1) .nil)))) .nil)))⟩
def x160_0 : IE := (.tup (.cons (.var 5) (.cons (.blt .min2 (.cons (.int 100) (.cons (.bin .add (.var 6) (.callio 7 0 (.cons (.int 3) .nil))) .nil))) .nil)))
def u160_0 : Tg := (.tup [(.name 5), (.name 6)])
def i160_0 : IT := (.seq (.idx (.var 1) (.int 0)))
def c160_0 : IEs := .nil
/-- _law_better: source p bands_so bonus_so fee_so start_so rate -/
def f160 : Fn := ⟨2, 7, true, (.cons (.asg (.name 2) (.blt .tuple (.cons (.comp x160_0 u160_0 i160_0 c160_0 [5, 6]) .nil))) (.cons (.par [3, 4] (.cons (.idx (.var 1) (.int 3)) (.cons (.idx (.var 1) (.int 4)) .nil))) (.cons (.ife (.boolop true (.cons (.cmp .notN (.var 3) .non) (.cons (.cmp .eq (.callio 7 0 (.cons (.int 2) .nil)) (.int 0)) .nil))) (.cons (.asg (.name 3) (.tup (.cons (.idx (.var 3) (.int 0)) (.cons (.blt .min2 (.cons (.int 100) (.cons (.bin .add (.idx (.var 3) (.int 1)) (.int 1)) .nil))) .nil)))) .nil) .nil) (.cons (.ife (.cmp .notN (.var 4) .non) (.cons (.asg (.name 4) (.ife (.cmp .eq (.callio 7 0 (.cons (.int 3) .nil)) (.int 0)) .non (.tup (.cons (.idx (.var 4) (.int 0)) (.cons (.blt .max2 (.cons (.int 1) (.cons (.bin .sub (.idx (.var 4) (.int 1)) (.int 1)) .nil))) .nil))))) .nil) .nil) (.cons (.ret (.tup (.cons (.var 2) (.cons (.str (Str.ofString "parts")) (.cons (.callio 9 0 (.cons (.lst (.cons (.idx (.var 1) (.int 2)) (.cons (.str (Str.ofString "half")) .nil))) .nil)) (.cons (.var 3) (.cons (.var 4) (.cons (.idx (.var 1) (.int 5)) .nil)))))))) .nil)))))⟩
def x161_0 : IE := (.blt .abs (.cons (.var 10) .nil))
def u161_0 : Tg := (.name 10)
def i161_0 : IT := (.seq (.callio 15 2 (.cons (.int 40) (.cons (.int 3000) .nil))))
def c161_0 : IEs := .nil
def x161_1 : IE := (.bin .add (.var 10) (.callio 7 2 (.cons (.int 3) .nil)))
def u161_1 : Tg := (.name 10)
def i161_1 : IT := (.seq (.var 8))
def c161_1 : IEs := .nil
def t161_0 : Tg := (.name 6)
def b161_0 : ISs := (.cons (.asg (.name 8) (.blt .tuple (.cons (.comp x161_0 u161_0 i161_0 c161_0 [10]) .nil))) (.cons (.ife (.cmp .lt (.call 34 (.cons (.var 4) (.cons (.var 8) .nil))) (.call 34 (.cons (.var 3) (.cons (.var 8) .nil)))) (.cons (.ret (.bl false)) .nil) .nil) (.cons (.ife (.boolop true (.cons (.call 157 (.cons (.var 5) (.cons (.var 3) .nil))) (.cons (.cmp .lt (.call 34 (.cons (.var 5) (.cons (.var 8) .nil))) (.call 34 (.cons (.var 3) (.cons (.var 8) .nil)))) .nil))) (.cons (.ret (.bl false)) .nil) .nil) (.cons (.asg (.name 9) (.blt .tuple (.cons (.comp x161_1 u161_1 i161_1 c161_1 [10]) .nil))) (.cons (.ife (.cmp .lt (.call 34 (.cons (.var 3) (.cons (.var 9) .nil))) (.call 34 (.cons (.var 3) (.cons (.var 8) .nil)))) (.cons (.ret (.bl false)) .nil) .nil) .nil)))))
def t161_1 : Tg := (.name 1)
def b161_1 : ISs := (.cons (.asg (.name 2) (.call 6 (.cons (.var 0) (.cons (.var 1) .nil)))) (.cons (.asg (.name 3) (.call 148 (.cons (.callio 14 2 (.cons (.callio 9 2 (.cons (.lst (.cons (.int 300) (.cons (.bin .pow (.int 10) (.int 6)) .nil))) .nil)) .nil)) .nil))) (.cons (.asg (.name 4) (.callio 160 2 (.cons (.var 3) .nil))) (.cons (.ife (.boolop false (.cons (.cmp .notB (.call 157 (.cons (.var 4) (.cons (.var 3) .nil))) (.bl true)) (.cons (.cmp .notN (.call 158 (.cons (.var 4) (.cons (.var 3) .nil))) .non) .nil))) (.cons (.ret (.bl false)) .nil) .nil) (.cons (.asg (.name 5) (.call 148 (.cons (.callio 55 2 (.cons (.var 3) .nil)) .nil))) (.cons (.for_ t161_0 (.range (.cons (.int 3) .nil)) b161_0) (.cons (.asg (.name 7) (.call 158 (.cons (.var 3) (.cons (.var 4) .nil)))) (.cons (.ife (.cmp .isN (.var 7) .non) (.cons (.ife (.cmp .ne (.call 34 (.cons (.var 3) (.cons (.var 8) .nil))) (.call 34 (.cons (.var 4) (.cons (.var 8) .nil)))) (.cons (.ret (.bl false)) .nil) .nil) .nil) (.cons (.ife (.boolop false (.cons (.cmp .ge (.call 34 (.cons (.var 3) (.cons (.var 7) .nil))) (.call 34 (.cons (.var 4) (.cons (.var 7) .nil)))) (.cons (.call 159 (.cons (.var 3) (.cons (.var 4) .nil))) .nil))) (.cons (.ret (.bl false)) .nil) .nil) .nil)) .nil))))))))
def r161_0 : ISs := (.cons (.ret (.bl true)) .nil)
/-- law: script k source p q other turn row_so payments more part -/
def f161 : Fn := ⟨1, 11, false, (.cons (.for_ t161_1 (.range (.cons (.blt .max2 (.cons (.int 5) (.cons (.blt .min2 (.cons (.int 12) (.cons (.blt .len (.cons (.var 0) .nil)) .nil))) .nil))) .nil)) b161_1) r161_0)⟩
/-- still_on: first last line more rest low high -/
def f162 : Fn := ⟨3, 7, false, (.cons (.par [3, 4] (.cons (.bin .sub (.idx (.var 2) (.int 0)) (.int 1000)) (.cons (.idx (.var 2) (.int 1)) .nil))) (.cons (.par [5, 6] (.cons (.var 0) (.cons (.var 1) .nil))) (.cons (.ife (.cmp .eq (.var 3) (.int 0)) (.cons (.ret (.ife (.chain .le .le (.int 0) (.var 4) (.int 999)) (.tup (.cons (.var 5) (.cons (.var 6) .nil))) .non)) .nil) .nil) (.cons (.ife (.cmp .lt (.var 3) (.int 0)) (.cons (.ret (.ife (.cmp .eq (.var 0) (.int 0)) (.tup (.cons (.int 0) (.cons (.int 0) .nil))) .non)) .nil) .nil) (.cons (.par [5, 6] (.cons (.blt .max2 (.cons (.var 5) (.cons (.neg (.bin .fdiv (.var 4) (.var 3))) .nil))) (.cons (.blt .min2 (.cons (.var 6) (.cons (.bin .fdiv (.bin .sub (.int 999) (.var 4)) (.var 3)) .nil))) .nil))) (.cons (.ret (.ife (.cmp .le (.var 5) (.var 6)) (.tup (.cons (.var 5) (.cons (.var 6) .nil))) .non)) .nil))))))⟩
def t163_0 : Tg := (.tup [(.name 2), (.name 3)])
def b163_0 : ISs := (.cons (.asg (.name 4) (.call 162 (.cons (.var 2) (.cons (.ife (.cmp .isN (.var 3) .non) (.glo (Str.ofString "TOP") (1000000000)) (.var 3)) (.cons (.call 48 (.cons (.var 0) (.cons (.var 2) (.cons (.bl false) .nil)))) .nil))))) (.cons (.ife (.cmp .notN (.var 4) .non) (.cons (.append 1 (.var 4)) .nil) .nil) .nil))
/-- unmoved: plan found first last still -/
def f163 : Fn := ⟨1, 5, false, (.cons (.expr (.call 21 (.cons (.var 0) .nil))) (.cons (.asg (.name 1) (.lst .nil)) (.cons (.for_ t163_0 (.seq (.call 45 (.cons (.bin .add (.call 44 (.cons (.var 0) .nil)) (.call 49 (.cons (.var 0) (.cons (.bl false) .nil)))) .nil))) b163_0) (.cons (.ret (.call 109 (.cons (.var 1) .nil))) .nil))))⟩
def x164_0 : IE := (.var 4)
def u164_0 : Tg := (.name 4)
def i164_0 : IT := (.range (.cons (.var 1) .nil))
def c164_0 : IEs := (.cons (.cmp .eq (.call 39 (.cons (.var 0) (.cons (.var 4) (.cons (.bl false) .nil)))) (.var 4)) .nil)
/-- _law_still: p start_so good found base_so -/
def f164 : Fn := ⟨1, 5, false, (.cons (.asg (.name 1) (.bin .add (.call 56 (.cons (.var 0) .nil)) (.int 1100))) (.cons (.asg (.name 2) (.comp x164_0 u164_0 i164_0 c164_0 [4])) (.cons (.asg (.name 3) (.call 115 (.cons (.var 2) .nil))) (.cons (.ife (.boolop true (.cons (.cmp .eq (.idx (.idx (.idx (.var 0) (.int 0)) (.neg (.int 1))) (.int 1)) (.int 0)) (.cons (.cmp .ne (.var 2) (.lst .nil)) (.cons (.cmp .eq (.idx (.var 2) (.neg (.int 1))) (.bin .sub (.var 1) (.int 1))) .nil)))) (.cons (.setI 3 (.neg (.int 1)) (.tup (.cons (.idx (.idx (.bor 3) (.neg (.int 1))) (.int 0)) (.cons (.bin .pow (.int 10) (.int 9)) .nil)))) .nil) .nil) (.cons (.ret (.mov 3)) .nil)))))⟩
def t165_0 : Tg := (.name 8)
def b165_0 : ISs := (.cons (.ife (.cmp .ne (.call 39 (.cons (.var 2) (.cons (.var 8) (.cons (.bl false) .nil)))) (.var 8)) (.cons (.ret (.bl false)) .nil) .nil) .nil)
def t165_1 : Tg := (.tup [(.name 6), (.name 7)])
def b165_1 : ISs := (.cons (.for_ t165_0 (.seq (.tup (.cons (.var 6) (.cons (.var 7) (.cons (.bin .add (.var 6) (.callio 7 4 (.cons (.bin .add (.bin .sub (.var 7) (.var 6)) (.int 1)) .nil))) .nil))))) b165_0) .nil)
def t165_2 : Tg := (.name 1)
def b165_2 : ISs := (.cons (.asg (.name 4) (.call 6 (.cons (.var 0) (.cons (.var 1) .nil)))) (.cons (.asg (.name 2) (.callio 14 4 (.cons (.int 400) .nil))) (.cons (.ife (.cmp .eq (.callio 7 4 (.cons (.int 2) .nil)) (.int 0)) (.cons (.asg (.name 2) (.bin .add (.tup (.cons (.bin .add (.slice (.idx (.var 2) (.int 0)) .none (.some (.neg (.int 1)))) (.tup (.cons (.tup (.cons (.idx (.idx (.idx (.var 2) (.int 0)) (.neg (.int 1))) (.int 0)) (.cons (.int 0) .nil))) .nil))) .nil)) (.slice (.var 2) (.some (.int 1)) .none))) .nil) .nil) (.cons (.asg (.name 5) (.call 163 (.cons (.var 2) .nil))) (.cons (.ife (.boolop false (.cons (.not (.blt .isList (.cons (.var 5) .nil))) (.cons (.cmp .ne (.var 5) (.call 164 (.cons (.var 2) .nil))) .nil))) (.cons (.ret (.bl false)) .nil) .nil) (.cons (.for_ t165_1 (.seq (.var 5)) b165_1) (.cons (.ife (.cmp .ne (.call 163 (.cons (.bin .add (.bin .add (.slice (.var 2) .none (.some (.int 3))) (.tup (.cons .non .nil))) (.slice (.var 2) (.some (.int 4)) .none)) .nil)) (.var 5)) (.cons (.ret (.bl false)) .nil) .nil) .nil)))))))
def r165_0 : ISs := (.cons (.asg (.name 2) (.tup (.cons (.tup (.cons (.tup (.cons (.int 0) (.cons (.int 10) .nil))) (.cons (.tup (.cons (.int 1000) (.cons (.int 20) .nil))) .nil))) (.cons (.str (Str.ofString "parts")) (.cons (.str (Str.ofString "down")) (.cons (.tup (.cons (.int 3) (.cons (.int 5) .nil))) (.cons (.tup (.cons (.int 100) (.cons (.int 2) .nil))) (.cons (.int 50) .nil)))))))) (.cons (.ife (.boolop false (.cons (.cmp .ne (.call 163 (.cons (.var 2) .nil)) (.lst (.cons (.tup (.cons (.int 0) (.cons (.int 0) .nil))) .nil))) (.cons (.cmp .ne (.call 163 (.cons (.bin .add (.bin .add (.tup (.cons (.tup (.cons (.tup (.cons (.int 0) (.cons (.int 10) .nil))) (.cons (.tup (.cons (.int 1000) (.cons (.int 30) .nil))) .nil))) .nil)) (.slice (.var 2) (.some (.int 1)) (.some (.int 4)))) (.tup (.cons .non (.cons (.int 0) .nil)))) .nil)) (.lst (.cons (.tup (.cons (.int 0) (.cons (.int 99) .nil))) .nil))) .nil))) (.cons (.ret (.bl false)) .nil) .nil) (.cons (.asg (.name 3) (.tup (.cons (.tup (.cons (.tup (.cons (.int 0) (.cons (.int 50) .nil))) (.cons (.tup (.cons (.int 1000) (.cons (.int 0) .nil))) .nil))) (.cons (.str (Str.ofString "whole")) (.cons (.str (Str.ofString "half")) (.cons .non (.cons .non (.cons (.int 0) .nil)))))))) (.cons (.ife (.boolop false (.cons (.cmp .ne (.call 163 (.cons (.var 3) .nil)) (.lst (.cons (.tup (.cons (.int 0) (.cons (.int 9) .nil))) (.cons (.tup (.cons (.int 1000) (.cons (.bin .pow (.int 10) (.int 9)) .nil))) .nil)))) (.cons (.cmp .ne (.call 163 (.cons (.bin .add (.tup (.cons (.tup (.cons (.tup (.cons (.int 0) (.cons (.int 0) .nil))) .nil)) .nil)) (.slice (.var 3) (.some (.int 1)) .none)) .nil)) (.lst (.cons (.tup (.cons (.int 0) (.cons (.bin .pow (.int 10) (.int 9)) .nil))) .nil))) .nil))) (.cons (.ret (.bl false)) .nil) .nil) (.cons (.ret (.cmp .eq (.call 163 (.cons (.tup (.cons (.tup (.cons (.tup (.cons (.int 0) (.cons (.int 20) .nil))) .nil)) (.cons (.str (Str.ofString "parts")) (.cons (.str (Str.ofString "down")) (.cons .non (.cons (.tup (.cons (.int 1000) (.cons (.int 10) .nil))) (.cons (.int 0) .nil))))))) .nil)) (.lst (.cons (.tup (.cons (.int 0) (.cons (.int 0) .nil))) (.cons (.tup (.cons (.int 500) (.cons (.int 549) .nil))) .nil))))) .nil)))))
/-- law: script k p w source found low high base_so -/
def f165 : Fn := ⟨1, 9, false, (.cons (.for_ t165_2 (.range (.cons (.blt .max2 (.cons (.int 5) (.cons (.blt .min2 (.cons (.int 14) (.cons (.blt .len (.cons (.var 0) .nil)) .nil))) .nil))) .nil)) b165_2) r165_0)⟩
/-- settles: plan first months balances month -/
def f166 : Fn := ⟨2, 5, false, (.cons (.expr (.call 21 (.cons (.var 0) .nil))) (.cons (.expr (.call 23 (.cons (.var 1) (.cons (.int 0) (.cons (.glo (Str.ofString "TOP") (1000000000)) .nil))))) (.cons (.asg (.name 2) (.ife (.cmp .isN (.idx (.var 0) (.int 3)) .non) (.int 1) (.idx (.idx (.var 0) (.int 3)) (.int 0)))) (.cons (.asg (.name 3) (.lst (.cons (.call 27 (.cons (.var 0) (.cons (.var 1) (.cons (.call 24 (.cons (.var 0) (.cons (.int 1) .nil))) .nil)))) .nil))) (.cons (.for_ (.name 4) (.range (.cons (.int 2) (.cons (.bin .add (.bin .add (.glo (Str.ofString "MAX_SETTLING") (1200)) (.var 2)) (.int 1)) .nil))) (.cons (.append 3 (.call 27 (.cons (.var 0) (.cons (.idx (.bor 3) (.neg (.int 1))) (.cons (.call 24 (.cons (.var 0) (.cons (.var 4) .nil))) .nil))))) .nil)) (.cons (.asg (.name 4) (.blt .len (.cons (.bor 3) .nil))) (.cons (.while_ (.boolop true (.cons (.cmp .gt (.var 4) (.int 1)) (.cons (.cmp .eq (.idx (.bor 3) (.bin .sub (.var 4) (.int 2))) (.idx (.bor 3) (.neg (.int 1)))) .nil))) (.cons (.asg (.name 4) (.bin .sub (.var 4) (.int 1))) .nil)) (.cons (.ret (.ife (.cmp .le (.var 4) (.glo (Str.ofString "MAX_SETTLING") (1200))) (.tup (.cons (.idx (.bor 3) (.neg (.int 1))) (.cons (.var 4) .nil))) .non)) .nil))))))))⟩
/-- _law_settled: p amount months_so left_so found new -/
def f167 : Fn := ⟨2, 6, false, (.cons (.par [3, 4] (.cons (.call 57 (.cons (.var 0) (.cons (.var 1) .nil))) (.cons (.int 1) .nil))) (.cons (.for_ (.name 2) (.range (.cons (.int 2) (.cons (.bin .add (.int 1201) (.ife (.cmp .isN (.idx (.var 0) (.int 3)) .non) (.int 1) (.idx (.idx (.var 0) (.int 3)) (.int 0)))) .nil))) (.cons (.asg (.name 5) (.call 39 (.cons (.var 0) (.cons (.var 3) (.cons (.call 37 (.cons (.var 0) (.cons (.var 2) .nil))) .nil))))) (.cons (.ife (.cmp .ne (.var 5) (.var 3)) (.cons (.asg (.name 4) (.var 2)) .nil) .nil) (.cons (.asg (.name 3) (.var 5)) .nil)))) (.cons (.ret (.ife (.cmp .le (.var 4) (.int 1200)) (.tup (.cons (.var 3) (.cons (.var 4) .nil))) .non)) .nil)))⟩
/-- law: script k p a w source amount start_so rate -/
def f168 : Fn := ⟨1, 9, false, (.cons (.for_ (.name 1) (.range (.cons (.blt .max2 (.cons (.int 5) (.cons (.blt .min2 (.cons (.int 12) (.cons (.blt .len (.cons (.var 0) .nil)) .nil))) .nil))) .nil)) (.cons (.asg (.name 5) (.call 6 (.cons (.var 0) (.cons (.var 1) .nil)))) (.cons (.asg (.name 2) (.callio 14 5 (.cons (.int 400) .nil))) (.cons (.ife (.cmp .gt (.callio 7 5 (.cons (.int 3) .nil)) (.int 0)) (.cons (.asg (.name 2) (.bin .add (.tup (.cons (.blt .tuple (.cons (.comp (.tup (.cons (.var 7) (.cons (.idx (.lst (.cons (.int 0) (.cons (.int 1) (.cons (.var 8) .nil)))) (.bin .mod (.blt .int (.cons (.var 7) .nil)) (.int 3))) .nil))) (.tup [(.name 7), (.name 8)]) (.seq (.idx (.var 2) (.int 0))) .nil [7, 8]) .nil)) .nil)) (.slice (.var 2) (.some (.int 1)) .none))) .nil) .nil) (.cons (.for_ (.name 6) (.seq (.tup (.cons (.callio 7 5 (.cons (.int 120) .nil)) (.cons (.callio 7 5 (.cons (.int 3000) .nil)) (.cons (.callio 7 5 (.cons (.bin .pow (.int 10) (.int 9)) .nil)) (.cons (.int 0) .nil)))))) (.cons (.ife (.cmp .ne (.call 166 (.cons (.var 2) (.cons (.var 6) .nil))) (.call 167 (.cons (.var 2) (.cons (.var 6) .nil)))) (.cons (.ret (.bl false)) .nil) .nil) .nil)) .nil))))) (.cons (.asg (.name 2) (.tup (.cons (.tup (.cons (.tup (.cons (.int 0) (.cons (.int 10) .nil))) (.cons (.tup (.cons (.int 1000) (.cons (.int 30) .nil))) .nil))) (.cons (.str (Str.ofString "parts")) (.cons (.str (Str.ofString "down")) (.cons .non (.cons .non (.cons (.int 0) .nil)))))))) (.cons (.ife (.boolop false (.cons (.cmp .ne (.call 166 (.cons (.var 2) (.cons (.int 50) .nil))) (.tup (.cons (.int 50) (.cons (.int 1) .nil)))) (.cons (.cmp .notN (.call 166 (.cons (.var 2) (.cons (.int 100) .nil))) .non) (.cons (.cmp .ne (.call 166 (.cons (.var 2) (.cons (.int 0) .nil))) (.tup (.cons (.int 0) (.cons (.int 1) .nil)))) .nil)))) (.cons (.ret (.bl false)) .nil) .nil) (.cons (.asg (.name 3) (.tup (.cons (.tup (.cons (.tup (.cons (.int 0) (.cons (.int 10) .nil))) (.cons (.tup (.cons (.int 1000) (.cons (.int 20) .nil))) .nil))) (.cons (.str (Str.ofString "parts")) (.cons (.str (Str.ofString "down")) (.cons (.tup (.cons (.int 3) (.cons (.int 5) .nil))) (.cons (.tup (.cons (.int 100) (.cons (.int 2) .nil))) (.cons (.int 50) .nil)))))))) (.cons (.ife (.boolop false (.cons (.cmp .ne (.call 166 (.cons (.var 3) (.cons (.int 50) .nil))) (.tup (.cons (.int 0) (.cons (.int 25) .nil)))) (.cons (.cmp .ne (.call 166 (.cons (.var 3) (.cons (.int 99) .nil))) (.tup (.cons (.int 0) (.cons (.int 53) .nil)))) .nil))) (.cons (.ret (.bl false)) .nil) .nil) (.cons (.asg (.name 4) (.tup (.cons (.tup (.cons (.tup (.cons (.int 0) (.cons (.int 50) .nil))) (.cons (.tup (.cons (.int 1000) (.cons (.int 0) .nil))) .nil))) (.cons (.str (Str.ofString "whole")) (.cons (.str (Str.ofString "half")) (.cons .non (.cons .non (.cons (.int 0) .nil)))))))) (.cons (.ret (.boolop true (.cons (.cmp .eq (.call 166 (.cons (.var 4) (.cons (.int 995) .nil))) (.tup (.cons (.int 1045) (.cons (.int 1) .nil)))) (.cons (.cmp .eq (.call 166 (.cons (.var 4) (.cons (.int 900) .nil))) (.tup (.cons (.int 1042) (.cons (.int 3) .nil)))) .nil)))) .nil)))))))⟩
/- 169 _wall: statement Pass -/
/-- _wall: k -/
def f169 : Fn := ⟨1, 1, false, (.cons .raise .nil)⟩
def x170_0 : IE := (.idx (.var 7) (.int 1))
def u170_0 : Tg := (.name 7)
def i170_0 : IT := (.seq (.call 33 (.cons (.var 0) (.cons (.bin .add (.tup (.cons (.var 1) .nil)) (.bin .mul (.tup (.cons (.int 0) .nil)) (.bin .add (.var 5) (.int 14)))) .nil))))
def c170_0 : IEs := .nil
def x170_1 : IE := (.int 1)
def u170_1 : Tg := (.tup [(.name 8), (.name 9)])
def i170_1 : IT := (.seq (.var 3))
def c170_1 : IEs := (.cons (.chain .le .le (.var 8) (.var 4) (.var 9)) .nil)
/-- _law_settled_right: p amount found ranges_so left_so months_so told pair low high -/
def f170 : Fn := ⟨4, 10, false, (.cons (.asg (.tup [(.name 4), (.name 5)]) (.var 2)) (.cons (.ife (.boolop false (.cons (.not (.chain .le .le (.int 1) (.var 5) (.int 1200))) (.cons (.cmp .gt (.var 4) (.bin .pow (.int 10) (.int 9))) .nil))) (.cons (.ret (.bl false)) .nil) .nil) (.cons (.ife (.cmp .le (.var 5) (.int 180)) (.cons (.asg (.name 6) (.comp x170_0 u170_0 i170_0 c170_0 [7])) (.cons (.ife (.cmp .ne (.slice (.var 6) (.some (.bin .sub (.var 5) (.int 1))) .none) (.bin .mul (.lst (.cons (.var 4) .nil)) (.int 16))) (.cons (.ret (.bl false)) .nil) .nil) (.cons (.ife (.boolop true (.cons (.cmp .gt (.var 5) (.int 1)) (.cons (.cmp .eq (.idx (.var 6) (.bin .sub (.var 5) (.int 2))) (.var 4)) .nil))) (.cons (.ret (.bl false)) .nil) .nil) .nil))) .nil) (.cons (.ife (.cmp .notN (.idx (.var 0) (.int 3)) .non) (.cons (.ret (.bl true)) .nil) .nil) (.cons (.ret (.cmp .ne (.comp x170_1 u170_1 i170_1 c170_1 [8, 9]) (.lst .nil))) .nil)))))⟩
/- 171 law: call Account -/
/-- law: script -/
def f171 : Fn := ⟨1, 1, false, (.cons .raise .nil)⟩
/-- left_of: plan amount -/
def f172 : Fn := ⟨2, 2, false, (.cons (.ret (.call 27 (.cons (.var 0) (.cons (.var 1) (.cons (.call 24 (.cons (.var 0) (.cons (.int 1) .nil))) .nil))))) .nil)⟩
def w173_0 : IE := (.cmp .lt (.var 1) (.var 2))
def v173_0 : ISs := (.cons (.asg (.name 4) (.bin .fdiv (.bin .add (.var 1) (.var 2)) (.int 2))) (.cons (.ife (.cmp .gt (.call 172 (.cons (.var 0) (.cons (.var 4) .nil))) (.var 3)) (.cons (.asg (.name 2) (.var 4)) .nil) (.cons (.asg (.name 1) (.bin .add (.var 4) (.int 1))) .nil)) .nil))
/-- first_above: plan first last bound middle -/
def f173 : Fn := ⟨4, 5, false, (.cons (.while_ w173_0 v173_0) (.cons (.ret (.mov 1)) .nil))⟩
def x174_0 : IE := (.var 8)
def u174_0 : Tg := (.tup [(.name 8), (.name 9)])
def i174_0 : IT := (.seq (.slice (.var 1) (.some (.bin .add (.var 2) (.int 1))) .none))
def c174_0 : IEs := .nil
def x174_1 : IE := (.call 172 (.cons (.var 0) (.cons (.var 8) .nil)))
def u174_1 : Tg := (.name 8)
def i174_1 : IT := (.seq (.var 3))
def c174_1 : IEs := .nil
def x174_2 : IE := (.var 8)
def u174_2 : Tg := (.name 8)
def i174_2 : IT := (.seq (.var 3))
def c174_2 : IEs := (.cons (.cmp .lt (.call 172 (.cons (.var 0) (.cons (.var 8) .nil))) (.call 172 (.cons (.var 0) (.cons (.var 7) .nil)))) .nil)
def t174_0 : Tg := (.tup [(.name 2), (.tup [(.name 5), (.name 6)])])
def b174_0 : ISs := (.cons (.asg (.name 3) (.comp x174_0 u174_0 i174_0 c174_0 [8, 9])) (.cons (.asg (.name 4) (.blt .minL (.cons (.comp x174_1 u174_1 i174_1 c174_1 [8]) .nil))) (.cons (.ife (.cmp .gt (.call 172 (.cons (.var 0) (.cons (.var 6) .nil))) (.var 4)) (.cons (.asg (.name 7) (.call 173 (.cons (.var 0) (.cons (.var 5) (.cons (.var 6) (.cons (.var 4) .nil)))))) (.cons (.ret (.tup (.cons (.var 7) (.cons (.idx (.comp x174_2 u174_2 i174_2 c174_2 [8]) (.int 0)) .nil)))) .nil)) .nil) .nil)))
/-- less_pair: plan stretches at later bound first last less start end -/
def f174 : Fn := ⟨1, 10, false, (.cons (.expr (.call 21 (.cons (.var 0) .nil))) (.cons (.asg (.name 1) (.call 46 (.cons (.var 0) .nil))) (.cons (.for_ t174_0 (.enum (.slice (.var 1) .none (.some (.neg (.int 1))))) b174_0) (.cons (.ret .non) .nil))))⟩
def x175_0 : IE := (.call 39 (.cons (.var 0) (.cons (.var 5) (.cons (.call 37 (.cons (.var 0) (.cons (.int 1) .nil))) .nil))))
def u175_0 : Tg := (.name 5)
def i175_0 : IT := (.range (.cons (.int 401) .nil))
def c175_0 : IEs := .nil
def t175_0 : Tg := (.name 2)
def b175_0 : ISs := (.cons (.ife (.cmp .gt (.idx (.var 1) (.var 2)) (.var 3)) (.cons (.asg (.name 4) (.var 2)) .nil) .nil) (.cons (.asg (.name 3) (.blt .min2 (.cons (.var 3) (.cons (.idx (.var 1) (.var 2)) .nil)))) .nil))
def x175_1 : IE := (.var 6)
def u175_1 : Tg := (.name 6)
def i175_1 : IT := (.range (.cons (.bin .add (.var 4) (.int 1)) (.cons (.int 401) .nil)))
def c175_1 : IEs := (.cons (.cmp .lt (.idx (.var 1) (.var 6)) (.idx (.var 1) (.var 4))) .nil)
/-- _law_first_pair: p left_so less_so lowest found base_so more -/
def f175 : Fn := ⟨1, 7, false, (.cons (.asg (.name 1) (.comp x175_0 u175_0 i175_0 c175_0 [5])) (.cons (.asg (.tup [(.name 3), (.name 4)]) (.tup (.cons (.idx (.var 1) (.neg (.int 1))) (.cons .non .nil)))) (.cons (.for_ t175_0 (.range (.cons (.int 399) (.cons (.neg (.int 1)) (.cons (.neg (.int 1)) .nil)))) b175_0) (.cons (.ife (.cmp .isN (.var 4) .non) (.cons (.ret .non) .nil) .nil) (.cons (.ret (.tup (.cons (.var 4) (.cons (.idx (.comp x175_1 u175_1 i175_1 c175_1 [6]) (.int 0)) .nil)))) .nil)))))⟩
def t176_0 : Tg := (.name 4)
def b176_0 : ISs := (.cons (.asg (.name 2) (.callio 14 3 (.cons (.int 400) .nil))) (.cons (.ife (.boolop false (.cons (.cmp .ne (.call 174 (.cons (.var 2) .nil)) (.call 175 (.cons (.var 2) .nil))) (.cons (.cmp .notN (.call 174 (.cons (.call 148 (.cons (.var 2) .nil)) .nil)) .non) .nil))) (.cons (.ret (.bl false)) .nil) .nil) .nil))
def t176_1 : Tg := (.name 1)
def b176_1 : ISs := (.cons (.asg (.name 3) (.call 6 (.cons (.var 0) (.cons (.var 1) .nil)))) (.cons (.for_ t176_0 (.range (.cons (.int 4) .nil)) b176_0) (.cons (.par [7, 8] (.cons (.bin .add (.int 5000) (.callio 7 3 (.cons (.int 900000) .nil))) (.cons (.bin .add (.int 10) (.callio 7 3 (.cons (.int 90) .nil))) .nil))) (.cons (.asg (.name 2) (.tup (.cons (.tup (.cons (.tup (.cons (.int 0) (.cons (.var 8) .nil))) (.cons (.tup (.cons (.var 7) (.cons (.bin .sub (.var 8) (.int 5)) .nil))) (.cons (.tup (.cons (.bin .add (.var 7) (.int 7)) (.cons (.var 8) .nil))) .nil)))) (.cons (.str (Str.ofString "whole")) (.cons (.str (Str.ofString "down")) (.cons .non (.cons .non (.cons (.int 0) .nil)))))))) (.cons (.asg (.name 5) (.call 174 (.cons (.var 2) .nil))) (.cons (.ife (.boolop false (.cons (.cmp .isN (.var 5) .non) (.cons (.cmp .ne (.idx (.var 5) (.int 1)) (.var 7)) .nil))) (.cons (.ret (.bl false)) .nil) .nil) (.cons (.asg (.name 6) (.call 39 (.cons (.var 2) (.cons (.var 7) (.cons (.bl false) .nil))))) (.cons (.ife (.not (.chain .gt .ge (.call 39 (.cons (.var 2) (.cons (.idx (.var 5) (.int 0)) (.cons (.bl false) .nil)))) (.var 6) (.call 39 (.cons (.var 2) (.cons (.bin .sub (.idx (.var 5) (.int 0)) (.int 1)) (.cons (.bl false) .nil)))))) (.cons (.ret (.bl false)) .nil) .nil) .nil))))))))
def r176_0 : ISs := (.cons (.asg (.name 2) (.tup (.cons (.tup (.cons (.tup (.cons (.int 0) (.cons (.int 0) .nil))) (.cons (.tup (.cons (.int 100) (.cons (.int 50) .nil))) (.cons (.tup (.cons (.int 200) (.cons (.int 0) .nil))) .nil)))) (.cons (.str (Str.ofString "whole")) (.cons (.str (Str.ofString "down")) (.cons (.tup (.cons (.int 1) (.cons (.int 100) .nil))) (.cons (.tup (.cons (.int 150) (.cons (.int 1000) .nil))) (.cons (.int 0) .nil)))))))) (.cons (.ret (.boolop true (.cons (.cmp .eq (.call 174 (.cons (.var 2) .nil)) (.tup (.cons (.int 193) (.cons (.int 200) .nil)))) (.cons (.cmp .isN (.call 174 (.cons (.bin .add (.bin .add (.slice (.var 2) .none (.some (.int 1))) (.tup (.cons (.str (Str.ofString "parts")) .nil))) (.slice (.var 2) (.some (.int 2)) .none)) .nil)) .non) .nil)))) .nil))
/-- law: script k p source turn found left_so far rate -/
def f176 : Fn := ⟨1, 9, false, (.cons (.for_ t176_1 (.range (.cons (.blt .max2 (.cons (.int 6) (.cons (.blt .min2 (.cons (.int 16) (.cons (.blt .len (.cons (.var 0) .nil)) .nil))) .nil))) .nil)) b176_1) r176_0)⟩
def x177_0 : IE := (.call 57 (.cons (.var 0) (.cons (.var 7) .nil)))
def u177_0 : Tg := (.name 7)
def i177_0 : IT := (.range (.cons (.bin .add (.call 56 (.cons (.var 0) .nil)) (.int 2)) .nil))
def c177_0 : IEs := .nil
def t177_0 : Tg := (.name 2)
def b177_0 : ISs := (.cons (.asg (.name 6) (.bin .sub (.var 3) (.idx (.var 1) (.var 2)))) (.cons (.ife (.boolop true (.cons (.cmp .gt (.var 6) (.int 0)) (.cons (.boolop false (.cons (.cmp .isN (.var 5) .non) (.cons (.cmp .lt (.tup (.cons (.bin .sub (.int 0) (.var 6)) (.cons (.var 4) (.cons (.var 2) .nil)))) (.var 5)) .nil))) .nil))) (.cons (.asg (.name 5) (.tup (.cons (.bin .sub (.int 0) (.var 6)) (.cons (.var 4) (.cons (.var 2) .nil))))) .nil) .nil) (.cons (.ife (.cmp .gt (.idx (.var 1) (.var 2)) (.var 3)) (.cons (.par [3, 4] (.cons (.idx (.var 1) (.var 2)) (.cons (.var 2) .nil))) .nil) .nil) .nil)))
/-- _law_worst: p left_so more most_so at best loss amount -/
def f177 : Fn := ⟨1, 8, false, (.cons (.asg (.name 1) (.comp x177_0 u177_0 i177_0 c177_0 [7])) (.cons (.par [3, 4, 5] (.cons (.idx (.var 1) (.int 0)) (.cons (.int 0) (.cons .non .nil)))) (.cons (.for_ t177_0 (.range (.cons (.int 1) (.cons (.blt .len (.cons (.var 1) .nil)) .nil))) b177_0) (.cons (.ret (.ife (.cmp .isN (.var 5) .non) .non (.tup (.cons (.bin .sub (.int 0) (.idx (.var 5) (.int 0))) (.cons (.idx (.var 5) (.int 1)) (.cons (.idx (.var 5) (.int 2)) .nil)))))) .nil))))⟩
def t178_0 : Tg := (.name 5)
def b178_0 : ISs := (.cons (.asg (.name 7) (.callio 14 4 (.cons (.int 400) .nil))) (.cons (.ife (.cmp .gt (.callio 7 4 (.cons (.int 3) .nil)) (.int 0)) (.cons (.asg (.name 7) (.bin .add (.bin .add (.slice (.var 7) .none (.some (.int 1))) (.tup (.cons (.str (Str.ofString "whole")) .nil))) (.slice (.var 7) (.some (.int 2)) .none))) .nil) .nil) (.cons (.asg (.name 8) (.call 81 (.cons (.var 7) .nil))) (.cons (.ife (.boolop false (.cons (.cmp .ne (.var 8) (.call 177 (.cons (.var 7) .nil))) (.cons (.cmp .notN (.call 81 (.cons (.call 148 (.cons (.var 7) .nil)) .nil)) .non) .nil))) (.cons (.ret (.bl false)) .nil) .nil) (.cons (.ife (.boolop true (.cons (.cmp .notN (.var 8) .non) (.cons (.cmp .ne (.bin .sub (.call 57 (.cons (.var 7) (.cons (.idx (.var 8) (.int 1)) .nil))) (.call 57 (.cons (.var 7) (.cons (.idx (.var 8) (.int 2)) .nil)))) (.idx (.var 8) (.int 0))) .nil))) (.cons (.ret (.bl false)) .nil) .nil) .nil)))))
def t178_1 : Tg := (.name 1)
def b178_1 : ISs := (.cons (.asg (.name 4) (.call 6 (.cons (.var 0) (.cons (.var 1) .nil)))) (.cons (.for_ t178_0 (.range (.cons (.int 4) .nil)) b178_0) (.cons (.asg (.name 6) (.bin .add (.int 5000) (.callio 7 4 (.cons (.int 40000) .nil)))) (.cons (.asg (.name 7) (.tup (.cons (.tup (.cons (.tup (.cons (.int 0) (.cons (.int 50) .nil))) (.cons (.tup (.cons (.var 6) (.cons (.int 0) .nil))) (.cons (.tup (.cons (.bin .add (.var 6) (.int 10)) (.cons (.int 40) .nil))) .nil)))) (.cons (.str (Str.ofString "whole")) (.cons (.str (Str.ofString "down")) (.cons .non (.cons .non (.cons (.int 0) .nil)))))))) (.cons (.ife (.cmp .ne (.call 81 (.cons (.var 7) .nil)) (.tup (.cons (.bin .sub (.bin .fdiv (.bin .mul (.int 50) (.bin .sub (.var 6) (.int 1))) (.int 1000)) (.int 1)) (.cons (.bin .sub (.var 6) (.int 1)) (.cons (.var 6) .nil))))) (.cons (.ret (.bl false)) .nil) .nil) .nil)))))
def r178_0 : ISs := (.cons (.asg (.name 2) (.tup (.cons (.tup (.cons (.tup (.cons (.int 0) (.cons (.int 50) .nil))) (.cons (.tup (.cons (.int 1000) (.cons (.int 0) .nil))) .nil))) (.cons (.str (Str.ofString "whole")) (.cons (.str (Str.ofString "half")) (.cons .non (.cons .non (.cons (.int 0) .nil)))))))) (.cons (.ife (.cmp .ne (.call 81 (.cons (.var 2) .nil)) (.tup (.cons (.int 49) (.cons (.int 999) (.cons (.int 1000) .nil))))) (.cons (.ret (.bl false)) .nil) .nil) (.cons (.asg (.name 3) (.tup (.cons (.tup (.cons (.tup (.cons (.int 0) (.cons (.int 0) .nil))) (.cons (.tup (.cons (.int 100) (.cons (.int 50) .nil))) (.cons (.tup (.cons (.int 200) (.cons (.int 0) .nil))) (.cons (.tup (.cons (.int 300) (.cons (.int 50) .nil))) (.cons (.tup (.cons (.int 400) (.cons (.int 0) .nil))) .nil)))))) (.cons (.str (Str.ofString "whole")) (.cons (.str (Str.ofString "down")) (.cons .non (.cons .non (.cons (.int 0) .nil)))))))) (.cons (.ret (.boolop true (.cons (.cmp .eq (.call 81 (.cons (.var 3) .nil)) (.tup (.cons (.int 18) (.cons (.int 399) (.cons (.int 400) .nil))))) (.cons (.cmp .isN (.call 81 (.cons (.bin .add (.bin .add (.slice (.var 3) .none (.some (.int 1))) (.tup (.cons (.str (Str.ofString "parts")) .nil))) (.slice (.var 3) (.some (.int 2)) .none)) .nil)) .non) .nil)))) .nil))))
/-- law: script k w two source turn far p found -/
def f178 : Fn := ⟨1, 9, false, (.cons (.for_ t178_1 (.range (.cons (.blt .max2 (.cons (.int 6) (.cons (.blt .min2 (.cons (.int 16) (.cons (.blt .len (.cons (.var 0) .nil)) .nil))) .nil))) .nil)) b178_1) r178_0)⟩
def x179_0 : IE := (.idx (.var 9) (.int 2))
def u179_0 : Tg := (.name 9)
def i179_0 : IT := (.seq (.slice (.var 1) (.some (.bin .add (.var 3) (.int 1))) .none))
def c179_0 : IEs := .nil
def t179_0 : Tg := (.tup [(.name 3), (.tup [(.name 5), (.name 6), (.name 7), (.name 8)])])
def b179_0 : ISs := (.cons (.asg (.name 4) (.comp x179_0 u179_0 i179_0 c179_0 [9])) (.cons (.ife (.boolop true (.cons (.cmp .ne (.var 4) (.lst .nil)) (.cons (.cmp .gt (.var 8) (.blt .minL (.cons (.var 4) .nil))) .nil))) (.cons (.append 2 (.tup (.cons (.call 80 (.cons (.var 0) (.cons (.var 5) (.cons (.var 6) (.cons (.bin .add (.blt .minL (.cons (.var 4) .nil)) (.int 1)) .nil))))) (.cons (.var 6) .nil)))) .nil) .nil) .nil))
/-- losing_ranges: plan rows found at later first last begin end row -/
def f179 : Fn := ⟨1, 10, false, (.cons (.expr (.call 21 (.cons (.var 0) .nil))) (.cons (.par [1, 2] (.cons (.call 79 (.cons (.var 0) .nil)) (.cons (.lst .nil) .nil))) (.cons (.for_ t179_0 (.enum (.var 1)) b179_0) (.cons (.ret (.call 109 (.cons (.var 2) .nil))) .nil))))⟩
def x180_0 : IE := (.var 8)
def u180_0 : Tg := (.tup [(.name 8), (.name 9)])
def i180_0 : IT := (.seq (.slice (.var 1) (.some (.bin .add (.var 2) (.int 1))) .none))
def c180_0 : IEs := .nil
def x180_1 : IE := (.call 172 (.cons (.var 0) (.cons (.var 8) .nil)))
def u180_1 : Tg := (.name 8)
def i180_1 : IT := (.seq (.var 3))
def c180_1 : IEs := .nil
def x180_2 : IE := (.var 8)
def u180_2 : Tg := (.name 8)
def i180_2 : IT := (.seq (.var 3))
def c180_2 : IEs := (.cons (.cmp .lt (.call 172 (.cons (.var 0) (.cons (.var 8) .nil))) (.call 172 (.cons (.var 0) (.cons (.var 7) .nil)))) .nil)
def t180_0 : Tg := (.tup [(.name 2), (.tup [(.name 5), (.name 6)])])
def b180_0 : ISs := (.cons (.asg (.name 3) (.comp x180_0 u180_0 i180_0 c180_0 [8, 9])) (.cons (.asg (.name 4) (.blt .minL (.cons (.comp x180_1 u180_1 i180_1 c180_1 [8]) .nil))) (.cons (.ife (.cmp .gt (.call 172 (.cons (.var 0) (.cons (.var 6) .nil))) (.var 4)) (.cons (.asg (.name 7) (.call 173 (.cons (.var 0) (.cons (.var 5) (.cons (.var 6) (.cons (.var 4) .nil)))))) (.cons (.ret (.tup (.cons (.var 7) (.cons (.idx (.comp x180_2 u180_2 i180_2 c180_2 [8]) (.int 0)) .nil)))) .nil)) .nil) .nil)))
/-- less_pair: plan stretches at later bound first last less start end -/
def f180 : Fn := ⟨1, 10, false, (.cons (.expr (.call 21 (.cons (.var 0) .nil))) (.cons (.asg (.name 1) (.call 46 (.cons (.var 0) .nil))) (.cons (.for_ t180_0 (.enum (.slice (.var 1) .none (.some (.neg (.int 1))))) b180_0) (.cons (.ret .non) .nil))))⟩
def x181_0 : IE := (.call 57 (.cons (.var 0) (.cons (.var 2) .nil)))
def u181_0 : Tg := (.name 2)
def i181_0 : IT := (.range (.cons (.bin .add (.call 56 (.cons (.var 0) .nil)) (.int 2)) .nil))
def c181_0 : IEs := .nil
def t181_0 : Tg := (.name 2)
def b181_0 : ISs := (.cons (.ife (.cmp .gt (.idx (.var 1) (.var 2)) (.var 4)) (.cons (.append 3 (.var 2)) .nil) .nil) (.cons (.asg (.name 4) (.blt .min2 (.cons (.var 4) (.cons (.idx (.var 1) (.var 2)) .nil)))) .nil))
/-- _law_losing: p left_so amount good least_so -/
def f181 : Fn := ⟨1, 5, false, (.cons (.asg (.name 1) (.comp x181_0 u181_0 i181_0 c181_0 [2])) (.cons (.par [3, 4] (.cons (.lst .nil) (.cons (.idx (.var 1) (.neg (.int 1))) .nil))) (.cons (.for_ t181_0 (.range (.cons (.bin .sub (.blt .len (.cons (.var 1) .nil)) (.int 2)) (.cons (.neg (.int 1)) (.cons (.neg (.int 1)) .nil)))) b181_0) (.cons (.ret (.call 115 (.cons (.rev (.bor 3)) .nil))) .nil))))⟩
def t182_0 : Tg := (.name 5)
def b182_0 : ISs := (.cons (.asg (.name 6) (.callio 14 4 (.cons (.int 400) .nil))) (.cons (.ife (.cmp .gt (.callio 7 4 (.cons (.int 3) .nil)) (.int 0)) (.cons (.asg (.name 6) (.bin .add (.bin .add (.slice (.var 6) .none (.some (.int 1))) (.tup (.cons (.str (Str.ofString "whole")) .nil))) (.slice (.var 6) (.some (.int 2)) .none))) .nil) .nil) (.cons (.asg (.name 7) (.call 179 (.cons (.var 6) .nil))) (.cons (.ife (.boolop false (.cons (.not (.blt .isList (.cons (.var 7) .nil))) (.cons (.cmp .ne (.var 7) (.call 181 (.cons (.var 6) .nil))) .nil))) (.cons (.ret (.bl false)) .nil) .nil) (.cons (.asg (.name 8) (.call 180 (.cons (.var 6) .nil))) (.cons (.ife (.boolop false (.cons (.cmp .ne (.cmp .isN (.var 8) .non) (.cmp .eq (.var 7) (.lst .nil))) (.cons (.boolop true (.cons (.cmp .notN (.var 8) .non) (.cons (.cmp .ne (.idx (.var 8) (.int 0)) (.idx (.idx (.var 7) (.int 0)) (.int 0))) .nil))) .nil))) (.cons (.ret (.bl false)) .nil) .nil) .nil))))))
def t182_1 : Tg := (.name 1)
def b182_1 : ISs := (.cons (.asg (.name 4) (.call 6 (.cons (.var 0) (.cons (.var 1) .nil)))) (.cons (.for_ t182_0 (.range (.cons (.int 4) .nil)) b182_0) (.cons (.par [9, 10] (.cons (.bin .add (.int 5000) (.callio 7 4 (.cons (.int 40000) .nil))) (.cons (.bin .add (.int 10) (.callio 7 4 (.cons (.int 90) .nil))) .nil))) (.cons (.asg (.name 6) (.tup (.cons (.tup (.cons (.tup (.cons (.int 0) (.cons (.var 10) .nil))) (.cons (.tup (.cons (.var 9) (.cons (.bin .sub (.var 10) (.int 5)) .nil))) .nil))) (.cons (.str (Str.ofString "whole")) (.cons (.str (Str.ofString "down")) (.cons .non (.cons .non (.cons (.int 0) .nil)))))))) (.cons (.asg (.tup [(.name 11), (.name 12)]) (.idx (.call 179 (.cons (.var 6) .nil)) (.int 0))) (.cons (.ife (.boolop false (.cons (.cmp .ne (.var 12) (.bin .sub (.var 9) (.int 1))) (.cons (.cmp .ne (.blt .len (.cons (.call 179 (.cons (.var 6) .nil)) .nil)) (.int 1)) .nil))) (.cons (.ret (.bl false)) .nil) .nil) (.cons (.ife (.not (.chain .gt .ge (.call 57 (.cons (.var 6) (.cons (.var 11) .nil))) (.call 57 (.cons (.var 6) (.cons (.var 9) .nil))) (.call 57 (.cons (.var 6) (.cons (.bin .sub (.var 11) (.int 1)) .nil))))) (.cons (.ret (.bl false)) .nil) .nil) .nil)))))))
def r182_0 : ISs := (.cons (.asg (.name 2) (.tup (.cons (.tup (.cons (.tup (.cons (.int 0) (.cons (.int 50) .nil))) (.cons (.tup (.cons (.int 1000) (.cons (.int 0) .nil))) .nil))) (.cons (.str (Str.ofString "whole")) (.cons (.str (Str.ofString "half")) (.cons .non (.cons .non (.cons (.int 0) .nil)))))))) (.cons (.ife (.boolop false (.cons (.cmp .ne (.call 179 (.cons (.var 2) .nil)) (.lst (.cons (.tup (.cons (.int 953) (.cons (.int 999) .nil))) .nil))) (.cons (.cmp .ne (.call 179 (.cons (.call 148 (.cons (.var 2) .nil)) .nil)) (.lst .nil)) .nil))) (.cons (.ret (.bl false)) .nil) .nil) (.cons (.asg (.name 3) (.tup (.cons (.tup (.cons (.tup (.cons (.int 0) (.cons (.int 0) .nil))) (.cons (.tup (.cons (.int 100) (.cons (.int 50) .nil))) (.cons (.tup (.cons (.int 200) (.cons (.int 0) .nil))) (.cons (.tup (.cons (.int 300) (.cons (.int 50) .nil))) (.cons (.tup (.cons (.int 400) (.cons (.int 0) .nil))) .nil)))))) (.cons (.str (Str.ofString "whole")) (.cons (.str (Str.ofString "down")) (.cons .non (.cons .non (.cons (.int 0) .nil)))))))) (.cons (.ret (.cmp .eq (.call 179 (.cons (.var 3) .nil)) (.lst (.cons (.tup (.cons (.int 192) (.cons (.int 199) .nil))) (.cons (.tup (.cons (.int 382) (.cons (.int 399) .nil))) .nil))))) .nil))))
/-- law: script k w two source turn p found pair far rate low high -/
def f182 : Fn := ⟨1, 13, false, (.cons (.for_ t182_1 (.range (.cons (.blt .max2 (.cons (.int 6) (.cons (.blt .min2 (.cons (.int 16) (.cons (.blt .len (.cons (.var 0) .nil)) .nil))) .nil))) .nil)) b182_1) r182_0)⟩
def t183_0 : Tg := (.tup [(.name 8), (.name 9), (.name 10), (.name 11)])
def b183_0 : ISs := (.cons (.ife (.cmp .gt (.var 11) (.var 6)) (.cons (.asg (.name 12) (.call 80 (.cons (.var 0) (.cons (.var 8) (.cons (.var 9) (.cons (.var 11) .nil)))))) (.cons (.ife (.boolop false (.cons (.cmp .isN (.var 2) .non) (.cons (.cmp .lt (.tup (.cons (.bin .sub (.var 6) (.var 11)) (.cons (.var 12) (.cons (.var 4) .nil)))) (.var 2)) .nil))) (.cons (.asg (.name 2) (.tup (.cons (.bin .sub (.var 6) (.var 11)) (.cons (.var 12) (.cons (.var 4) .nil))))) .nil) .nil) .nil)) .nil) .nil)
def t183_1 : Tg := (.tup [(.name 3), (.tup [(.name 4), (.name 5), (.name 6), (.name 7)])])
def b183_1 : ISs := (.cons (.for_ t183_0 (.seq (.slice (.var 1) .none (.some (.var 3)))) b183_0) .nil)
/-- worst_pair: plan rows best at first last begin end less_first less_last less_begin less_end less -/
def f183 : Fn := ⟨1, 13, false, (.cons (.expr (.call 21 (.cons (.var 0) .nil))) (.cons (.par [1, 2] (.cons (.call 79 (.cons (.var 0) .nil)) (.cons .non .nil))) (.cons (.for_ t183_1 (.enum (.var 1)) b183_1) (.cons (.ret (.ife (.cmp .isN (.var 2) .non) .non (.tup (.cons (.neg (.idx (.var 2) (.int 0))) (.cons (.idx (.var 2) (.int 1)) (.cons (.idx (.var 2) (.int 2)) .nil)))))) .nil))))⟩
def x184_0 : IE := (.int 1)
def u184_0 : Tg := (.tup [(.name 13), (.name 14)])
def i184_0 : IT := (.seq (.var 7))
def c184_0 : IEs := (.cons (.not (.chain3 .le .le .lt (.int 0) (.var 13) (.var 14) (.bin .pow (.int 10) (.int 6)))) .nil)
def x184_1 : IE := (.int 1)
def u184_1 : Tg := (.tup [(.name 13), (.name 14)])
def i184_1 : IT := (.seq (.var 7))
def c184_1 : IEs := (.cons (.chain .le .le (.var 13) (.var 11) (.var 14)) .nil)
def x184_2 : IE := (.int 1)
def u184_2 : Tg := (.tup [(.name 15), (.name 16)])
def i184_2 : IT := (.seq (.var 7))
def c184_2 : IEs := (.cons (.cmp .eq (.var 16) (.bin .sub (.var 13) (.int 1))) .nil)
def t184_0 : Tg := (.tup [(.name 13), (.name 14)])
def b184_0 : ISs := (.cons (.asg (.tup [(.name 8), (.name 9)]) (.tup (.cons (.bin .add (.var 13) (.callio 7 2 (.cons (.bin .add (.bin .sub (.var 14) (.var 13)) (.int 1)) .nil))) (.cons (.bin .add (.bin .add (.var 14) (.int 1)) (.callio 7 2 (.cons (.bin .mul (.int 2) (.bin .pow (.int 10) (.int 6))) .nil))) .nil)))) (.cons (.ife (.cmp .gt (.bin .sub (.call 34 (.cons (.var 3) (.cons (.tup (.cons (.var 8) .nil)) .nil))) (.call 34 (.cons (.var 3) (.cons (.tup (.cons (.var 9) .nil)) .nil)))) (.var 10)) (.cons (.ret (.bl false)) .nil) .nil) (.cons (.ife (.boolop true (.cons (.cmp .gt (.var 13) (.int 0)) (.cons (.cmp .ne (.comp x184_2 u184_2 i184_2 c184_2 [15, 16]) (.lst .nil)) .nil))) (.cons (.ret (.bl false)) .nil) .nil) .nil)))
def x184_3 : IE := (.int 1)
def u184_3 : Tg := (.tup [(.name 13), (.name 14)])
def i184_3 : IT := (.seq (.var 7))
def c184_3 : IEs := (.cons (.chain .le .le (.var 13) (.var 8) (.var 14)) .nil)
def t184_1 : Tg := (.name 4)
def b184_1 : ISs := (.cons (.asg (.name 8) (.callio 7 2 (.cons (.bin .add (.bin .pow (.int 10) (.int 6)) (.int 10)) .nil))) (.cons (.asg (.name 9) (.bin .add (.bin .add (.var 8) (.int 1)) (.callio 7 2 (.cons (.int 1000) .nil)))) (.cons (.ife (.cmp .gt (.call 34 (.cons (.var 3) (.cons (.tup (.cons (.var 8) .nil)) .nil))) (.call 34 (.cons (.var 3) (.cons (.tup (.cons (.var 9) .nil)) .nil)))) (.cons (.ife (.cmp .eq (.comp x184_3 u184_3 i184_3 c184_3 [13, 14]) (.lst .nil)) (.cons (.ret (.bl false)) .nil) .nil) .nil) .nil) .nil)))
def t184_2 : Tg := (.name 1)
def b184_2 : ISs := (.cons (.asg (.name 2) (.call 6 (.cons (.var 0) (.cons (.var 1) .nil)))) (.cons (.asg (.name 3) (.callio 14 2 (.cons (.callio 9 2 (.cons (.lst (.cons (.int 400) (.cons (.int 50000) .nil))) .nil)) .nil))) (.cons (.ife (.cmp .gt (.callio 7 2 (.cons (.int 4) .nil)) (.int 0)) (.cons (.asg (.name 3) (.bin .add (.bin .add (.slice (.var 3) .none (.some (.int 1))) (.tup (.cons (.str (Str.ofString "whole")) .nil))) (.slice (.var 3) (.some (.int 2)) .none))) .nil) .nil) (.cons (.par [5, 6, 7] (.cons (.call 180 (.cons (.var 3) .nil)) (.cons (.call 183 (.cons (.var 3) .nil)) (.cons (.call 179 (.cons (.var 3) .nil)) .nil)))) (.cons (.ife (.boolop false (.cons (.cmp .ne (.cmp .isN (.var 5) .non) (.cmp .isN (.var 6) .non)) (.cons (.cmp .ne (.cmp .isN (.var 5) .non) (.cmp .eq (.var 7) (.lst .nil))) .nil))) (.cons (.ret (.bl false)) .nil) .nil) (.cons (.ife (.boolop true (.cons (.cmp .eq (.idx (.var 3) (.int 1)) (.str (Str.ofString "parts"))) (.cons (.boolop false (.cons (.cmp .notN (.var 5) .non) (.cons (.cmp .notB (.call 146 (.cons (.var 3) (.cons (.var 3) .nil))) (.bl true)) .nil))) .nil))) (.cons (.ret (.bl false)) .nil) .nil) (.cons (.ife (.boolop false (.cons (.cmp .ne (.var 7) (.blt .sorted (.cons (.var 7) .nil))) (.cons (.cmp .ne (.comp x184_0 u184_0 i184_0 c184_0 [13, 14]) (.lst .nil)) .nil))) (.cons (.ret (.bl false)) .nil) .nil) (.cons (.ife (.cmp .notN (.var 5) .non) (.cons (.asg (.tup [(.name 10), (.name 11), (.name 12)]) (.var 6)) (.cons (.ife (.boolop false (.cons (.cmp .ne (.bin .sub (.call 34 (.cons (.var 3) (.cons (.tup (.cons (.var 11) .nil)) .nil))) (.call 34 (.cons (.var 3) (.cons (.tup (.cons (.var 12) .nil)) .nil)))) (.var 10)) (.cons (.cmp .lt (.var 10) (.int 1)) (.cons (.cmp .ge (.var 11) (.var 12)) .nil)))) (.cons (.ret (.bl false)) .nil) .nil) (.cons (.ife (.boolop false (.cons (.cmp .eq (.comp x184_1 u184_1 i184_1 c184_1 [13, 14]) (.lst .nil)) (.cons (.cmp .ne (.idx (.var 5) (.int 0)) (.idx (.idx (.var 7) (.int 0)) (.int 0))) .nil))) (.cons (.ret (.bl false)) .nil) .nil) (.cons (.ife (.cmp .gt (.bin .sub (.call 34 (.cons (.var 3) (.cons (.tup (.cons (.idx (.var 5) (.int 0)) .nil)) .nil))) (.call 34 (.cons (.var 3) (.cons (.tup (.cons (.idx (.var 5) (.int 1)) .nil)) .nil)))) (.var 10)) (.cons (.ret (.bl false)) .nil) .nil) (.cons (.for_ t184_0 (.seq (.var 7)) b184_0) .nil))))) .nil) (.cons (.for_ t184_1 (.range (.cons (.int 4) .nil)) b184_1) .nil)))))))))
def r184_0 : ISs := (.cons (.ret (.bl true)) .nil)
/-- law: script k source p turn pair worst ranges_so at far loss less more low high one two -/
def f184 : Fn := ⟨1, 17, false, (.cons (.for_ t184_2 (.range (.cons (.blt .max2 (.cons (.int 5) (.cons (.blt .min2 (.cons (.int 12) (.cons (.blt .len (.cons (.var 0) .nil)) .nil))) .nil))) .nil)) b184_2) r184_0)⟩
def x185_0 : IE := (.var 3)
def u185_0 : Tg := (.name 3)
def i185_0 : IT := (.range (.cons (.int 1) (.cons (.blt .len (.cons (.idx (.var 0) (.int 0)) .nil)) .nil)))
def c185_0 : IEs := (.cons (.call 89 (.cons (.call 136 (.cons (.var 0) (.cons (.var 3) .nil))) (.cons (.var 0) .nil))) .nil)
def x185_1 : IE := (.boolop true (.cons (.cmp .notN (.idx (.var 0) (.var 4)) .non) (.cons (.call 89 (.cons (.call 137 (.cons (.var 0) (.cons (.var 4) .nil))) (.cons (.var 0) .nil))) .nil)))
def u185_1 : Tg := (.name 4)
def i185_1 : IT := (.seq (.tup (.cons (.int 3) (.cons (.int 4) .nil))))
def c185_1 : IEs := .nil
/-- needless: plan bands rules index place -/
def f185 : Fn := ⟨1, 5, false, (.cons (.expr (.call 21 (.cons (.var 0) .nil))) (.cons (.asg (.name 1) (.comp x185_0 u185_0 i185_0 c185_0 [3])) (.cons (.asg (.name 2) (.comp x185_1 u185_1 i185_1 c185_1 [4])) (.cons (.ret (.tup (.cons (.var 1) (.cons (.idx (.var 2) (.int 0)) (.cons (.idx (.var 2) (.int 1)) .nil))))) .nil))))⟩
def t186_0 : Tg := (.name 2)
def b186_0 : ISs := (.cons (.ife (.call 89 (.cons (.call 136 (.cons (.var 1) (.cons (.var 2) .nil))) (.cons (.var 0) .nil))) (.cons (.asg (.name 1) (.call 136 (.cons (.var 1) (.cons (.var 2) .nil)))) .nil) .nil) .nil)
def t186_1 : Tg := (.name 3)
def b186_1 : ISs := (.cons (.ife (.call 89 (.cons (.call 137 (.cons (.var 1) (.cons (.var 3) .nil))) (.cons (.var 0) .nil))) (.cons (.asg (.name 1) (.call 137 (.cons (.var 1) (.cons (.var 3) .nil)))) .nil) .nil) .nil)
/-- shortened: plan left index place -/
def f186 : Fn := ⟨1, 4, false, (.cons (.expr (.call 21 (.cons (.var 0) .nil))) (.cons (.asg (.name 1) (.var 0)) (.cons (.for_ t186_0 (.range (.cons (.bin .sub (.blt .len (.cons (.idx (.var 0) (.int 0)) .nil)) (.int 1)) (.cons (.int 0) (.cons (.neg (.int 1)) .nil)))) b186_0) (.cons (.for_ t186_1 (.seq (.tup (.cons (.int 3) (.cons (.int 4) .nil)))) b186_1) (.cons (.ret (.mov 1)) .nil)))))⟩
/-- _law_less_band: p at -/
def f187 : Fn := ⟨2, 2, false, (.cons (.ret (.bin .add (.tup (.cons (.bin .add (.slice (.idx (.var 0) (.int 0)) .none (.some (.var 1))) (.slice (.idx (.var 0) (.int 0)) (.some (.bin .add (.var 1) (.int 1))) .none)) .nil)) (.slice (.var 0) (.some (.int 1)) .none))) .nil)⟩
/-- _law_less_rule: p place -/
def f188 : Fn := ⟨2, 2, false, (.cons (.ret (.bin .add (.bin .add (.slice (.var 0) .none (.some (.var 1))) (.tup (.cons .non .nil))) (.slice (.var 0) (.some (.bin .add (.var 1) (.int 1))) .none))) .nil)⟩
/-- _law_padded: source p bands_so fee_so at rate -/
def f189 : Fn := ⟨2, 6, true, (.cons (.asg (.name 2) (.idx (.var 1) (.int 0))) (.cons (.ife (.cmp .lt (.blt .len (.cons (.var 2) .nil)) (.int 4)) (.cons (.par [4, 5] (.cons (.bin .add (.bin .add (.idx (.idx (.var 2) (.neg (.int 1))) (.int 0)) (.int 1)) (.callio 7 0 (.cons (.int 500) .nil))) (.cons (.idx (.idx (.var 2) (.neg (.int 1))) (.int 1)) .nil))) (.cons (.asg (.name 2) (.bin .add (.var 2) (.tup (.cons (.tup (.cons (.var 4) (.cons (.var 5) .nil))) .nil)))) (.cons (.asg (.name 2) (.bin .add (.var 2) (.tup (.cons (.tup (.cons (.bin .add (.bin .add (.var 4) (.int 1)) (.callio 7 0 (.cons (.int 40) .nil))) (.cons (.callio 9 0 (.cons (.lst (.cons (.int 1) (.cons (.var 5) .nil))) .nil)) .nil))) .nil)))) .nil))) .nil) (.cons (.asg (.name 3) (.idx (.var 1) (.int 4))) (.cons (.ife (.boolop true (.cons (.cmp .isN (.var 3) .non) (.cons (.cmp .eq (.callio 7 0 (.cons (.int 2) .nil)) (.int 0)) .nil))) (.cons (.asg (.name 3) (.tup (.cons (.bin .add (.int 1) (.callio 7 0 (.cons (.int 3) .nil))) (.cons (.int 3) .nil)))) .nil) .nil) (.cons (.ret (.bin .add (.bin .add (.tup (.cons (.var 2) .nil)) (.slice (.var 1) (.some (.int 1)) (.some (.int 4)))) (.tup (.cons (.var 3) (.cons (.idx (.var 1) (.int 5)) .nil))))) .nil)))))⟩
def t190_0 : Tg := (.name 2)
def b190_0 : ISs := (.cons (.ife (.call 90 (.cons (.call 187 (.cons (.var 1) (.cons (.var 2) .nil))) (.cons (.var 0) .nil))) (.cons (.asg (.name 1) (.call 187 (.cons (.var 1) (.cons (.var 2) .nil)))) .nil) .nil) .nil)
def t190_1 : Tg := (.name 3)
def b190_1 : ISs := (.cons (.ife (.boolop true (.cons (.cmp .notN (.idx (.var 1) (.var 3)) .non) (.cons (.call 90 (.cons (.call 188 (.cons (.var 1) (.cons (.var 3) .nil))) (.cons (.var 0) .nil))) .nil))) (.cons (.asg (.name 1) (.call 188 (.cons (.var 1) (.cons (.var 3) .nil)))) .nil) .nil) .nil)
/-- _law_shortened: p left_so at place -/
def f190 : Fn := ⟨1, 4, false, (.cons (.asg (.name 1) (.var 0)) (.cons (.for_ t190_0 (.range (.cons (.bin .sub (.blt .len (.cons (.idx (.var 0) (.int 0)) .nil)) (.int 1)) (.cons (.int 0) (.cons (.neg (.int 1)) .nil)))) b190_0) (.cons (.for_ t190_1 (.seq (.tup (.cons (.int 3) (.cons (.int 4) .nil)))) b190_1) (.cons (.ret (.mov 1)) .nil))))⟩
def x191_0 : IE := (.var 9)
def u191_0 : Tg := (.name 9)
def i191_0 : IT := (.range (.cons (.int 1) (.cons (.blt .len (.cons (.idx (.var 5) (.int 0)) .nil)) .nil)))
def c191_0 : IEs := (.cons (.call 90 (.cons (.call 187 (.cons (.var 5) (.cons (.var 9) .nil))) (.cons (.var 5) .nil))) .nil)
def x191_1 : IE := (.boolop true (.cons (.cmp .notN (.idx (.var 5) (.var 10)) .non) (.cons (.call 90 (.cons (.call 188 (.cons (.var 5) (.cons (.var 10) .nil))) (.cons (.var 5) .nil))) .nil)))
def u191_1 : Tg := (.name 10)
def i191_1 : IT := (.seq (.tup (.cons (.int 3) (.cons (.int 4) .nil))))
def c191_1 : IEs := .nil
def t191_0 : Tg := (.name 1)
def b191_0 : ISs := (.cons (.asg (.name 4) (.call 6 (.cons (.var 0) (.cons (.var 1) .nil)))) (.cons (.asg (.name 5) (.callio 189 4 (.cons (.callio 14 4 (.cons (.int 2000) .nil)) .nil))) (.cons (.asg (.name 6) (.comp x191_0 u191_0 i191_0 c191_0 [9])) (.cons (.asg (.name 7) (.comp x191_1 u191_1 i191_1 c191_1 [10])) (.cons (.ife (.cmp .ne (.call 185 (.cons (.var 5) .nil)) (.tup (.cons (.var 6) (.cons (.idx (.var 7) (.int 0)) (.cons (.idx (.var 7) (.int 1)) .nil))))) (.cons (.ret (.bl false)) .nil) .nil) (.cons (.asg (.name 8) (.call 186 (.cons (.var 5) .nil))) (.cons (.ife (.boolop false (.cons (.cmp .ne (.var 8) (.call 190 (.cons (.var 5) .nil))) (.cons (.cmp .notB (.call 90 (.cons (.var 8) (.cons (.var 5) .nil))) (.bl true)) .nil))) (.cons (.ret (.bl false)) .nil) .nil) .nil)))))))
def r191_0 : ISs := (.cons (.asg (.name 2) (.tup (.cons (.tup (.cons (.tup (.cons (.int 0) (.cons (.int 0) .nil))) (.cons (.tup (.cons (.int 100) (.cons (.int 1) .nil))) (.cons (.tup (.cons (.int 200) (.cons (.int 0) .nil))) .nil)))) (.cons (.str (Str.ofString "parts")) (.cons (.str (Str.ofString "half")) (.cons .non (.cons (.tup (.cons (.int 3) (.cons (.int 2) .nil))) (.cons (.int 0) .nil)))))))) (.cons (.ife (.boolop false (.cons (.cmp .ne (.call 185 (.cons (.var 2) .nil)) (.tup (.cons (.lst (.cons (.int 1) .nil)) (.cons (.bl false) (.cons (.bl false) .nil))))) (.cons (.cmp .ne (.call 186 (.cons (.var 2) .nil)) (.bin .add (.tup (.cons (.tup (.cons (.tup (.cons (.int 0) (.cons (.int 0) .nil))) (.cons (.tup (.cons (.int 200) (.cons (.int 0) .nil))) .nil))) .nil)) (.slice (.var 2) (.some (.int 1)) .none))) .nil))) (.cons (.ret (.bl false)) .nil) .nil) (.cons (.asg (.name 3) (.tup (.cons (.tup (.cons (.tup (.cons (.int 0) (.cons (.int 0) .nil))) .nil)) (.cons (.str (Str.ofString "whole")) (.cons (.str (Str.ofString "down")) (.cons .non (.cons (.tup (.cons (.int 2) (.cons (.int 1) .nil))) (.cons (.int 0) .nil)))))))) (.cons (.ret (.boolop true (.cons (.cmp .eq (.call 185 (.cons (.var 3) .nil)) (.tup (.cons (.lst .nil) (.cons (.bl false) (.cons (.bl false) .nil))))) (.cons (.cmp .eq (.call 185 (.cons (.bin .add (.slice (.var 3) .none (.some (.int 4))) (.tup (.cons (.tup (.cons (.int 1) (.cons (.int 1000) .nil))) (.cons (.int 0) .nil)))) .nil)) (.tup (.cons (.lst .nil) (.cons (.bl false) (.cons (.bl true) .nil))))) .nil)))) .nil))))
/-- law: script k low small source p bands_so rules_so found at place -/
def f191 : Fn := ⟨1, 11, false, (.cons (.for_ t191_0 (.range (.cons (.blt .max2 (.cons (.int 4) (.cons (.blt .min2 (.cons (.int 10) (.cons (.blt .len (.cons (.var 0) .nil)) .nil))) .nil))) .nil)) b191_0) r191_0)⟩
def t192_0 : Tg := (.name 1)
def b192_0 : ISs := (.cons (.ife (.call 89 (.cons (.var 0) (.cons (.bin .add (.slice (.var 0) .none (.some (.int 4))) (.tup (.cons (.tup (.cons (.var 2) (.cons (.var 1) .nil))) (.cons (.idx (.var 0) (.int 5)) .nil)))) .nil))) (.cons (.append 3 (.tup (.cons (.var 1) (.cons (.var 1) .nil)))) .nil) .nil) .nil)
/-- same_amounts: plan amount least found -/
def f192 : Fn := ⟨1, 4, false, (.cons (.expr (.call 108 (.cons (.var 0) .nil))) (.cons (.ife (.cmp .isN (.idx (.var 0) (.int 4)) .non) (.cons (.ret (.lst .nil)) .nil) .nil) (.cons (.par [2, 3] (.cons (.idx (.idx (.var 0) (.int 4)) (.int 0)) (.cons (.lst .nil) .nil))) (.cons (.for_ t192_0 (.range (.cons (.int 1) (.cons (.bin .add (.glo (Str.ofString "MAX_AMOUNT") (1000)) (.int 1)) .nil))) b192_0) (.cons (.ret (.call 109 (.cons (.var 3) .nil))) .nil)))))⟩
def x193_0 : IE := (.call 107 (.cons (.var 3) .nil))
def u193_0 : Tg := (.name 3)
def i193_0 : IT := (.seq (.var 0))
def c193_0 : IEs := .nil
def x193_1 : IE := (.var 5)
def u193_1 : Tg := (.tup [(.name 5), (.name 6)])
def i193_1 : IT := (.enum (.var 1))
def c193_1 : IEs := (.cons (.call 89 (.cons (.idx (.var 0) (.idx (.var 6) (.int 0))) (.cons (.var 3) .nil))) .nil)
def t193_0 : Tg := (.tup [(.name 2), (.name 3)])
def b193_0 : ISs := (.cons (.asg (.name 4) (.comp x193_1 u193_1 i193_1 c193_1 [5, 6])) (.cons (.ife (.cmp .eq (.var 4) (.lst .nil)) (.cons (.append 1 (.tup (.cons (.var 2) .nil))) .nil) (.cons (.setI 1 (.idx (.var 4) (.int 0)) (.bin .add (.idx (.bor 1) (.idx (.var 4) (.int 0))) (.tup (.cons (.var 2) .nil)))) .nil)) .nil))
/-- classes: plans found index plan places at some -/
def f193 : Fn := ⟨1, 7, false, (.cons (.ife (.boolop false (.cons (.not (.blt .isTup (.cons (.var 0) .nil))) (.cons (.not (.chain .le .le (.int 1) (.blt .len (.cons (.var 0) .nil)) (.glo (Str.ofString "MAX_PLANS") (5)))) (.cons (.not (.blt .all (.cons (.comp x193_0 u193_0 i193_0 c193_0 [3]) .nil))) .nil)))) (.cons .raise .nil) .nil) (.cons (.asg (.name 1) (.lst .nil)) (.cons (.for_ t193_0 (.enum (.var 0)) b193_0) (.cons (.ret (.mov 1)) .nil))))⟩
def x194_0 : IE := (.var 3)
def u194_0 : Tg := (.name 3)
def i194_0 : IT := (.range (.cons (.int 1) (.cons (.blt .len (.cons (.idx (.var 0) (.int 0)) .nil)) .nil)))
def c194_0 : IEs := (.cons (.call 89 (.cons (.call 136 (.cons (.var 0) (.cons (.var 3) .nil))) (.cons (.var 0) .nil))) .nil)
def x194_1 : IE := (.boolop true (.cons (.cmp .notN (.idx (.var 0) (.var 4)) .non) (.cons (.call 89 (.cons (.call 137 (.cons (.var 0) (.cons (.var 4) .nil))) (.cons (.var 0) .nil))) .nil)))
def u194_1 : Tg := (.name 4)
def i194_1 : IT := (.seq (.tup (.cons (.int 3) (.cons (.int 4) .nil))))
def c194_1 : IEs := .nil
/-- needless: plan bands rules index place -/
def f194 : Fn := ⟨1, 5, false, (.cons (.expr (.call 108 (.cons (.var 0) .nil))) (.cons (.asg (.name 1) (.comp x194_0 u194_0 i194_0 c194_0 [3])) (.cons (.asg (.name 2) (.comp x194_1 u194_1 i194_1 c194_1 [4])) (.cons (.ret (.tup (.cons (.var 1) (.cons (.idx (.var 2) (.int 0)) (.cons (.idx (.var 2) (.int 1)) .nil))))) .nil))))⟩
def t195_0 : Tg := (.name 2)
def b195_0 : ISs := (.cons (.ife (.call 89 (.cons (.call 136 (.cons (.var 1) (.cons (.var 2) .nil))) (.cons (.var 0) .nil))) (.cons (.asg (.name 1) (.call 136 (.cons (.var 1) (.cons (.var 2) .nil)))) .nil) .nil) .nil)
def t195_1 : Tg := (.name 3)
def b195_1 : ISs := (.cons (.ife (.call 89 (.cons (.call 137 (.cons (.var 1) (.cons (.var 3) .nil))) (.cons (.var 0) .nil))) (.cons (.asg (.name 1) (.call 137 (.cons (.var 1) (.cons (.var 3) .nil)))) .nil) .nil) .nil)
/-- shortened: plan left index place -/
def f195 : Fn := ⟨1, 4, false, (.cons (.expr (.call 108 (.cons (.var 0) .nil))) (.cons (.asg (.name 1) (.var 0)) (.cons (.for_ t195_0 (.range (.cons (.bin .sub (.blt .len (.cons (.idx (.var 0) (.int 0)) .nil)) (.int 1)) (.cons (.int 0) (.cons (.neg (.int 1)) .nil)))) b195_0) (.cons (.for_ t195_1 (.seq (.tup (.cons (.int 3) (.cons (.int 4) .nil)))) b195_1) (.cons (.ret (.mov 1)) .nil)))))⟩
def x196_0 : IE := (.int 1)
def u196_0 : Tg := (.tup [(.name 12), (.name 13)])
def i196_0 : IT := (.seq (.call 111 (.cons (.var 2) (.cons (.var 4) .nil))))
def c196_0 : IEs := (.cons (.chain .le .le (.var 12) (.idx (.idx (.idx (.var 2) (.int 0)) (.bin .sub (.var 4) (.int 1))) (.int 1)) (.var 13)) .nil)
def t196_0 : Tg := (.name 4)
def b196_0 : ISs := (.cons (.asg (.name 9) (.bin .add (.tup (.cons (.bin .add (.slice (.idx (.var 2) (.int 0)) .none (.some (.var 4))) (.slice (.idx (.var 2) (.int 0)) (.some (.bin .add (.var 4) (.int 1))) .none)) .nil)) (.slice (.var 2) (.some (.int 1)) .none))) (.cons (.ife (.cmp .ne (.cmp .eq (.call 193 (.cons (.tup (.cons (.var 2) (.cons (.var 9) .nil))) .nil)) (.lst (.cons (.tup (.cons (.int 0) (.cons (.int 1) .nil))) .nil))) (.cmp .isin (.var 4) (.var 6))) (.cons (.ret (.bl false)) .nil) .nil) (.cons (.asg (.name 10) (.bin .add (.tup (.cons (.bin .add (.bin .add (.slice (.idx (.var 2) (.int 0)) .none (.some (.var 4))) (.tup (.cons (.tup (.cons (.idx (.idx (.idx (.var 2) (.int 0)) (.var 4)) (.int 0)) (.cons (.idx (.idx (.idx (.var 2) (.int 0)) (.bin .sub (.var 4) (.int 1))) (.int 1)) .nil))) .nil))) (.slice (.idx (.var 2) (.int 0)) (.some (.bin .add (.var 4) (.int 1))) .none)) .nil)) (.slice (.var 2) (.some (.int 1)) .none))) (.cons (.ife (.boolop false (.cons (.cmp .ne (.call 193 (.cons (.tup (.cons (.var 10) (.cons (.var 9) .nil))) .nil)) (.lst (.cons (.tup (.cons (.int 0) (.cons (.int 1) .nil))) .nil))) (.cons (.cmp .ne (.call 193 (.cons (.tup (.cons (.var 2) (.cons (.var 10) .nil))) .nil)) (.call 193 (.cons (.tup (.cons (.var 2) (.cons (.var 9) .nil))) .nil))) .nil))) (.cons (.ret (.bl false)) .nil) .nil) (.cons (.asg (.name 11) (.comp x196_0 u196_0 i196_0 c196_0 [12, 13])) (.cons (.ife (.cmp .ne (.cmp .ne (.var 11) (.lst .nil)) (.cmp .isin (.var 4) (.var 6))) (.cons (.ret (.bl false)) .nil) .nil) .nil))))))
def t196_1 : Tg := (.name 1)
def b196_1 : ISs := (.cons (.asg (.name 3) (.call 6 (.cons (.var 0) (.cons (.var 1) .nil)))) (.cons (.asg (.name 2) (.callio 72 3 (.cons (.callio 14 3 (.cons (.int 300) .nil)) .nil))) (.cons (.asg (.tup [(.name 6), (.name 7), (.name 8)]) (.call 194 (.cons (.var 2) .nil))) (.cons (.for_ t196_0 (.range (.cons (.int 1) (.cons (.blt .len (.cons (.idx (.var 2) (.int 0)) .nil)) .nil))) b196_0) (.cons (.ife (.boolop true (.cons (.cmp .notN (.idx (.var 2) (.int 3)) .non) (.cons (.cmp .ne (.cmp .eq (.call 193 (.cons (.tup (.cons (.var 2) (.cons (.bin .add (.bin .add (.slice (.var 2) .none (.some (.int 3))) (.tup (.cons .non .nil))) (.slice (.var 2) (.some (.int 4)) .none)) .nil))) .nil)) (.lst (.cons (.tup (.cons (.int 0) (.cons (.int 1) .nil))) .nil))) (.var 7)) .nil))) (.cons (.ret (.bl false)) .nil) .nil) (.cons (.ife (.boolop true (.cons (.cmp .notN (.idx (.var 2) (.int 4)) .non) (.cons (.cmp .ne (.cmp .eq (.call 193 (.cons (.tup (.cons (.var 2) (.cons (.bin .add (.bin .add (.slice (.var 2) .none (.some (.int 4))) (.tup (.cons .non .nil))) (.slice (.var 2) (.some (.int 5)) .none)) .nil))) .nil)) (.lst (.cons (.tup (.cons (.int 0) (.cons (.int 1) .nil))) .nil))) (.var 8)) .nil))) (.cons (.ret (.bl false)) .nil) .nil) (.cons (.ife (.boolop true (.cons (.cmp .notN (.idx (.var 2) (.int 4)) .non) (.cons (.cmp .eq (.idx (.idx (.var 2) (.int 4)) (.int 0)) (.int 1)) (.cons (.cmp .ne (.call 192 (.cons (.var 2) .nil)) (.lst (.cons (.tup (.cons (.int 1) (.cons (.int 1000) .nil))) .nil))) .nil)))) (.cons (.ret (.bl false)) .nil) .nil) (.cons (.asg (.name 5) (.call 195 (.cons (.var 2) .nil))) (.cons (.ife (.cmp .ne (.call 193 (.cons (.tup (.cons (.var 5) (.cons (.var 2) (.cons (.call 195 (.cons (.var 5) .nil)) .nil)))) .nil)) (.lst (.cons (.tup (.cons (.int 0) (.cons (.int 1) (.cons (.int 2) .nil)))) .nil))) (.cons (.ret (.bl false)) .nil) .nil) .nil)))))))))
def r196_0 : ISs := (.cons (.asg (.name 2) (.tup (.cons (.tup (.cons (.tup (.cons (.int 0) (.cons (.int 10) .nil))) .nil)) (.cons (.str (Str.ofString "parts")) (.cons (.str (Str.ofString "down")) (.cons .non (.cons .non (.cons (.int 0) .nil)))))))) (.cons (.ret (.cmp .eq (.call 193 (.cons (.tup (.cons (.var 2) (.cons (.bin .add (.tup (.cons (.tup (.cons (.tup (.cons (.int 0) (.cons (.int 10) .nil))) (.cons (.tup (.cons (.int 500) (.cons (.int 10) .nil))) .nil))) .nil)) (.slice (.var 2) (.some (.int 1)) .none)) (.cons (.bin .add (.slice (.var 2) .none (.some (.int 4))) (.tup (.cons (.tup (.cons (.int 1) (.cons (.int 5) .nil))) (.cons (.int 0) .nil)))) .nil)))) .nil)) (.lst (.cons (.tup (.cons (.int 0) (.cons (.int 1) (.cons (.int 2) .nil)))) .nil)))) .nil))
/-- law: script k p source spot short bands_so bonus_so fee_so less own good low high -/
def f196 : Fn := ⟨1, 14, false, (.cons (.for_ t196_1 (.range (.cons (.blt .max2 (.cons (.int 1) (.cons (.blt .min2 (.cons (.int 2) (.cons (.blt .len (.cons (.var 0) .nil)) .nil))) .nil))) .nil)) b196_1) r196_0)⟩
/-- require_goal: plan goal -/
def f197 : Fn := ⟨2, 2, false, (.cons (.expr (.call 21 (.cons (.var 0) .nil))) (.cons (.expr (.call 141 (.cons (.var 0) .nil))) (.cons (.expr (.call 23 (.cons (.var 1) (.cons (.int 1) (.cons (.glo (Str.ofString "MAX_GOAL") (1000000000)) .nil))))) .nil)))⟩
def w198_0 : IE := (.cmp .lt (.var 4) (.var 5))
def v198_0 : ISs := (.cons (.asg (.name 6) (.bin .fdiv (.bin .add (.var 4) (.var 5)) (.int 2))) (.cons (.ife (.cmp .ge (.call 32 (.cons (.var 0) (.cons (.bin .add (.tup (.cons (.var 6) .nil)) (.bin .mul (.tup (.cons (.bin .mul (.var 6) (.var 3)) .nil)) (.bin .sub (.var 2) (.int 1)))) .nil))) (.var 1)) (.cons (.asg (.name 5) (.var 6)) .nil) (.cons (.asg (.name 4) (.bin .add (.var 6) (.int 1))) .nil)) .nil))
/-- least_amount: plan goal months later low high middle -/
def f198 : Fn := ⟨4, 7, false, (.cons (.par [4, 5] (.cons (.int 0) (.cons (.bin .add (.var 1) (.glo (Str.ofString "MAX_START") (1000000))) .nil))) (.cons (.while_ w198_0 v198_0) (.cons (.ret (.mov 4)) .nil)))⟩
/-- least_first: plan goal months -/
def f199 : Fn := ⟨3, 3, false, (.cons (.expr (.call 197 (.cons (.var 0) (.cons (.var 1) .nil)))) (.cons (.expr (.call 23 (.cons (.var 2) (.cons (.int 1) (.cons (.glo (Str.ofString "MAX_ROW") (200)) .nil))))) (.cons (.ret (.call 198 (.cons (.var 0) (.cons (.var 1) (.cons (.var 2) (.cons (.int 0) .nil)))))) .nil)))⟩
/-- least_monthly: plan goal months -/
def f200 : Fn := ⟨3, 3, false, (.cons (.expr (.call 197 (.cons (.var 0) (.cons (.var 1) .nil)))) (.cons (.expr (.call 23 (.cons (.var 2) (.cons (.int 1) (.cons (.glo (Str.ofString "MAX_ROW") (200)) .nil))))) (.cons (.ret (.call 198 (.cons (.var 0) (.cons (.var 1) (.cons (.var 2) (.cons (.int 1) .nil)))))) .nil)))⟩
def t201_0 : Tg := (.name 4)
def b201_0 : ISs := (.cons (.asg (.tup [(.name 7), (.name 5), (.name 6)]) (.call 29 (.cons (.var 0) (.cons (.var 5) (.cons (.var 6) (.cons (.ife (.cmp .eq (.var 4) (.int 1)) (.var 1) (.var 2)) .nil)))))) (.cons (.ife (.cmp .ge (.var 5) (.var 3)) (.cons (.ret (.mov 4)) .nil) .nil) .nil))
/-- months_to: plan first monthly goal months balance idle got -/
def f201 : Fn := ⟨4, 8, false, (.cons (.expr (.call 21 (.cons (.var 0) .nil))) (.cons (.expr (.call 141 (.cons (.var 0) .nil))) (.cons (.expr (.call 23 (.cons (.var 1) (.cons (.int 0) (.cons (.glo (Str.ofString "MAX_PAYMENT") (1000000000)) .nil))))) (.cons (.expr (.call 23 (.cons (.var 2) (.cons (.int 0) (.cons (.glo (Str.ofString "MAX_PAYMENT") (1000000000)) .nil))))) (.cons (.expr (.call 23 (.cons (.var 3) (.cons (.int 1) (.cons (.glo (Str.ofString "MAX_GOAL") (1000000000)) .nil))))) (.cons (.asg (.tup [(.name 5), (.name 6)]) (.tup (.cons (.int 0) (.cons (.int 0) .nil)))) (.cons (.for_ t201_0 (.range (.cons (.int 1) (.cons (.bin .add (.glo (Str.ofString "MAX_WAIT") (1200)) (.int 1)) .nil))) b201_0) (.cons (.ret .non) .nil))))))))⟩
/-- _law_reaches: p goal_so months_so first_so later -/
def f202 : Fn := ⟨5, 5, false, (.cons (.ret (.cmp .ge (.call 149 (.cons (.var 0) (.cons (.bin .add (.tup (.cons (.var 3) .nil)) (.bin .mul (.tup (.cons (.var 4) .nil)) (.bin .sub (.var 2) (.int 1)))) .nil))) (.var 1))) .nil)⟩
def t203_0 : Tg := (.name 5)
def b203_0 : ISs := (.cons (.asg (.tup [(.name 6), (.name 4)]) (.call 41 (.cons (.var 0) (.cons (.var 4) (.cons (.ife (.cmp .eq (.var 5) (.int 1)) (.var 1) (.var 2)) .nil))))) (.cons (.ife (.cmp .ge (.idx (.var 4) (.int 0)) (.var 3)) (.cons (.ret (.mov 5)) .nil) .nil) .nil))
/-- _law_months: p first_so later goal_so here months_so told -/
def f203 : Fn := ⟨4, 7, false, (.cons (.asg (.name 4) (.tup (.cons (.int 0) (.cons (.int 0) .nil)))) (.cons (.for_ t203_0 (.range (.cons (.int 1) (.cons (.int 1201) .nil))) b203_0) (.cons (.ret .non) .nil)))⟩
def t204_0 : Tg := (.name 1)
def b204_0 : ISs := (.cons (.asg (.name 3) (.call 6 (.cons (.var 0) (.cons (.var 1) .nil)))) (.cons (.asg (.name 2) (.call 148 (.cons (.callio 14 3 (.cons (.callio 9 3 (.cons (.lst (.cons (.int 100) (.cons (.int 5000) (.cons (.bin .pow (.int 10) (.int 6)) .nil)))) .nil)) .nil)) .nil))) (.cons (.asg (.name 4) (.bin .add (.int 1) (.callio 7 3 (.cons (.callio 9 3 (.cons (.lst (.cons (.int 20) (.cons (.int 3000) (.cons (.bin .pow (.int 10) (.int 6)) (.cons (.bin .pow (.int 10) (.int 9)) .nil))))) .nil)) .nil)))) (.cons (.asg (.name 5) (.bin .add (.int 1) (.callio 7 3 (.cons (.callio 9 3 (.cons (.lst (.cons (.int 3) (.cons (.int 24) (.cons (.int 200) .nil)))) .nil)) .nil)))) (.cons (.asg (.name 6) (.call 199 (.cons (.var 2) (.cons (.var 4) (.cons (.var 5) .nil))))) (.cons (.ife (.not (.call 202 (.cons (.var 2) (.cons (.var 4) (.cons (.var 5) (.cons (.var 6) (.cons (.int 0) .nil))))))) (.cons (.ret (.bl false)) .nil) .nil) (.cons (.ife (.boolop false (.cons (.cmp .lt (.var 6) (.int 1)) (.cons (.call 202 (.cons (.var 2) (.cons (.var 4) (.cons (.var 5) (.cons (.bin .sub (.var 6) (.int 1)) (.cons (.int 0) .nil)))))) .nil))) (.cons (.ret (.bl false)) .nil) .nil) (.cons (.asg (.name 7) (.call 200 (.cons (.var 2) (.cons (.var 4) (.cons (.var 5) .nil))))) (.cons (.ife (.boolop false (.cons (.not (.call 202 (.cons (.var 2) (.cons (.var 4) (.cons (.var 5) (.cons (.var 7) (.cons (.var 7) .nil))))))) (.cons (.cmp .gt (.var 7) (.var 6)) .nil))) (.cons (.ret (.bl false)) .nil) .nil) (.cons (.ife (.boolop false (.cons (.cmp .lt (.var 7) (.int 1)) (.cons (.call 202 (.cons (.var 2) (.cons (.var 4) (.cons (.var 5) (.cons (.bin .sub (.var 7) (.int 1)) (.cons (.bin .sub (.var 7) (.int 1)) .nil)))))) .nil))) (.cons (.ret (.bl false)) .nil) .nil) (.cons (.ife (.cmp .ne (.call 201 (.cons (.var 2) (.cons (.var 6) (.cons (.int 0) (.cons (.var 4) .nil))))) (.call 203 (.cons (.var 2) (.cons (.var 6) (.cons (.int 0) (.cons (.var 4) .nil)))))) (.cons (.ret (.bl false)) .nil) .nil) (.cons (.par [6, 8] (.cons (.callio 7 3 (.cons (.int 2000) .nil)) (.cons (.callio 7 3 (.cons (.int 300) .nil)) .nil))) (.cons (.ife (.cmp .ne (.call 201 (.cons (.var 2) (.cons (.var 6) (.cons (.var 8) (.cons (.var 4) .nil))))) (.call 203 (.cons (.var 2) (.cons (.var 6) (.cons (.var 8) (.cons (.var 4) .nil)))))) (.cons (.ret (.bl false)) .nil) .nil) .nil)))))))))))))
def r204_0 : ISs := (.cons (.asg (.name 2) (.tup (.cons (.tup (.cons (.tup (.cons (.int 0) (.cons (.int 0) .nil))) .nil)) (.cons (.str (Str.ofString "parts")) (.cons (.str (Str.ofString "down")) (.cons .non (.cons (.tup (.cons (.int 1000) (.cons (.int 10) .nil))) (.cons (.int 0) .nil)))))))) (.cons (.ife (.cmp .ne (.lst (.cons (.call 199 (.cons (.var 2) (.cons (.int 100) (.cons (.int 2) .nil)))) (.cons (.call 199 (.cons (.var 2) (.cons (.int 995) (.cons (.int 2) .nil)))) (.cons (.call 200 (.cons (.var 2) (.cons (.int 100) (.cons (.int 2) .nil)))) .nil)))) (.lst (.cons (.int 120) (.cons (.int 1000) (.cons (.int 60) .nil))))) (.cons (.ret (.bl false)) .nil) .nil) (.cons (.ife (.boolop false (.cons (.cmp .ne (.call 201 (.cons (.var 2) (.cons (.int 990) (.cons (.int 0) (.cons (.int 980) .nil))))) (.int 1)) (.cons (.cmp .notN (.call 201 (.cons (.var 2) (.cons (.int 990) (.cons (.int 0) (.cons (.int 981) .nil))))) .non) .nil))) (.cons (.ret (.bl false)) .nil) .nil) (.cons (.ret (.cmp .isN (.call 201 (.cons (.var 2) (.cons (.int 990) (.cons (.int 10) (.cons (.int 981) .nil))))) .non)) .nil))))
/-- law: script k p source goal_so months_so first_so each later -/
def f204 : Fn := ⟨1, 9, false, (.cons (.for_ t204_0 (.range (.cons (.blt .max2 (.cons (.int 5) (.cons (.blt .min2 (.cons (.int 12) (.cons (.blt .len (.cons (.var 0) .nil)) .nil))) .nil))) .nil)) b204_0) r204_0)⟩
/-- least_end: plan row amount best index payment left -/
def f205 : Fn := ⟨3, 7, false, (.cons (.expr (.call 21 (.cons (.var 0) .nil))) (.cons (.expr (.call 22 (.cons (.var 1) .nil))) (.cons (.expr (.call 23 (.cons (.var 2) (.cons (.int 1) (.cons (.glo (Str.ofString "MAX_PAYMENT") (1000000000)) .nil))))) (.cons (.asg (.name 3) .non) (.cons (.for_ (.tup [(.name 4), (.name 5)]) (.enum (.var 1)) (.cons (.ife (.cmp .eq (.var 5) (.int 0)) (.cons (.asg (.name 6) (.call 32 (.cons (.var 0) (.cons (.bin .add (.bin .add (.slice (.var 1) .none (.some (.var 4))) (.tup (.cons (.neg (.var 2)) .nil))) (.slice (.var 1) (.some (.bin .add (.var 4) (.int 1))) .none)) .nil)))) (.cons (.ife (.boolop false (.cons (.cmp .isN (.var 3) .non) (.cons (.cmp .lt (.var 6) (.idx (.var 3) (.int 1))) .nil))) (.cons (.asg (.name 3) (.tup (.cons (.var 4) (.cons (.var 6) .nil)))) .nil) .nil) .nil)) .nil) .nil)) (.cons (.ret (.mov 3)) .nil))))))⟩
/-- best_split: one other amount months part rest best both -/
def f206 : Fn := ⟨4, 8, false, (.cons (.expr (.call 21 (.cons (.var 0) .nil))) (.cons (.expr (.call 21 (.cons (.var 1) .nil))) (.cons (.expr (.call 23 (.cons (.var 2) (.cons (.int 0) (.cons (.glo (Str.ofString "MAX_SPLIT") (2000)) .nil))))) (.cons (.expr (.call 23 (.cons (.var 3) (.cons (.int 1) (.cons (.glo (Str.ofString "MAX_SPLIT_MONTHS") (24)) .nil))))) (.cons (.par [5, 6] (.cons (.bin .mul (.tup (.cons (.int 0) .nil)) (.bin .sub (.var 3) (.int 1))) (.cons .non .nil))) (.cons (.for_ (.name 4) (.range (.cons (.bin .add (.var 2) (.int 1)) .nil)) (.cons (.asg (.name 7) (.bin .add (.call 32 (.cons (.var 0) (.cons (.bin .add (.tup (.cons (.var 4) .nil)) (.var 5)) .nil))) (.call 32 (.cons (.var 1) (.cons (.bin .add (.tup (.cons (.bin .sub (.var 2) (.var 4)) .nil)) (.var 5)) .nil))))) (.cons (.ife (.boolop false (.cons (.cmp .isN (.var 6) .non) (.cons (.cmp .gt (.var 7) (.idx (.var 6) (.int 1))) .nil))) (.cons (.asg (.name 6) (.tup (.cons (.var 4) (.cons (.var 7) .nil)))) .nil) .nil) .nil))) (.cons (.ret (.mov 6)) .nil)))))))⟩
/-- _law_least_end: p payments amount_so found at payment left_so -/
def f207 : Fn := ⟨3, 7, false, (.cons (.asg (.name 3) .non) (.cons (.for_ (.tup [(.name 4), (.name 5)]) (.enum (.var 1)) (.cons (.ife (.cmp .eq (.var 5) (.int 0)) (.cons (.asg (.name 6) (.call 149 (.cons (.var 0) (.cons (.bin .add (.bin .add (.slice (.var 1) .none (.some (.var 4))) (.tup (.cons (.bin .sub (.int 0) (.var 2)) .nil))) (.slice (.var 1) (.some (.bin .add (.var 4) (.int 1))) .none)) .nil)))) (.cons (.ife (.boolop false (.cons (.cmp .isN (.var 3) .non) (.cons (.cmp .lt (.var 6) (.idx (.var 3) (.int 1))) .nil))) (.cons (.asg (.name 3) (.tup (.cons (.var 4) (.cons (.var 6) .nil)))) .nil) .nil) .nil)) .nil) .nil)) (.cons (.ret (.mov 3)) .nil)))⟩
/-- _law_best_split: one two amount_so months_so found part rest both -/
def f208 : Fn := ⟨4, 8, false, (.cons (.asg (.name 4) .non) (.cons (.for_ (.name 5) (.range (.cons (.bin .add (.var 2) (.int 1)) .nil)) (.cons (.asg (.name 6) (.bin .mul (.tup (.cons (.int 0) .nil)) (.bin .sub (.var 3) (.int 1)))) (.cons (.asg (.name 7) (.bin .add (.call 149 (.cons (.var 0) (.cons (.bin .add (.tup (.cons (.var 5) .nil)) (.var 6)) .nil))) (.call 149 (.cons (.var 1) (.cons (.bin .add (.tup (.cons (.bin .sub (.var 2) (.var 5)) .nil)) (.var 6)) .nil))))) (.cons (.ife (.boolop false (.cons (.cmp .isN (.var 4) .non) (.cons (.cmp .gt (.var 7) (.idx (.var 4) (.int 1))) .nil))) (.cons (.asg (.name 4) (.tup (.cons (.var 5) (.cons (.var 7) .nil)))) .nil) .nil) .nil)))) (.cons (.ret (.mov 4)) .nil)))⟩
def t209_0 : Tg := (.name 4)
def b209_0 : ISs := (.cons (.par [8, 6] (.cons (.callio 15 3 (.cons (.int 16) (.cons (.int 4000) .nil))) (.cons (.bin .add (.int 1) (.callio 7 3 (.cons (.int 3000) .nil))) .nil))) (.cons (.ife (.cmp .ne (.call 205 (.cons (.var 2) (.cons (.var 8) (.cons (.var 6) .nil)))) (.call 207 (.cons (.var 2) (.cons (.var 8) (.cons (.var 6) .nil))))) (.cons (.ret (.bl false)) .nil) .nil) .nil))
def t209_1 : Tg := (.name 1)
def b209_1 : ISs := (.cons (.asg (.name 3) (.call 6 (.cons (.var 0) (.cons (.var 1) .nil)))) (.cons (.par [2, 5] (.cons (.callio 14 3 (.cons (.int 1000) .nil)) (.cons (.callio 14 3 (.cons (.int 1000) .nil)) .nil))) (.cons (.for_ t209_0 (.range (.cons (.int 3) .nil)) b209_0) (.cons (.par [6, 7] (.cons (.callio 7 3 (.cons (.int 400) .nil)) (.cons (.bin .add (.int 1) (.callio 7 3 (.cons (.int 4) .nil))) .nil))) (.cons (.ife (.cmp .ne (.call 206 (.cons (.var 2) (.cons (.var 5) (.cons (.var 6) (.cons (.var 7) .nil))))) (.call 208 (.cons (.var 2) (.cons (.var 5) (.cons (.var 6) (.cons (.var 7) .nil)))))) (.cons (.ret (.bl false)) .nil) .nil) .nil)))))
def r209_0 : ISs := (.cons (.asg (.name 2) (.tup (.cons (.tup (.cons (.tup (.cons (.int 0) (.cons (.int 10) .nil))) .nil)) (.cons (.str (Str.ofString "parts")) (.cons (.str (Str.ofString "down")) (.cons (.tup (.cons (.int 3) (.cons (.int 100) .nil))) (.cons .non (.cons (.int 0) .nil)))))))) (.cons (.ife (.boolop false (.cons (.cmp .ne (.call 205 (.cons (.var 2) (.cons (.tup (.cons (.int 1000) (.cons (.int 0) (.cons (.int 0) (.cons (.int 0) .nil))))) (.cons (.int 100) .nil)))) (.tup (.cons (.int 1) (.cons (.int 937) .nil)))) (.cons (.cmp .notN (.call 205 (.cons (.var 2) (.cons (.tup (.cons (.int 5) (.cons (.neg (.int 5)) .nil))) (.cons (.int 1) .nil)))) .non) .nil))) (.cons (.ret (.bl false)) .nil) .nil) (.cons (.ife (.boolop false (.cons (.cmp .ne (.call 206 (.cons (.var 2) (.cons (.var 2) (.cons (.int 0) (.cons (.int 24) .nil))))) (.tup (.cons (.int 0) (.cons (.int 0) .nil)))) (.cons (.cmp .ne (.call 206 (.cons (.var 2) (.cons (.var 2) (.cons (.int 199) (.cons (.int 1) .nil))))) (.tup (.cons (.int 0) (.cons (.int 200) .nil)))) .nil))) (.cons (.ret (.bl false)) .nil) .nil) (.cons (.ret (.boolop true (.cons (.cmp .eq (.call 206 (.cons (.bin .add (.tup (.cons (.tup (.cons (.tup (.cons (.int 0) (.cons (.int 9) .nil))) .nil)) .nil)) (.slice (.var 2) (.some (.int 1)) .none)) (.cons (.var 2) (.cons (.int 250) (.cons (.int 1) .nil))))) (.tup (.cons (.int 0) (.cons (.int 252) .nil)))) (.cons (.cmp .isN (.call 205 (.cons (.var 2) (.cons (.tup .nil) (.cons (.int 5) .nil)))) .non) .nil)))) .nil))))
/-- law: script k p source turn q amount_so months_so payments -/
def f209 : Fn := ⟨1, 9, false, (.cons (.for_ t209_1 (.range (.cons (.blt .max2 (.cons (.int 5) (.cons (.blt .min2 (.cons (.int 10) (.cons (.blt .len (.cons (.var 0) .nil)) .nil))) .nil))) .nil)) b209_1) r209_0)⟩
def x210_0 : IE := (.call 1 (.cons (.var 2) (.cons (.var 1) (.cons (.var 1) .nil))))
def u210_0 : Tg := (.name 2)
def i210_0 : IT := (.seq (.idx (.var 0) (.int 1)))
def c210_0 : IEs := .nil
/-- is_sight: value bounds pair -/
def f210 : Fn := ⟨1, 3, false, (.cons (.ife (.boolop false (.cons (.not (.blt .isTup (.cons (.var 0) .nil))) (.cons (.cmp .ne (.blt .len (.cons (.var 0) .nil)) (.int 2)) (.cons (.not (.call 5 (.cons (.idx (.var 0) (.int 0)) .nil))) (.cons (.not (.blt .isTup (.cons (.idx (.var 0) (.int 1)) .nil))) .nil))))) (.cons (.ret (.bl false)) .nil) .nil) (.cons (.asg (.name 1) (.tup (.cons (.int 0) (.cons (.glo (Str.ofString "MAX_BASE") (1000000000000)) .nil)))) (.cons (.ret (.boolop true (.cons (.cmp .eq (.blt .len (.cons (.idx (.var 0) (.int 1)) .nil)) (.blt .len (.cons (.idx (.var 0) (.int 0)) .nil))) (.cons (.blt .all (.cons (.comp x210_0 u210_0 i210_0 c210_0 [2]) .nil)) .nil)))) .nil)))⟩
def x211_0 : IE := (.call 210 (.cons (.var 1) .nil))
def u211_0 : Tg := (.name 1)
def i211_0 : IT := (.seq (.var 0))
def c211_0 : IEs := .nil
/-- require_seen: value one -/
def f211 : Fn := ⟨1, 2, false, (.cons (.ife (.boolop false (.cons (.not (.blt .isTup (.cons (.var 0) .nil))) (.cons (.cmp .gt (.blt .len (.cons (.var 0) .nil)) (.glo (Str.ofString "MAX_SEEN") (6))) (.cons (.not (.blt .all (.cons (.comp x211_0 u211_0 i211_0 c211_0 [1]) .nil))) .nil)))) (.cons .raise .nil) .nil) .nil)⟩
def x212_0 : IE := (.cmp .eq (.call 31 (.cons (.var 0) (.cons (.var 2) .nil))) (.blt .list (.cons (.var 3) .nil)))
def u212_0 : Tg := (.tup [(.name 2), (.name 3)])
def i212_0 : IT := (.seq (.var 1))
def c212_0 : IEs := .nil
/-- explains: plan seen row told -/
def f212 : Fn := ⟨2, 4, false, (.cons (.ret (.blt .all (.cons (.comp x212_0 u212_0 i212_0 c212_0 [2, 3]) .nil))) .nil)⟩
def x213_0 : IE := (.call 3 (.cons (.var 3) .nil))
def u213_0 : Tg := (.name 3)
def i213_0 : IT := (.seq (.var 0))
def c213_0 : IEs := .nil
def x213_1 : IE := (.var 2)
def u213_1 : Tg := (.tup [(.name 2), (.name 3)])
def i213_1 : IT := (.enum (.var 0))
def c213_1 : IEs := (.cons (.call 212 (.cons (.var 3) (.cons (.var 1) .nil))) .nil)
/-- fitting: plans seen index plan -/
def f213 : Fn := ⟨2, 4, false, (.cons (.ife (.boolop false (.cons (.not (.blt .isTup (.cons (.var 0) .nil))) (.cons (.not (.chain .le .le (.int 1) (.blt .len (.cons (.var 0) .nil)) (.glo (Str.ofString "MAX_PLANS") (6)))) (.cons (.not (.blt .all (.cons (.comp x213_0 u213_0 i213_0 c213_0 [3]) .nil))) .nil)))) (.cons .raise .nil) .nil) (.cons (.expr (.call 211 (.cons (.var 1) .nil))) (.cons (.ret (.comp x213_1 u213_1 i213_1 c213_1 [2, 3])) .nil)))⟩
def t214_0 : Tg := (.tup [(.name 2), (.name 3)])
def b214_0 : ISs := (.cons (.ife (.boolop true (.cons (.cmp .ne (.bor 1) (.lst .nil)) (.cons (.cmp .eq (.bin .add (.idx (.idx (.bor 1) (.neg (.int 1))) (.int 1)) (.int 1)) (.var 2)) .nil))) (.cons (.setI 1 (.neg (.int 1)) (.tup (.cons (.idx (.idx (.bor 1) (.neg (.int 1))) (.int 0)) (.cons (.var 3) .nil)))) .nil) (.cons (.append 1 (.tup (.cons (.var 2) (.cons (.var 3) .nil)))) .nil)) .nil)
/-- joined: ranges found low high -/
def f214 : Fn := ⟨1, 4, false, (.cons (.asg (.name 1) (.lst .nil)) (.cons (.for_ t214_0 (.seq (.var 0)) b214_0) (.cons (.ret (.mov 1)) .nil)))⟩
def t215_0 : Tg := (.name 4)
def b215_0 : ISs := (.cons (.asg (.name 5) (.bin .add (.bin .add (.slice (.idx (.var 0) (.int 0)) .none (.some (.var 1))) (.tup (.cons (.tup (.cons (.idx (.idx (.idx (.var 0) (.int 0)) (.var 1)) (.int 0)) (.cons (.var 4) .nil))) .nil))) (.slice (.idx (.var 0) (.int 0)) (.some (.bin .add (.var 1) (.int 1))) .none))) (.cons (.ife (.call 212 (.cons (.bin .add (.tup (.cons (.var 5) .nil)) (.slice (.var 0) (.some (.int 1)) .none)) (.cons (.var 2) .nil))) (.cons (.append 3 (.tup (.cons (.var 4) (.cons (.var 4) .nil)))) .nil) .nil) .nil))
/-- rates_for: plan index seen found rate bands -/
def f215 : Fn := ⟨3, 6, false, (.cons (.expr (.call 21 (.cons (.var 0) .nil))) (.cons (.ife (.not (.call 0 (.cons (.var 1) (.cons (.int 0) (.cons (.bin .sub (.blt .len (.cons (.idx (.var 0) (.int 0)) .nil)) (.int 1)) .nil))))) (.cons .raise .nil) .nil) (.cons (.expr (.call 211 (.cons (.var 2) .nil))) (.cons (.asg (.name 3) (.lst .nil)) (.cons (.for_ t215_0 (.range (.cons (.bin .add (.glo (Str.ofString "MAX_RATE") (100)) (.int 1)) .nil)) b215_0) (.cons (.ret (.call 214 (.cons (.var 3) .nil))) .nil))))))⟩
def t216_0 : Tg := (.tup [(.name 2), (.name 3)])
def b216_0 : ISs := (.cons (.ife (.cmp .ne (.blt .tuple (.cons (.idx (.call 42 (.cons (.var 0) (.cons (.tup (.cons (.int 0) (.cons (.int 0) .nil))) (.cons (.var 2) .nil)))) (.int 0)) .nil)) (.var 3)) (.cons (.ret (.bl false)) .nil) .nil) .nil)
/-- _law_explains: p seen_so payments told -/
def f216 : Fn := ⟨2, 4, false, (.cons (.for_ t216_0 (.seq (.var 1)) b216_0) (.cons (.ret (.bl true)) .nil))⟩
def t217_0 : Tg := (.name 3)
def b217_0 : ISs := (.cons (.asg (.name 4) (.callio 15 0 (.cons (.int 6) (.cons (.int 3000) .nil)))) (.cons (.asg (.name 5) (.blt .tuple (.cons (.idx (.call 42 (.cons (.var 1) (.cons (.tup (.cons (.int 0) (.cons (.int 0) .nil))) (.cons (.var 4) .nil)))) (.int 0)) .nil))) (.cons (.ife (.boolop true (.cons (.cmp .ne (.var 5) (.tup .nil)) (.cons (.cmp .eq (.callio 7 0 (.cons (.int 8) .nil)) (.int 0)) .nil))) (.cons (.asg (.name 6) (.callio 7 0 (.cons (.blt .len (.cons (.var 5) .nil)) .nil))) (.cons (.asg (.name 5) (.bin .add (.bin .add (.slice (.var 5) .none (.some (.var 6))) (.tup (.cons (.tup (.cons (.idx (.idx (.var 5) (.var 6)) (.int 0)) (.cons (.bin .add (.idx (.idx (.var 5) (.var 6)) (.int 1)) (.int 1)) .nil))) .nil))) (.slice (.var 5) (.some (.bin .add (.var 6) (.int 1))) .none))) .nil)) .nil) (.cons (.append 2 (.tup (.cons (.var 4) (.cons (.var 5) .nil)))) .nil))))
/-- _law_seen: source p found turn payments told at -/
def f217 : Fn := ⟨2, 7, true, (.cons (.asg (.name 2) (.lst .nil)) (.cons (.for_ t217_0 (.range (.cons (.callio 7 0 (.cons (.int 5) .nil)) .nil)) b217_0) (.cons (.ret (.blt .tuple (.cons (.bor 2) .nil))) .nil)))⟩
def x218_0 : IE := (.var 8)
def u218_0 : Tg := (.tup [(.name 8), (.name 11)])
def i218_0 : IT := (.enum (.var 4))
def c218_0 : IEs := (.cons (.call 216 (.cons (.var 11) (.cons (.var 5) .nil))) .nil)
def t218_0 : Tg := (.name 7)
def b218_0 : ISs := (.cons (.asg (.name 10) (.bin .add (.bin .add (.slice (.idx (.var 2) (.int 0)) .none (.some (.var 8))) (.tup (.cons (.tup (.cons (.idx (.idx (.idx (.var 2) (.int 0)) (.var 8)) (.int 0)) (.cons (.var 7) .nil))) .nil))) (.slice (.idx (.var 2) (.int 0)) (.some (.bin .add (.var 8) (.int 1))) .none))) (.cons (.ife (.call 216 (.cons (.bin .add (.tup (.cons (.var 10) .nil)) (.slice (.var 2) (.some (.int 1)) .none)) (.cons (.var 5) .nil))) (.cons (.append 9 (.var 7)) .nil) .nil) .nil))
def t218_1 : Tg := (.name 1)
def b218_1 : ISs := (.cons (.asg (.name 3) (.call 6 (.cons (.var 0) (.cons (.var 1) .nil)))) (.cons (.asg (.name 2) (.callio 14 3 (.cons (.int 2000) .nil))) (.cons (.asg (.name 4) (.tup (.cons (.var 2) (.cons (.callio 55 3 (.cons (.var 2) .nil)) (.cons (.callio 55 3 (.cons (.var 2) .nil)) (.cons (.callio 14 3 (.cons (.int 2000) .nil)) .nil)))))) (.cons (.asg (.name 5) (.callio 217 3 (.cons (.var 2) .nil))) (.cons (.asg (.name 6) (.comp x218_0 u218_0 i218_0 c218_0 [8, 11])) (.cons (.ife (.boolop false (.cons (.cmp .ne (.call 213 (.cons (.var 4) (.cons (.var 5) .nil))) (.var 6)) (.cons (.cmp .ne (.call 213 (.cons (.tup (.cons (.var 2) .nil)) (.cons (.tup .nil) .nil))) (.lst (.cons (.int 0) .nil))) .nil))) (.cons (.ret (.bl false)) .nil) .nil) (.cons (.par [8, 9] (.cons (.callio 7 3 (.cons (.blt .len (.cons (.idx (.var 2) (.int 0)) .nil)) .nil)) (.cons (.lst .nil) .nil))) (.cons (.for_ t218_0 (.range (.cons (.int 101) .nil)) b218_0) (.cons (.ife (.boolop false (.cons (.cmp .ne (.call 215 (.cons (.var 2) (.cons (.var 8) (.cons (.var 5) .nil)))) (.call 115 (.cons (.var 9) .nil))) (.cons (.cmp .ne (.call 215 (.cons (.var 2) (.cons (.var 8) (.cons (.tup .nil) .nil)))) (.lst (.cons (.tup (.cons (.int 0) (.cons (.int 100) .nil))) .nil))) .nil))) (.cons (.ret (.bl false)) .nil) .nil) .nil)))))))))
def r218_0 : ISs := (.cons (.asg (.name 2) (.tup (.cons (.tup (.cons (.tup (.cons (.int 0) (.cons (.int 10) .nil))) (.cons (.tup (.cons (.int 100) (.cons (.int 20) .nil))) .nil))) (.cons (.str (Str.ofString "whole")) (.cons (.str (Str.ofString "half")) (.cons .non (.cons .non (.cons (.int 0) .nil)))))))) (.cons (.ret (.boolop true (.cons (.cmp .eq (.call 215 (.cons (.var 2) (.cons (.int 1) (.cons (.tup (.cons (.tup (.cons (.tup (.cons (.int 150) .nil)) (.cons (.tup (.cons (.tup (.cons (.int 0) (.cons (.int 153) .nil))) .nil)) .nil))) .nil)) .nil)))) (.lst (.cons (.tup (.cons (.int 17) (.cons (.int 23) .nil))) .nil))) (.cons (.cmp .eq (.call 215 (.cons (.var 2) (.cons (.int 1) (.cons (.tup (.cons (.tup (.cons (.tup (.cons (.int 99) .nil)) (.cons (.tup (.cons (.tup (.cons (.int 0) (.cons (.int 99) .nil))) .nil)) .nil))) .nil)) .nil)))) (.lst .nil)) .nil)))) .nil))
/-- law: script k p source plans_so seen_so due rate at good bands_so q -/
def f218 : Fn := ⟨1, 12, false, (.cons (.for_ t218_1 (.range (.cons (.blt .max2 (.cons (.int 5) (.cons (.blt .min2 (.cons (.int 14) (.cons (.blt .len (.cons (.var 0) .nil)) .nil))) .nil))) .nil)) b218_1) r218_0)⟩
def w219_0 : IE := (.cmp .le (.var 2) (.var 3))
def v219_0 : ISs := (.cons (.asg (.name 5) (.bin .fdiv (.bin .add (.var 2) (.var 3)) (.int 2))) (.cons (.ife (.cmp .ge (.call 27 (.cons (.var 0) (.cons (.var 5) (.cons (.var 1) .nil)))) (.var 4)) (.cons (.asg (.name 3) (.bin .sub (.var 5) (.int 1))) .nil) (.cons (.asg (.name 2) (.bin .add (.var 5) (.int 1))) .nil)) .nil))
/-- first_from: plan due first last bound middle -/
def f219 : Fn := ⟨5, 6, false, (.cons (.while_ w219_0 v219_0) (.cons (.ret (.mov 2)) .nil))⟩
def t220_0 : Tg := (.tup [(.name 6), (.name 7)])
def b220_0 : ISs := (.cons (.par [8, 9] (.cons (.blt .max2 (.cons (.var 6) (.cons (.var 2) .nil))) (.cons (.ife (.cmp .isN (.var 7) .non) (.var 3) (.blt .min2 (.cons (.var 7) (.cons (.var 3) .nil)))) .nil))) (.cons (.ife (.cmp .le (.var 8) (.var 9)) (.cons (.asg (.name 10) (.call 219 (.cons (.var 0) (.cons (.var 1) (.cons (.var 8) (.cons (.var 9) (.cons (.var 4) .nil))))))) (.cons (.asg (.name 11) (.bin .sub (.call 219 (.cons (.var 0) (.cons (.var 1) (.cons (.var 8) (.cons (.var 9) (.cons (.bin .add (.var 4) (.int 1)) .nil)))))) (.int 1))) (.cons (.extend 5 (.ife (.cmp .le (.var 10) (.var 11)) (.lst (.cons (.tup (.cons (.var 10) (.cons (.var 11) .nil))) .nil)) (.lst .nil))) .nil))) .nil) .nil))
/-- bases_to: plan due low high after found first last start end one other -/
def f220 : Fn := ⟨5, 12, false, (.cons (.asg (.name 5) (.lst .nil)) (.cons (.for_ t220_0 (.seq (.call 46 (.cons (.var 0) .nil))) b220_0) (.cons (.ret (.mov 5)) .nil)))⟩
def x221_0 : IE := (.tup (.cons (.bin .sub (.var 7) (.var 1)) (.cons (.bin .sub (.var 8) (.var 1)) .nil)))
def u221_0 : Tg := (.tup [(.name 7), (.name 8)])
def i221_0 : IT := (.seq (.var 5))
def c221_0 : IEs := .nil
def x221_1 : IE := (.tup (.cons (.bin .sub (.var 7) (.var 1)) (.cons (.bin .sub (.var 8) (.var 1)) .nil)))
def u221_1 : Tg := (.tup [(.name 7), (.name 8)])
def i221_1 : IT := (.seq (.var 6))
def c221_1 : IEs := .nil
/-- payments_for: plan balance idle after found taken paid low high -/
def f221 : Fn := ⟨4, 9, false, (.cons (.expr (.call 21 (.cons (.var 0) .nil))) (.cons (.expr (.call 23 (.cons (.var 1) (.cons (.int 0) (.cons (.glo (Str.ofString "MAX_BALANCE") (1000000000)) .nil))))) (.cons (.expr (.call 23 (.cons (.var 2) (.cons (.int 0) (.cons (.glo (Str.ofString "MAX_IDLE") (1000)) .nil))))) (.cons (.expr (.call 23 (.cons (.var 3) (.cons (.int 0) (.cons (.glo (Str.ofString "MAX_BALANCE") (1000000000)) .nil))))) (.cons (.asg (.name 4) (.lst .nil)) (.cons (.ife (.boolop true (.cons (.cmp .eq (.call 27 (.cons (.var 0) (.cons (.int 0) (.cons (.bl false) .nil)))) (.var 3)) (.cons (.cmp .lt (.var 1) (.glo (Str.ofString "MAX_PAYMENT") (1000000000))) .nil))) (.cons (.append 4 (.tup (.cons (.neg (.glo (Str.ofString "MAX_PAYMENT") (1000000000))) (.cons (.bin .sub (.neg (.var 1)) (.int 1)) .nil)))) .nil) .nil) (.cons (.asg (.name 5) (.call 220 (.cons (.var 0) (.cons (.bl false) (.cons (.int 0) (.cons (.bin .sub (.var 1) (.int 1)) (.cons (.var 3) .nil))))))) (.cons (.extend 4 (.comp x221_0 u221_0 i221_0 c221_0 [7, 8])) (.cons (.asg (.name 6) (.call 220 (.cons (.var 0) (.cons (.call 24 (.cons (.var 0) (.cons (.bin .add (.var 2) (.int 1)) .nil))) (.cons (.var 1) (.cons (.bin .add (.var 1) (.glo (Str.ofString "MAX_PAYMENT") (1000000000))) (.cons (.var 3) .nil))))))) (.cons (.ret (.call 214 (.cons (.bin .add (.bor 4) (.comp x221_1 u221_1 i221_1 c221_1 [7, 8])) .nil))) .nil))))))))))⟩
/-- _law_behind: p balance_so months_so payment -/
def f222 : Fn := ⟨4, 4, false, (.cons (.ret (.idx (.idx (.call 41 (.cons (.var 0) (.cons (.tup (.cons (.var 1) (.cons (.var 2) .nil))) (.cons (.var 3) .nil)))) (.int 1)) (.int 0))) .nil)⟩
def t223_0 : Tg := (.name 8)
def b223_0 : ISs := (.cons (.ife (.cmp .ne (.call 222 (.cons (.var 0) (.cons (.var 1) (.cons (.var 2) (.cons (.var 8) .nil))))) (.var 3)) (.cons (.ret (.bl false)) .nil) .nil) .nil)
def t223_1 : Tg := (.tup [(.name 6), (.name 7)])
def b223_1 : ISs := (.cons (.ife (.not (.chain3 .lt .le .le (.bin .add (.var 5) (.int 1)) (.var 6) (.var 7) (.bin .pow (.int 10) (.int 9)))) (.cons (.ret (.bl false)) .nil) .nil) (.cons (.asg (.name 5) (.var 7)) (.cons (.for_ t223_0 (.seq (.tup (.cons (.var 6) (.cons (.var 7) (.cons (.bin .fdiv (.bin .add (.var 6) (.var 7)) (.int 2)) .nil))))) b223_0) (.cons (.ife (.boolop true (.cons (.cmp .gt (.var 6) (.neg (.bin .pow (.int 10) (.int 9)))) (.cons (.cmp .eq (.call 222 (.cons (.var 0) (.cons (.var 1) (.cons (.var 2) (.cons (.bin .sub (.var 6) (.int 1)) .nil))))) (.var 3)) .nil))) (.cons (.ret (.bl false)) .nil) .nil) (.cons (.ife (.boolop true (.cons (.cmp .lt (.var 7) (.bin .pow (.int 10) (.int 9))) (.cons (.cmp .eq (.call 222 (.cons (.var 0) (.cons (.var 1) (.cons (.var 2) (.cons (.bin .add (.var 7) (.int 1)) .nil))))) (.var 3)) .nil))) (.cons (.ret (.bl false)) .nil) .nil) .nil)))))
/-- _law_ranges_right: p balance_so months_so after found last low high payment -/
def f223 : Fn := ⟨5, 9, false, (.cons (.asg (.name 5) (.bin .sub (.neg (.bin .pow (.int 10) (.int 9))) (.int 2))) (.cons (.for_ t223_1 (.seq (.var 4)) b223_1) (.cons (.ret (.bl true)) .nil)))⟩
/- 224 law: Dict -/
/-- law: script -/
def f224 : Fn := ⟨1, 1, false, (.cons .raise .nil)⟩
/-- statement: plan row -/
def f225 : Fn := ⟨2, 2, false, (.cons (.expr (.call 123 (.cons (.var 0) .nil))) (.cons (.expr (.call 22 (.cons (.var 1) .nil))) (.cons (.ret (.call 31 (.cons (.var 0) (.cons (.var 1) .nil)))) .nil)))⟩
/-- parting_row: one other -/
def f226 : Fn := ⟨2, 2, false, (.cons (.expr (.call 123 (.cons (.var 0) .nil))) (.cons (.expr (.call 123 (.cons (.var 1) .nil))) (.cons (.ret (.call 88 (.cons (.var 0) (.cons (.var 1) .nil)))) .nil)))⟩
/- 227 alike_months: Dict -/
/-- alike_months: one other -/
def f227 : Fn := ⟨2, 2, false, (.cons .raise .nil)⟩
def x228_0 : IE := (.var 3)
def u228_0 : Tg := (.name 3)
def i228_0 : IT := (.range (.cons (.bin .add (.glo (Str.ofString "MAX_RATE_slack") (100)) (.int 1)) .nil))
def c228_0 : IEs := (.cons (.call 89 (.cons (.var 0) (.cons (.call 110 (.cons (.var 0) (.cons (.var 1) (.cons (.var 3) .nil)))) .nil))) .nil)
def x228_1 : IE := (.tup (.cons (.var 3) (.cons (.var 3) .nil)))
def u228_1 : Tg := (.name 3)
def i228_1 : IT := (.seq (.var 2))
def c228_1 : IEs := .nil
/-- same_rates: plan index rates rate -/
def f228 : Fn := ⟨2, 4, false, (.cons (.expr (.call 123 (.cons (.var 0) .nil))) (.cons (.ife (.not (.call 0 (.cons (.var 1) (.cons (.int 0) (.cons (.bin .sub (.blt .len (.cons (.idx (.var 0) (.int 0)) .nil)) (.int 1)) .nil))))) (.cons .raise .nil) .nil) (.cons (.asg (.name 2) (.comp x228_0 u228_0 i228_0 c228_0 [3])) (.cons (.ret (.call 109 (.cons (.comp x228_1 u228_1 i228_1 c228_1 [3]) .nil))) .nil))))⟩
def x229_0 : IE := (.call 122 (.cons (.var 3) .nil))
def u229_0 : Tg := (.name 3)
def i229_0 : IT := (.seq (.var 0))
def c229_0 : IEs := .nil
def x229_1 : IE := (.var 2)
def u229_1 : Tg := (.tup [(.name 2), (.name 3)])
def i229_1 : IT := (.enum (.var 0))
def c229_1 : IEs := (.cons (.call 212 (.cons (.var 3) (.cons (.var 1) .nil))) .nil)
/-- fitting: plans seen index plan -/
def f229 : Fn := ⟨2, 4, false, (.cons (.ife (.boolop false (.cons (.not (.blt .isTup (.cons (.var 0) .nil))) (.cons (.not (.chain .le .le (.int 1) (.blt .len (.cons (.var 0) .nil)) (.glo (Str.ofString "MAX_PLANS") (6)))) (.cons (.not (.blt .all (.cons (.comp x229_0 u229_0 i229_0 c229_0 [3]) .nil))) .nil)))) (.cons .raise .nil) .nil) (.cons (.expr (.call 211 (.cons (.var 1) .nil))) (.cons (.ret (.comp x229_1 u229_1 i229_1 c229_1 [2, 3])) .nil)))⟩
def t230_0 : Tg := (.name 4)
def b230_0 : ISs := (.cons (.asg (.name 5) (.bin .add (.bin .add (.slice (.idx (.var 0) (.int 0)) .none (.some (.var 1))) (.tup (.cons (.tup (.cons (.idx (.idx (.idx (.var 0) (.int 0)) (.var 1)) (.int 0)) (.cons (.var 4) .nil))) .nil))) (.slice (.idx (.var 0) (.int 0)) (.some (.bin .add (.var 1) (.int 1))) .none))) (.cons (.ife (.call 212 (.cons (.bin .add (.tup (.cons (.var 5) .nil)) (.slice (.var 0) (.some (.int 1)) .none)) (.cons (.var 2) .nil))) (.cons (.append 3 (.tup (.cons (.var 4) (.cons (.var 4) .nil)))) .nil) .nil) .nil))
/-- rates_for: plan index seen found rate bands -/
def f230 : Fn := ⟨3, 6, false, (.cons (.expr (.call 123 (.cons (.var 0) .nil))) (.cons (.ife (.not (.call 0 (.cons (.var 1) (.cons (.int 0) (.cons (.bin .sub (.blt .len (.cons (.idx (.var 0) (.int 0)) .nil)) (.int 1)) .nil))))) (.cons .raise .nil) .nil) (.cons (.expr (.call 211 (.cons (.var 2) .nil))) (.cons (.asg (.name 3) (.lst .nil)) (.cons (.for_ t230_0 (.range (.cons (.bin .add (.glo (Str.ofString "MAX_RATE_plans") (100)) (.int 1)) .nil)) b230_0) (.cons (.ret (.call 214 (.cons (.var 3) .nil))) .nil))))))⟩
def t231_0 : Tg := (.name 3)
def b231_0 : ISs := (.cons (.asg (.name 4) (.callio 15 0 (.cons (.int 6) (.cons (.int 1500) .nil)))) (.cons (.ife (.cmp .eq (.callio 7 0 (.cons (.int 2) .nil)) (.int 0)) (.cons (.asg (.name 4) (.bin .add (.tup (.cons (.bin .add (.int 1) (.callio 7 0 (.cons (.int 700) .nil))) .nil)) (.var 4))) .nil) .nil) (.cons (.asg (.name 2) (.bin .add (.var 2) (.tup (.cons (.tup (.cons (.var 4) (.cons (.blt .tuple (.cons (.call 225 (.cons (.var 1) (.cons (.var 4) .nil))) .nil)) .nil))) .nil)))) .nil)))
/-- _law_seen: source p found turn row -/
def f231 : Fn := ⟨2, 5, true, (.cons (.asg (.name 2) (.tup .nil)) (.cons (.for_ t231_0 (.range (.cons (.bin .add (.int 1) (.callio 7 0 (.cons (.int 3) .nil))) .nil)) b231_0) (.cons (.ret (.mov 2)) .nil)))⟩
def t232_0 : Tg := (.tup [(.name 13), (.name 16)])
def b232_0 : ISs := (.cons (.ife (.cmp .ne (.call 225 (.cons (.var 15) (.cons (.var 13) .nil))) (.blt .list (.cons (.var 16) .nil))) (.cons (.ret (.bl false)) .nil) .nil) .nil)
def t232_1 : Tg := (.name 10)
def b232_1 : ISs := (.cons (.asg (.name 14) (.bin .add (.bin .add (.slice (.idx (.var 3) (.int 0)) .none (.some (.var 4))) (.tup (.cons (.tup (.cons (.idx (.idx (.idx (.var 3) (.int 0)) (.var 4)) (.int 0)) (.cons (.var 10) .nil))) .nil))) (.slice (.idx (.var 3) (.int 0)) (.some (.bin .add (.var 4) (.int 1))) .none))) (.cons (.asg (.name 15) (.bin .add (.tup (.cons (.var 14) .nil)) (.slice (.var 3) (.some (.int 1)) .none))) (.cons (.ife (.boolop false (.cons (.not (.call 112 (.cons (.var 10) (.cons (.var 5) .nil)))) (.cons (.cmp .ne (.call 229 (.cons (.tup (.cons (.var 3) (.cons (.var 15) .nil))) (.cons (.var 7) .nil))) (.lst (.cons (.int 0) (.cons (.int 1) .nil)))) .nil))) (.cons (.ret (.bl false)) .nil) .nil) (.cons (.for_ t232_0 (.seq (.var 7)) b232_0) .nil))))
def t232_2 : Tg := (.tup [(.name 8), (.name 9)])
def b232_2 : ISs := (.cons (.for_ t232_1 (.seq (.tup (.cons (.var 8) (.cons (.var 9) (.cons (.bin .add (.var 8) (.callio 7 2 (.cons (.bin .add (.bin .sub (.var 9) (.var 8)) (.int 1)) .nil))) .nil))))) b232_1) .nil)
def x232_0 : IE := (.int 1)
def u232_0 : Tg := (.name 17)
def i232_0 : IT := (.seq (.var 5))
def c232_0 : IEs := (.cons (.cmp .gt (.blt .maxL (.cons (.var 17) .nil)) (.bin .pow (.int 10) (.int 12))) .nil)
def t232_3 : Tg := (.name 1)
def b232_3 : ISs := (.cons (.asg (.name 2) (.call 6 (.cons (.var 0) (.cons (.var 1) .nil)))) (.cons (.asg (.name 3) (.callio 72 2 (.cons (.callio 14 2 (.cons (.int 300) .nil)) .nil))) (.cons (.asg (.name 4) (.callio 7 2 (.cons (.blt .len (.cons (.idx (.var 3) (.int 0)) .nil)) .nil))) (.cons (.par [6, 7] (.cons (.call 228 (.cons (.var 3) (.cons (.var 4) .nil))) (.cons (.callio 231 2 (.cons (.var 3) .nil)) .nil))) (.cons (.asg (.name 5) (.call 230 (.cons (.var 3) (.cons (.var 4) (.cons (.var 7) .nil))))) (.cons (.for_ t232_2 (.seq (.var 6)) b232_2) (.cons (.ife (.boolop false (.cons (.not (.call 112 (.cons (.idx (.idx (.idx (.var 3) (.int 0)) (.var 4)) (.int 1)) (.cons (.var 5) .nil)))) (.cons (.not (.call 112 (.cons (.idx (.idx (.idx (.var 3) (.int 0)) (.var 4)) (.int 1)) (.cons (.var 6) .nil)))) .nil))) (.cons (.ret (.bl false)) .nil) .nil) (.cons (.asg (.tup [(.name 11), (.name 12)]) (.callio 58 2 .nil)) (.cons (.ife (.cmp .ne (.call 227 (.cons (.var 11) (.cons (.var 12) .nil))) (.blt .range2 (.cons (.int 1) (.cons (.int 133) .nil)))) (.cons (.asg (.name 13) (.call 226 (.cons (.var 11) (.cons (.var 12) .nil)))) (.cons (.ife (.cmp .isN (.var 13) .non) (.cons (.ret (.bl false)) .nil) .nil) (.cons (.asg (.name 5) (.blt .tuple (.cons (.call 225 (.cons (.var 11) (.cons (.var 13) .nil))) .nil))) (.cons (.ife (.boolop true (.cons (.cmp .eq (.comp x232_0 u232_0 i232_0 c232_0 [17]) (.lst .nil)) (.cons (.cmp .ne (.call 229 (.cons (.tup (.cons (.var 11) (.cons (.var 12) .nil))) (.cons (.tup (.cons (.tup (.cons (.var 13) (.cons (.var 5) .nil))) .nil)) .nil))) (.lst (.cons (.int 0) .nil))) .nil))) (.cons (.ret (.bl false)) .nil) .nil) .nil)))) .nil) .nil)))))))))
def r232_0 : ISs := (.cons (.ret (.bl true)) .nil)
/-- law: script k source p index told free seen_so low high rate one two row bands_so other pairs pair -/
def f232 : Fn := ⟨1, 18, false, (.cons (.for_ t232_3 (.range (.cons (.blt .max2 (.cons (.int 4) (.cons (.blt .min2 (.cons (.int 8) (.cons (.blt .len (.cons (.var 0) .nil)) .nil))) .nil))) .nil)) b232_3) r232_0)⟩
/- 233 pair_text: call str -/
/-- pair_text: pair -/
def f233 : Fn := ⟨1, 1, false, (.cons .raise .nil)⟩
/- 234 words_of: call str -/
/-- words_of: plan -/
def f234 : Fn := ⟨1, 1, false, (.cons .raise .nil)⟩
/- 235 plan_text: call of Attribute join -/
/-- plan_text: plan -/
def f235 : Fn := ⟨1, 1, false, (.cons .raise .nil)⟩
/- 236 number_read: name FIGURES -/
/-- number_read: word -/
def f236 : Fn := ⟨1, 1, false, (.cons .raise .nil)⟩
/- 237 pair_read: call of Attribute split -/
/-- pair_read: word -/
def f237 : Fn := ⟨1, 1, false, (.cons .raise .nil)⟩
/- 238 rule_read: call of Attribute index -/
/-- rule_read: words name -/
def f238 : Fn := ⟨2, 2, false, (.cons .raise .nil)⟩
/- 239 read_plan: call of Attribute split -/
/-- read_plan: value -/
def f239 : Fn := ⟨1, 1, false, (.cons .raise .nil)⟩
/- 240 _law_error_name: isinstance -/
/-- _law_error_name: e -/
def f240 : Fn := ⟨1, 1, false, (.cons .raise .nil)⟩
/- 241 _law_pair_text: call str -/
/-- _law_pair_text: pair -/
def f241 : Fn := ⟨1, 1, false, (.cons .raise .nil)⟩
/- 242 _law_text: call str -/
/-- _law_text: p -/
def f242 : Fn := ⟨1, 1, false, (.cons .raise .nil)⟩
def x243_0 : IE := (.var 1)
def u243_0 : Tg := (.name 1)
def i243_0 : IT := (.seq (.var 0))
def c243_0 : IEs := (.cons (.cmp .notin (.var 1) (.blt .list (.cons (.str (Str.ofString "0123456789")) .nil))) .nil)
/-- _law_number: word sign -/
def f243 : Fn := ⟨1, 2, false, (.cons (.ife (.boolop false (.cons (.cmp .eq (.var 0) (.str (Str.ofString ""))) (.cons (.cmp .ne (.comp x243_0 u243_0 i243_0 c243_0 [1]) (.lst .nil)) .nil))) (.cons (.ret (.neg (.int 1))) .nil) .nil) (.cons (.ret (.ife (.boolop false (.cons (.boolop true (.cons (.cmp .gt (.blt .len (.cons (.var 0) .nil)) (.int 1)) (.cons (.cmp .eq (.idx (.var 0) (.int 0)) (.str (Str.ofString "0"))) .nil))) (.cons (.cmp .gt (.blt .len (.cons (.var 0) .nil)) (.int 9)) .nil))) (.neg (.int 1)) (.blt .int (.cons (.var 0) .nil)))) .nil))⟩
/- 244 _law_pair_of: call of Attribute split -/
/-- _law_pair_of: word first second -/
def f244 : Fn := ⟨3, 3, false, (.cons .raise .nil)⟩
/-- _law_rule_of: words name first second pair -/
def f245 : Fn := ⟨4, 5, false, (.cons (.ife (.cmp .ne (.slice (.var 0) .none (.some (.int 1))) (.lst (.cons (.var 1) .nil))) (.cons (.ret (.tup (.cons (.bl true) (.cons .non (.cons (.var 0) .nil))))) .nil) .nil) (.cons (.asg (.name 4) (.ife (.cmp .gt (.blt .len (.cons (.var 0) .nil)) (.int 1)) (.call 244 (.cons (.idx (.var 0) (.int 1)) (.cons (.var 2) (.cons (.var 3) .nil)))) .non)) (.cons (.ret (.tup (.cons (.cmp .notN (.var 4) .non) (.cons (.var 4) (.cons (.slice (.var 0) (.some (.int 2)) .none) .nil))))) .nil)))⟩
/- 246 _law_reading: call of Attribute split -/
/-- _law_reading: text -/
def f246 : Fn := ⟨1, 1, false, (.cons .raise .nil)⟩
/- 247 _law_told_text: statement Try -/
/-- _law_told_text: value -/
def f247 : Fn := ⟨1, 1, false, (.cons .raise .nil)⟩
/- 248 law: call of Attribute split -/
/-- law: script -/
def f248 : Fn := ⟨1, 1, false, (.cons .raise .nil)⟩
def t249_0 : Tg := (.name 2)
def b249_0 : ISs := (.cons (.ife (.call 128 (.cons (.call 136 (.cons (.var 1) (.cons (.var 2) .nil))) (.cons (.var 0) .nil))) (.cons (.asg (.name 1) (.call 136 (.cons (.var 1) (.cons (.var 2) .nil)))) .nil) .nil) .nil)
def t249_1 : Tg := (.name 3)
def b249_1 : ISs := (.cons (.ife (.call 128 (.cons (.call 137 (.cons (.var 1) (.cons (.var 3) .nil))) (.cons (.var 0) .nil))) (.cons (.asg (.name 1) (.call 137 (.cons (.var 1) (.cons (.var 3) .nil)))) .nil) .nil) .nil)
/-- shortened: plan left index place -/
def f249 : Fn := ⟨1, 4, false, (.cons (.expr (.call 21 (.cons (.var 0) .nil))) (.cons (.asg (.name 1) (.var 0)) (.cons (.for_ t249_0 (.range (.cons (.bin .sub (.blt .len (.cons (.idx (.var 0) (.int 0)) .nil)) (.int 1)) (.cons (.int 0) (.cons (.neg (.int 1)) .nil)))) b249_0) (.cons (.for_ t249_1 (.seq (.tup (.cons (.int 3) (.cons (.int 4) .nil)))) b249_1) (.cons (.ret (.mov 1)) .nil)))))⟩
/- 250 law: call Account -/
/-- law: script -/
def f250 : Fn := ⟨1, 1, false, (.cons .raise .nil)⟩
/- 251 _law_value: keywords -/
/-- _law_value: p -/
def f251 : Fn := ⟨1, 1, false, (.cons .raise .nil)⟩
/- 252 law: call of Attribute does_same -/
/-- law: script -/
def f252 : Fn := ⟨1, 1, false, (.cons .raise .nil)⟩
/-- parting_row: one other -/
def f253 : Fn := ⟨2, 2, false, (.cons (.expr (.call 21 (.cons (.var 0) .nil))) (.cons (.expr (.call 21 (.cons (.var 1) .nil))) (.cons (.ret (.call 127 (.cons (.var 0) (.cons (.var 1) .nil)))) .nil)))⟩
def x254_0 : IE := (.var 3)
def u254_0 : Tg := (.name 3)
def i254_0 : IT := (.range (.cons (.int 1) (.cons (.blt .len (.cons (.idx (.var 0) (.int 0)) .nil)) .nil)))
def c254_0 : IEs := (.cons (.call 128 (.cons (.call 136 (.cons (.var 0) (.cons (.var 3) .nil))) (.cons (.var 0) .nil))) .nil)
def x254_1 : IE := (.boolop true (.cons (.cmp .notN (.idx (.var 0) (.var 4)) .non) (.cons (.call 128 (.cons (.call 137 (.cons (.var 0) (.cons (.var 4) .nil))) (.cons (.var 0) .nil))) .nil)))
def u254_1 : Tg := (.name 4)
def i254_1 : IT := (.seq (.tup (.cons (.int 3) (.cons (.int 4) .nil))))
def c254_1 : IEs := .nil
/-- needless: plan bands rules index place -/
def f254 : Fn := ⟨1, 5, false, (.cons (.expr (.call 21 (.cons (.var 0) .nil))) (.cons (.asg (.name 1) (.comp x254_0 u254_0 i254_0 c254_0 [3])) (.cons (.asg (.name 2) (.comp x254_1 u254_1 i254_1 c254_1 [4])) (.cons (.ret (.tup (.cons (.var 1) (.cons (.idx (.var 2) (.int 0)) (.cons (.idx (.var 2) (.int 1)) .nil))))) .nil))))⟩
/- 255 _law_one: call of Subscript -/
/-- _law_one: call some -/
def f255 : Fn := ⟨2, 2, false, (.cons .raise .nil)⟩
/- 256 _law_outcome: statement Try -/
/-- _law_outcome: call some -/
def f256 : Fn := ⟨2, 2, false, (.cons .raise .nil)⟩
/- 257 _law_words: call of Attribute join -/
/-- _law_words: some -/
def f257 : Fn := ⟨1, 1, false, (.cons .raise .nil)⟩
def x258_0 : IE := (.int 1)
def u258_0 : Tg := (.tup [(.name 1), (.name 2), (.name 3)])
def i258_0 : IT := (.seq (.var 0))
def c258_0 : IEs := (.cons (.cmp .ne (.call 256 (.cons (.var 1) (.cons (.var 2) .nil))) (.var 3)) .nil)
/-- _law_rows_right: rows call some word -/
def f258 : Fn := ⟨1, 4, false, (.cons (.ret (.cmp .eq (.comp x258_0 u258_0 i258_0 c258_0 [1, 2, 3]) (.lst .nil))) .nil)⟩
def x259_0 : IE := (.tup (.cons (.var 5) (.cons (.tup (.cons (.var 3) (.cons (.var 1) (.cons (.var 1) (.cons (.var 1) .nil))))) (.cons (.str (Str.ofString "manner")) .nil))))
def u259_0 : Tg := (.name 5)
def i259_0 : IT := (.seq (.tup (.cons (.int 12) (.cons (.int 13) (.cons (.int 16) .nil)))))
def c259_0 : IEs := .nil
def x259_1 : IE := (.tup (.cons (.var 5) (.cons (.tup (.cons (.var 3) (.cons (.var 1) (.cons (.var 1) (.cons (.var 1) .nil))))) (.cons (.str (Str.ofString "plan")) .nil))))
def u259_1 : Tg := (.name 5)
def i259_1 : IT := (.seq (.tup (.cons (.int 8) (.cons (.int 9) .nil))))
def c259_1 : IEs := .nil
def x259_2 : IE := (.tup (.cons (.var 5) (.cons (.tup (.cons (.var 0) (.cons (.var 3) (.cons (.var 1) (.cons (.var 1) .nil))))) (.cons (.str (Str.ofString "manner")) .nil))))
def u259_2 : Tg := (.name 5)
def i259_2 : IT := (.seq (.tup (.cons (.int 8) (.cons (.int 9) .nil))))
def c259_2 : IEs := .nil
def x259_3 : IE := (.tup (.cons (.var 5) (.cons (.tup (.cons (.var 3) (.cons (.var 0) (.cons (.var 1) (.cons (.var 1) .nil))))) (.cons (.str (Str.ofString "manner")) .nil))))
def u259_3 : Tg := (.name 5)
def i259_3 : IT := (.seq (.tup (.cons (.int 8) (.cons (.int 9) .nil))))
def c259_3 : IEs := .nil
def x259_4 : IE := (.tup (.cons (.var 5) (.cons (.tup (.cons (.var 0) (.cons (.int 5) (.cons (.var 1) (.cons (.var 1) .nil))))) (.cons (.str (Str.ofString "number")) .nil))))
def u259_4 : Tg := (.name 5)
def i259_4 : IT := (.seq (.tup (.cons (.int 11) (.cons (.int 12) (.cons (.int 13) (.cons (.int 16) (.cons (.int 18) .nil)))))))
def c259_4 : IEs := .nil
/-- _law_seconds_right: p odd words whole rows call -/
def f259 : Fn := ⟨2, 6, false, (.cons (.asg (.name 2) (.str (Str.ofString "fine fine fine fine row row plan plan plan plan plan number number number row index"))) (.cons (.ife (.cmp .ne (.call 257 (.cons (.tup (.cons (.var 0) (.cons (.var 1) (.cons (.var 1) (.cons (.var 1) .nil))))) .nil)) (.bin .add (.var 2) (.str (Str.ofString " number plan number")))) (.cons (.ret (.bl false)) .nil) .nil) (.cons (.asg (.name 3) (.bin .add (.tup (.cons (.idx (.var 0) (.int 0)) (.cons (.str (Str.ofString "whole")) .nil))) (.slice (.var 0) (.some (.int 2)) .none))) (.cons (.asg (.name 4) (.comp x259_0 u259_0 i259_0 c259_0 [5])) (.cons (.asg (.name 4) (.bin .add (.bor 4) (.comp x259_1 u259_1 i259_1 c259_1 [5]))) (.cons (.asg (.name 4) (.bin .add (.bor 4) (.comp x259_2 u259_2 i259_2 c259_2 [5]))) (.cons (.asg (.name 4) (.bin .add (.bor 4) (.comp x259_3 u259_3 i259_3 c259_3 [5]))) (.cons (.asg (.name 4) (.bin .add (.bor 4) (.comp x259_4 u259_4 i259_4 c259_4 [5]))) (.cons (.append 4 (.tup (.cons (.int 10) (.cons (.tup (.cons (.tup (.cons (.var 0) (.cons (.var 0) .nil))) (.cons (.var 1) (.cons (.var 1) (.cons (.var 1) .nil))))) (.cons (.str (Str.ofString "seen")) .nil))))) (.cons (.append 4 (.tup (.cons (.int 10) (.cons (.tup (.cons (.tup (.cons (.var 0) (.cons (.var 1) .nil))) (.cons (.var 1) (.cons (.var 1) (.cons (.var 1) .nil))))) (.cons (.str (Str.ofString "plan")) .nil))))) (.cons (.append 4 (.tup (.cons (.int 10) (.cons (.tup (.cons (.bin .mul (.tup (.cons (.var 0) .nil)) (.int 7)) (.cons (.var 1) (.cons (.var 1) (.cons (.var 1) .nil))))) (.cons (.str (Str.ofString "plan")) .nil))))) (.cons (.append 4 (.tup (.cons (.int 14) (.cons (.tup (.cons (.var 0) (.cons (.tup (.cons (.int 0) .nil)) (.cons (.var 1) (.cons (.var 1) .nil))))) (.cons (.str (Str.ofString "number")) .nil))))) (.cons (.append 4 (.tup (.cons (.int 15) (.cons (.tup (.cons (.var 0) (.cons (.int 0) (.cons (.var 1) (.cons (.var 1) .nil))))) (.cons (.str (Str.ofString "seen")) .nil))))) (.cons (.append 4 (.tup (.cons (.int 17) (.cons (.tup (.cons (.var 0) (.cons (.var 0) (.cons (.var 1) (.cons (.var 1) .nil))))) (.cons (.str (Str.ofString "number")) .nil))))) (.cons (.append 4 (.tup (.cons (.int 17) (.cons (.tup (.cons (.var 0) (.cons (.var 0) (.cons (.int 2000) (.cons (.var 1) .nil))))) (.cons (.str (Str.ofString "number")) .nil))))) (.cons (.append 4 (.tup (.cons (.int 18) (.cons (.tup (.cons (.var 0) (.cons (.int 5) (.cons (.int 5) (.cons (.var 1) .nil))))) (.cons (.str (Str.ofString "number")) .nil))))) (.cons (.append 4 (.tup (.cons (.int 16) (.cons (.tup (.cons (.var 0) (.cons (.int 5) (.cons (.int 5) (.cons (.var 1) .nil))))) (.cons (.str (Str.ofString "number")) .nil))))) (.cons (.ret (.call 258 (.cons (.var 4) .nil))) .nil))))))))))))))))))⟩
/-- _law_bounds_right: p rows -/
def f260 : Fn := ⟨1, 2, false, (.cons (.asg (.name 1) (.lst (.cons (.tup (.cons (.int 11) (.cons (.tup (.cons (.var 0) (.cons (.bin .pow (.int 10) (.int 12)) (.cons (.int 1000) (.cons (.int 0) .nil))))) (.cons (.str (Str.ofString "fine")) .nil)))) (.cons (.tup (.cons (.int 11) (.cons (.tup (.cons (.var 0) (.cons (.bin .add (.bin .pow (.int 10) (.int 12)) (.int 1)) (.cons (.int 0) (.cons (.int 0) .nil))))) (.cons (.str (Str.ofString "number")) .nil)))) .nil)))) (.cons (.asg (.name 1) (.bin .add (.bor 1) (.lst (.cons (.tup (.cons (.int 11) (.cons (.tup (.cons (.var 0) (.cons (.int 0) (.cons (.int 1001) (.cons (.int 0) .nil))))) (.cons (.str (Str.ofString "number")) .nil)))) (.cons (.tup (.cons (.int 12) (.cons (.tup (.cons (.var 0) (.cons (.bin .pow (.int 10) (.int 9)) (.cons (.int 200) (.cons (.int 0) .nil))))) (.cons (.str (Str.ofString "fine")) .nil)))) .nil))))) (.cons (.asg (.name 1) (.bin .add (.bor 1) (.lst (.cons (.tup (.cons (.int 12) (.cons (.tup (.cons (.var 0) (.cons (.bin .add (.bin .pow (.int 10) (.int 9)) (.int 1)) (.cons (.int 1) (.cons (.int 0) .nil))))) (.cons (.str (Str.ofString "number")) .nil)))) (.cons (.tup (.cons (.int 12) (.cons (.tup (.cons (.var 0) (.cons (.int 0) (.cons (.int 1) (.cons (.int 0) .nil))))) (.cons (.str (Str.ofString "number")) .nil)))) .nil))))) (.cons (.asg (.name 1) (.bin .add (.bor 1) (.lst (.cons (.tup (.cons (.int 13) (.cons (.tup (.cons (.var 0) (.cons (.int 5) (.cons (.int 201) (.cons (.int 0) .nil))))) (.cons (.str (Str.ofString "number")) .nil)))) (.cons (.tup (.cons (.int 13) (.cons (.tup (.cons (.var 0) (.cons (.int 5) (.cons (.int 0) (.cons (.int 0) .nil))))) (.cons (.str (Str.ofString "number")) .nil)))) (.cons (.tup (.cons (.int 14) (.cons (.tup (.cons (.var 0) (.cons (.tup (.cons (.int 0) .nil)) (.cons (.int 0) (.cons (.int 0) .nil))))) (.cons (.str (Str.ofString "number")) .nil)))) .nil)))))) (.cons (.asg (.name 1) (.bin .add (.bor 1) (.lst (.cons (.tup (.cons (.int 17) (.cons (.tup (.cons (.var 0) (.cons (.var 0) (.cons (.int 2001) (.cons (.int 1) .nil))))) (.cons (.str (Str.ofString "number")) .nil)))) (.cons (.tup (.cons (.int 17) (.cons (.tup (.cons (.var 0) (.cons (.var 0) (.cons (.int 1) (.cons (.int 25) .nil))))) (.cons (.str (Str.ofString "number")) .nil)))) (.cons (.tup (.cons (.int 17) (.cons (.tup (.cons (.var 0) (.cons (.var 0) (.cons (.int 0) (.cons (.int 24) .nil))))) (.cons (.str (Str.ofString "fine")) .nil)))) .nil)))))) (.cons (.asg (.name 1) (.bin .add (.bor 1) (.lst (.cons (.tup (.cons (.int 18) (.cons (.tup (.cons (.var 0) (.cons (.bin .pow (.int 10) (.int 9)) (.cons (.int 1000) (.cons (.bin .pow (.int 10) (.int 9)) .nil))))) (.cons (.str (Str.ofString "fine")) .nil)))) (.cons (.tup (.cons (.int 18) (.cons (.tup (.cons (.var 0) (.cons (.bin .add (.bin .pow (.int 10) (.int 9)) (.int 1)) (.cons (.int 0) (.cons (.int 0) .nil))))) (.cons (.str (Str.ofString "number")) .nil)))) .nil))))) (.cons (.append 1 (.tup (.cons (.int 16) (.cons (.tup (.cons (.var 0) (.cons (.bin .pow (.int 10) (.int 9)) (.cons (.bin .pow (.int 10) (.int 9)) (.cons (.int 1) .nil))))) (.cons (.str (Str.ofString "fine")) .nil))))) (.cons (.ret (.call 258 (.cons (.var 1) .nil))) .nil))))))))⟩
def t261_0 : Tg := (.name 1)
def b261_0 : ISs := (.cons (.asg (.name 2) (.call 6 (.cons (.var 0) (.cons (.var 1) .nil)))) (.cons (.asg (.name 3) (.callio 9 2 (.cons (.lst (.cons .non (.cons (.bl true) (.cons (.lst (.cons (.tup .nil) .nil)) (.cons (.str (Str.ofString "parts")) (.cons (.tup (.cons (.tup (.cons (.int 1) (.cons (.int 2) .nil))) .nil)) (.cons (.neg (.bin .pow (.int 10) (.int 30))) (.cons (.bin .mul (.tup (.cons (.int 0) .nil)) (.int 201)) .nil)))))))) .nil))) (.cons (.ife (.cmp .ne (.call 257 (.cons (.tup (.cons (.var 3) (.cons (.var 3) (.cons (.var 3) (.cons (.var 3) .nil))))) .nil)) (.bin .add (.bin .mul (.str (Str.ofString "plan ")) (.int 18)) (.str (Str.ofString "plan")))) (.cons (.ret (.bl false)) .nil) .nil) (.cons (.asg (.name 4) (.call 148 (.cons (.callio 14 2 (.cons (.int 2000) .nil)) .nil))) (.cons (.ife (.boolop false (.cons (.not (.call 259 (.cons (.var 4) (.cons (.var 3) .nil)))) (.cons (.not (.call 260 (.cons (.var 4) .nil))) .nil))) (.cons (.ret (.bl false)) .nil) .nil) .nil)))))
def r261_0 : ISs := (.cons (.ret (.bl true)) .nil)
/-- law: script k source odd p -/
def f261 : Fn := ⟨1, 5, false, (.cons (.for_ t261_0 (.range (.cons (.blt .max2 (.cons (.int 4) (.cons (.blt .min2 (.cons (.int 10) (.cons (.blt .len (.cons (.var 0) .nil)) .nil))) .nil))) .nil)) b261_0) r261_0)⟩
/-- _law_even_right: start_so rest due found falls less bonus_so part all_so -/
def f262 : Fn := ⟨1, 9, false, (.cons (.asg (.name 0) (.bin .mul (.int 1000) (.var 0))) (.cons (.asg (.name 1) (.tup (.cons (.str (Str.ofString "down")) (.cons .non (.cons .non (.cons (.int 0) .nil)))))) (.cons (.par [7, 8] (.cons (.bin .add (.tup (.cons (.tup (.cons (.tup (.cons (.int 0) (.cons (.int 0) .nil))) (.cons (.tup (.cons (.var 0) (.cons (.int 10) .nil))) .nil))) (.cons (.str (Str.ofString "parts")) .nil))) (.var 1)) (.cons (.bin .add (.tup (.cons (.tup (.cons (.tup (.cons (.int 0) (.cons (.int 0) .nil))) (.cons (.tup (.cons (.var 0) (.cons (.int 10) .nil))) .nil))) (.cons (.str (Str.ofString "whole")) .nil))) (.var 1)) .nil))) (.cons (.ife (.cmp .ne (.call 33 (.cons (.var 7) (.cons (.tup (.cons (.var 0) (.cons (.int 500) (.cons (.neg (.int 1)) .nil)))) .nil))) (.lst (.cons (.tup (.cons (.int 0) (.cons (.var 0) .nil))) (.cons (.tup (.cons (.int 0) (.cons (.bin .add (.var 0) (.int 505)) .nil))) (.cons (.tup (.cons (.int 1) (.cons (.bin .add (.var 0) (.int 509)) .nil))) .nil))))) (.cons (.ret (.bl false)) .nil) .nil) (.cons (.asg (.name 2) (.bin .fdiv (.var 0) (.int 100))) (.cons (.ife (.cmp .ne (.call 33 (.cons (.var 8) (.cons (.tup (.cons (.bin .sub (.var 0) (.int 1)) (.cons (.int 1) .nil))) .nil))) (.lst (.cons (.tup (.cons (.int 0) (.cons (.bin .sub (.var 0) (.int 1)) .nil))) (.cons (.tup (.cons (.int 0) (.cons (.bin .add (.var 0) (.var 2)) .nil))) .nil)))) (.cons (.ret (.bl false)) .nil) .nil) (.cons (.asg (.name 3) (.call 253 (.cons (.var 7) (.cons (.var 8) .nil)))) (.cons (.ife (.boolop false (.cons (.cmp .ne (.blt .len (.cons (.var 3) .nil)) (.int 1)) (.cons (.cmp .lt (.idx (.var 3) (.int 0)) (.var 0)) (.cons (.cmp .notN (.call 174 (.cons (.var 8) .nil)) .non) .nil)))) (.cons (.ret (.bl false)) .nil) .nil) (.cons (.asg (.name 4) (.bin .add (.tup (.cons (.tup (.cons (.tup (.cons (.int 0) (.cons (.int 10) .nil))) (.cons (.tup (.cons (.var 0) (.cons (.int 0) .nil))) .nil))) (.cons (.str (Str.ofString "whole")) .nil))) (.var 1))) (.cons (.asg (.name 5) (.call 174 (.cons (.var 4) .nil))) (.cons (.ife (.boolop false (.cons (.cmp .isN (.var 5) .non) (.cons (.cmp .ne (.idx (.var 5) (.int 1)) (.var 0)) (.cons (.cmp .le (.call 34 (.cons (.var 4) (.cons (.slice (.var 5) .none (.some (.int 1))) .nil))) (.var 0)) .nil)))) (.cons (.ret (.bl false)) .nil) .nil) (.cons (.ife (.cmp .gt (.call 34 (.cons (.var 4) (.cons (.tup (.cons (.bin .sub (.idx (.var 5) (.int 0)) (.int 1)) .nil)) .nil))) (.var 0)) (.cons (.ret (.bl false)) .nil) .nil) (.cons (.ife (.cmp .notB (.call 157 (.cons (.var 7) (.cons (.bin .add (.tup (.cons (.tup (.cons (.tup (.cons (.int 0) (.cons (.int 0) .nil))) .nil)) (.cons (.str (Str.ofString "parts")) .nil))) (.var 1)) .nil))) (.bl true)) (.cons (.ret (.bl false)) .nil) .nil) (.cons (.asg (.name 6) (.bin .add (.slice (.var 7) .none (.some (.int 3))) (.tup (.cons (.tup (.cons (.int 4) (.cons (.int 10) .nil))) (.cons .non (.cons (.int 0) .nil)))))) (.cons (.ife (.boolop false (.cons (.cmp .ne (.blt .len (.cons (.call 158 (.cons (.var 7) (.cons (.var 6) .nil))) .nil)) (.int 4)) (.cons (.cmp .notB (.call 157 (.cons (.var 6) (.cons (.var 7) .nil))) (.bl true)) .nil))) (.cons (.ret (.bl false)) .nil) .nil) (.cons (.ret (.cmp .eq (.call 254 (.cons (.bin .add (.slice (.var 6) .none (.some (.int 4))) (.tup (.cons (.tup (.cons (.int 1) (.cons (.int 5) .nil))) (.cons (.int 0) .nil)))) .nil)) (.tup (.cons (.lst .nil) (.cons (.bl false) (.cons (.bl true) .nil)))))) .nil))))))))))))))))⟩
/-- _law_taken_right: amount_so p got_so each taken -/
def f263 : Fn := ⟨1, 5, false, (.cons (.asg (.name 1) (.tup (.cons (.tup (.cons (.tup (.cons (.int 0) (.cons (.int 0) .nil))) .nil)) (.cons (.str (Str.ofString "parts")) (.cons (.str (Str.ofString "down")) (.cons .non (.cons .non (.cons (.int 100) .nil)))))))) (.cons (.asg (.name 2) (.bin .sub (.bin .mul (.int 10) (.var 0)) (.var 0))) (.cons (.ife (.cmp .ne (.call 33 (.cons (.var 1) (.cons (.tup (.cons (.bin .mul (.int 10) (.var 0)) (.cons (.neg (.bin .mul (.int 10) (.var 0))) (.cons (.neg (.int 5)) .nil)))) .nil))) (.lst (.cons (.tup (.cons (.int 0) (.cons (.bin .mul (.int 10) (.var 0)) .nil))) (.cons (.tup (.cons (.var 2) (.cons (.int 0) .nil))) (.cons (.tup (.cons (.int 0) (.cons (.int 0) .nil))) .nil))))) (.cons (.ret (.bl false)) .nil) .nil) (.cons (.asg (.name 3) (.tup (.cons (.tup (.cons (.tup (.cons (.int 0) (.cons (.int 0) .nil))) .nil)) (.cons (.str (Str.ofString "parts")) (.cons (.str (Str.ofString "down")) (.cons (.tup (.cons (.int 1) (.cons (.int 100) .nil))) (.cons .non (.cons (.int 100) .nil)))))))) (.cons (.ife (.cmp .ne (.call 33 (.cons (.var 3) (.cons (.tup (.cons (.int 1000) (.cons (.int 0) (.cons (.neg (.int 310)) (.cons (.int 0) .nil))))) .nil))) (.lst (.cons (.tup (.cons (.int 0) (.cons (.int 1100) .nil))) (.cons (.tup (.cons (.int 0) (.cons (.int 1210) .nil))) (.cons (.tup (.cons (.int 279) (.cons (.int 900) .nil))) (.cons (.tup (.cons (.int 0) (.cons (.int 990) .nil))) .nil)))))) (.cons (.ret (.bl false)) .nil) .nil) (.cons (.asg (.name 4) (.call 253 (.cons (.var 3) (.cons (.tup (.cons (.tup (.cons (.tup (.cons (.int 0) (.cons (.int 100) .nil))) .nil)) (.cons (.str (Str.ofString "parts")) (.cons (.str (Str.ofString "down")) (.cons .non (.cons .non (.cons (.int 100) .nil))))))) .nil)))) (.cons (.ife (.boolop false (.cons (.cmp .ne (.blt .len (.cons (.var 4) .nil)) (.int 2)) (.cons (.cmp .ge (.idx (.var 4) (.int 1)) (.int 0)) .nil))) (.cons (.ret (.bl false)) .nil) .nil) (.cons (.ife (.boolop false (.cons (.cmp .ne (.call 205 (.cons (.var 3) (.cons (.tup (.cons (.int 1000) (.cons (.int 0) (.cons (.int 0) .nil)))) (.cons (.int 100) .nil)))) (.tup (.cons (.int 1) (.cons (.int 1100) .nil)))) (.cons (.cmp .ne (.call 35 (.cons (.var 3) (.cons (.int 1000) (.cons (.int 0) .nil)))) (.int 0)) .nil))) (.cons (.ret (.bl false)) .nil) .nil) (.cons (.ife (.cmp .ne (.lst (.cons (.call 199 (.cons (.var 3) (.cons (.int 1331) (.cons (.int 3) .nil)))) (.cons (.call 201 (.cons (.var 3) (.cons (.int 1000) (.cons (.int 0) (.cons (.int 1331) .nil))))) (.cons (.call 200 (.cons (.var 3) (.cons (.int 231) (.cons (.int 2) .nil)))) .nil)))) (.lst (.cons (.int 1000) (.cons (.int 3) (.cons (.int 100) .nil))))) (.cons (.ret (.bl false)) .nil) .nil) (.cons (.ret (.boolop true (.cons (.cmp .eq (.call 221 (.cons (.var 3) (.cons (.int 1000) (.cons (.int 5) (.cons (.int 1100) .nil))))) (.lst (.cons (.tup (.cons (.int 0) (.cons (.int 0) .nil))) .nil))) (.cons (.cmp .eq (.call 221 (.cons (.var 3) (.cons (.int 1000) (.cons (.int 5) (.cons (.int 900) .nil))))) (.lst (.cons (.tup (.cons (.neg (.int 100)) (.cons (.neg (.int 100)) .nil))) .nil))) .nil)))) .nil))))))))))⟩
def t264_0 : Tg := (.name 1)
def b264_0 : ISs := (.cons (.asg (.name 3) (.call 6 (.cons (.var 0) (.cons (.var 1) .nil)))) (.cons (.ife (.boolop false (.cons (.not (.call 262 (.cons (.bin .add (.int 1) (.callio 7 3 (.cons (.int 900) .nil))) .nil))) (.cons (.not (.call 263 (.cons (.bin .add (.int 1) (.callio 7 3 (.cons (.int 1000) .nil))) .nil))) .nil))) (.cons (.ret (.bl false)) .nil) .nil) .nil))
def r264_0 : ISs := (.cons (.asg (.name 2) (.tup (.cons (.tup (.cons (.tup (.cons (.int 0) (.cons (.int 10) .nil))) (.cons (.tup (.cons (.int 1000) (.cons (.int 20) .nil))) .nil))) (.cons (.str (Str.ofString "parts")) (.cons (.str (Str.ofString "down")) (.cons (.tup (.cons (.int 3) (.cons (.int 5) .nil))) (.cons (.tup (.cons (.int 100) (.cons (.int 2) .nil))) (.cons (.int 50) .nil)))))))) (.cons (.ife (.cmp .ne (.call 33 (.cons (.var 2) (.cons (.tup (.cons (.int 1500) (.cons (.int 0) (.cons (.int 0) (.cons (.neg (.int 500)) .nil))))) .nil))) (.lst (.cons (.tup (.cons (.int 0) (.cons (.int 1520) .nil))) (.cons (.tup (.cons (.int 0) (.cons (.int 1540) .nil))) (.cons (.tup (.cons (.int 0) (.cons (.int 1568) .nil))) (.cons (.tup (.cons (.int 475) (.cons (.int 1079) .nil))) .nil)))))) (.cons (.ret (.bl false)) .nil) .nil) (.cons (.ret (.boolop true (.cons (.cmp .eq (.call 235 (.cons (.var 2) .nil)) (.str (Str.ofString "0:10 1000:20 parts down bonus 3:5 fee 100:2 charge 50"))) (.cons (.cmp .eq (.call 239 (.cons (.call 235 (.cons (.var 2) .nil)) .nil)) (.var 2)) .nil)))) .nil)))
/-- law: script k p source -/
def f264 : Fn := ⟨1, 4, false, (.cons (.for_ t264_0 (.range (.cons (.blt .max2 (.cons (.int 4) (.cons (.blt .min2 (.cons (.int 10) (.cons (.blt .len (.cons (.var 0) .nil)) .nil))) .nil))) .nil)) b264_0) r264_0)⟩
def t265_0 : Tg := (.name 8)
def b265_0 : ISs := (.cons (.asg (.name 9) (.bin .sub (.call 51 (.cons (.var 5) (.cons (.var 8) .nil))) (.call 51 (.cons (.var 6) (.cons (.var 8) .nil))))) (.cons (.ife (.boolop false (.cons (.cmp .isN (.var 2) .non) (.cons (.cmp .gt (.var 9) (.idx (.var 2) (.int 0))) .nil))) (.cons (.asg (.name 2) (.tup (.cons (.var 9) (.cons (.var 8) .nil)))) .nil) .nil) .nil))
def t265_1 : Tg := (.tup [(.name 3), (.name 4), (.name 5), (.name 6)])
def b265_1 : ISs := (.cons (.asg (.name 7) (.blt .range2 (.cons (.var 3) (.cons (.bin .add (.blt .min2 (.cons (.var 4) (.cons (.bin .add (.var 3) (.glo (Str.ofString "NEAR_single") (2001))) .nil))) (.int 1)) .nil)))) (.cons (.for_ t265_0 (.seq (.bin .add (.var 7) (.blt .range2 (.cons (.blt .max2 (.cons (.bin .add (.idx (.var 7) (.neg (.int 1))) (.int 1)) (.cons (.bin .sub (.var 4) (.glo (Str.ofString "NEAR_single") (2001))) .nil))) (.cons (.bin .add (.var 4) (.int 1)) .nil))))) b265_0) .nil))
/-- month_lead: one other best first last here there near amount lead -/
def f265 : Fn := ⟨2, 10, false, (.cons (.expr (.call 130 (.cons (.var 0) (.cons (.var 1) .nil)))) (.cons (.asg (.name 2) .non) (.cons (.for_ t265_1 (.seq (.call 52 (.cons (.var 0) (.cons (.var 1) .nil)))) b265_1) (.cons (.ret (.mov 2)) .nil))))⟩
def t266_0 : Tg := (.name 4)
def b266_0 : ISs := (.cons (.ife (.cmp .lt (.call 51 (.cons (.var 2) (.cons (.var 4) .nil))) (.call 51 (.cons (.var 3) (.cons (.var 4) .nil)))) (.cons (.ret (.mov 4)) .nil) .nil) .nil)
/-- last_less: first last one other amount -/
def f266 : Fn := ⟨4, 5, false, (.cons (.ife (.call 62 (.cons (.var 2) (.cons (.var 3) .nil))) (.cons (.ret .non) .nil) .nil) (.cons (.ife (.cmp .gt (.idx (.var 2) (.int 0)) (.idx (.var 3) (.int 0))) (.cons (.asg (.name 1) (.blt .min2 (.cons (.var 1) (.cons (.bin .fdiv (.bin .sub (.bin .sub (.idx (.var 3) (.int 1)) (.idx (.var 2) (.int 1))) (.int 1)) (.bin .sub (.idx (.var 2) (.int 0)) (.idx (.var 3) (.int 0)))) .nil)))) .nil) .nil) (.cons (.for_ t266_0 (.range (.cons (.var 1) (.cons (.bin .sub (.blt .max2 (.cons (.var 0) (.cons (.bin .sub (.var 1) (.glo (Str.ofString "NEAR_single") (2001))) .nil))) (.int 1)) (.cons (.neg (.int 1)) .nil)))) b266_0) (.cons (.ret .non) .nil))))⟩
def t267_0 : Tg := (.tup [(.name 2), (.name 3), (.name 4), (.name 5)])
def b267_0 : ISs := (.cons (.asg (.name 6) (.call 266 (.cons (.var 2) (.cons (.var 3) (.cons (.var 4) (.cons (.var 5) .nil)))))) (.cons (.ife (.cmp .notN (.var 6) .non) (.cons (.ret (.ife (.cmp .lt (.var 6) (.glo (Str.ofString "TOP") (1000000000))) (.bin .add (.var 6) (.int 1)) .non)) .nil) .nil) .nil))
/-- ahead_from: one other first last here there amount -/
def f267 : Fn := ⟨2, 7, false, (.cons (.expr (.call 130 (.cons (.var 0) (.cons (.var 1) .nil)))) (.cons (.for_ t267_0 (.seq (.rev (.call 52 (.cons (.var 0) (.cons (.var 1) .nil))))) b267_0) (.cons (.ret (.int 0)) .nil)))⟩
def t268_0 : Tg := (.tup [(.name 2), (.name 3)])
def b268_0 : ISs := (.cons (.asg (.name 4) (.call 162 (.cons (.var 2) (.cons (.ife (.cmp .isN (.var 3) .non) (.glo (Str.ofString "TOP") (1000000000)) (.var 3)) (.cons (.call 48 (.cons (.var 0) (.cons (.var 2) (.cons (.bl false) .nil)))) .nil))))) (.cons (.ife (.cmp .notN (.var 4) .non) (.cons (.append 1 (.var 4)) .nil) .nil) .nil))
/-- unmoved: plan found first last still -/
def f268 : Fn := ⟨1, 5, false, (.cons (.expr (.call 123 (.cons (.var 0) .nil))) (.cons (.asg (.name 1) (.lst .nil)) (.cons (.for_ t268_0 (.seq (.call 45 (.cons (.bin .add (.call 44 (.cons (.var 0) .nil)) (.call 49 (.cons (.var 0) (.cons (.bl false) .nil)))) .nil))) b268_0) (.cons (.ret (.call 109 (.cons (.var 1) .nil))) .nil))))⟩
def t269_0 : Tg := (.name 4)
def b269_0 : ISs := (.cons (.append 3 (.call 27 (.cons (.var 0) (.cons (.idx (.bor 3) (.neg (.int 1))) (.cons (.call 24 (.cons (.var 0) (.cons (.var 4) .nil))) .nil))))) .nil)
def w269_0 : IE := (.boolop true (.cons (.cmp .gt (.var 4) (.int 1)) (.cons (.cmp .eq (.idx (.bor 3) (.bin .sub (.var 4) (.int 2))) (.idx (.bor 3) (.neg (.int 1)))) .nil)))
def v269_0 : ISs := (.cons (.asg (.name 4) (.bin .sub (.var 4) (.int 1))) .nil)
/-- settles: plan first months balances month -/
def f269 : Fn := ⟨2, 5, false, (.cons (.expr (.call 123 (.cons (.var 0) .nil))) (.cons (.expr (.call 23 (.cons (.var 1) (.cons (.int 0) (.cons (.glo (Str.ofString "TOP") (1000000000)) .nil))))) (.cons (.asg (.name 2) (.ife (.cmp .isN (.idx (.var 0) (.int 3)) .non) (.int 1) (.idx (.idx (.var 0) (.int 3)) (.int 0)))) (.cons (.asg (.name 3) (.lst (.cons (.call 27 (.cons (.var 0) (.cons (.var 1) (.cons (.call 24 (.cons (.var 0) (.cons (.int 1) .nil))) .nil)))) .nil))) (.cons (.for_ t269_0 (.range (.cons (.int 2) (.cons (.bin .add (.bin .add (.glo (Str.ofString "MAX_SETTLING") (1200)) (.var 2)) (.int 1)) .nil))) b269_0) (.cons (.asg (.name 4) (.blt .len (.cons (.bor 3) .nil))) (.cons (.while_ w269_0 v269_0) (.cons (.ret (.ife (.cmp .le (.var 4) (.glo (Str.ofString "MAX_SETTLING") (1200))) (.tup (.cons (.idx (.bor 3) (.neg (.int 1))) (.cons (.var 4) .nil))) .non)) .nil))))))))⟩
def t270_0 : Tg := (.name 1)
def b270_0 : ISs := (.cons (.ife (.call 128 (.cons (.var 0) (.cons (.bin .add (.slice (.var 0) .none (.some (.int 4))) (.tup (.cons (.tup (.cons (.var 2) (.cons (.var 1) .nil))) (.cons (.idx (.var 0) (.int 5)) .nil)))) .nil))) (.cons (.append 3 (.tup (.cons (.var 1) (.cons (.var 1) .nil)))) .nil) .nil) .nil)
/-- same_amounts: plan amount least found -/
def f270 : Fn := ⟨1, 4, false, (.cons (.expr (.call 123 (.cons (.var 0) .nil))) (.cons (.ife (.cmp .isN (.idx (.var 0) (.int 4)) .non) (.cons (.ret (.lst .nil)) .nil) .nil) (.cons (.par [2, 3] (.cons (.idx (.idx (.var 0) (.int 4)) (.int 0)) (.cons (.lst .nil) .nil))) (.cons (.for_ t270_0 (.range (.cons (.int 1) (.cons (.bin .add (.glo (Str.ofString "MAX_AMOUNT") (1000)) (.int 1)) .nil))) b270_0) (.cons (.ret (.call 109 (.cons (.var 3) .nil))) .nil)))))⟩
def t271_0 : Tg := (.tup [(.name 8), (.name 9), (.name 10), (.name 11)])
def b271_0 : ISs := (.cons (.ife (.cmp .gt (.var 11) (.var 6)) (.cons (.asg (.name 12) (.call 80 (.cons (.var 0) (.cons (.var 8) (.cons (.var 9) (.cons (.var 11) .nil)))))) (.cons (.ife (.boolop false (.cons (.cmp .isN (.var 2) .non) (.cons (.cmp .lt (.tup (.cons (.bin .sub (.var 6) (.var 11)) (.cons (.var 12) (.cons (.var 4) .nil)))) (.var 2)) .nil))) (.cons (.asg (.name 2) (.tup (.cons (.bin .sub (.var 6) (.var 11)) (.cons (.var 12) (.cons (.var 4) .nil))))) .nil) .nil) .nil)) .nil) .nil)
def t271_1 : Tg := (.tup [(.name 3), (.tup [(.name 4), (.name 5), (.name 6), (.name 7)])])
def b271_1 : ISs := (.cons (.for_ t271_0 (.seq (.slice (.var 1) .none (.some (.var 3)))) b271_0) .nil)
/-- worst_pair: plan rows best at first last begin end less_first less_last less_begin less_end less -/
def f271 : Fn := ⟨1, 13, false, (.cons (.expr (.call 123 (.cons (.var 0) .nil))) (.cons (.par [1, 2] (.cons (.call 79 (.cons (.var 0) .nil)) (.cons .non .nil))) (.cons (.for_ t271_1 (.enum (.var 1)) b271_1) (.cons (.ret (.ife (.cmp .isN (.var 2) .non) .non (.tup (.cons (.neg (.idx (.var 2) (.int 0))) (.cons (.idx (.var 2) (.int 1)) (.cons (.idx (.var 2) (.int 2)) .nil)))))) .nil))))⟩
def x272_0 : IE := (.idx (.var 9) (.int 2))
def u272_0 : Tg := (.name 9)
def i272_0 : IT := (.seq (.slice (.var 1) (.some (.bin .add (.var 3) (.int 1))) .none))
def c272_0 : IEs := .nil
def t272_0 : Tg := (.tup [(.name 3), (.tup [(.name 5), (.name 6), (.name 7), (.name 8)])])
def b272_0 : ISs := (.cons (.asg (.name 4) (.comp x272_0 u272_0 i272_0 c272_0 [9])) (.cons (.ife (.boolop true (.cons (.cmp .ne (.var 4) (.lst .nil)) (.cons (.cmp .gt (.var 8) (.blt .minL (.cons (.var 4) .nil))) .nil))) (.cons (.append 2 (.tup (.cons (.call 80 (.cons (.var 0) (.cons (.var 5) (.cons (.var 6) (.cons (.bin .add (.blt .minL (.cons (.var 4) .nil)) (.int 1)) .nil))))) (.cons (.var 6) .nil)))) .nil) .nil) .nil))
/-- losing_ranges: plan rows found at later first last begin end row -/
def f272 : Fn := ⟨1, 10, false, (.cons (.expr (.call 123 (.cons (.var 0) .nil))) (.cons (.par [1, 2] (.cons (.call 79 (.cons (.var 0) .nil)) (.cons (.lst .nil) .nil))) (.cons (.for_ t272_0 (.enum (.var 1)) b272_0) (.cons (.ret (.call 109 (.cons (.var 2) .nil))) .nil))))⟩
/- 273 _law_one: call of Subscript -/
/-- _law_one: call some -/
def f273 : Fn := ⟨2, 2, false, (.cons .raise .nil)⟩
/- 274 _law_outcome: statement Try -/
/-- _law_outcome: call some -/
def f274 : Fn := ⟨2, 2, false, (.cons .raise .nil)⟩
/- 275 _law_outcomes: call of Attribute join -/
/-- _law_outcomes: some -/
def f275 : Fn := ⟨1, 1, false, (.cons .raise .nil)⟩
def x276_0 : IE := (.int 1)
def u276_0 : Tg := (.tup [(.name 1), (.name 2), (.name 3)])
def i276_0 : IT := (.seq (.var 0))
def c276_0 : IEs := (.cons (.cmp .ne (.call 274 (.cons (.var 1) (.cons (.var 2) .nil))) (.var 3)) .nil)
/-- _law_rows_right: rows call some word -/
def f276 : Fn := ⟨1, 4, false, (.cons (.ret (.cmp .eq (.comp x276_0 u276_0 i276_0 c276_0 [1, 2, 3]) (.lst .nil))) .nil)⟩
def t277_0 : Tg := (.name 3)
def b277_0 : ISs := (.cons (.asg (.name 4) (.call 6 (.cons (.var 0) (.cons (.var 3) .nil)))) (.cons (.asg (.name 5) (.callio 9 4 (.cons (.lst (.cons .non (.cons (.bl true) (.cons (.lst (.cons (.tup .nil) .nil)) (.cons (.str (Str.ofString "parts")) (.cons (.tup (.cons (.tup (.cons (.int 1) (.cons (.int 2) .nil))) .nil)) (.cons (.neg (.bin .pow (.int 10) (.int 30))) (.cons (.bin .mul (.tup (.cons (.int 0) .nil)) (.int 6)) (.cons (.blt .list (.cons (.var 1) .nil)) (.cons (.slice (.var 1) .none (.some (.int 5))) .nil)))))))))) .nil))) (.cons (.ife (.cmp .ne (.call 275 (.cons (.tup (.cons (.var 5) (.cons (.var 5) .nil))) .nil)) (.bin .add (.bin .mul (.str (Str.ofString "plan ")) (.int 10)) (.str (Str.ofString "plan")))) (.cons (.ret (.bl false)) .nil) .nil) (.cons (.asg (.name 6) (.callio 14 4 (.cons (.int 200) .nil))) (.cons (.ife (.cmp .ne (.call 275 (.cons (.tup (.cons (.var 6) (.cons (.var 5) .nil))) .nil)) (.str (Str.ofString "fine fine fine fine plan plan plan plan plan number index"))) (.cons (.ret (.bl false)) .nil) .nil) (.cons (.ife (.boolop false (.cons (.cmp .ne (.call 274 (.cons (.int 4) (.cons (.tup (.cons (.tup (.cons (.var 6) (.cons (.var 5) .nil))) (.cons (.var 5) .nil))) .nil))) (.str (Str.ofString "plan"))) (.cons (.cmp .ne (.call 274 (.cons (.int 4) (.cons (.tup (.cons (.tup (.cons (.var 6) (.cons (.var 6) .nil))) (.cons (.var 5) .nil))) .nil))) (.str (Str.ofString "fine"))) .nil))) (.cons (.ret (.bl false)) .nil) .nil) .nil))))))
def r277_0 : ISs := (.cons (.ret (.bl true)) .nil)
/-- law: script good rows k source odd p -/
def f277 : Fn := ⟨1, 7, false, (.cons (.asg (.name 1) (.tup (.cons (.tup (.cons (.tup (.cons (.int 0) (.cons (.int 10) .nil))) (.cons (.tup (.cons (.int 1000) (.cons (.int 20) .nil))) .nil))) (.cons (.str (Str.ofString "parts")) (.cons (.str (Str.ofString "down")) (.cons (.tup (.cons (.int 3) (.cons (.int 5) .nil))) (.cons (.tup (.cons (.int 100) (.cons (.int 2) .nil))) (.cons (.int 50) .nil)))))))) (.cons (.asg (.name 2) (.lst (.cons (.tup (.cons (.int 9) (.cons (.tup (.cons (.var 1) (.cons (.int 0) .nil))) (.cons (.str (Str.ofString "fine")) .nil)))) (.cons (.tup (.cons (.int 9) (.cons (.tup (.cons (.var 1) (.cons (.bin .pow (.int 10) (.int 9)) .nil))) (.cons (.str (Str.ofString "fine")) .nil)))) (.cons (.tup (.cons (.int 9) (.cons (.tup (.cons (.var 1) (.cons (.bin .add (.bin .pow (.int 10) (.int 9)) (.int 1)) .nil))) (.cons (.str (Str.ofString "number")) .nil)))) .nil))))) (.cons (.asg (.name 2) (.bin .add (.var 2) (.lst (.cons (.tup (.cons (.int 9) (.cons (.tup (.cons (.var 1) (.cons (.neg (.int 1)) .nil))) (.cons (.str (Str.ofString "number")) .nil)))) (.cons (.tup (.cons (.int 9) (.cons (.tup (.cons (.var 1) (.cons (.bl true) .nil))) (.cons (.str (Str.ofString "number")) .nil)))) (.cons (.tup (.cons (.int 10) (.cons (.tup (.cons (.var 1) (.cons (.int 1) .nil))) (.cons (.str (Str.ofString "fine")) .nil)))) .nil)))))) (.cons (.asg (.name 2) (.bin .add (.var 2) (.lst (.cons (.tup (.cons (.int 10) (.cons (.tup (.cons (.var 1) (.cons (.int 2) .nil))) (.cons (.str (Str.ofString "index")) .nil)))) (.cons (.tup (.cons (.int 10) (.cons (.tup (.cons (.var 1) (.cons (.neg (.int 1)) .nil))) (.cons (.str (Str.ofString "index")) .nil)))) (.cons (.tup (.cons (.int 10) (.cons (.tup (.cons (.var 1) (.cons (.bl true) .nil))) (.cons (.str (Str.ofString "index")) .nil)))) .nil)))))) (.cons (.asg (.name 2) (.bin .add (.var 2) (.lst (.cons (.tup (.cons (.int 4) (.cons (.tup (.cons (.bin .mul (.tup (.cons (.var 1) .nil)) (.int 5)) (.cons (.int 0) .nil))) (.cons (.str (Str.ofString "fine")) .nil)))) (.cons (.tup (.cons (.int 4) (.cons (.tup (.cons (.bin .mul (.tup (.cons (.var 1) .nil)) (.int 6)) (.cons (.int 0) .nil))) (.cons (.str (Str.ofString "plan")) .nil)))) (.cons (.tup (.cons (.int 4) (.cons (.tup (.cons (.tup .nil) (.cons (.int 0) .nil))) (.cons (.str (Str.ofString "plan")) .nil)))) .nil)))))) (.cons (.asg (.name 2) (.bin .add (.var 2) (.lst (.cons (.tup (.cons (.int 4) (.cons (.tup (.cons (.lst (.cons (.var 1) .nil)) (.cons (.int 0) .nil))) (.cons (.str (Str.ofString "plan")) .nil)))) (.cons (.tup (.cons (.int 4) (.cons (.tup (.cons (.tup (.cons (.var 1) (.cons (.slice (.var 1) .none (.some (.int 5))) .nil))) (.cons (.int 0) .nil))) (.cons (.str (Str.ofString "plan")) .nil)))) (.cons (.tup (.cons (.int 5) (.cons (.tup (.cons (.var 1) (.cons (.var 1) .nil))) (.cons (.str (Str.ofString "fine")) .nil)))) .nil)))))) (.cons (.ife (.not (.call 276 (.cons (.var 2) .nil))) (.cons (.ret (.bl false)) .nil) .nil) (.cons (.for_ t277_0 (.range (.cons (.blt .max2 (.cons (.int 4) (.cons (.blt .min2 (.cons (.int 10) (.cons (.blt .len (.cons (.var 0) .nil)) .nil))) .nil))) .nil)) b277_0) r277_0))))))))⟩
/-- _law_rate_right: rate lead_so flat own first top -/
def f278 : Fn := ⟨1, 6, false, (.cons (.par [2, 3] (.cons (.tup (.cons (.tup (.cons (.tup (.cons (.int 0) (.cons (.int 0) .nil))) .nil)) (.cons (.str (Str.ofString "parts")) (.cons (.str (Str.ofString "down")) (.cons .non (.cons .non (.cons (.int 0) .nil))))))) (.cons (.tup (.cons (.tup (.cons (.tup (.cons (.int 0) (.cons (.var 0) .nil))) .nil)) (.cons (.str (Str.ofString "parts")) (.cons (.str (Str.ofString "down")) (.cons .non (.cons .non (.cons (.int 0) .nil))))))) .nil))) (.cons (.par [4, 5] (.cons (.bin .fdiv (.bin .sub (.bin .add (.int 1000) (.var 0)) (.int 1)) (.var 0)) (.cons (.bin .pow (.int 10) (.int 9)) .nil))) (.cons (.ife (.boolop false (.cons (.cmp .ne (.call 268 (.cons (.var 2) .nil)) (.lst (.cons (.tup (.cons (.int 0) (.cons (.var 5) .nil))) .nil))) (.cons (.cmp .ne (.call 268 (.cons (.var 3) .nil)) (.lst (.cons (.tup (.cons (.int 0) (.cons (.bin .sub (.var 4) (.int 1)) .nil))) .nil))) (.cons (.cmp .ne (.call 267 (.cons (.var 3) (.cons (.var 2) .nil))) (.int 0)) .nil)))) (.cons (.ret (.bl false)) .nil) .nil) (.cons (.ife (.boolop false (.cons (.cmp .ne (.call 132 (.cons (.var 3) (.cons (.var 2) .nil))) (.var 4)) (.cons (.cmp .ne (.call 132 (.cons (.var 2) (.cons (.var 3) .nil))) (.var 4)) (.cons (.cmp .notN (.call 267 (.cons (.var 2) (.cons (.var 3) .nil))) .non) .nil)))) (.cons (.ret (.bl false)) .nil) .nil) (.cons (.asg (.name 1) (.bin .mul (.var 0) (.bin .pow (.int 10) (.int 6)))) (.cons (.ife (.boolop false (.cons (.cmp .ne (.call 265 (.cons (.var 3) (.cons (.var 2) .nil))) (.tup (.cons (.var 1) (.cons (.var 5) .nil)))) (.cons (.cmp .ne (.call 265 (.cons (.var 2) (.cons (.var 3) .nil))) (.tup (.cons (.int 0) (.cons (.int 0) .nil)))) .nil))) (.cons (.ret (.bl false)) .nil) .nil) (.cons (.ife (.boolop false (.cons (.cmp .ne (.call 269 (.cons (.var 3) (.cons (.bin .sub (.var 4) (.int 1)) .nil))) (.tup (.cons (.bin .sub (.var 4) (.int 1)) (.cons (.int 1) .nil)))) (.cons (.cmp .notN (.call 269 (.cons (.var 3) (.cons (.var 4) .nil))) .non) .nil))) (.cons (.ret (.bl false)) .nil) .nil) (.cons (.ife (.boolop false (.cons (.cmp .notN (.call 271 (.cons (.var 3) .nil)) .non) (.cons (.cmp .ne (.call 272 (.cons (.var 3) .nil)) (.lst .nil)) (.cons (.cmp .ne (.call 270 (.cons (.var 3) .nil)) (.lst .nil)) .nil)))) (.cons (.ret (.bl false)) .nil) .nil) (.cons (.ret (.boolop true (.cons (.cmp .eq (.call 134 (.cons (.var 3) (.cons (.int 0) .nil))) (.lst (.cons (.tup (.cons (.var 0) (.cons (.var 0) .nil))) .nil))) (.cons (.cmp .eq (.call 134 (.cons (.var 2) (.cons (.int 0) .nil))) (.lst (.cons (.tup (.cons (.int 0) (.cons (.int 0) .nil))) .nil))) .nil)))) .nil)))))))))⟩
def x279_0 : IE := (.var 4)
def u279_0 : Tg := (.name 4)
def i279_0 : IT := (.range (.cons (.int 1000) .nil))
def c279_0 : IEs := (.cons (.cmp .gt (.bin .add (.var 4) (.bin .fdiv (.bin .mul (.var 0) (.var 4)) (.int 1000))) (.int 1000)) .nil)
def x279_1 : IE := (.var 5)
def u279_1 : Tg := (.name 5)
def i279_1 : IT := (.range (.cons (.int 1) (.cons (.int 133) .nil)))
def c279_1 : IEs := (.cons (.cmp .ne (.bin .mod (.blt .int (.cons (.var 5) .nil)) (.int 12)) (.int 0)) .nil)
/-- _law_drop_right: rate p loss low amount number -/
def f279 : Fn := ⟨1, 6, false, (.cons (.asg (.name 1) (.tup (.cons (.tup (.cons (.tup (.cons (.int 0) (.cons (.var 0) .nil))) (.cons (.tup (.cons (.int 1000) (.cons (.int 0) .nil))) .nil))) (.cons (.str (Str.ofString "whole")) (.cons (.str (Str.ofString "down")) (.cons .non (.cons .non (.cons (.int 0) .nil)))))))) (.cons (.asg (.name 2) (.bin .sub (.bin .fdiv (.bin .mul (.int 999) (.var 0)) (.int 1000)) (.int 1))) (.cons (.ife (.cmp .lt (.var 2) (.int 1)) (.cons (.ret (.boolop true (.cons (.cmp .isN (.call 271 (.cons (.var 1) .nil)) .non) (.cons (.cmp .eq (.call 272 (.cons (.var 1) .nil)) (.lst .nil)) .nil)))) .nil) .nil) (.cons (.asg (.name 3) (.idx (.comp x279_0 u279_0 i279_0 c279_0 [4]) (.int 0))) (.cons (.ife (.boolop false (.cons (.cmp .ne (.call 271 (.cons (.var 1) .nil)) (.tup (.cons (.var 2) (.cons (.int 999) (.cons (.int 1000) .nil))))) (.cons (.cmp .ne (.call 272 (.cons (.var 1) .nil)) (.lst (.cons (.tup (.cons (.var 3) (.cons (.int 999) .nil))) .nil))) .nil))) (.cons (.ret (.bl false)) .nil) .nil) (.cons (.ife (.cmp .ne (.call 268 (.cons (.var 1) .nil)) (.lst (.cons (.tup (.cons (.int 0) (.cons (.bin .sub (.bin .fdiv (.bin .sub (.bin .add (.int 1000) (.var 0)) (.int 1)) (.var 0)) (.int 1)) .nil))) (.cons (.tup (.cons (.int 1000) (.cons (.bin .pow (.int 10) (.int 9)) .nil))) .nil)))) (.cons (.ret (.bl false)) .nil) .nil) (.cons (.ret (.cmp .eq (.call 133 (.cons (.var 1) (.cons (.bin .add (.bin .add (.slice (.var 1) .none (.some (.int 3))) (.tup (.cons (.tup (.cons (.int 12) (.cons (.int 3) .nil))) .nil))) (.slice (.var 1) (.some (.int 4)) .none)) .nil))) (.comp x279_1 u279_1 i279_1 c279_1 [5]))) .nil)))))))⟩
def t280_0 : Tg := (.name 1)
def b280_0 : ISs := (.cons (.asg (.name 4) (.call 6 (.cons (.var 0) (.cons (.var 1) .nil)))) (.cons (.asg (.name 5) (.bin .add (.int 1) (.callio 7 4 (.cons (.int 100) .nil)))) (.cons (.ife (.boolop false (.cons (.not (.call 278 (.cons (.var 5) .nil))) (.cons (.not (.call 279 (.cons (.var 5) .nil))) .nil))) (.cons (.ret (.bl false)) .nil) .nil) .nil)))
def r280_0 : ISs := (.cons (.asg (.name 2) (.tup (.cons (.tup (.cons (.tup (.cons (.int 0) (.cons (.int 0) .nil))) (.cons (.tup (.cons (.int 100) (.cons (.int 1) .nil))) (.cons (.tup (.cons (.int 200) (.cons (.int 0) .nil))) .nil)))) (.cons (.str (Str.ofString "parts")) (.cons (.str (Str.ofString "down")) (.cons .non (.cons .non (.cons (.int 0) .nil)))))))) (.cons (.ife (.boolop false (.cons (.cmp .ne (.call 134 (.cons (.var 2) (.cons (.int 1) .nil))) (.lst (.cons (.tup (.cons (.int 0) (.cons (.int 9) .nil))) .nil))) (.cons (.cmp .ne (.call 270 (.cons (.bin .add (.slice (.var 2) .none (.some (.int 4))) (.tup (.cons (.tup (.cons (.int 50) (.cons (.int 60) .nil))) (.cons (.int 0) .nil)))) .nil)) (.lst (.cons (.tup (.cons (.int 49) (.cons (.int 1000) .nil))) .nil))) .nil))) (.cons (.ret (.bl false)) .nil) .nil) (.cons (.asg (.name 3) (.bin .add (.tup (.cons (.tup (.cons (.tup (.cons (.int 0) (.cons (.int 0) .nil))) .nil)) .nil)) (.slice (.var 2) (.some (.int 1)) .none))) (.cons (.ife (.boolop false (.cons (.cmp .ne (.call 135 (.cons (.tup (.cons (.var 2) (.cons (.var 3) (.cons (.bin .add (.slice (.var 2) .none (.some (.int 5))) (.tup (.cons (.int 1) .nil))) .nil)))) .nil)) (.lst (.cons (.tup (.cons (.int 0) (.cons (.int 1) .nil))) (.cons (.tup (.cons (.int 2) .nil)) .nil)))) (.cons (.cmp .ne (.call 132 (.cons (.var 2) (.cons (.var 3) .nil))) (.bin .add (.bin .pow (.int 10) (.int 9)) (.int 1))) .nil))) (.cons (.ret (.bl false)) .nil) .nil) (.cons (.ret (.boolop true (.cons (.cmp .eq (.call 265 (.cons (.var 3) (.cons (.var 2) .nil))) (.tup (.cons (.int 0) (.cons (.int 0) .nil)))) (.cons (.cmp .eq (.call 133 (.cons (.var 2) (.cons (.var 3) .nil))) (.blt .range2 (.cons (.int 1) (.cons (.int 133) .nil)))) .nil)))) .nil)))))
/-- law: script k thin flat source rate -/
def f280 : Fn := ⟨1, 6, false, (.cons (.for_ t280_0 (.range (.cons (.blt .max2 (.cons (.int 4) (.cons (.blt .min2 (.cons (.int 10) (.cons (.blt .len (.cons (.var 0) .nil)) .nil))) .nil))) .nil)) b280_0) r280_0)⟩
end PV
set_option Elab.async false
set_option linter.all false
set_option maxRecDepth 100000
/-! Plans and months, plain. -/
namespace PV
structure Plan where
  bands : List (Int × Int)
  whole : Bool
  half : Bool
  bonus : Option (Int × Int)
  fee : Option (Int × Int)
  charge : Int
/-- what is asked of a plan's numbers -/
structure Plan.Ok (p : Plan) : Prop where
  ne : p.bands ≠ []
  len : p.bands.length ≤ 5
  first : (p.bands.head?.map (·.1)) = some 0
  ris : (p.bands.map (·.1)).Pairwise (· < ·)
  band : ∀ b ∈ p.bands, 0 ≤ b.1 ∧ b.1 ≤ 1000000 ∧ 0 ≤ b.2 ∧ b.2 ≤ 100
  bonus : ∀ b, p.bonus = some b → 1 ≤ b.1 ∧ b.1 ≤ 12 ∧ 1 ≤ b.2 ∧ b.2 ≤ 100
  fee : ∀ b, p.fee = some b → 1 ≤ b.1 ∧ b.1 ≤ 1000000 ∧ 1 ≤ b.2 ∧ b.2 ≤ 1000
  charge : 0 ≤ p.charge ∧ p.charge ≤ 500
def isDue (p : Plan) (idle : Int) : Bool := match p.bonus with
  | none => false
  | some b => decide (0 < idle) && decide (idle % b.1 = 0)
/-- max(0, min(base, end) - start) -/
def part (base e s : Int) : Int := max 0 (min base e - s)
def endsOf (bands : List (Int × Int)) (base : Int) : List Int := (bands.drop 1).map (·.1) ++ [max base (bands.getLast?.getD (0, 0)).1]
/-- the rate of the last band at or below base -/
def topRate (p : Plan) (base : Int) : Int := ((p.bands.filter fun b => decide (b.1 ≤ base)).getLast?.getD (0, 0)).2
def partSum (p : Plan) (base : Int) : Int := ((p.bands.zip (endsOf p.bands base)).map fun x => x.1.2 * part base x.2 x.1.1).sum
def plain (p : Plan) (base : Int) : Int := if p.whole = true then base * topRate p base else partSum p base
def thousandths (p : Plan) (base : Int) (due : Bool) : Int := if due = true then plain p base + base * (p.bonus.getD (0, 0)).2 else plain p base
def interestOf (p : Plan) (base : Int) (due : Bool) : Int := if p.half = true then (thousandths p base due + 500) / 1000 else thousandths p base due / 1000
def balanceFrom (p : Plan) (base : Int) (due : Bool) : Int :=
  let found := base + interestOf p base due
  match p.fee with
  | none => found
  | some f => if base < f.1 then max 0 (found - f.2) else found
def keptOf (p : Plan) (taken : Int) : Int := (taken * p.charge + 999) / 1000
/-- got, balance, idle -/
def monthOf (p : Plan) (b : Int × Int) (payment : Int) : Int × Int × Int :=
  if payment < 0 then
    let taken := min b.1 (-payment)
    (taken - keptOf p taken, balanceFrom p (b.1 - taken) false, 0)
  else (0, balanceFrom p (b.1 + payment) (isDue p (b.2 + 1)), b.2 + 1)
theorem Plan.Ok.head {p : Plan} (ok : p.Ok) : ∃ r bs, p.bands = (0, r) :: bs := by
  cases h : p.bands with
  | nil => exact absurd h ok.ne
  | cons b bs =>
    have := ok.first
    rw [h] at this
    have e : b.1 = 0 := Option.some.inj this
    exact ⟨b.2, bs, by rw [← e]⟩
theorem filt_ne {p : Plan} (ok : p.Ok) {base : Int} (hb : 0 ≤ base) : p.bands.filter (fun b => decide (b.1 ≤ base)) ≠ [] := by
  obtain ⟨r, bs, e⟩ := ok.head
  rw [e, List.filter_cons, if_pos (by simpa using hb)]
  exact fun z => nomatch z
theorem last_mem {α : Type} {l : List α} (h : l ≠ []) (d : α) : l.getLast?.getD d ∈ l ∧ l.getLast? = some (l.getLast?.getD d) := by
  rw [List.getLast?_eq_some_getLast h]
  exact ⟨List.getLast_mem h, rfl⟩
theorem isDue_bonus {p : Plan} {i : Int} (h : isDue p i = true) : p.bonus ≠ none := by
  intro z
  unfold isDue at h
  rw [z] at h
  cases h
theorem sum_nonneg : ∀ l : List Int, (∀ x ∈ l, 0 ≤ x) → 0 ≤ l.sum
  | [], _ => by simp
  | x :: r, h => by
    rw [List.sum_cons]
    have := h x List.mem_cons_self
    have := sum_nonneg r fun y hy => h y (List.mem_cons_of_mem _ hy)
    omega
theorem plain_nonneg {p : Plan} (ok : p.Ok) {base : Int} (hb : 0 ≤ base) : 0 ≤ plain p base := by
  unfold plain
  split
  · have := ok.band _ (List.mem_filter.mp (last_mem (filt_ne ok hb) (0, 0)).1).1
    exact Int.mul_nonneg hb this.2.2.1
  · refine sum_nonneg _ fun x hx => ?_
    obtain ⟨a, ha, rfl⟩ := List.mem_map.mp hx
    have := ok.band a.1 (List.of_mem_zip ha).1
    exact Int.mul_nonneg this.2.2.1 (by unfold part; omega)
theorem thousandths_nonneg {p : Plan} (ok : p.Ok) {base : Int} (hb : 0 ≤ base) {due : Bool} : 0 ≤ thousandths p base due := by
  have h1 := plain_nonneg ok hb
  unfold thousandths
  split
  · have : 0 ≤ (p.bonus.getD (0, 0)).2 := by
      cases hbo : p.bonus with
      | none => exact Int.le_refl 0
      | some b => have := ok.bonus b hbo; show 0 ≤ b.2; omega
    have := Int.mul_nonneg hb this
    omega
  · exact h1
theorem balance_nonneg {p : Plan} (ok : p.Ok) {base : Int} (hb : 0 ≤ base) {due : Bool} : 0 ≤ balanceFrom p base due := by
  have h1 := thousandths_nonneg ok hb (due := due)
  have h2 : 0 ≤ base + interestOf p base due := by unfold interestOf; split <;> omega
  unfold balanceFrom
  cases p.fee with
  | none => exact h2
  | some f =>
    show 0 ≤ if base < f.1 then max 0 (base + interestOf p base due - f.2) else base + interestOf p base due
    split <;> omega
end PV
set_option Elab.async false
set_option linter.all false
set_option maxRecDepth 100000
/-! Stretches and lines. -/
namespace PV
/-! ### stretches -/
def stc : List Int → List (Int × Option Int)
  | [] => []
  | [a] => [(a, none)]
  | a :: b :: r => (a, some (b - 1)) :: stc (b :: r)
def inS (s : Int × Option Int) (x : Int) : Prop := s.1 ≤ x ∧ ∀ l, s.2 = some l → x ≤ l
theorem stc_mem : ∀ {l : List Int}, l.Pairwise (· < ·) → ∀ {s}, s ∈ stc l → s.1 ∈ l ∧ (∀ e ∈ l, e ≤ s.1 ∨ ∃ m, s.2 = some m ∧ m < e) ∧ (∀ m, s.2 = some m → s.1 ≤ m ∧ m + 1 ∈ l)
  | [], _, s, h => by cases h
  | [a], _, s, h => by
    have : s = (a, none) := by simpa [stc] using h
    subst this
    refine ⟨by simp, fun e he => ?_, fun m hm => by cases hm⟩
    rw [List.mem_singleton.mp he]
    exact .inl (Int.le_refl _)
  | a :: b :: r, hp, s, h => by
    have hp' := List.pairwise_cons.mp hp
    have hab := hp'.1 b (by simp)
    rcases List.mem_cons.mp (show s ∈ (a, some (b - 1)) :: stc (b :: r) from h) with z | z
    · subst z
      refine ⟨by simp, fun e he => ?_, fun m hm => ?_⟩
      · rcases List.mem_cons.mp he with z | z
        · exact .inl (by rw [z]; exact Int.le_refl _)
        · refine .inr ⟨b - 1, rfl, ?_⟩
          rcases List.mem_cons.mp z with z | z
          · omega
          · have := (List.pairwise_cons.mp hp'.2).1 e z
            omega
      · cases hm
        exact ⟨by dsimp only; omega, by simp⟩
    · obtain ⟨h1, h2, h3⟩ := stc_mem hp'.2 z
      refine ⟨List.mem_cons_of_mem _ h1, fun e he => ?_, fun m hm => ⟨(h3 m hm).1, List.mem_cons_of_mem _ (h3 m hm).2⟩⟩
      rcases List.mem_cons.mp he with z | z
      · have := hp'.1 _ h1
        exact .inl (by omega)
      · exact h2 e z
theorem stc_cover : ∀ {l : List Int} {a x : Int}, l.Pairwise (· < ·) → l.head? = some a → a ≤ x → ∃ s ∈ stc l, inS s x
  | [], _, _, _, h, _ => by cases h
  | [b], a, x, _, h, hx => by
    cases h
    exact ⟨(b, none), by simp [stc], hx, fun _ z => by cases z⟩
  | b :: c :: r, a, x, hp, h, hx => by
    cases h
    by_cases hc : x < c
    · exact ⟨(b, some (c - 1)), by simp [stc], hx, fun _ z => by cases z; omega⟩
    · obtain ⟨s, hs, h⟩ := stc_cover (List.pairwise_cons.mp hp).2 (a := c) (x := x) rfl (by omega)
      exact ⟨s, List.mem_cons_of_mem _ hs, h⟩
theorem stc_ne {l : List Int} (h : l ≠ []) : stc l ≠ [] := by
  cases l with
  | nil => exact absurd rfl h
  | cons a r => cases r <;> simp [stc]
/-! ### lines -/
def edgesOf (p : Plan) : List Int := p.bands.map (·.1) ++ (match p.fee with | some f => [f.1] | none => [])
def bandsTo (p : Plan) (base : Int) : List (Int × Int) := p.bands.filter fun b => decide (b.1 ≤ base)
def lowSum (bs : List (Int × Int)) : Int := ((bs.zip (bs.drop 1)).map fun x => x.1.2 * (x.2.1 - x.1.1)).sum
def lastB (bs : List (Int × Int)) : Int × Int := bs.getLast?.getD (0, 0)
def rest0 (p : Plan) (base : Int) : Int := if p.whole = true then 0 else lowSum (bandsTo p base) - (lastB (bandsTo p base)).2 * (lastB (bandsTo p base)).1
def rest1 (p : Plan) (base : Int) : Int := if p.half = true then rest0 p base + 500 else rest0 p base
def rest2 (p : Plan) (base : Int) : Int := match p.fee with
  | none => rest1 p base
  | some f => if base < f.1 then rest1 p base - 1000 * f.2 else rest1 p base
def bonusRate (p : Plan) (due : Bool) : Int := if due = true then (p.bonus.getD (0, 0)).2 else 0
def wholeLine (p : Plan) (base : Int) (due : Bool) : Int × Int := (1000 + (lastB (bandsTo p base)).2 + bonusRate p due, rest2 p base)
def lineAt (p : Plan) (base : Int) (due : Bool) : Int × Int := if 0 ≤ (wholeLine p base due).1 * base + (wholeLine p base due).2 then wholeLine p base due else (0, 0)
def valueAt (l : Int × Int) (x : Int) : Int := (l.1 * x + l.2) / 1000
/-- the parts by recursion -/
def psum (base : Int) : List (Int × Int) → Int
  | [] => 0
  | [b] => b.2 * max 0 (base - b.1)
  | b :: c :: r => b.2 * part base c.1 b.1 + psum base (c :: r)
theorem psum_eq (base : Int) : ∀ (l : List (Int × Int)), ((l.zip (endsOf l base)).map fun x => x.1.2 * part base x.2 x.1.1).sum = psum base l
  | [] => rfl
  | [b] => by
    have : part base (max base b.1) b.1 = max 0 (base - b.1) := by unfold part; omega
    simp [endsOf, psum, this]
  | b :: c :: r => by
    have ih := psum_eq base (c :: r)
    rw [psum, ← ih]
    have e : endsOf (b :: c :: r) base = c.1 :: endsOf (c :: r) base := by simp [endsOf]
    rw [e]
    simp
theorem psum_low {base : Int} : ∀ {l : List (Int × Int)}, (l.map (·.1)).Pairwise (· < ·) → (∀ b ∈ l, base < b.1) → psum base l = 0
  | [], _, _ => rfl
  | [b], _, h => by
    have := h b (by simp)
    have : max 0 (base - b.1) = 0 := by omega
    rw [psum, this, Int.mul_zero]
  | b :: c :: r, hp, h => by
    have h1 := h b (by simp)
    have h2 : b.1 < c.1 := (List.pairwise_cons.mp hp).1 c.1 (by simp)
    have : part base c.1 b.1 = 0 := by unfold part; omega
    rw [psum, this, Int.mul_zero, psum_low (List.pairwise_cons.mp hp).2 fun x hx => h x (List.mem_cons_of_mem _ hx)]
    rfl
theorem lastB_cons {b : Int × Int} {l : List (Int × Int)} (h : l ≠ []) : lastB (b :: l) = lastB l := by
  unfold lastB
  cases l with
  | nil => exact absurd rfl h
  | cons c r => rw [List.getLast?_cons_cons]
theorem filt_nil {base : Int} {l : List (Int × Int)} (h : ∀ b ∈ l, base < b.1) : l.filter (fun b => decide (b.1 ≤ base)) = [] := by
  rw [List.filter_eq_nil_iff]
  intro b hb
  have := h b hb
  simp
  omega
theorem psum_line {base : Int} : ∀ {b : Int × Int} {l : List (Int × Int)}, ((b :: l).map (·.1)).Pairwise (· < ·) → b.1 ≤ base →
    psum base (b :: l) = lowSum ((b :: l).filter fun b => decide (b.1 ≤ base)) + (lastB ((b :: l).filter fun b => decide (b.1 ≤ base))).2 * (base - (lastB ((b :: l).filter fun b => decide (b.1 ≤ base))).1)
  | b, [], _, h => by
    have e : ([b] : List (Int × Int)).filter (fun b => decide (b.1 ≤ base)) = [b] := by simp [h]
    have e2 : max 0 (base - b.1) = base - b.1 := by omega
    rw [e, psum, e2]
    simp [lowSum, lastB]
  | b, c :: r, hp, h => by
    have hp' := List.pairwise_cons.mp hp
    have hbc : b.1 < c.1 := hp'.1 c.1 (by simp)
    rw [psum, List.filter_cons, if_pos (by simpa using h)]
    by_cases hc : c.1 ≤ base
    · have ih := psum_line (base := base) (b := c) (l := r) hp'.2 hc
      have e1 : part base c.1 b.1 = c.1 - b.1 := by unfold part; omega
      have e2 : (c :: r).filter (fun b => decide (b.1 ≤ base)) = c :: r.filter (fun b => decide (b.1 ≤ base)) := by rw [List.filter_cons, if_pos (by simpa using hc)]
      rw [ih, e1, lastB_cons (by rw [e2]; exact fun z => nomatch z), e2]
      simp only [lowSum, List.drop_one, List.tail_cons, List.zip_cons_cons, List.map_cons, List.sum_cons]
      omega
    · have e1 : part base c.1 b.1 = base - b.1 := by unfold part; omega
      have hl : ∀ x ∈ c :: r, base < x.1 := fun x hx => by
        rcases List.mem_cons.mp hx with z | z
        · rw [z]; omega
        · have : c.1 < x.1 := (List.pairwise_cons.mp hp'.2).1 x.1 (List.mem_map.mpr ⟨x, z, rfl⟩)
          omega
      rw [e1, filt_nil hl, psum_low hp'.2 hl]
      simp [lowSum, lastB]
theorem plain_line {p : Plan} (ok : p.Ok) {base : Int} (hb : 0 ≤ base) : plain p base = (lastB (bandsTo p base)).2 * base + rest0 p base := by
  unfold plain rest0
  cases hw : p.whole with
  | true =>
    rw [if_pos rfl, if_pos rfl, Int.add_zero, Int.mul_comm]
    rfl
  | false =>
    rw [if_neg (by decide), if_neg (by decide)]
    unfold partSum
    rw [psum_eq]
    obtain ⟨r, bs, e⟩ := ok.head
    have hp := ok.ris
    rw [e] at hp
    have := psum_line (base := base) hp hb
    unfold bandsTo
    rw [e, this, Int.mul_sub]
    omega
/-- the balance of a base, by its own line -/
theorem balance_own {p : Plan} (ok : p.Ok) {base : Int} (hb : 0 ≤ base) {due : Bool} : balanceFrom p base due = max 0 (valueAt (wholeLine p base due) base) := by
  have h0 := thousandths_nonneg ok hb (due := due)
  have h1 : thousandths p base due = ((lastB (bandsTo p base)).2 + bonusRate p due) * base + rest0 p base := by
    unfold thousandths bonusRate
    have := plain_line ok hb
    split
    · rw [this, Int.add_mul, Int.mul_comm base]
      omega
    · rw [this, Int.add_zero]
  have h2 : valueAt (wholeLine p base due) base = (((lastB (bandsTo p base)).2 + bonusRate p due) * base + 1000 * base + rest2 p base) / 1000 := by
    unfold valueAt wholeLine
    dsimp only
    congr 1
    rw [Int.add_assoc, Int.add_mul, Int.add_comm (1000 * base)]
  rw [h2]
  generalize ((lastB (bandsTo p base)).2 + bonusRate p due) * base = A at *
  unfold balanceFrom rest2 rest1 interestOf
  cases hf : p.fee with
  | none =>
    dsimp only
    split <;> omega
  | some f =>
    dsimp only
    have := ok.fee f hf
    split <;> split <;> omega
theorem slope_pos {p : Plan} (ok : p.Ok) {base : Int} (hb : 0 ≤ base) {due : Bool} : 1000 ≤ (wholeLine p base due).1 ∧ (wholeLine p base due).1 ≤ 1200 := by
  have h1 := ok.band _ (List.mem_filter.mp (last_mem (filt_ne ok hb) (0, 0)).1).1
  have h2 : 0 ≤ bonusRate p due ∧ bonusRate p due ≤ 100 := by
    unfold bonusRate
    split
    · cases hbo : p.bonus with
      | none => exact ⟨Int.le_refl 0, (by decide : (0 : Int) ≤ 100)⟩
      | some b => have := ok.bonus b hbo; exact ⟨by show 0 ≤ b.2; omega, this.2.2.2⟩
    · omega
  unfold wholeLine lastB bandsTo
  dsimp only
  omega
/-- no edge between -/
def Clear (es : List Int) (x y : Int) : Prop := ∀ e ∈ es, ¬ (x < e ∧ e ≤ y)
theorem wholeLine_clear {p : Plan} {x y : Int} {due : Bool} (h : x ≤ y) (hc : Clear (edgesOf p) x y) : wholeLine p y due = wholeLine p x due := by
  have e : bandsTo p y = bandsTo p x := by
    unfold bandsTo
    refine List.filter_congr fun b hb => ?_
    have := hc b.1 (List.mem_append_left _ (List.mem_map.mpr ⟨b, hb, rfl⟩))
    rw [decide_eq_decide]
    omega
  have e1 : rest1 p y = rest1 p x := by
    unfold rest1 rest0
    rw [e]
  have e2 : rest2 p y = rest2 p x := by
    unfold rest2
    rw [e1]
    cases hf : p.fee with
    | none => rfl
    | some f =>
      have := hc f.1 (List.mem_append_right _ (by rw [hf]; simp))
      dsimp only
      by_cases hx : x < f.1
      · rw [if_pos hx, if_pos (by omega)]
      · rw [if_neg hx, if_neg (by omega)]
  unfold wholeLine
  rw [e, e2]
theorem div_mono {a b : Int} (h : a ≤ b) : a / 1000 ≤ b / 1000 := by omega
theorem value_mono {l : Int × Int} (hl : 0 ≤ l.1) {x y : Int} (h : x ≤ y) : valueAt l x ≤ valueAt l y := by
  unfold valueAt
  have := Int.mul_le_mul_of_nonneg_left h hl
  omega
theorem balance_mono_clear {p : Plan} (ok : p.Ok) {x y : Int} {due : Bool} (hx : 0 ≤ x) (h : x ≤ y) (hc : Clear (edgesOf p) x y) : balanceFrom p x due ≤ balanceFrom p y due := by
  rw [balance_own ok hx, balance_own ok (by omega), wholeLine_clear h hc]
  have := value_mono (l := wholeLine p x due) (by have := slope_pos ok hx (due := due); omega) h
  omega
theorem psum_mono {x y : Int} (h : x ≤ y) : ∀ {l : List (Int × Int)}, (∀ b ∈ l, 0 ≤ b.2) → psum x l ≤ psum y l
  | [], _ => Int.le_refl _
  | [b], hl => Int.mul_le_mul_of_nonneg_left (by omega) (hl b (by simp))
  | b :: c :: r, hl => by
    have ih := psum_mono h (l := c :: r) fun z hz => hl z (List.mem_cons_of_mem _ hz)
    have := Int.mul_le_mul_of_nonneg_left (show part x c.1 b.1 ≤ part y c.1 b.1 by unfold part; omega) (hl b (by simp))
    show b.2 * part x c.1 b.1 + psum x (c :: r) ≤ b.2 * part y c.1 b.1 + psum y (c :: r)
    omega
theorem thousandths_mono {p : Plan} (ok : p.Ok) (hw : p.whole = false) {x y : Int} {due : Bool} (h : x ≤ y) : thousandths p x due ≤ thousandths p y due := by
  have h1 : plain p x ≤ plain p y := by
    unfold plain
    rw [hw, if_neg (by decide), if_neg (by decide)]
    unfold partSum
    rw [psum_eq, psum_eq]
    exact psum_mono h fun b hb => (ok.band b hb).2.2.1
  unfold thousandths
  split
  · have : 0 ≤ (p.bonus.getD (0, 0)).2 := by
      cases hbo : p.bonus with
      | none => exact Int.le_refl 0
      | some b => have := ok.bonus b hbo; show 0 ≤ b.2; omega
    have := Int.mul_le_mul_of_nonneg_right h this
    omega
  · exact h1
theorem interest_mono {p : Plan} (ok : p.Ok) (hw : p.whole = false) {x y : Int} {due : Bool} (h : x ≤ y) : interestOf p x due ≤ interestOf p y due := by
  have := thousandths_mono ok hw h (due := due)
  unfold interestOf
  split <;> omega
theorem balance_mono_parts {p : Plan} (ok : p.Ok) (hw : p.whole = false) {x y : Int} {due : Bool} (hx : 0 ≤ x) (h : x ≤ y) : balanceFrom p x due ≤ balanceFrom p y due := by
  have h1 := interest_mono ok hw h (due := due)
  have h2 : 0 ≤ x + interestOf p x due := by
    have := thousandths_nonneg ok hx (due := due)
    unfold interestOf
    split <;> omega
  unfold balanceFrom
  cases hf : p.fee with
  | none => dsimp only; omega
  | some f =>
    have := ok.fee f hf
    dsimp only
    split <;> split <;> omega
end PV
set_option Elab.async false
set_option linter.all false
set_option maxRecDepth 100000
set_option maxHeartbeats 1000000
/-! The functions by number; the meaning's steps as rules of simp. -/
namespace PV
open PySem
def Ul : List Fn := [f0, f1, f2, f3, f4, f5, f6, f7, f8, f9, f10, f11, f12, f13, f14, f15, f16, f17, f18, f19, f20, f21, f22, f23, f24, f25, f26, f27, f28, f29, f30, f31, f32, f33, f34, f35, f36, f37, f38, f39, f40, f41, f42, f43, f44, f45, f46, f47, f48, f49, f50, f51, f52, f53, f54, f55, f56, f57, f58, f59, f60, f61, f62, f63, f64, f65, f66, f67, f68, f69, f70, f71, f72, f73, f74, f75, f76, f77, f78, f79, f80, f81, f82, f83, f84, f85, f86, f87, f88, f89, f90, f91, f92, f93, f94, f95, f96, f97, f98, f99, f100, f101, f102, f103, f104, f105, f106, f107, f108, f109, f110, f111, f112, f113, f114, f115, f116, f117, f118, f119, f120, f121, f122, f123, f124, f125, f126, f127, f128, f129, f130, f131, f132, f133, f134, f135, f136, f137, f138, f139, f140, f141, f142, f143, f144, f145, f146, f147, f148, f149, f150, f151, f152, f153, f154, f155, f156, f157, f158, f159, f160, f161, f162, f163, f164, f165, f166, f167, f168, f169, f170, f171, f172, f173, f174, f175, f176, f177, f178, f179, f180, f181, f182, f183, f184, f185, f186, f187, f188, f189, f190, f191, f192, f193, f194, f195, f196, f197, f198, f199, f200, f201, f202, f203, f204, f205, f206, f207, f208, f209, f210, f211, f212, f213, f214, f215, f216, f217, f218, f219, f220, f221, f222, f223, f224, f225, f226, f227, f228, f229, f230, f231, f232, f233, f234, f235, f236, f237, f238, f239, f240, f241, f242, f243, f244, f245, f246, f247, f248, f249, f250, f251, f252, f253, f254, f255, f256, f257, f258, f259, f260, f261, f262, f263, f264, f265, f266, f267, f268, f269, f270, f271, f272, f273, f274, f275, f276, f277, f278, f279, f280]
def U (i : Nat) : Option Fn := Ul[i]?
theorem u0 : U 0 = some f0 := rfl
theorem u1 : U 1 = some f1 := rfl
theorem u2 : U 2 = some f2 := rfl
theorem u3 : U 3 = some f3 := rfl
theorem u4 : U 4 = some f4 := rfl
theorem u5 : U 5 = some f5 := rfl
theorem u6 : U 6 = some f6 := rfl
theorem u7 : U 7 = some f7 := rfl
theorem u8 : U 8 = some f8 := rfl
theorem u9 : U 9 = some f9 := rfl
theorem u10 : U 10 = some f10 := rfl
theorem u11 : U 11 = some f11 := rfl
theorem u12 : U 12 = some f12 := rfl
theorem u13 : U 13 = some f13 := rfl
theorem u14 : U 14 = some f14 := rfl
theorem u15 : U 15 = some f15 := rfl
theorem u16 : U 16 = some f16 := rfl
theorem u17 : U 17 = some f17 := rfl
theorem u18 : U 18 = some f18 := rfl
theorem u19 : U 19 = some f19 := rfl
theorem u20 : U 20 = some f20 := rfl
theorem u21 : U 21 = some f21 := rfl
theorem u22 : U 22 = some f22 := rfl
theorem u23 : U 23 = some f23 := rfl
theorem u24 : U 24 = some f24 := rfl
theorem u25 : U 25 = some f25 := rfl
theorem u26 : U 26 = some f26 := rfl
theorem u27 : U 27 = some f27 := rfl
theorem u28 : U 28 = some f28 := rfl
theorem u29 : U 29 = some f29 := rfl
theorem u30 : U 30 = some f30 := rfl
theorem u31 : U 31 = some f31 := rfl
theorem u32 : U 32 = some f32 := rfl
theorem u33 : U 33 = some f33 := rfl
theorem u34 : U 34 = some f34 := rfl
theorem u35 : U 35 = some f35 := rfl
theorem u36 : U 36 = some f36 := rfl
theorem u37 : U 37 = some f37 := rfl
theorem u38 : U 38 = some f38 := rfl
theorem u39 : U 39 = some f39 := rfl
theorem u40 : U 40 = some f40 := rfl
theorem u41 : U 41 = some f41 := rfl
theorem u42 : U 42 = some f42 := rfl
theorem u43 : U 43 = some f43 := rfl
theorem u44 : U 44 = some f44 := rfl
theorem u45 : U 45 = some f45 := rfl
theorem u46 : U 46 = some f46 := rfl
theorem u47 : U 47 = some f47 := rfl
theorem u48 : U 48 = some f48 := rfl
theorem u49 : U 49 = some f49 := rfl
theorem u50 : U 50 = some f50 := rfl
theorem u51 : U 51 = some f51 := rfl
theorem u52 : U 52 = some f52 := rfl
theorem u53 : U 53 = some f53 := rfl
theorem u54 : U 54 = some f54 := rfl
theorem u55 : U 55 = some f55 := rfl
theorem u56 : U 56 = some f56 := rfl
theorem u57 : U 57 = some f57 := rfl
theorem u58 : U 58 = some f58 := rfl
theorem u59 : U 59 = some f59 := rfl
theorem u60 : U 60 = some f60 := rfl
theorem u61 : U 61 = some f61 := rfl
theorem u62 : U 62 = some f62 := rfl
theorem u63 : U 63 = some f63 := rfl
theorem u64 : U 64 = some f64 := rfl
theorem u65 : U 65 = some f65 := rfl
theorem u66 : U 66 = some f66 := rfl
theorem u67 : U 67 = some f67 := rfl
theorem u68 : U 68 = some f68 := rfl
theorem u69 : U 69 = some f69 := rfl
theorem u70 : U 70 = some f70 := rfl
theorem u71 : U 71 = some f71 := rfl
theorem u72 : U 72 = some f72 := rfl
theorem u73 : U 73 = some f73 := rfl
theorem u74 : U 74 = some f74 := rfl
theorem u75 : U 75 = some f75 := rfl
theorem u76 : U 76 = some f76 := rfl
theorem u77 : U 77 = some f77 := rfl
theorem u78 : U 78 = some f78 := rfl
theorem u79 : U 79 = some f79 := rfl
theorem u80 : U 80 = some f80 := rfl
theorem u81 : U 81 = some f81 := rfl
theorem u82 : U 82 = some f82 := rfl
theorem u83 : U 83 = some f83 := rfl
theorem u84 : U 84 = some f84 := rfl
theorem u85 : U 85 = some f85 := rfl
theorem u86 : U 86 = some f86 := rfl
theorem u87 : U 87 = some f87 := rfl
theorem u88 : U 88 = some f88 := rfl
theorem u89 : U 89 = some f89 := rfl
theorem u90 : U 90 = some f90 := rfl
theorem u91 : U 91 = some f91 := rfl
theorem u92 : U 92 = some f92 := rfl
theorem u93 : U 93 = some f93 := rfl
theorem u94 : U 94 = some f94 := rfl
theorem u95 : U 95 = some f95 := rfl
theorem u96 : U 96 = some f96 := rfl
theorem u97 : U 97 = some f97 := rfl
theorem u98 : U 98 = some f98 := rfl
theorem u99 : U 99 = some f99 := rfl
theorem u100 : U 100 = some f100 := rfl
theorem u101 : U 101 = some f101 := rfl
theorem u102 : U 102 = some f102 := rfl
theorem u103 : U 103 = some f103 := rfl
theorem u104 : U 104 = some f104 := rfl
theorem u105 : U 105 = some f105 := rfl
theorem u106 : U 106 = some f106 := rfl
theorem u107 : U 107 = some f107 := rfl
theorem u108 : U 108 = some f108 := rfl
theorem u109 : U 109 = some f109 := rfl
theorem u110 : U 110 = some f110 := rfl
theorem u111 : U 111 = some f111 := rfl
theorem u112 : U 112 = some f112 := rfl
theorem u113 : U 113 = some f113 := rfl
theorem u114 : U 114 = some f114 := rfl
theorem u115 : U 115 = some f115 := rfl
theorem u116 : U 116 = some f116 := rfl
theorem u117 : U 117 = some f117 := rfl
theorem u118 : U 118 = some f118 := rfl
theorem u119 : U 119 = some f119 := rfl
theorem u120 : U 120 = some f120 := rfl
theorem u121 : U 121 = some f121 := rfl
theorem u122 : U 122 = some f122 := rfl
theorem u123 : U 123 = some f123 := rfl
theorem u124 : U 124 = some f124 := rfl
theorem u125 : U 125 = some f125 := rfl
theorem u126 : U 126 = some f126 := rfl
theorem u127 : U 127 = some f127 := rfl
theorem u128 : U 128 = some f128 := rfl
theorem u129 : U 129 = some f129 := rfl
theorem u130 : U 130 = some f130 := rfl
theorem u131 : U 131 = some f131 := rfl
theorem u132 : U 132 = some f132 := rfl
theorem u133 : U 133 = some f133 := rfl
theorem u134 : U 134 = some f134 := rfl
theorem u135 : U 135 = some f135 := rfl
theorem u136 : U 136 = some f136 := rfl
theorem u137 : U 137 = some f137 := rfl
theorem u138 : U 138 = some f138 := rfl
theorem u139 : U 139 = some f139 := rfl
theorem u140 : U 140 = some f140 := rfl
theorem u141 : U 141 = some f141 := rfl
theorem u142 : U 142 = some f142 := rfl
theorem u143 : U 143 = some f143 := rfl
theorem u144 : U 144 = some f144 := rfl
theorem u145 : U 145 = some f145 := rfl
theorem u146 : U 146 = some f146 := rfl
theorem u147 : U 147 = some f147 := rfl
theorem u148 : U 148 = some f148 := rfl
theorem u149 : U 149 = some f149 := rfl
theorem u150 : U 150 = some f150 := rfl
theorem u151 : U 151 = some f151 := rfl
theorem u152 : U 152 = some f152 := rfl
theorem u153 : U 153 = some f153 := rfl
theorem u154 : U 154 = some f154 := rfl
theorem u155 : U 155 = some f155 := rfl
theorem u156 : U 156 = some f156 := rfl
theorem u157 : U 157 = some f157 := rfl
theorem u158 : U 158 = some f158 := rfl
theorem u159 : U 159 = some f159 := rfl
theorem u160 : U 160 = some f160 := rfl
theorem u161 : U 161 = some f161 := rfl
theorem u162 : U 162 = some f162 := rfl
theorem u163 : U 163 = some f163 := rfl
theorem u164 : U 164 = some f164 := rfl
theorem u165 : U 165 = some f165 := rfl
theorem u166 : U 166 = some f166 := rfl
theorem u167 : U 167 = some f167 := rfl
theorem u168 : U 168 = some f168 := rfl
theorem u169 : U 169 = some f169 := rfl
theorem u170 : U 170 = some f170 := rfl
theorem u171 : U 171 = some f171 := rfl
theorem u172 : U 172 = some f172 := rfl
theorem u173 : U 173 = some f173 := rfl
theorem u174 : U 174 = some f174 := rfl
theorem u175 : U 175 = some f175 := rfl
theorem u176 : U 176 = some f176 := rfl
theorem u177 : U 177 = some f177 := rfl
theorem u178 : U 178 = some f178 := rfl
theorem u179 : U 179 = some f179 := rfl
theorem u180 : U 180 = some f180 := rfl
theorem u181 : U 181 = some f181 := rfl
theorem u182 : U 182 = some f182 := rfl
theorem u183 : U 183 = some f183 := rfl
theorem u184 : U 184 = some f184 := rfl
theorem u185 : U 185 = some f185 := rfl
theorem u186 : U 186 = some f186 := rfl
theorem u187 : U 187 = some f187 := rfl
theorem u188 : U 188 = some f188 := rfl
theorem u189 : U 189 = some f189 := rfl
theorem u190 : U 190 = some f190 := rfl
theorem u191 : U 191 = some f191 := rfl
theorem u192 : U 192 = some f192 := rfl
theorem u193 : U 193 = some f193 := rfl
theorem u194 : U 194 = some f194 := rfl
theorem u195 : U 195 = some f195 := rfl
theorem u196 : U 196 = some f196 := rfl
theorem u197 : U 197 = some f197 := rfl
theorem u198 : U 198 = some f198 := rfl
theorem u199 : U 199 = some f199 := rfl
theorem u200 : U 200 = some f200 := rfl
theorem u201 : U 201 = some f201 := rfl
theorem u202 : U 202 = some f202 := rfl
theorem u203 : U 203 = some f203 := rfl
theorem u204 : U 204 = some f204 := rfl
theorem u205 : U 205 = some f205 := rfl
theorem u206 : U 206 = some f206 := rfl
theorem u207 : U 207 = some f207 := rfl
theorem u208 : U 208 = some f208 := rfl
theorem u209 : U 209 = some f209 := rfl
theorem u210 : U 210 = some f210 := rfl
theorem u211 : U 211 = some f211 := rfl
theorem u212 : U 212 = some f212 := rfl
theorem u213 : U 213 = some f213 := rfl
theorem u214 : U 214 = some f214 := rfl
theorem u215 : U 215 = some f215 := rfl
theorem u216 : U 216 = some f216 := rfl
theorem u217 : U 217 = some f217 := rfl
theorem u218 : U 218 = some f218 := rfl
theorem u219 : U 219 = some f219 := rfl
theorem u220 : U 220 = some f220 := rfl
theorem u221 : U 221 = some f221 := rfl
theorem u222 : U 222 = some f222 := rfl
theorem u223 : U 223 = some f223 := rfl
theorem u224 : U 224 = some f224 := rfl
theorem u225 : U 225 = some f225 := rfl
theorem u226 : U 226 = some f226 := rfl
theorem u227 : U 227 = some f227 := rfl
theorem u228 : U 228 = some f228 := rfl
theorem u229 : U 229 = some f229 := rfl
theorem u230 : U 230 = some f230 := rfl
theorem u231 : U 231 = some f231 := rfl
theorem u232 : U 232 = some f232 := rfl
theorem u233 : U 233 = some f233 := rfl
theorem u234 : U 234 = some f234 := rfl
theorem u235 : U 235 = some f235 := rfl
theorem u236 : U 236 = some f236 := rfl
theorem u237 : U 237 = some f237 := rfl
theorem u238 : U 238 = some f238 := rfl
theorem u239 : U 239 = some f239 := rfl
theorem u240 : U 240 = some f240 := rfl
theorem u241 : U 241 = some f241 := rfl
theorem u242 : U 242 = some f242 := rfl
theorem u243 : U 243 = some f243 := rfl
theorem u244 : U 244 = some f244 := rfl
theorem u245 : U 245 = some f245 := rfl
theorem u246 : U 246 = some f246 := rfl
theorem u247 : U 247 = some f247 := rfl
theorem u248 : U 248 = some f248 := rfl
theorem u249 : U 249 = some f249 := rfl
theorem u250 : U 250 = some f250 := rfl
theorem u251 : U 251 = some f251 := rfl
theorem u252 : U 252 = some f252 := rfl
theorem u253 : U 253 = some f253 := rfl
theorem u254 : U 254 = some f254 := rfl
theorem u255 : U 255 = some f255 := rfl
theorem u256 : U 256 = some f256 := rfl
theorem u257 : U 257 = some f257 := rfl
theorem u258 : U 258 = some f258 := rfl
theorem u259 : U 259 = some f259 := rfl
theorem u260 : U 260 = some f260 := rfl
theorem u261 : U 261 = some f261 := rfl
theorem u262 : U 262 = some f262 := rfl
theorem u263 : U 263 = some f263 := rfl
theorem u264 : U 264 = some f264 := rfl
theorem u265 : U 265 = some f265 := rfl
theorem u266 : U 266 = some f266 := rfl
theorem u267 : U 267 = some f267 := rfl
theorem u268 : U 268 = some f268 := rfl
theorem u269 : U 269 = some f269 := rfl
theorem u270 : U 270 = some f270 := rfl
theorem u271 : U 271 = some f271 := rfl
theorem u272 : U 272 = some f272 := rfl
theorem u273 : U 273 = some f273 := rfl
theorem u274 : U 274 = some f274 := rfl
theorem u275 : U 275 = some f275 := rfl
theorem u276 : U 276 = some f276 := rfl
theorem u277 : U 277 = some f277 := rfl
theorem u278 : U 278 = some f278 := rfl
theorem u279 : U 279 = some f279 := rfl
theorem u280 : U 280 = some f280 := rfl
theorem run_one {i m : Nat} {f : Fn} {ds : List D} (h : U i = some f) : runs U (m + 1) i ds = runFn (runs U m) f ds := by
  show (U i).bind _ = _
  rw [h]
  rfl
/-- at any depth from k on -/
theorem run_ge {i k m : Nat} {f : Fn} {ds : List D} {r : Option (D × List D)} (h : U i = some f) (hm : k + 1 ≤ m) (hr : ∀ n, k ≤ n → runFn (runs U n) f ds = r) : runs U m i ds = r := by
  obtain ⟨n, rfl⟩ := Nat.exists_eq_add_of_le' (Nat.le_trans (Nat.le_add_left 1 k) hm)
  rw [run_one h]
  exact hr n (by omega)
/-- a loop as a whole -/
def forC (C : Ora) (tg : Tg) (b : ISs) (ds : List D) (e : Env) : Option Out := forL (fun d e => (store tg d e).bind fun e => evSs C b e) ds e
def whileC (C : Ora) (c : IE) (b : ISs) (n : Nat) (e : Env) : Option Out := whileL (fun e => toB (ev C c e)) (fun e => evSs C b e) n e
section
variable {C : Ora} {e : Env}
@[simp] theorem ev_non : ev C .non e = some (.v .non, e) := rfl
@[simp] theorem ev_bl {b} : ev C (.bl b) e = some (.v (.bl b), e) := rfl
@[simp] theorem ev_int {i} : ev C (.int i) e = some (.v (.int i), e) := rfl
@[simp] theorem ev_str {x} : ev C (.str x) e = some (.v (.str x), e) := rfl
@[simp] theorem ev_glo {x i} : ev C (.glo x i) e = some (.v (.int i), e) := rfl
@[simp] theorem ev_var {i} : ev C (.var i) e = rdVar e i := rfl
@[simp] theorem ev_mov {i} : ev C (.mov i) e = rdMov e i := rfl
@[simp] theorem ev_bor {i} : ev C (.bor i) e = rdBor e i := rfl
@[simp] theorem ev_bin {op a b} : ev C (.bin op a b) e = evOp2 (bin op) (ev C a e) fun e => ev C b e := rfl
@[simp] theorem ev_neg {a} : ev C (.neg a) e = evOp1 neg (ev C a e) := rfl
@[simp] theorem ev_cmp {op a b} : ev C (.cmp op a b) e = evOp2 (cmpD op) (ev C a e) fun e => ev C b e := rfl
@[simp] theorem ev_chain {o1 o2 a b c} : ev C (.chain o1 o2 a b c) e = evChain o1 o2 (ev C a e) (fun e => ev C b e) fun e => ev C c e := rfl
@[simp] theorem ev_chain3 {o1 o2 o3 a b c d} : ev C (.chain3 o1 o2 o3 a b c d) e = evChain3 o1 o2 o3 (ev C a e) (fun e => ev C b e) (fun e => ev C c e) fun e => ev C d e := rfl
@[simp] theorem ev_boolop {k es} : ev C (.boolop k es) e = (evB C k es e).map fun x => (.v (.bl x.1), x.2) := rfl
@[simp] theorem ev_not {a} : ev C (.not a) e = (toB (ev C a e)).map fun x => (.v (.bl (!x.1)), x.2) := rfl
@[simp] theorem ev_ife {c a b} : ev C (.ife c a b) e = (toB (ev C c e)).bind fun x => if x.1 = true then ev C a x.2 else ev C b x.2 := rfl
@[simp] theorem ev_tup {es} : ev C (.tup es) e = (evs C es e).bind fun x => (vals x.1).bind fun ds => if ds.length ≤ lim then some (.v (.tup ds), x.2) else none := rfl
@[simp] theorem ev_lst {es} : ev C (.lst es) e = (evs C es e).bind fun x => (vals x.1).bind fun ds => if ds.length ≤ lim then some (.v (.lst true (freezes ds)), x.2) else none := rfl
@[simp] theorem ev_idx {a b} : ev C (.idx a b) e = evOp2 idx (ev C a e) fun e => ev C b e := rfl
@[simp] theorem ev_slice {a lo hi} : ev C (.slice a lo hi) e = (ev C a e).bind fun x => (evO C lo x.2).bind fun y => (evO C hi y.2).bind fun z => (res z.2 x.1).bind fun d => (slice d y.1 z.1).map fun r => (.v r, z.2) := rfl
@[simp] theorem ev_rev {a} : ev C (.rev a) e = evOp1 rev (ev C a e) := rfl
@[simp] theorem ev_call {f es} : ev C (.call f es) e = (evs C es e).bind fun x => (vals x.1).bind fun ds => (C f (freezes ds)).map fun r => (.v r.1, x.2) := rfl
@[simp] theorem ev_callio {f i es} : ev C (.callio f i es) e = (rdBor e i).bind fun _ => callIo C f i (evs C es e) := rfl
@[simp] theorem ev_blt {b es} : ev C (.blt b es) e = evBlt b (evs C es e) := rfl
@[simp] theorem ev_comp {elt tg it cs own} : ev C (.comp elt tg it cs own) e = compV (evI C it) (store tg) (evB C true cs) (ev C elt) own e := rfl
@[simp] theorem evs_nil : evs C .nil e = some ([], e) := rfl
@[simp] theorem evs_cons {a r} : evs C (.cons a r) e = (ev C a e).bind fun x => (evs C r x.2).map fun y => (x.1 :: y.1, y.2) := rfl
@[simp] theorem evB_nil {k} : evB C k .nil e = some (k, e) := rfl
@[simp] theorem evB_step {k a r} : evB C k (.cons a r) e = (toB (ev C a e)).bind fun x => if x.1 = k then evB C k r x.2 else some (x.1, x.2) := rfl
@[simp] theorem evO_none : evO C .none e = some (none, e) := rfl
@[simp] theorem evO_some {a} : evO C (.some a) e = (ev C a e).bind fun x => (partD x.1).map fun i => (i, x.2) := rfl
@[simp] theorem evI_seq {a} : evI C (.seq a) e = (ev C a e).bind fun x => (val x.1).bind fun d => (seqOf d.freeze).map fun l => (l, x.2) := rfl
@[simp] theorem evI_range {es} : evI C (.range es) e = (evs C es e).bind fun x => (vals x.1).bind fun ds => (rangeD ds).map fun l => (l, x.2) := rfl
@[simp] theorem evI_enum {a} : evI C (.enum a) e = (ev C a e).bind fun x => (val x.1).bind fun d => (seqOf d.freeze).map fun l => (enumL 0 l, x.2) := rfl
@[simp] theorem evI_zip {a b} : evI C (.zip a b) e = (ev C a e).bind fun x => (ev C b x.2).bind fun y => (val x.1).bind fun d => (val y.1).bind fun d' => (zipD d.freeze d'.freeze).map fun l => (l, y.2) := rfl
@[simp] theorem evS_asg {tg a} : evS C (.asg tg a) e = (ev C a e).bind fun x => (val x.1).bind fun d => (store tg d x.2).map .nx := rfl
@[simp] theorem evS_par {is es} : evS C (.par is es) e = (evs C es e).bind fun x => (vals x.1).bind fun ds => (setAll is ds x.2).map .nx := rfl
@[simp] theorem evS_setI {i k a} : evS C (.setI i k a) e = (ev C a e).bind fun x => (val x.1).bind fun d => (rdOwn x.2 i).bind fun _ => (ev C k x.2).bind fun y => (val y.1).bind fun k => (setL y.2 i fun l => putAt l k d.freeze).map .nx := rfl
@[simp] theorem evS_append {i a} : evS C (.append i a) e = (rdOwn e i).bind fun _ => (ev C a e).bind fun x => (val x.1).bind fun d => (setL x.2 i fun l => if l.length < lim then some (l ++ [d.freeze]) else none).map .nx := rfl
@[simp] theorem evS_popAt {i k} : evS C (.popAt i k) e = (rdOwn e i).bind fun _ => (ev C k e).bind fun x => (val x.1).bind fun d => (setL x.2 i fun l => popL l d).map .nx := rfl
@[simp] theorem evS_insAt {i es} : evS C (.insAt i es) e = (rdOwn e i).bind fun _ => (evs C es e).bind fun x => (vals x.1).bind fun ds => (setL x.2 i fun l => insL l ds).map .nx := rfl
@[simp] theorem evS_setSl {i lo hi a} : evS C (.setSl i lo hi a) e = (ev C a e).bind fun x => (val x.1).bind fun d => (rdOwn x.2 i).bind fun _ => (ev C lo x.2).bind fun y => (val y.1).bind fun k => (ev C hi y.2).bind fun z => (val z.1).bind fun k2 => (setL z.2 i fun l => slL l k k2 d).map .nx := rfl
@[simp] theorem evS_extend {i a} : evS C (.extend i a) e = (rdOwn e i).bind fun _ => (ev C a e).bind fun x => (val x.1).bind fun d => (setL x.2 i fun l => extL l d).map .nx := rfl
@[simp] theorem evS_expr {a} : evS C (.expr a) e = (ev C a e).map fun x => .nx x.2 := rfl
@[simp] theorem evS_ret {a} : evS C (.ret a) e = (ev C a e).bind fun x => (val x.1).map fun d => .rt d x.2 := rfl
@[simp] theorem evS_ife {c a b} : evS C (.ife c a b) e = (toB (ev C c e)).bind fun x => if x.1 = true then evSs C a x.2 else evSs C b x.2 := rfl
@[simp] theorem evS_for {tg it b} : evS C (.for_ tg it b) e = (evI C it e).bind fun x => forC C tg b x.1 x.2 := rfl
@[simp] theorem evS_while {c b} : evS C (.while_ c b) e = whileC C c b fuelW e := rfl
@[simp] theorem evS_brk : evS C .brk e = some (.bk e) := rfl
@[simp] theorem evS_cont : evS C .cont e = some (.ct e) := rfl
@[simp] theorem evS_raise : evS C .raise e = none := rfl
@[simp] theorem evSs_nil : evSs C .nil e = some (.nx e) := rfl
@[simp] theorem evSs_cons {a r} : evSs C (.cons a r) e = seqO (evS C a e) fun e => evSs C r e := rfl
@[simp] theorem seqO_nx {g} : seqO (some (.nx e)) g = g e := rfl
@[simp] theorem seqO_rt {d} {g} : seqO (some (.rt d e)) g = some (.rt d e) := rfl
@[simp] theorem seqO_bk {g} : seqO (some (.bk e)) g = some (.bk e) := rfl
@[simp] theorem seqO_ct {g} : seqO (some (.ct e)) g = some (.ct e) := rfl
@[simp] theorem seqO_none {g} : seqO none g = none := rfl
@[simp] theorem toB_bl {b} : toB (some (.v (.bl b), e)) = some (b, e) := rfl
@[simp] theorem evOp2_v {p o g} : evOp2 p (some (o, e)) g = (g e).bind fun y => (res y.2 o).bind fun d => (res y.2 y.1).bind fun d' => (p d d').bind fun r => some (.v r, y.2) := by
  show ((g e).bind fun y => (res y.2 o).bind fun d => (res y.2 y.1).bind fun d' => (p d d').map fun r => (Opd.v r, y.2)) = _
  simp only [Option.map_eq_bind]
  rfl
@[simp] theorem evOp1_v {p o} : evOp1 p (some (o, e)) = (res e o).bind fun d => (p d).bind fun d => some (.v d, e) := by
  show ((res e o).bind fun d => (p d).map fun d => (Opd.v d, e)) = _
  simp only [Option.map_eq_bind]
  rfl
@[simp] theorem res_v {d} : res e (.v d) = some d := rfl
@[simp] theorem val_v {d} : val (.v d) = some d := rfl
@[simp] theorem vals_nil : vals [] = some [] := rfl
@[simp] theorem vals_cons {o r} : vals (o :: r) = (val o).bind fun d => (vals r).bind fun ds => some (d :: ds) := by
  show ((val o).bind fun d => (vals r).map (d :: ·)) = _
  simp only [Option.map_eq_bind]
  rfl
@[simp] theorem ress_nil : ress e [] = some [] := rfl
@[simp] theorem ress_cons {o r} : ress e (o :: r) = (res e o).bind fun d => (ress e r).bind fun ds => some (d :: ds) := by
  show ((res e o).bind fun d => (ress e r).map (d :: ·)) = _
  simp only [Option.map_eq_bind]
  rfl
@[simp] theorem store_name {i d} : store (.name i) d e = setVar e i d := rfl
@[simp] theorem store_tupT {ts ds} : store (.tup ts) (.tup ds) e = storeL ts ds e := rfl
@[simp] theorem store_tupL {ts o ds} : store (.tup ts) (.lst o ds) e = storeL ts ds e := rfl
@[simp] theorem storeL_nil : storeL [] [] e = some e := rfl
@[simp] theorem storeL_cons {t ts d ds} : storeL (t :: ts) (d :: ds) e = (store t d e).bind fun e => storeL ts ds e := rfl
@[simp] theorem setAll_nil : setAll [] [] e = some e := rfl
@[simp] theorem setAll_cons {i is d ds} : setAll (i :: is) (d :: ds) e = (setVar e i d).bind fun e => setAll is ds e := rfl
@[simp] theorem cmpD_eq {op a b} : cmpD op a b = (cmp op a b).bind fun r => some (.bl r) := by
  show (cmp op a b).map D.bl = _
  simp only [Option.map_eq_bind]
  rfl
@[simp] theorem freezes_nil : freezes [] = [] := rfl
@[simp] theorem freezes_cons {d r} : freezes (d :: r) = d.freeze :: freezes r := rfl
@[simp] theorem fr_non : D.freeze .non = .non := rfl
@[simp] theorem fr_bl {b} : D.freeze (.bl b) = .bl b := rfl
@[simp] theorem fr_int {b} : D.freeze (.int b) = .int b := rfl
@[simp] theorem fr_str {b} : D.freeze (.str b) = .str b := rfl
@[simp] theorem fr_tup {l} : D.freeze (.tup l) = .tup (freezes l) := rfl
@[simp] theorem fr_lst {o l} : D.freeze (.lst o l) = .lst false l := rfl
@[simp] theorem fr_io {l} : D.freeze (.io l) = .lst false l := rfl
@[simp] theorem fr_scr {l} : D.freeze (.scr l) = .scr l := rfl
@[simp] theorem top_lst {o l} : D.top (.lst o l) = .lst o l := rfl
@[simp] theorem top_io {l} : D.top (.io l) = .io l := rfl
@[simp] theorem top_non : D.top .non = .non := rfl
@[simp] theorem top_bl {b} : D.top (.bl b) = .bl b := rfl
@[simp] theorem top_int {b} : D.top (.int b) = .int b := rfl
@[simp] theorem top_str {b} : D.top (.str b) = .str b := rfl
@[simp] theorem top_tup {l} : D.top (.tup l) = .tup (freezes l) := rfl
@[simp] theorem top_scr {l} : D.top (.scr l) = .scr l := rfl
end
end PV
set_option Elab.async false
set_option linter.all false
set_option maxRecDepth 100000
set_option maxHeartbeats 1000000
/-! Values: rules of simp. -/
namespace PV
open PySem PySem.Spec L2
section
variable {C : Ora} {e : Env}
/-! ### slots -/
@[simp] theorem argsOk_io {l r} : argsOk true (.io l :: r) = r.all fun d => !d.isOwn := rfl
@[simp] theorem argsOk_no {r} : argsOk false r = r.all fun d => !d.isOwn := by cases r <;> rfl
@[simp] theorem own_non : D.isOwn .non = false := rfl
@[simp] theorem own_bl {b} : D.isOwn (.bl b) = false := rfl
@[simp] theorem own_int {b} : D.isOwn (.int b) = false := rfl
@[simp] theorem own_str {b} : D.isOwn (.str b) = false := rfl
@[simp] theorem own_tup {b} : D.isOwn (.tup b) = false := rfl
@[simp] theorem own_lst {o b} : D.isOwn (.lst o b) = o := rfl
@[simp] theorem own_io {b} : D.isOwn (.io b) = true := rfl
@[simp] theorem own_scr {b} : D.isOwn (.scr b) = false := rfl
@[simp] theorem wipeE_nil : wipeE e [] = e := rfl
@[simp] theorem wipeE_cons {v vs} : wipeE e (v :: vs) = (wipeE e vs).set v none := rfl
@[simp] theorem partD_int {i} : partD (.v (.int i)) = some (some i) := rfl
@[simp] theorem seqOf_tup {l} : seqOf (.tup l) = some l := rfl
@[simp] theorem seqOf_lst {o l} : seqOf (.lst o l) = some l := rfl
@[simp] theorem zipD_tup {l m} : zipD (.tup l) (.tup m) = some (zipL l m) := rfl
@[simp] theorem zipD_mix {o l m} : zipD (.tup l) (.lst o m) = some (zipL l m) := rfl
@[simp] theorem zipD_mix2 {o l m} : zipD (.lst o l) (.tup m) = some (zipL l m) := rfl
@[simp] theorem zipD_lst {o p l m} : zipD (.lst o l) (.lst p m) = some (zipL l m) := rfl
@[simp] theorem lim_eq : lim = 1000000 := rfl
/-! ### numbers -/
@[simp] theorem bin_add {i j} : bin .add (.int i) (.int j) = some (.int (i + j)) := rfl
@[simp] theorem bin_sub {i j} : bin .sub (.int i) (.int j) = some (.int (i - j)) := rfl
@[simp] theorem bin_mul {i j} : bin .mul (.int i) (.int j) = if mulOk i j = true then some (.int (i * j)) else none := rfl
@[simp] theorem neg_int {i} : neg (.int i) = some (.int (-i)) := rfl
theorem mulOk_l {i j : Int} (h : -(2 ^ 64) < i ∧ i < 2 ^ 64) : mulOk i j = true := by
  unfold mulOk
  rw [decide_eq_true h.1, decide_eq_true h.2]
  rfl
theorem mulOk_r {i j : Int} (h : -(2 ^ 64) < j ∧ j < 2 ^ 64) : mulOk i j = true := by
  unfold mulOk
  rw [decide_eq_true h.1, decide_eq_true h.2, Bool.and_self, Bool.or_true]
theorem bin_div {i j : Int} (h : 0 < j) (h' : j < 1073741824) : bin .fdiv (.int i) (.int j) = some (.int (i / j)) := by simp [bin, h, h']
theorem bin_mod {i j : Int} (h : 0 < j) : bin .mod (.int i) (.int j) = some (.int (i % j)) := by simp [bin, h]
@[simp] theorem cmp_lt {i j} : cmp .lt (.int i) (.int j) = some (decide (i < j)) := rfl
@[simp] theorem cmp_le {i j} : cmp .le (.int i) (.int j) = some (decide (i ≤ j)) := rfl
@[simp] theorem cmp_gt {i j} : cmp .gt (.int i) (.int j) = some (decide (j < i)) := rfl
@[simp] theorem cmp_ge {i j} : cmp .ge (.int i) (.int j) = some (decide (j ≤ i)) := rfl
@[simp] theorem cmp_isNN : cmp .isN .non .non = some true := rfl
@[simp] theorem cmp_isNi {i} : cmp .isN (.int i) .non = some false := rfl
@[simp] theorem cmp_isNt {i} : cmp .isN (.tup i) .non = some false := rfl
@[simp] theorem cmp_isNl {o i} : cmp .isN (.lst o i) .non = some false := rfl
@[simp] theorem cmp_noNN : cmp .notN .non .non = some false := rfl
@[simp] theorem cmp_noNi {i} : cmp .notN (.int i) .non = some true := rfl
@[simp] theorem cmp_noNt {i} : cmp .notN (.tup i) .non = some true := rfl
@[simp] theorem cmp_noNl {o i} : cmp .notN (.lst o i) .non = some true := rfl
@[simp] theorem cmp_eqi {i j} : cmp .eq (.int i) (.int j) = some (decide (i = j)) := by
  show (if (true && true) = true then some (PyData.eqv (.int i) (.int j)) else none) = _
  rw [PyData.eqv]
  rfl
@[simp] theorem cmp_nei {i j} : cmp .ne (.int i) (.int j) = some (!decide (i = j)) := by
  show (if (true && true) = true then some (!PyData.eqv (.int i) (.int j)) else none) = _
  rw [PyData.eqv]
  rfl
mutual
theorem eqv_self : ∀ d : D, PyData.eqv d.toPy d.toPy = true
  | .non => by rw [D.toPy, PyData.eqv]
  | .bl b => by rw [D.toPy, PyData.eqv]; exact beq_self_eq_true _
  | .int b => by rw [D.toPy, PyData.eqv]; exact beq_self_eq_true _
  | .str b => by rw [D.toPy, PyData.eqv]; exact beq_self_eq_true _
  | .tup l => by rw [D.toPy, PyData.eqv]; exact eqvs_self l
  | .lst o l => by rw [D.toPy, PyData.eqv]; exact eqvs_self l
  | .io l => by rw [D.toPy, PyData.eqv]; exact eqvs_self l
  | .scr ns => by
    rw [D.toPy, PyData.eqv]
    induction ns with
    | nil => rw [List.map_nil, PyData.eqvAll]
    | cons n r ih =>
      rw [List.map_cons, PyData.eqvAll, ih, PyData.eqv, beq_self_eq_true]
      rfl
theorem eqvs_self : ∀ l : List D, PyData.eqvAll (toPys l) (toPys l) = true
  | [] => by rw [toPys, PyData.eqvAll]
  | d :: r => by
    rw [toPys, PyData.eqvAll, eqv_self d, eqvs_self r]
    rfl
end
theorem cmp_eq_lst {o o' : Bool} {l : List D} (h : okEqs 11 l = true) : cmp .eq (.lst o l) (.lst o' l) = some true := by
  show (if (okEqs 11 l && okEqs 11 l) = true then some (PyData.eqv (.list (toPys l)) (.list (toPys l))) else none) = _
  rw [h, PyData.eqv, eqvs_self]
  rfl
theorem cmp_ne_lst {o o' : Bool} {l : List D} (h : okEqs 11 l = true) : cmp .ne (.lst o l) (.lst o' l) = some false := by
  show (if (okEqs 11 l && okEqs 11 l) = true then some (!PyData.eqv (.list (toPys l)) (.list (toPys l))) else none) = _
  rw [h, PyData.eqv, eqvs_self]
  rfl
theorem cmp_eq_tup {l : List D} (h : okEqs 11 l = true) : cmp .eq (.tup l) (.tup l) = some true := by
  show (if (okEqs 11 l && okEqs 11 l) = true then some (PyData.eqv (.tuple (toPys l)) (.tuple (toPys l))) else none) = _
  rw [h, PyData.eqv, eqvs_self]
  rfl
theorem cmp_ne_tup {l : List D} (h : okEqs 11 l = true) : cmp .ne (.tup l) (.tup l) = some false := by
  show (if (okEqs 11 l && okEqs 11 l) = true then some (!PyData.eqv (.tuple (toPys l)) (.tuple (toPys l))) else none) = _
  rw [h, PyData.eqv, eqvs_self]
  rfl
theorem okEqs_map {α : Type} {f : α → D} {n : Nat} (h : ∀ a, (f a).okEq n = true) : ∀ l : List α, okEqs n (l.map f) = true
  | [] => rfl
  | a :: r => by
    show ((f a).okEq n && okEqs n (r.map f)) = true
    rw [h, okEqs_map h r]
    rfl
/-! ### items -/
@[simp] theorem idx_tup {l i} : idx (.tup l) (.int i) = atI l i := rfl
@[simp] theorem idx_lst {o l i} : idx (.lst o l) (.int i) = atI l i := rfl
@[simp] theorem idx_scr {l i} : idx (.scr l) (.int i) = (atI l i).bind fun j => some (.int j) := by
  show (atI l i).map D.int = _
  simp only [Option.map_eq_bind]
  rfl
theorem atI_nat {α : Type} {l : List α} {i : Int} (h : 0 ≤ i) (h' : i < l.length) : atI l i = l[i.toNat]? := by
  simp [atI, ixN, h, h']
@[simp] theorem atI_0 {α : Type} {a : α} {l : List α} : atI (a :: l) 0 = some a := by rw [atI_nat (by omega) (by simp)]; rfl
@[simp] theorem atI_1 {α : Type} {a b : α} {l : List α} : atI (a :: b :: l) 1 = some b := by rw [atI_nat (by omega) (by simp; omega)]; rfl
@[simp] theorem atI_2 {α : Type} {a b c : α} {l : List α} : atI (a :: b :: c :: l) 2 = some c := by rw [atI_nat (by omega) (by simp; omega)]; rfl
@[simp] theorem atI_3 {α : Type} {a b c d : α} {l : List α} : atI (a :: b :: c :: d :: l) 3 = some d := by rw [atI_nat (by omega) (by simp; omega)]; rfl
@[simp] theorem atI_4 {α : Type} {a b c d e : α} {l : List α} : atI (a :: b :: c :: d :: e :: l) 4 = some e := by rw [atI_nat (by omega) (by simp; omega)]; rfl
@[simp] theorem atI_5 {α : Type} {a b c d e f : α} {l : List α} : atI (a :: b :: c :: d :: e :: f :: l) 5 = some f := by rw [atI_nat (by omega) (by simp; omega)]; rfl
theorem atI_last {α : Type} {l : List α} (h : l ≠ []) : atI l (-1) = l.getLast? := by
  have hl : 0 < l.length := List.length_pos_iff.mpr h
  have e : ixN l.length (-1) = some (l.length - 1) := by
    unfold ixN
    rw [if_neg (by omega), if_pos (by omega)]
    congr 1
    omega
  rw [atI, e, List.getLast?_eq_getElem?]
  rfl
@[simp] theorem slice_tup {l lo hi} : slice (.tup l) lo hi = some (.tup (freezes (cutL l lo hi))) := rfl
@[simp] theorem slice_lst {o l lo hi} : slice (.lst o l) lo hi = some (.lst true (cutL l lo hi)) := rfl
theorem cutL_from {α : Type} {l : List α} {i : Nat} : cutL l (some (i : Int)) none = l.drop i := by
  show (l.drop (HT.sIx l.length 0 (some (i : Int)))).take (l.length - HT.sIx l.length 0 (some (i : Int))) = _
  have e : HT.sIx l.length 0 (some (i : Int)) = min i l.length := by
    show (if (i : Int) < 0 then ((i : Int) + (l.length : Int)).toNat else min (i : Int).toNat l.length) = _
    rw [if_neg (by omega), Int.toNat_natCast]
  rw [e]
  by_cases h : i ≤ l.length
  · rw [Nat.min_eq_left h, List.take_of_length_le (by rw [List.length_drop]; omega)]
  · rw [Nat.min_eq_right (by omega), List.drop_length, List.drop_of_length_le (by omega), List.take_nil]
@[simp] theorem cutL_1 {α : Type} {l : List α} : cutL l (some 1) none = l.drop 1 := cutL_from (i := 1)
@[simp] theorem cutL_2 {α : Type} {l : List α} : cutL l (some 2) none = l.drop 2 := cutL_from (i := 2)
theorem bin_addL {o o' : Bool} {l m : List D} (h : l.length + m.length ≤ lim) : bin .add (.lst o l) (.lst o' m) = some (.lst true (l ++ m)) := if_pos h
theorem bin_addT {l m : List D} (h : l.length + m.length ≤ lim) : bin .add (.tup l) (.tup m) = some (.tup (l ++ m)) := if_pos h
@[simp] theorem rev_lst {o l} : rev (.lst o l) = some (.lst true l.reverse) := rfl
/-! ### built-ins -/
@[simp] theorem evBlt_v {k : Blt} {os} : evBlt k (some (os, e)) = (ress e os).bind fun ds => (blt k ds).bind fun r => some (.v r, e) := by
  show ((ress e os).bind fun ds => (blt k ds).map fun r => (Opd.v r, e)) = _
  simp only [Option.map_eq_bind]
  rfl
@[simp] theorem len_tup {l} : blt .len [.tup l] = some (.int l.length) := rfl
@[simp] theorem len_lst {o l} : blt .len [.lst o l] = some (.int l.length) := rfl
@[simp] theorem len_scr {l} : blt .len [.scr l] = some (.int l.length) := rfl
@[simp] theorem max_two {i j} : blt .max2 [.int i, .int j] = some (.int (max i j)) := by
  show some (D.int (if j > i then j else i)) = _
  congr 2
  split <;> omega
@[simp] theorem min_two {i j} : blt .min2 [.int i, .int j] = some (.int (min i j)) := by
  show some (D.int (if j < i then j else i)) = _
  congr 2
  split <;> omega
@[simp] theorem blt_int {i} : blt .int [.int i] = some (.int i) := rfl
@[simp] theorem blt_abs {i} : blt .abs [.int i] = some (.int (if i < 0 then -i else i)) := rfl
@[simp] theorem tuple_lst {o l} : blt .tuple [.lst o l] = some (.tup l) := rfl
@[simp] theorem tuple_tup {l} : blt .tuple [.tup l] = some (.tup l) := rfl
@[simp] theorem list_lst {o l} : blt .list [.lst o l] = some (.lst true l) := rfl
@[simp] theorem list_tup {l} : blt .list [.tup l] = some (.lst true (freezes l)) := rfl
@[simp] theorem isInt_int {i} : blt .isInt [.int i] = some (.bl true) := rfl
@[simp] theorem isInt_tup {i} : blt .isInt [.tup i] = some (.bl false) := rfl
@[simp] theorem isInt_non : blt .isInt [.non] = some (.bl false) := rfl
@[simp] theorem isBool_int {i} : blt .isBool [.int i] = some (.bl false) := rfl
@[simp] theorem isTup_tup {i} : blt .isTup [.tup i] = some (.bl true) := rfl
@[simp] theorem isList_lst {o i} : blt .isList [.lst o i] = some (.bl true) := rfl
@[simp] theorem isStr_str {i} : blt .isStr [.str i] = some (.bl true) := rfl
theorem ints_map : ∀ l : List Int, D.ints (l.map .int) = some l
  | [] => rfl
  | i :: r => by
    show (D.ints (r.map .int)).map (i :: ·) = _
    rw [ints_map r]
    rfl
theorem bools_map : ∀ l : List Bool, D.bools (l.map .bl) = some l
  | [] => rfl
  | i :: r => by
    show (D.bools (r.map .bl)).map (i :: ·) = _
    rw [bools_map r]
    rfl
theorem pairs_map : ∀ l : List (Int × Int), D.pairs (l.map pairD) = some l
  | [] => rfl
  | i :: r => by
    show (D.pairs (r.map pairD)).map (i :: ·) = _
    rw [pairs_map r]
    rfl
theorem sum_ints {o} {l : List Int} : blt .sum [.lst o (l.map .int)] = some (.int l.sum) := by
  show ((D.ints (l.map .int)).map fun l => D.int l.sum) = _
  rw [ints_map]
  rfl
theorem all_bools {o} {l : List Bool} : blt .all [.lst o (l.map .bl)] = some (.bl (l.all id)) := by
  show ((D.bools (l.map .bl)).map fun l => D.bl (l.all id)) = _
  rw [bools_map]
  rfl
theorem any_bools {o} {l : List Bool} : blt .any [.lst o (l.map .bl)] = some (.bl (l.any id)) := by
  show ((D.bools (l.map .bl)).map fun l => D.bl (l.any id)) = _
  rw [bools_map]
  rfl
theorem sset_ints {o} {l : List Int} (h : l.length < 64) : blt .sset [.lst o (l.map .int)] = some (.lst true ((sortU l).map .int)) := by
  show ((D.ints (l.map .int)).bind fun l => if l.length < 64 then some (D.lst true ((sortU l).map .int)) else none) = _
  rw [ints_map]
  exact if_pos h
/-! ### frozen data -/
theorem freezes_map {α : Type} {f : α → D} (h : ∀ a, (f a).freeze = f a) : ∀ l : List α, freezes (l.map f) = l.map f
  | [] => rfl
  | a :: r => by
    rw [List.map_cons, freezes_cons, h, freezes_map h r]
@[simp] theorem fr_pair {p} : (pairD p).freeze = pairD p := rfl
@[simp] theorem fr_ints {l : List Int} : freezes (l.map .int) = l.map .int := freezes_map (fun _ => rfl) l
@[simp] theorem fr_pairs {l : List (Int × Int)} : freezes (l.map pairD) = l.map pairD := freezes_map (fun _ => rfl) l
theorem okEq_int {n i} : D.okEq n (.int i) = true := by cases n <;> rfl
theorem okEq_pair {n p} : D.okEq (n + 1) (pairD p) = true := by
  show (D.okEq n (.int p.1) && (D.okEq n (.int p.2) && true)) = true
  rw [okEq_int, okEq_int]
  rfl
end
/-! ### the machine's own steps -/
section
variable {C : Ora} {e : Env}
@[simp] theorem runFn_s {f : Fn} {ds : List D} : runFn C f ds = if ds.length = f.np ∧ f.np ≤ f.ns ∧ argsOk f.io ds = true then
    (evSs C f.body (ds.map some ++ List.replicate (f.ns - f.np) none)).bind fun o => match o with
      | .nx e => some (.non, ioOut f.io e)
      | .rt d e => some (d, ioOut f.io e)
      | _ => none
  else none := rfl
@[simp] theorem ioOut_no : ioOut false e = [] := rfl
@[simp] theorem ioOut_io {l} {r : Env} : ioOut true (some (.io l) :: r) = l := rfl
@[simp] theorem rdVar_s {i} : rdVar e i = match e[i]? with
  | some (some (.lst true l)) => some (.v (.lst false l), e.set i (some (.lst false l)))
  | some (some (.io _)) => none
  | some (some d) => some (.v d, e)
  | _ => none := rfl
@[simp] theorem rdMov_s {i} : rdMov e i = match e[i]? with
  | some (some (.io _)) => none
  | some (some d) => some (.v d, e.set i none)
  | _ => none := rfl
@[simp] theorem rdBor_s {i} : rdBor e i = match e[i]? with
  | some (some _) => some (.b i, e)
  | _ => none := rfl
@[simp] theorem res_bs {i} : res e (.b i) = match e[i]? with
    | some (some (.lst _ l)) => some (.lst false l)
    | some (some (.io l)) => some (.lst false l)
    | _ => none := rfl
@[simp] theorem setVar_s {i d} : setVar e i d = match e[i]? with
  | some (some (.io _)) => none
  | some _ => (match d with
    | .io _ => none
    | d => some (e.set i (some d.top)))
  | none => none := rfl
@[simp] theorem rdOwn_s {i} : rdOwn e i = match e[i]? with
  | some (some (.lst true _)) => some ()
  | some (some (.io _)) => some ()
  | _ => none := rfl
@[simp] theorem setL_s {i g} : setL e i g = match e[i]? with
  | some (some (.lst true l)) => (g l).map fun l => e.set i (some (.lst true l))
  | some (some (.io l)) => (g l).map fun l => e.set i (some (.io l))
  | _ => none := rfl
@[simp] theorem evChain3_s {o1 o2 o3 r} {g h k : Env → Option (Opd × Env)} : evChain3 o1 o2 o3 r g h k = r.bind fun x => (g x.2).bind fun y => (val x.1).bind fun da => (val y.1).bind fun db => (cmp o1 da db).bind fun r =>
    if r = true then (h y.2).bind fun z => (val z.1).bind fun dc => (cmp o2 db dc).bind fun r2 =>
      if r2 = true then (k z.2).bind fun w => (val w.1).bind fun dd => (cmp o3 dc dd).map fun r => (.v (.bl r), w.2) else some (.v (.bl false), z.2)
    else some (.v (.bl false), y.2) := rfl
@[simp] theorem evChain_s {o1 o2 r} {g h : Env → Option (Opd × Env)} : evChain o1 o2 r g h = r.bind fun x => (g x.2).bind fun y => (val x.1).bind fun d => (val y.1).bind fun d' => (cmp o1 d d').bind fun r =>
    if r = true then (h y.2).bind fun z => (val z.1).bind fun d'' => (cmp o2 d' d'').map fun r => (.v (.bl r), z.2) else some (.v (.bl false), y.2) := rfl
end
/-! ### merging -/
section
variable {α β γ : Type}
@[simp] theorem ite_pair {p : Prop} [Decidable p] {a b : α} {c : β} : (if p then some (a, c) else some (b, c)) = some (if p then a else b, c) := by split <;> rfl
@[simp] theorem ite_v {p : Prop} [Decidable p] {a b : D} : (if p then Opd.v a else Opd.v b) = Opd.v (if p then a else b) := by split <;> rfl
@[simp] theorem ite_bl {p : Prop} [Decidable p] {a b : Bool} : (if p then D.bl a else D.bl b) = D.bl (if p then a else b) := by split <;> rfl
@[simp] theorem ite_int {p : Prop} [Decidable p] {a b : Int} : (if p then D.int a else D.int b) = D.int (if p then a else b) := by split <;> rfl
theorem bind_ite {p : Prop} [Decidable p] {a b : Option α} {f : α → Option β} : (if p then a else b).bind f = if p then a.bind f else b.bind f := by split <;> rfl
theorem map_ite {p : Prop} [Decidable p] {a b : Option α} {f : α → β} : (if p then a else b).map f = if p then a.map f else b.map f := by split <;> rfl
theorem seqO_ite {p : Prop} [Decidable p] {a b : Option Out} {f : Env → Option Out} : seqO (if p then a else b) f = if p then seqO a f else seqO b f := by split <;> rfl
theorem toB_ite {p : Prop} [Decidable p] {a b : Option (Opd × Env)} : toB (if p then a else b) = if p then toB a else toB b := by split <;> rfl
end
/-! ### loops, comprehensions -/
section
variable {e : Env} {ds : List D}
@[simp] theorem forL_nil {f} : forL f [] e = some (.nx e) := rfl
@[simp] theorem forC_nil {C tg b} : forC C tg b [] e = some (.nx e) := rfl
theorem forC_cons {C tg b d} : forC C tg b (d :: ds) e = ((store tg d e).bind fun e => evSs C b e).bind fun o => match o with
    | .nx e => forC C tg b ds e
    | .ct e => forC C tg b ds e
    | .bk e => some (.nx e)
    | .rt d e => some (.rt d e) := rfl
theorem forL_nx {f d e1} (h : f d e = some (.nx e1)) : forL f (d :: ds) e = forL f ds e1 := by
  show (f d e).bind _ = _
  rw [h]
  rfl
theorem forL_ct {f d e1} (h : f d e = some (.ct e1)) : forL f (d :: ds) e = forL f ds e1 := by
  show (f d e).bind _ = _
  rw [h]
  rfl
theorem forL_rt {f d r e1} (h : f d e = some (.rt r e1)) : forL f (d :: ds) e = some (.rt r e1) := by
  show (f d e).bind _ = _
  rw [h]
  rfl
theorem forL_bk {f d e1} (h : f d e = some (.bk e1)) : forL f (d :: ds) e = some (.nx e1) := by
  show (f d e).bind _ = _
  rw [h]
  rfl
/-- a loop that goes on to its end: the state by a function -/
theorem forL_fold {σ α : Type} {f : D → Env → Option Out} (st : σ → Env) (enc : α → D) (g : σ → α → σ) {l : List α} : (∀ s, ∀ a ∈ l, f (enc a) (st s) = some (.nx (st (g s a)))) → ∀ s, forL f (l.map enc) (st s) = some (.nx (st (l.foldl g s))) := by
  induction l with
  | nil => intro _ s; rfl
  | cons a r ih =>
    intro h s
    rw [List.map_cons, forL_nx (h s a List.mem_cons_self), List.foldl_cons]
    exact ih (fun s a ha => h s a (List.mem_cons_of_mem _ ha)) _
/-- a loop that goes on to its end, with an invariant -/
theorem forC_inv {σ α : Type} {C : Ora} {tg : Tg} {b : ISs} (st : σ → Env) (enc : α → D) (g : σ → α → σ) (I : Nat → σ → Prop) (K : Nat) : ∀ (l : List α) (s : σ) (k : Nat), k + l.length ≤ K → I k s →
    (∀ k s, ∀ a ∈ l, k < K → I k s → ((store tg (enc a) (st s)).bind fun e => evSs C b e) = some (.nx (st (g s a))) ∧ I (k + 1) (g s a)) → forC C tg b (l.map enc) (st s) = some (.nx (st (l.foldl g s))) ∧ I (k + l.length) (l.foldl g s)
  | [], s, k, _, h, _ => ⟨rfl, h⟩
  | a :: r, s, k, hK, h, hs => by
    rw [List.length_cons] at hK
    obtain ⟨h1, h2⟩ := hs k s a List.mem_cons_self (by omega) h
    obtain ⟨h3, h4⟩ := forC_inv st enc g I K r (g s a) (k + 1) (by omega) h2 fun k s a ha => hs k s a (List.mem_cons_of_mem _ ha)
    rw [List.map_cons, forC_cons, h1]
    refine ⟨h3, ?_⟩
    rw [List.length_cons, List.foldl_cons]
    have e : k + (r.length + 1) = k + 1 + r.length := by omega
    rw [e]
    exact h4
theorem foldl_fst {σ τ α : Type} (f : σ → α → σ) (h : σ → τ → α → τ) : ∀ (l : List α) (s : σ) (t : τ), (l.foldl (fun x a => (f x.1 a, h x.1 x.2 a)) (s, t)).1 = l.foldl f s
  | [], _, _ => rfl
  | a :: r, s, t => foldl_fst f h r (f s a) (h s t a)
theorem compL_enc {α : Type} {F : D → Env → Option (Option D × Env)} (f : α → D) (c : α → Bool) (g : α → D) : ∀ l : List α, (∀ a ∈ l, F (f a) e = some (if c a = true then some (g a) else none, e)) → compL F (l.map f) e = some ((l.filter c).map g, e)
  | [], _ => rfl
  | a :: r, h => by
    have ih := compL_enc f c g r fun a ha => h a (List.mem_cons_of_mem _ ha)
    show ((F (f a) e).bind fun x => (compL F (r.map f) x.2).map fun y => (match x.1 with | some z => z :: y.1 | none => y.1, y.2)) = _
    rw [h a List.mem_cons_self]
    show ((compL F (r.map f) e).map _) = _
    rw [ih]
    cases hc : c a with
    | true => simp [List.filter_cons, hc]
    | false => simp [List.filter_cons, hc]
theorem compL_map {α : Type} {F : D → Env → Option (Option D × Env)} (f : α → D) (g : α → D) (l : List α) (h : ∀ a ∈ l, F (f a) e = some (some (g a), e)) : compL F (l.map f) e = some (l.map g, e) := by
  have := compL_enc (F := F) (e := e) f (fun _ => true) g l fun a ha => by rw [h a ha]; rfl
  have e2 : l.filter (fun _ => true) = l := List.filter_eq_self.mpr fun _ _ => rfl
  rwa [e2] at this
theorem unwipe_wipe {vs : List Nat} : unwipe e vs (wipeE e vs) = e := by
  refine List.ext_getElem? fun i => ?_
  by_cases hi : i ∈ vs
  · by_cases hl : i < e.length
    · rw [unwipe_in hi (by rw [wipeE_len]; exact hl), List.getD_eq_getElem?_getD, List.getElem?_eq_getElem hl]
      rfl
    · rw [List.getElem?_eq_none (by rw [unwipe_len, wipeE_len]; omega), List.getElem?_eq_none (by omega)]
  · rw [unwipe_out hi, wipeE_out hi]
theorem compV_ok {it : Env → Option (List D × Env)} {g t u vs} {ds rs : List D} {e1 : Env} (h : it e = some (ds, e1)) (hf : vs.all (freeAt e1) = true) (hc : compL (compF g t u vs) ds (wipeE e1 vs) = some (rs, wipeE e1 vs)) (hl : rs.length ≤ lim) : compV it g t u vs e = some (.v (.lst true rs), e1) := by
  show ((it e).bind fun x => if vs.all (freeAt x.2) = true then (compL (compF g t u vs) x.1 (wipeE x.2 vs)).bind fun y => if y.1.length ≤ lim then some (Opd.v (.lst true y.1), unwipe x.2 vs y.2) else none else none) = _
  rw [h]
  show (if vs.all (freeAt e1) = true then _ else _) = _
  rw [if_pos hf, hc]
  show (if rs.length ≤ lim then _ else _) = _
  rw [if_pos hl, unwipe_wipe]
end
end PV
set_option Elab.async false
set_option linter.all false
set_option maxRecDepth 100000
set_option maxHeartbeats 1000000
/-! Months: the program's functions as plain ones. -/
namespace PV
open PySem PySem.Spec L2
def mS (w : Bool) : Str := if w = true then Str.ofString "whole" else Str.ofString "parts"
def rS (w : Bool) : Str := if w = true then Str.ofString "half" else Str.ofString "down"
def optP : Option (Int × Int) → D
  | none => .non
  | some p => pairD p
def planL (p : Plan) : List D := [.tup (p.bands.map pairD), .str (mS p.whole), .str (rS p.half), optP p.bonus, optP p.fee, .int p.charge]
@[simp] theorem fr_opt {b} : (optP b).freeze = optP b := by cases b <;> rfl
@[simp] theorem own_opt {b} : (optP b).isOwn = false := by cases b <;> rfl
@[simp] theorem fr_plan {p} : freezes (planL p) = planL p := by simp [planL]
@[simp] theorem plan_0 {p} : atI (planL p) 0 = some (.tup (p.bands.map pairD)) := rfl
@[simp] theorem plan_1 {p} : atI (planL p) 1 = some (.str (mS p.whole)) := rfl
@[simp] theorem plan_2 {p} : atI (planL p) 2 = some (.str (rS p.half)) := rfl
@[simp] theorem plan_3 {p} : atI (planL p) 3 = some (optP p.bonus) := rfl
@[simp] theorem plan_4 {p} : atI (planL p) 4 = some (optP p.fee) := rfl
@[simp] theorem plan_5 {p} : atI (planL p) 5 = some (.int p.charge) := rfl
@[simp] theorem opt_none : optP none = .non := rfl
@[simp] theorem opt_some {b} : optP (some b) = .tup [.int b.1, .int b.2] := rfl
@[simp] theorem mS_whole {w} : cmp .eq (.str (mS w)) (.str (Str.ofString "whole")) = some w := by cases w <;> decide +kernel
@[simp] theorem rS_half {w} : cmp .eq (.str (rS w)) (.str (Str.ofString "half")) = some w := by cases w <;> decide +kernel
theorem run_is_due {m : Nat} (h : 1 ≤ m) {p : Plan} (ok : p.Ok) (idle : Int) : runs U m 24 [.tup (planL p), .int idle] = some (.bl (isDue p idle), []) :=
  run_ge u24 h fun n _ => by
    unfold isDue
    cases hb : p.bonus with
    | none => simp [f24, hb]
    | some b =>
      have h1 : 0 < b.1 := by have := ok.bonus b hb; omega
      by_cases h2 : 0 < idle <;> simp [f24, hb, bin_mod, h1, h2]
theorem small_mul {i j : Int} (h : 0 ≤ j ∧ j ≤ 1000000) : mulOk i j = true := mulOk_r ⟨by omega, by omega⟩
theorem small_mul' {i j : Int} (h : 0 ≤ i ∧ i ≤ 1000000) : mulOk i j = true := mulOk_l ⟨by omega, by omega⟩
theorem run_kept_of {m : Nat} (h : 1 ≤ m) {p : Plan} (ok : p.Ok) (taken : Int) : runs U m 28 [.tup (planL p), .int taken] = some (.int (keptOf p taken), []) :=
  run_ge u28 h fun n _ => by
    have h1 : mulOk taken p.charge = true := small_mul (by have := ok.charge; omega)
    simp [f28, keptOf, h1, bin_div]
theorem run_interest_of {m : Nat} (h : 2 ≤ m) {p : Plan} {base : Int} {due : Bool} (ht : ∀ k, 1 ≤ k → runs U k 25 [.tup (planL p), .int base, .bl due] = some (.int (thousandths p base due), [])) : runs U m 26 [.tup (planL p), .int base, .bl due] = some (.int (interestOf p base due), []) :=
  run_ge u26 h fun n hn => by
    cases hh : p.half <;> simp [f26, ht n hn, interestOf, hh, bin_div]
theorem run_balance_from {m : Nat} (h : 3 ≤ m) {p : Plan} {base : Int} {due : Bool} (ht : ∀ k, 1 ≤ k → runs U k 25 [.tup (planL p), .int base, .bl due] = some (.int (thousandths p base due), [])) : runs U m 27 [.tup (planL p), .int base, .bl due] = some (.int (balanceFrom p base due), []) :=
  run_ge u27 h fun n hn => by
    cases hf : p.fee with
    | none => simp [f27, run_interest_of hn ht, balanceFrom, hf]
    | some f =>
      by_cases hb : base < f.1 <;> simp [f27, run_interest_of hn ht, balanceFrom, hf, hb]
theorem zipL_map {α β : Type} {f : α → D} {g : β → D} : ∀ {l : List α} {m : List β}, zipL (l.map f) (m.map g) = (l.zip m).map fun x => .tup [f x.1, g x.2]
  | [], _ => by simp [zipL]
  | _ :: _, [] => by simp [zipL]
  | a :: l, b :: m => by
    show .tup [f a, g b] :: zipL (l.map f) (m.map g) = _
    rw [zipL_map]
    rfl
theorem getLast_map {α β : Type} {f : α → β} {l : List α} : (l.map f).getLast? = l.getLast?.map f := by rw [List.getLast?_map]
theorem run_thousandths {m : Nat} (h : 1 ≤ m) {p : Plan} (ok : p.Ok) {base : Int} (hb : 0 ≤ base) {due : Bool} (hd : due = true → p.bonus ≠ none) : runs U m 25 [.tup (planL p), .int base, .bl due] = some (.int (thousandths p base due), []) :=
  run_ge u25 h fun n hn => by
    have hlen : ∀ c : Int × Int → Bool, (p.bands.filter c).length ≤ 5 := fun c => Nat.le_trans (List.length_filter_le _ _) ok.len
    have hbo : due = true → ∃ b, p.bonus = some b ∧ mulOk base b.2 = true := fun z => by
      cases hb2 : p.bonus with
      | none => exact absurd hb2 (hd z)
      | some b => exact ⟨b, rfl, small_mul (by have := ok.bonus b hb2; omega)⟩
    obtain ⟨E, hE⟩ : ∃ E : Env, E = [some (D.tup (planL p)), some (D.int base), some (D.bl due), some (D.tup (p.bands.map pairD)), none, none, none, none, none] := ⟨_, rfl⟩
    cases hw : p.whole with
    | true =>
      have c4 : mulOk base (topRate p base) = true := small_mul (by
        have := ok.band _ (List.mem_filter.mp (last_mem (filt_ne ok hb) (0, 0)).1).1
        unfold topRate
        omega)
      have c0 : plain p base = base * topRate p base := by rw [plain, if_pos hw]
      have c2 : atI ((p.bands.filter fun b => decide (b.1 ≤ base)).map fun b => D.int b.2) (-1) = some (.int (topRate p base)) := by
        rw [atI_last (by simpa using filt_ne ok hb), List.getLast?_map, (last_mem (filt_ne ok hb) (0, 0)).2]
        rfl
      have c1 : compV (evI (runs U n) (.seq (.var 3))) (store (.tup [.name 6, .name 7])) (evB (runs U n) true (.cons (.cmp .le (.var 6) (.var 1)) .nil)) (ev (runs U n) (.var 7)) [6, 7] E = some (.v (.lst true ((p.bands.filter fun b => decide (b.1 ≤ base)).map fun b => .int b.2)), E) :=
        compV_ok (ds := p.bands.map pairD) (by simp [hE]) (by simp [hE, freeAt]) (compL_enc pairD _ _ _ fun a ha => by
          by_cases hc : a.1 ≤ base <;> simp [compF, pairD, hE, hc]) (by rw [List.length_map]; exact Nat.le_trans (hlen _) (by decide))
      rw [hE] at c1
      generalize (p.bands.filter fun b => decide (b.1 ≤ base)) = l at c1 c2
      cases due with
      | false => simp [f25, hw, c1, c2, c4, thousandths, c0]
      | true =>
        obtain ⟨b, hbo, c5⟩ := hbo rfl
        simp [f25, hw, c1, c2, c4, c5, thousandths, hbo, c0]
    | false =>
      have c0 : plain p base = partSum p base := by rw [plain, if_neg (by rw [hw]; decide)]
      have c1 : compV (evI (runs U n) (.seq (.slice (.var 3) (.some (.int 1)) .none))) (store (.tup [.name 6, .name 7])) (evB (runs U n) true .nil) (ev (runs U n) (.var 6)) [6, 7] E = some (.v (.lst true ((p.bands.drop 1).map fun b => .int b.1)), E) :=
        compV_ok (ds := (p.bands.drop 1).map pairD) (by
            have e1 : freezes ((p.bands.map pairD).drop 1) = (p.bands.map pairD).drop 1 := by rw [← List.map_drop, fr_pairs]
            rw [List.map_drop]
            simp [hE, e1, -List.drop_one, -List.map_drop]) (by simp [hE, freeAt]) (compL_map pairD _ _ fun a ha => by simp [compF, pairD, hE]) (by
            rw [List.length_map, List.length_drop]
            have := ok.len
            have : lim = 1000000 := rfl
            omega)
      rw [hE] at c1
      have ne : p.bands.map pairD ≠ [] := by simpa using ok.ne
      have c2 : atI (p.bands.map pairD) (-1) = some (pairD (p.bands.getLast?.getD (0, 0))) := by
        rw [atI_last ne, List.getLast?_map, (last_mem ok.ne (0, 0)).2]
        rfl
      have l5 := ok.len
      obtain ⟨F, hF⟩ : ∃ F : Env, F = [some (D.tup (planL p)), some (D.int base), some (D.bl due), some (D.tup (p.bands.map pairD)), none, some (.lst true ((endsOf p.bands base).map .int)), none, none, none] := ⟨_, rfl⟩
      obtain ⟨G, hG⟩ : ∃ G : Env, G = [some (D.tup (planL p)), some (D.int base), some (D.bl due), some (D.tup (p.bands.map pairD)), none, some (.lst false ((endsOf p.bands base).map .int)), none, none, none] := ⟨_, rfl⟩
      have c3 : compV (evI (runs U n) (.zip (.var 3) (.var 5))) (store (.tup [.tup [.name 6, .name 7], .name 8])) (evB (runs U n) true .nil)
          (ev (runs U n) (.bin .mul (.var 7) (.blt .max2 (.cons (.int 0) (.cons (.bin .sub (.blt .min2 (.cons (.var 1) (.cons (.var 8) .nil))) (.var 6)) .nil))))) [8, 6, 7] F = some (.v (.lst true ((p.bands.zip (endsOf p.bands base)).map fun x => .int (x.1.2 * part base x.2 x.1.1))), G) :=
        compV_ok (ds := (p.bands.zip (endsOf p.bands base)).map fun x => .tup [pairD x.1, .int x.2]) (by simp [hF, hG, zipL_map]) (by simp [hG, freeAt]) (compL_map _ _ _ fun a ha => by
          have := ok.band a.1 (List.of_mem_zip ha).1
          have c : ∀ j, mulOk a.1.2 j = true := fun j => small_mul' (by omega)
          simp [compF, pairD, hG, c, part]) (by
            rw [List.length_map, List.length_zip]
            have : lim = 1000000 := rfl
            omega)
      rw [hF, hG] at c3
      have c4 : ((p.bands.zip (endsOf p.bands base)).map fun x => D.int (x.1.2 * part base x.2 x.1.1)) = ((p.bands.zip (endsOf p.bands base)).map fun x => x.1.2 * part base x.2 x.1.1).map D.int := by rw [List.map_map]; rfl
      rw [c4] at c3
      have c5 : ((p.bands.drop 1).map fun b => D.int b.1) ++ [D.int (max base (p.bands.getLast?.getD (0, 0)).1)] = (endsOf p.bands base).map .int := by
        unfold endsOf
        rw [List.map_append, List.map_map]
        rfl
      have c6 : ((p.bands.drop 1).map fun b => D.int b.1).length + [D.int (max base (p.bands.getLast?.getD (0, 0)).1)].length ≤ lim := by
        have : lim = 1000000 := rfl
        rw [List.length_map, List.length_drop, this, List.length_singleton]
        omega
      have c7 := bin_addL (o := true) (o' := true) c6
      rw [c5] at c7
      generalize (endsOf p.bands base).map D.int = ends at c3 c7
      generalize ((p.bands.drop 1).map fun b => D.int b.1) = ds at c1 c7
      generalize p.bands.getLast?.getD (0, 0) = la at c2 c7
      have c8 := sum_ints (o := true) (l := (p.bands.zip (endsOf p.bands base)).map fun x => x.1.2 * part base x.2 x.1.1)
      have c9 : ((p.bands.zip (endsOf p.bands base)).map fun x => x.1.2 * part base x.2 x.1.1).sum = partSum p base := rfl
      rw [c9] at c8
      generalize ((p.bands.zip (endsOf p.bands base)).map fun x => x.1.2 * part base x.2 x.1.1).map D.int = su at c3 c8
      cases due with
      | false => simp [f25, hw, c1, c2, c3, c7, c8, thousandths, c0, pairD]
      | true =>
        obtain ⟨b, hbo, c5⟩ := hbo rfl
        simp [f25, hw, c1, c2, c3, c7, c8, c5, thousandths, hbo, c0, pairD]
end PV
set_option Elab.async false
set_option linter.all false
set_option maxRecDepth 100000
set_option maxHeartbeats 1000000
/-! Months: rows. -/
namespace PV
open PySem PySem.Spec L2
theorem run_balance {m : Nat} (h : 3 ≤ m) {p : Plan} (ok : p.Ok) {base : Int} (hb : 0 ≤ base) {due : Bool} (hd : due = true → p.bonus ≠ none) : runs U m 27 [.tup (planL p), .int base, .bl due] = some (.int (balanceFrom p base due), []) :=
  run_balance_from h fun k hk => run_thousandths hk ok hb hd
def monthD (x : Int × Int × Int) : D := .tup [.int x.1, .int x.2.1, .int x.2.2]
theorem run_month_of {m : Nat} (h : 4 ≤ m) {p : Plan} (ok : p.Ok) {b : Int × Int} (hb : 0 ≤ b.1) (pay : Int) : runs U m 29 [.tup (planL p), .int b.1, .int b.2, .int pay] = some (monthD (monthOf p b pay), []) :=
  run_ge u29 h fun n hn => by
    by_cases hp : pay < 0
    · have h1 : 0 ≤ b.1 - min b.1 (-pay) := by omega
      have e1 := fun t => run_kept_of (m := n) (by omega) ok t
      have e2 := run_balance (m := n) hn ok h1 (due := false) (fun z => by cases z)
      simp [f29, hp, e1, e2, monthOf, monthD]
    · have h1 : 0 ≤ b.1 + pay := by omega
      have e1 := run_is_due (m := n) (by omega) ok (b.2 + 1)
      have e2 := run_balance (m := n) hn ok h1 (due := isDue p (b.2 + 1)) isDue_bonus
      simp [f29, hp, e1, e2, monthOf, monthD]
/-- the told pairs, then balance and idle -/
def toldStep (p : Plan) (s : List (Int × Int) × Int × Int) (pay : Int) : List (Int × Int) × Int × Int :=
  let r := monthOf p s.2 pay
  (s.1 ++ [(r.1, r.2.1)], r.2.1, r.2.2)
def toldFrom (p : Plan) (b : Int × Int) (row : List Int) : List (Int × Int) × Int × Int := row.foldl (toldStep p) ([], b)
theorem month_nonneg {p : Plan} (ok : p.Ok) {b : Int × Int} (hb : 0 ≤ b.1) (pay : Int) : 0 ≤ (monthOf p b pay).2.1 := by
  unfold monthOf
  split
  · exact balance_nonneg ok (by omega)
  · exact balance_nonneg ok (by omega)
theorem run_told_from {m : Nat} (h : 5 ≤ m) {p : Plan} (ok : p.Ok) {b : Int × Int} (hb : 0 ≤ b.1) {row : List Int} (hr : row.length ≤ 1000) : runs U m 30 [.tup (planL p), .int b.1, .int b.2, .tup (row.map .int)] = some (.tup [.lst true ((toldFrom p b row).1.map pairD), .int (toldFrom p b row).2.2], []) ∧ (toldFrom p b row).1.length = row.length ∧ 0 ≤ (toldFrom p b row).2.1 := by
  have key : ∀ n, 4 ≤ n → ∃ q, forC (runs U n) (.name 5) (.cons (.asg (.tup [(.name 6), (.name 1), (.name 2)]) (.call 29 (.cons (.var 0) (.cons (.var 1) (.cons (.var 2) (.cons (.var 5) .nil)))))) (.cons (.append 4 (.tup (.cons (.var 6) (.cons (.var 1) .nil)))) .nil)) (row.map .int)
      [some (.tup (planL p)), some (.int b.1), some (.int b.2), some (.tup (row.map .int)), some (.lst true []), none, none] =
      some (.nx ([some (.tup (planL p)), some (.int (toldFrom p b row).2.1), some (.int (toldFrom p b row).2.2), some (.tup (row.map .int)), some (.lst true ((toldFrom p b row).1.map pairD))] ++ q)) ∧ (toldFrom p b row).1.length = row.length ∧ 0 ≤ (toldFrom p b row).2.1 := fun n hn => by
    have z := forC_inv (C := runs U n) (tg := .name 5) (b := (.cons (.asg (.tup [(.name 6), (.name 1), (.name 2)]) (.call 29 (.cons (.var 0) (.cons (.var 1) (.cons (.var 2) (.cons (.var 5) .nil)))))) (.cons (.append 4 (.tup (.cons (.var 6) (.cons (.var 1) .nil)))) .nil)))
      (fun s : (List (Int × Int) × Int × Int) × Option D × Option D => [some (.tup (planL p)), some (.int s.1.2.1), some (.int s.1.2.2), some (.tup (row.map .int)), some (.lst true (s.1.1.map pairD)), s.2.1, s.2.2])
      D.int (fun s a => (toldStep p s.1 a, some (.int a), some (.int (monthOf p s.1.2 a).1))) (fun k s => s.1.1.length = k ∧ 0 ≤ s.1.2.1 ∧ (∀ l, s.2.1 ≠ some (.io l)) ∧ ∀ l, s.2.2 ≠ some (.io l)) row.length row (([], b), none, none) 0 (by omega) ⟨rfl, hb, (fun _ z => by cases z), (fun _ z => by cases z)⟩ ?_
    · obtain ⟨z1, z2, z3, _⟩ := z
      have e := foldl_fst (toldStep p) (fun s (_ : Option D × Option D) a => (some (D.int a), some (D.int (monthOf p s.2 a).1))) row ([], b) (none, none)
      have e' : (row.foldl (fun s a => (toldStep p s.1 a, some (D.int a), some (D.int (monthOf p s.1.2 a).1))) (([], b), none, none)).1 = toldFrom p b row := e
      generalize row.foldl (fun (s : (List (Int × Int) × Int × Int) × Option D × Option D) a => (toldStep p s.1 a, some (D.int a), some (D.int (monthOf p s.1.2 a).1))) (([], b), none, none) = r at e' z1 z2 z3
      rw [e'] at z1 z2 z3
      exact ⟨[r.2.1, r.2.2], z1, by omega, z3⟩
    · rintro k ⟨⟨fo, ba, id⟩, q, g⟩ a ha hk ⟨h1, h2, h3, h4⟩
      have e1 := run_month_of hn ok (b := (ba, id)) h2 a
      dsimp only at h1 h2 h3 h4 e1
      have e2 : fo.length < 1000000 := by omega
      refine ⟨?_, ?_, month_nonneg ok h2 a, (fun _ z => by cases z), (fun _ z => by cases z)⟩
      · simp [toldStep, e1, monthD, e2, pairD, h4]
      · show (fo ++ [_]).length = k + 1
        rw [List.length_append, h1]
        rfl
  obtain ⟨_, _, k1, k2⟩ := key 4 (Nat.le_refl _)
  refine ⟨run_ge u30 h fun n hn => ?_, k1, k2⟩
  obtain ⟨q, k3, _⟩ := key n hn
  simp [f30, k3]
end PV
set_option Elab.async false
set_option linter.all false
set_option maxRecDepth 100000
set_option maxHeartbeats 1000000
/-! What is a plan, what is a row. -/
namespace PV
open PySem PySem.Spec L2
theorem run_is_integer {m : Nat} (h : 1 ≤ m) (v lo hi : Int) : runs U m 0 [.int v, .int lo, .int hi] = some (.bl (decide (lo ≤ v) && decide (v ≤ hi)), []) :=
  run_ge u0 h fun n _ => by
    by_cases h1 : lo ≤ v <;> simp [f0, h1]
theorem run_is_pair {m : Nat} (h : 2 ≤ m) (b : Int × Int) (l1 h1 l2 h2 : Int) : runs U m 1 [pairD b, .tup [.int l1, .int h1], .tup [.int l2, .int h2]] = some (.bl ((decide (l1 ≤ b.1) && decide (b.1 ≤ h1)) && (decide (l2 ≤ b.2) && decide (b.2 ≤ h2))), []) :=
  run_ge u1 h fun n hn => by
    have e := fun a b c => run_is_integer (m := n) hn a b c
    cases e1 : (decide (l1 ≤ b.1) && decide (b.1 ≤ h1)) <;> simp [f1, pairD, e, e1]
theorem all_map {α : Type} {f : α → Bool} {l : List α} (h : ∀ a ∈ l, f a = true) : (l.map f).all id = true := by
  rw [List.all_map]
  exact List.all_eq_true.mpr fun a ha => h a ha
theorem zip_ris : ∀ {l : List (Int × Int)}, (l.map (·.1)).Pairwise (· < ·) → ∀ x ∈ l.zip (l.drop 1), x.1.1 < x.2.1
  | [], _, x, hx => by cases hx
  | [a], _, x, hx => by simp at hx
  | a :: b :: r, h, x, hx => by
    have h := List.pairwise_cons.mp h
    rcases List.mem_cons.mp (show x ∈ (a, b) :: ((b :: r).zip r) from hx) with z | z
    · rw [z]
      exact h.1 b.1 (by simp)
    · exact zip_ris (l := b :: r) h.2 x z
theorem run_are_bands {m : Nat} (h : 3 ≤ m) {p : Plan} (ok : p.Ok) : runs U m 2 [.tup (p.bands.map pairD)] = some (.bl true, []) :=
  run_ge u2 h fun n hn => by
    have l5 := ok.len
    have l1 : 1 ≤ p.bands.length := List.length_pos_iff.mpr ok.ne
    have c1 : compV (evI (runs U n) (.seq (.var 0))) (store (.name 3)) (evB (runs U n) true .nil) (ev (runs U n) (.call 1 (.cons (.var 3) (.cons (.tup (.cons (.int 0) (.cons (.glo (Str.ofString "MAX_START") (1000000)) .nil))) (.cons (.tup (.cons (.int 0) (.cons (.glo (Str.ofString "MAX_RATE") (100)) .nil))) .nil))))) [3]
        [some (.tup (p.bands.map pairD)), none, none, none] = some (.v (.lst true ((p.bands.map fun b => (decide (0 ≤ b.1) && decide (b.1 ≤ 1000000)) && (decide (0 ≤ b.2) && decide (b.2 ≤ 100))).map .bl)), [some (.tup (p.bands.map pairD)), none, none, none]) :=
      compV_ok (ds := p.bands.map pairD) (by simp) (by simp [freeAt]) (by
        rw [List.map_map]
        exact compL_map pairD _ _ fun a ha => by
          have e := run_is_pair (m := n) hn a 0 1000000 0 100
          simp [pairD] at e
          simp [compF, pairD, e]) (by simp; omega)
    have c2 := all_bools (o := true) (l := p.bands.map fun b => (decide (0 ≤ b.1) && decide (b.1 ≤ 1000000)) && (decide (0 ≤ b.2) && decide (b.2 ≤ 100)))
    rw [all_map fun a ha => by have := ok.band a ha; simp [this.1, this.2.1, this.2.2.1, this.2.2.2]] at c2
    have c3 : compV (evI (runs U n) (.zip (.var 0) (.slice (.var 0) (.some (.int 1)) .none))) (store (.tup [.name 1, .name 2])) (evB (runs U n) true .nil) (ev (runs U n) (.cmp .lt (.idx (.var 1) (.int 0)) (.idx (.var 2) (.int 0)))) [1, 2]
        [some (.tup (p.bands.map pairD)), none, none, none] = some (.v (.lst true (((p.bands.zip (p.bands.drop 1)).map fun x => decide (x.1.1 < x.2.1)).map .bl)), [some (.tup (p.bands.map pairD)), none, none, none]) :=
      compV_ok (ds := (p.bands.zip (p.bands.drop 1)).map fun x => .tup [pairD x.1, pairD x.2]) (by
        have e1 : freezes ((p.bands.map pairD).drop 1) = (p.bands.map pairD).drop 1 := by rw [← List.map_drop, fr_pairs]
        have e2 : zipL (p.bands.map pairD) ((p.bands.map pairD).drop 1) = (p.bands.zip (p.bands.drop 1)).map fun x => .tup [pairD x.1, pairD x.2] := by rw [← List.map_drop, zipL_map]
        simp [e1, e2, -List.drop_one, -List.map_drop]) (by simp [freeAt]) (by
        rw [List.map_map]
        exact compL_map _ _ _ fun a ha => by simp [compF, pairD]) (by
          rw [List.length_map, List.length_map, List.length_zip]
          show _ ≤ 1000000
          omega)
    have c4 := all_bools (o := true) (l := (p.bands.zip (p.bands.drop 1)).map fun x => decide (x.1.1 < x.2.1))
    rw [all_map fun a ha => decide_eq_true (zip_ris ok.ris a ha)] at c4
    generalize ((p.bands.zip (p.bands.drop 1)).map fun x => decide (x.1.1 < x.2.1)).map D.bl = w2 at c3 c4
    generalize (p.bands.map fun b => (decide (0 ≤ b.1) && decide (b.1 ≤ 1000000)) && (decide (0 ≤ b.2) && decide (b.2 ≤ 100))).map D.bl = w1 at c1 c2
    obtain ⟨r, bs, hb⟩ := ok.head
    have c5 : atI (p.bands.map pairD) 0 = some (.tup [.int 0, .int r]) := by rw [hb]; simp [pairD]
    have c6 : ((p.bands.map pairD).length : Int) ≤ 5 := by rw [List.length_map]; omega
    have c7 : (1 : Int) ≤ ((p.bands.map pairD).length : Int) := by rw [List.length_map]; omega
    generalize p.bands.map pairD = bd at c1 c3 c5 c6 c7
    simp [f2, c1, c2, c3, c4, c5, c6, c7]
@[simp] theorem mS_in {w} : cmp .notin (.str (mS w)) (.tup [.str (Str.ofString "parts"), .str (Str.ofString "whole")]) = some false := by cases w <;> decide +kernel
@[simp] theorem rS_in {w} : cmp .notin (.str (rS w)) (.tup [.str (Str.ofString "down"), .str (Str.ofString "half")]) = some false := by cases w <;> decide +kernel
theorem run_is_plan {m : Nat} (h : 4 ≤ m) {p : Plan} (ok : p.Ok) : runs U m 3 [.tup (planL p)] = some (.bl true, []) :=
  run_ge u3 h fun n hn => by
    have e1 := run_are_bands (m := n) hn ok
    have e2 := fun b l1 h1 l2 h2 => run_is_pair (m := n) (by omega) b l1 h1 l2 h2
    have e3 := fun v lo hi => run_is_integer (m := n) (by omega) v lo hi
    have hc := ok.charge
    have es : slice (.tup (planL p)) (some 1) none = some (.tup [.str (mS p.whole), .str (rS p.half), optP p.bonus, optP p.fee, .int p.charge]) := by simp [planL]
    have el : (planL p).length = 6 := rfl
    have e2 := fun (b : Int × Int) l1 h1 l2 h2 => show runs U n 1 [.tup [.int b.1, .int b.2], .tup [.int l1, .int h1], .tup [.int l2, .int h2]] = _ from e2 b l1 h1 l2 h2
    cases hb : p.bonus with
    | none =>
      cases hf : p.fee with
      | none => simp [f3, e1, e3, es, el, hb, hf, hc.1, hc.2]
      | some f =>
        have := ok.fee f hf
        simp [f3, e1, e2, e3, es, el, hb, hf, hc.1, hc.2, this.1, this.2.1, this.2.2.1, this.2.2.2]
    | some b =>
      have hb' := ok.bonus b hb
      cases hf : p.fee with
      | none => simp [f3, e1, e2, e3, es, el, hb, hf, hc.1, hc.2, hb'.1, hb'.2.1, hb'.2.2.1, hb'.2.2.2]
      | some f =>
        have := ok.fee f hf
        simp [f3, e1, e2, e3, es, el, hb, hf, hc.1, hc.2, this.1, this.2.1, this.2.2.1, this.2.2.2, hb'.1, hb'.2.1, hb'.2.2.1, hb'.2.2.2]
def RowOk (row : List Int) : Prop := row.length ≤ 200 ∧ ∀ x ∈ row, -1000000000 ≤ x ∧ x ≤ 1000000000
theorem run_is_row {m : Nat} (h : 3 ≤ m) {row : List Int} (ok : RowOk row) : runs U m 5 [.tup (row.map .int)] = some (.bl true, []) :=
  run_ge u5 h fun n hn => by
    have e4 : ∀ v, runs U n 4 [.int v] = some (.bl (decide (-1000000000 ≤ v) && decide (v ≤ 1000000000)), []) := fun v => run_ge u4 hn fun n hn => by
      simp [f4, run_is_integer (m := n) hn]
    have l := ok.1
    have c1 : compV (evI (runs U n) (.seq (.var 0))) (store (.name 1)) (evB (runs U n) true .nil) (ev (runs U n) (.call 4 (.cons (.var 1) .nil))) [1] [some (.tup (row.map .int)), none] = some (.v (.lst true ((row.map fun v => decide (-1000000000 ≤ v) && decide (v ≤ 1000000000)).map .bl)), [some (.tup (row.map .int)), none]) :=
      compV_ok (ds := row.map .int) (by simp) (by simp [freeAt]) (by
        rw [List.map_map]
        exact compL_map _ _ _ fun a ha => by simp [compF, e4]) (by simp; omega)
    have c2 := all_bools (o := true) (l := row.map fun v => decide (-1000000000 ≤ v) && decide (v ≤ 1000000000))
    rw [all_map fun a ha => by have := ok.2 a ha; simp [this.1, this.2]] at c2
    generalize (row.map fun v => decide (-1000000000 ≤ v) && decide (v ≤ 1000000000)).map D.bl = w at c1 c2
    have c3 : ((row.map D.int).length : Int) ≤ 200 := by rw [List.length_map]; omega
    generalize row.map D.int = rr at c1 c3
    simp [f5, c1, c2, c3]
theorem run_req_plan {m : Nat} (h : 5 ≤ m) {p : Plan} (ok : p.Ok) : runs U m 21 [.tup (planL p)] = some (.non, []) :=
  run_ge u21 h fun n hn => by simp [f21, run_is_plan (m := n) hn ok]
theorem run_req_row {m : Nat} (h : 4 ≤ m) {row : List Int} (ok : RowOk row) : runs U m 22 [.tup (row.map .int)] = some (.non, []) :=
  run_ge u22 h fun n hn => by simp [f22, run_is_row (m := n) hn ok]
theorem run_req_number {m : Nat} (h : 2 ≤ m) {v lo hi : Int} (h1 : lo ≤ v) (h2 : v ≤ hi) : runs U m 23 [.int v, .int lo, .int hi] = some (.non, []) :=
  run_ge u23 h fun n hn => by simp [f23, run_is_integer (m := n) hn, h1, h2]
/-! ### statements -/
def toldOf (p : Plan) (row : List Int) : List (Int × Int) := (toldFrom p (0, 0) row).1
def endOf (p : Plan) (row : List Int) : Int := ((toldOf p row).getLast?.map (·.2)).getD 0
theorem run_told_of {m : Nat} (h : 6 ≤ m) {p : Plan} (ok : p.Ok) {row : List Int} (hr : row.length ≤ 1000) : runs U m 31 [.tup (planL p), .tup (row.map .int)] = some (.lst true ((toldOf p row).map pairD), []) :=
  run_ge u31 h fun n hn => by
    have e := (run_told_from (m := n) hn ok (b := (0, 0)) (Int.le_refl 0) hr).1
    simp [f31, e, toldOf]
theorem cmp_ne_nil {o o' : Bool} {l : List D} (h : okEqs 11 l = true) : cmp .ne (.lst o l) (.lst o' []) = some (!l.isEmpty) := by
  show (if (okEqs 11 l && true) = true then some (!PyData.eqv (.list (toPys l)) (.list (toPys []))) else none) = _
  rw [h]
  cases l with
  | nil => rw [toPys, PyData.eqv, PyData.eqvAll]; rfl
  | cons a r => rw [toPys, toPys, PyData.eqv, PyData.eqvAll]; rfl
theorem run_end_of {m : Nat} (h : 7 ≤ m) {p : Plan} (ok : p.Ok) {row : List Int} (hr : row.length ≤ 1000) : runs U m 32 [.tup (planL p), .tup (row.map .int)] = some (.int (endOf p row), []) :=
  run_ge u32 h fun n hn => by
    have e := run_told_of (m := n) hn ok hr
    have c := cmp_ne_nil (o := false) (o' := true) (l := (toldOf p row).map pairD) (okEqs_map (fun a => okEq_pair) _)
    unfold endOf
    cases hl : (toldOf p row).getLast? with
    | none =>
      have : toldOf p row = [] := List.getLast?_eq_none_iff.mp hl
      rw [this] at e c
      simp [f32, e] at c ⊢
      simp [c]
    | some b =>
      have ne : toldOf p row ≠ [] := fun z => by rw [z] at hl; cases hl
      have a : atI ((toldOf p row).map pairD) (-1) = some (.tup [.int b.1, .int b.2]) := by
        rw [atI_last (by simpa using ne), List.getLast?_map, hl]
        rfl
      have ie : ((toldOf p row).map pairD).isEmpty = false := by
        cases hh : toldOf p row with
        | nil => exact absurd hh ne
        | cons _ _ => rfl
      rw [ie] at c
      generalize (toldOf p row).map pairD = w at e c a
      simp [f32, e, c, a]
theorem run_statement {m : Nat} (h : 7 ≤ m) {p : Plan} (ok : p.Ok) {row : List Int} (hr : RowOk row) : runs U m 33 [.tup (planL p), .tup (row.map .int)] = some (.lst true ((toldOf p row).map pairD), []) :=
  run_ge u33 h fun n hn => by
    have e1 := run_req_plan (m := n) (by omega) ok
    have e2 := run_req_row (m := n) (by omega) hr
    have e3 := run_told_of (m := n) hn ok (row := row) (by have := hr.1; omega)
    simp [f33, e1, e2, e3]
theorem run_end_balance {m : Nat} (h : 8 ≤ m) {p : Plan} (ok : p.Ok) {row : List Int} (hr : RowOk row) : runs U m 34 [.tup (planL p), .tup (row.map .int)] = some (.int (endOf p row), []) :=
  run_ge u34 h fun n hn => by
    have e1 := run_req_plan (m := n) (by omega) ok
    have e2 := run_req_row (m := n) (by omega) hr
    have e3 := run_end_of (m := n) hn ok (row := row) (by have := hr.1; omega)
    simp [f34, e1, e2, e3]
theorem run_interest {m : Nat} (h : 6 ≤ m) {p : Plan} (ok : p.Ok) {base idle : Int} (hb : 0 ≤ base ∧ base ≤ 1000000000000) (hi : 0 ≤ idle ∧ idle ≤ 1000) : runs U m 35 [.tup (planL p), .int base, .int idle] = some (.int (interestOf p base (isDue p idle)), []) :=
  run_ge u35 h fun n hn => by
    have e1 := run_req_plan (m := n) (by omega) ok
    have e2 := run_req_number (m := n) (by omega) hb.1 hb.2
    have e3 := run_req_number (m := n) (by omega) hi.1 hi.2
    have e4 := run_is_due (m := n) (by omega) ok idle
    have e5 := run_interest_of (m := n) (p := p) (base := base) (due := isDue p idle) (by omega) fun k hk => run_thousandths hk ok hb.1 isDue_bonus
    simp [f35, e1, e2, e3, e4, e5]
end PV
set_option Elab.async false
set_option linter.all false
set_option maxRecDepth 100000
set_option maxHeartbeats 1000000
/-! The law's own months. -/
namespace PV
open PySem PySem.Spec L2
/-- the rate of the last band that begins at or below base, by the way there -/
def lastRate (base : Int) (l : List (Int × Int)) : Int := l.foldl (fun r b => if b.1 ≤ base then b.2 else r) 0
theorem lastRate_filter (base : Int) : ∀ (l : List (Int × Int)) (r : Int), l.foldl (fun r b => if b.1 ≤ base then b.2 else r) r = (((l.filter fun b => decide (b.1 ≤ base)).getLast?).map (·.2)).getD r
  | [], r => rfl
  | a :: l, r => by
    rw [List.foldl_cons, lastRate_filter base l]
    by_cases h : a.1 ≤ base
    · simp only [List.filter_cons, h, decide_true, if_true]
      cases hl : l.filter fun b => decide (b.1 ≤ base) with
      | nil => rfl
      | cons c t => rw [List.getLast?_cons_cons, List.getLast?_eq_some_getLast (List.cons_ne_nil c t)]; rfl
    · simp only [List.filter_cons, h, decide_false, if_false, Bool.false_eq_true]
theorem lastRate_top {p : Plan} (ok : p.Ok) {base : Int} (hb : 0 ≤ base) : lastRate base p.bands = topRate p base := by
  unfold lastRate topRate
  rw [lastRate_filter, (last_mem (filt_ne ok hb) (0, 0)).2]
  rfl
/-- the parts, from the at-th band on -/
def parts (base : Int) : List (Int × Int) → Int
  | [] => 0
  | [a] => a.2 * max 0 (base - a.1)
  | a :: b :: r => a.2 * max 0 (min base b.1 - a.1) + parts base (b :: r)
theorem parts_sum (base : Int) : ∀ l : List (Int × Int), ((l.zip (endsOf l base)).map fun x => x.1.2 * part base x.2 x.1.1).sum = parts base l
  | [] => rfl
  | [a] => by
    have e : endsOf [a] base = [max base a.1] := rfl
    rw [e]
    show a.2 * part base (max base a.1) a.1 + 0 = a.2 * max 0 (base - a.1)
    unfold part
    have : min base (max base a.1) = base := by omega
    rw [this]
    omega
  | a :: b :: r => by
    have e : endsOf (a :: b :: r) base = b.1 :: endsOf (b :: r) base := by
      unfold endsOf
      rw [List.getLast?_cons_cons]
      rfl
    rw [e, List.zip_cons_cons, List.map_cons, List.sum_cons, parts_sum base (b :: r)]
    rfl
theorem plain_law {p : Plan} (ok : p.Ok) {base : Int} (hb : 0 ≤ base) : plain p base = if p.whole = true then lastRate base p.bands * base else parts base p.bands := by
  unfold plain
  split
  · rw [lastRate_top ok hb, Int.mul_comm]
  · exact parts_sum base p.bands
/-! ### the rate, by numbered bands -/
def idxL : Nat → List (Int × Int) → List (Nat × Int × Int)
  | _, [] => []
  | k, b :: r => (k, b) :: idxL (k + 1) r
theorem enum_idx : ∀ (l : List (Int × Int)) (k : Nat), enumL k (l.map pairD) = (idxL k l).map fun x => .tup [.int (x.1 : Nat), pairD x.2]
  | [], _ => rfl
  | b :: r, k => by
    show .tup [.int k, pairD b] :: enumL (k + 1) (r.map pairD) = _
    rw [enum_idx r (k + 1)]
    rfl
theorem idx_at : ∀ {l : List (Int × Int)} {k : Nat} {x : Nat × Int × Int}, x ∈ idxL k l → k ≤ x.1 ∧ l[x.1 - k]? = some x.2
  | [], _, _, h => by cases h
  | b :: r, k, x, h => by
    rcases List.mem_cons.mp h with z | z
    · rw [z]
      simp
    · obtain ⟨h1, h2⟩ := idx_at z
      refine ⟨by omega, ?_⟩
      have e : x.1 - k = (x.1 - (k + 1)) + 1 := by omega
      rw [e]
      exact h2
def term (bands : List (Int × Int)) (base : Int) (x : Nat × Int × Int) : Int := x.2.2 * max 0 ((if x.1 + 1 < bands.length then min base (bands.getD (x.1 + 1) (0, 0)).1 else base) - x.2.1)
theorem terms_parts (base : Int) (bands : List (Int × Int)) : ∀ (l : List (Int × Int)) (k : Nat) (f : Int), bands.drop k = l → (idxL k l).foldl (fun f x => f + term bands base x) f = f + parts base l
  | [], k, f, _ => by simp [idxL, parts]
  | [a], k, f, h => by
    have hl : bands.length = k + 1 := by
      have := congrArg List.length h
      rw [List.length_drop, List.length_singleton] at this
      omega
    show f + term bands base (k, a) = f + parts base [a]
    unfold term
    rw [if_neg (by dsimp only; omega)]
    rfl
  | a :: b :: r, k, f, h => by
    have hl : bands.length = k + (r.length + 2) := by
      have := congrArg List.length h
      rw [List.length_drop, List.length_cons, List.length_cons] at this
      omega
    have h1 : bands.drop (k + 1) = b :: r := by
      rw [← List.drop_drop, h]
      rfl
    have h2 : bands.getD (k + 1) (0, 0) = b := by
      have : (bands.drop (k + 1))[0]? = some b := by rw [h1]; rfl
      rw [List.getElem?_drop] at this
      rw [List.getD_eq_getElem?_getD]
      have e : k + 1 + 0 = k + 1 := by omega
      rw [e] at this
      rw [this]
      rfl
    show (idxL (k + 1) (b :: r)).foldl _ (f + term bands base (k, a)) = _
    rw [terms_parts base bands (b :: r) (k + 1) _ h1]
    have e : term bands base (k, a) = a.2 * max 0 (min base b.1 - a.1) := by
      unfold term
      dsimp only
      rw [if_pos (by omega), h2]
    rw [e]
    show _ = f + (a.2 * max 0 (min base b.1 - a.1) + parts base (b :: r))
    omega
theorem run_rate_of {m : Nat} (h : 1 ≤ m) {p : Plan} (ok : p.Ok) {base : Int} (hb : 0 ≤ base) : runs U m 36 [.tup (planL p), .int base] = some (.int (plain p base), []) :=
  run_ge u36 h fun n hn => by
    have l5 := ok.len
    rw [plain_law ok hb]
    cases hw : p.whole with
    | true =>
      have z := forC_inv (C := runs U n) (tg := .tup [.name 7, .name 8]) (b := (.cons (.asg (.name 3) (.ife (.cmp .le (.var 7) (.var 1)) (.var 8) (.var 3))) .nil))
        (fun s : Int × Option D × Option D => [some (.tup (planL p)), some (.int base), none, some (.int s.1), none, none, none, s.2.1, s.2.2]) pairD (fun s a => (if a.1 ≤ base then a.2 else s.1, some (.int a.1), some (.int a.2)))
        (fun _ s => (∀ l, s.2.1 ≠ some (.io l)) ∧ ∀ l, s.2.2 ≠ some (.io l)) p.bands.length p.bands (0, none, none) 0 (by omega) ⟨(fun _ z => by cases z), (fun _ z => by cases z)⟩ (by
          rintro k ⟨r, s1, s2⟩ a ha hk ⟨h1, h2⟩
          dsimp only at h1 h2
          refine ⟨?_, (fun _ z => by cases z), (fun _ z => by cases z)⟩
          by_cases hc : a.1 ≤ base <;> simp [pairD, h1, h2, hc])
      have e := foldl_fst (fun (r : Int) (a : Int × Int) => if a.1 ≤ base then a.2 else r) (fun _ (_ : Option D × Option D) (a : Int × Int) => (some (D.int a.1), some (D.int a.2))) p.bands 0 (none, none)
      have z1 := z.1
      generalize hr : p.bands.foldl (fun (s : Int × Option D × Option D) a => (if a.1 ≤ base then a.2 else s.1, some (D.int a.1), some (D.int a.2))) (0, none, none) = r at z1
      have e' : r.1 = lastRate base p.bands := by rw [← hr]; exact e
      dsimp only at z1
      have hm : mulOk r.1 base = true := by
        rw [e', lastRate_top ok hb]
        have := ok.band _ (List.mem_filter.mp (last_mem (filt_ne ok hb) (0, 0)).1).1
        exact small_mul' (by unfold topRate; omega)
      rw [← e']
      simp [f36, hw, z1, hm]
    | false =>
      have z := forC_inv (C := runs U n) (tg := .tup [.name 4, .name 5]) (b := (.cons (.asg (.name 6) (.var 1)) (.cons (.ife (.cmp .lt (.bin .add (.var 4) (.int 1)) (.blt .len (.cons (.idx (.var 0) (.int 0)) .nil))) (.cons (.asg (.name 6) (.blt .min2 (.cons (.var 1) (.cons (.idx (.idx (.idx (.var 0) (.int 0)) (.bin .add (.var 4) (.int 1))) (.int 0)) .nil)))) .nil) .nil) (.cons (.asg (.name 2) (.bin .add (.var 2) (.bin .mul (.idx (.var 5) (.int 1)) (.blt .max2 (.cons (.int 0) (.cons (.bin .sub (.var 6) (.idx (.var 5) (.int 0))) .nil)))))) .nil))))
        (fun s : Int × Option D × Option D × Option D => [some (.tup (planL p)), some (.int base), some (.int s.1), none, s.2.1, s.2.2.1, s.2.2.2, none, none]) (fun x : Nat × Int × Int => .tup [.int (x.1 : Nat), pairD x.2])
        (fun s x => (s.1 + term p.bands base x, some (.int (x.1 : Nat)), some (pairD x.2), some (.int (if x.1 + 1 < p.bands.length then min base (p.bands.getD (x.1 + 1) (0, 0)).1 else base))))
        (fun _ s => (∀ l, s.2.1 ≠ some (.io l)) ∧ (∀ l, s.2.2.1 ≠ some (.io l)) ∧ ∀ l, s.2.2.2 ≠ some (.io l)) (idxL 0 p.bands).length (idxL 0 p.bands) (0, none, none, none) 0 (by omega) ⟨(fun _ z => by cases z), (fun _ z => by cases z), (fun _ z => by cases z)⟩ (by
          rintro k ⟨r, s1, s2, s3⟩ ⟨i, a⟩ ha hk ⟨h1, h2, h3⟩
          dsimp only at h1 h2 h3
          refine ⟨?_, (fun _ z => by cases z), (fun _ z => by cases z), (fun _ z => by cases z)⟩
          obtain ⟨_, hat⟩ := idx_at ha
          have hmem : a ∈ p.bands := List.mem_of_getElem? hat
          have hm : ∀ j, mulOk a.2 j = true := fun j => small_mul' (by have := ok.band a hmem; omega)
          by_cases hc : i + 1 < p.bands.length
          · have hc' : (i : Int) + 1 < (p.bands.length : Int) := by omega
            have ea : atI (p.bands.map pairD) ((i : Int) + 1) = some (.tup [.int (p.bands.getD (i + 1) (0, 0)).1, .int (p.bands.getD (i + 1) (0, 0)).2]) := by
              rw [atI_nat (by omega) (by rw [List.length_map]; omega), List.getElem?_map]
              have e1 : ((i : Int) + 1).toNat = i + 1 := by omega
              rw [e1, List.getD_eq_getElem?_getD, List.getElem?_eq_getElem hc]
              rfl
            simp [pairD, h1, h2, h3, hc, hc', ea, hm, term]
          · have hc' : ¬ (i : Int) + 1 < (p.bands.length : Int) := by omega
            simp [pairD, h1, h2, h3, hc, hc', hm, term])
      have e := foldl_fst (fun (r : Int) x => r + term p.bands base x) (fun _ (_ : Option D × Option D × Option D) (x : Nat × Int × Int) => (some (D.int (x.1 : Nat)), some (pairD x.2), some (D.int (if x.1 + 1 < p.bands.length then min base (p.bands.getD (x.1 + 1) (0, 0)).1 else base)))) (idxL 0 p.bands) 0 (none, none, none)
      have z1 := z.1
      generalize hr : (idxL 0 p.bands).foldl (fun (s : Int × Option D × Option D × Option D) x => (s.1 + term p.bands base x, some (D.int (x.1 : Nat)), some (pairD x.2), some (D.int (if x.1 + 1 < p.bands.length then min base (p.bands.getD (x.1 + 1) (0, 0)).1 else base)))) (0, none, none, none) = r at z1
      have e' : r.1 = parts base p.bands := by
        rw [← hr]
        refine e.trans ?_
        rw [terms_parts base p.bands p.bands 0 0 rfl]
        omega
      dsimp only at z1
      rw [← enum_idx] at z1
      simp [f36, hw, z1, e']
end PV
set_option Elab.async false
set_option linter.all false
set_option maxRecDepth 100000
set_option maxHeartbeats 1000000
/-! The law's own months, rows. -/
namespace PV
open PySem PySem.Spec L2
theorem run_law_due {m : Nat} (h : 1 ≤ m) {p : Plan} (ok : p.Ok) (idle : Int) : runs U m 37 [.tup (planL p), .int idle] = some (.bl (isDue p idle), []) :=
  run_ge u37 h fun n _ => by
    unfold isDue
    cases hb : p.bonus with
    | none => simp [f37, hb]
    | some b =>
      have h1 : 0 < b.1 := by have := ok.bonus b hb; omega
      by_cases h2 : 0 < idle <;> simp [f37, hb, bin_mod, h1, h2]
theorem run_law_interest {m : Nat} (h : 2 ≤ m) {p : Plan} (ok : p.Ok) {base : Int} (hb : 0 ≤ base) {due : Bool} (hd : due = true → p.bonus ≠ none) : runs U m 38 [.tup (planL p), .int base, .bl due] = some (.int (interestOf p base due), []) :=
  run_ge u38 h fun n hn => by
    have e := run_rate_of (m := n) hn ok hb
    cases due with
    | false => cases hh : p.half <;> simp [f38, e, hh, interestOf, thousandths, bin_div]
    | true =>
      cases hbo : p.bonus with
      | none => exact absurd hbo (hd rfl)
      | some b =>
        have hm : mulOk b.2 base = true := small_mul' (by have := ok.bonus b hbo; omega)
        have hc : b.2 * base = base * b.2 := Int.mul_comm _ _
        cases hh : p.half <;> simp [f38, e, hh, interestOf, thousandths, bin_div, hbo, hm, hc]
theorem run_law_left {m : Nat} (h : 3 ≤ m) {p : Plan} (ok : p.Ok) {base : Int} (hb : 0 ≤ base) {due : Bool} (hd : due = true → p.bonus ≠ none) : runs U m 39 [.tup (planL p), .int base, .bl due] = some (.int (balanceFrom p base due), []) :=
  run_ge u39 h fun n hn => by
    have e := run_law_interest (m := n) hn ok hb hd
    cases hf : p.fee with
    | none => simp [f39, e, balanceFrom, hf]
    | some f =>
      by_cases hb2 : base < f.1 <;> simp [f39, e, balanceFrom, hf, hb2]
theorem run_law_kept {m : Nat} (h : 1 ≤ m) {p : Plan} (ok : p.Ok) (taken : Int) : runs U m 40 [.tup (planL p), .int taken] = some (.int (keptOf p taken), []) :=
  run_ge u40 h fun n hn => by
    have hm : mulOk taken p.charge = true := small_mul (by have := ok.charge; omega)
    have e : 0 - (0 - taken * p.charge) / 1000 = keptOf p taken := by
      unfold keptOf
      generalize taken * p.charge = x
      omega
    simp [f40, hm, bin_div, ← e]
theorem run_law_month {m : Nat} (h : 4 ≤ m) {p : Plan} (ok : p.Ok) {b : Int × Int} (hb : 0 ≤ b.1) (pay : Int) : runs U m 41 [.tup (planL p), pairD b, .int pay] = some (.tup [.int (monthOf p b pay).1, pairD (monthOf p b pay).2], []) :=
  run_ge u41 h fun n hn => by
    by_cases hp : pay < 0
    · have hp' : ¬ 0 ≤ pay := by omega
      have h1 : 0 ≤ b.1 - min b.1 (0 - pay) := by omega
      have e1 := fun t => run_law_kept (m := n) (by omega) ok t
      have e2 := run_law_left (m := n) hn ok h1 (due := false) (fun z => by cases z)
      have e3 : (0 : Int) - pay = -pay := by omega
      rw [e3] at e2
      simp [f41, hp, hp', e1, e2, monthOf, pairD]
    · have hp' : 0 ≤ pay := by omega
      have h1 : 0 ≤ b.1 + pay := by omega
      have e1 := run_law_due (m := n) (by omega) ok (b.2 + 1)
      have e2 := run_law_left (m := n) hn ok h1 (due := isDue p (b.2 + 1)) isDue_bonus
      simp [f41, hp, hp', e1, e2, monthOf, pairD]
theorem run_law_told {m : Nat} (h : 5 ≤ m) {p : Plan} (ok : p.Ok) {b : Int × Int} (hb : 0 ≤ b.1) {row : List Int} (hr : row.length ≤ 1000) : runs U m 42 [.tup (planL p), pairD b, .tup (row.map .int)] = some (.tup [.lst true ((toldFrom p b row).1.map pairD), pairD (toldFrom p b row).2], []) := by
  have key : ∀ n, 4 ≤ n → ∃ q, forC (runs U n) (.name 4) (.cons (.asg (.tup [(.name 5), (.name 1)]) (.call 41 (.cons (.var 0) (.cons (.var 1) (.cons (.var 4) .nil))))) (.cons (.append 3 (.tup (.cons (.var 5) (.cons (.idx (.var 1) (.int 0)) .nil)))) .nil)) (row.map .int)
      [some (.tup (planL p)), some (pairD b), some (.tup (row.map .int)), some (.lst true []), none, none] =
      some (.nx ([some (.tup (planL p)), some (pairD (toldFrom p b row).2), some (.tup (row.map .int)), some (.lst true ((toldFrom p b row).1.map pairD))] ++ q)) := fun n hn => by
    have z := forC_inv (C := runs U n) (tg := .name 4) (b := (.cons (.asg (.tup [(.name 5), (.name 1)]) (.call 41 (.cons (.var 0) (.cons (.var 1) (.cons (.var 4) .nil))))) (.cons (.append 3 (.tup (.cons (.var 5) (.cons (.idx (.var 1) (.int 0)) .nil)))) .nil)))
      (fun s : (List (Int × Int) × Int × Int) × Option D × Option D => [some (.tup (planL p)), some (pairD s.1.2), some (.tup (row.map .int)), some (.lst true (s.1.1.map pairD)), s.2.1, s.2.2])
      D.int (fun s a => (toldStep p s.1 a, some (.int a), some (.int (monthOf p s.1.2 a).1))) (fun k s => s.1.1.length = k ∧ 0 ≤ s.1.2.1 ∧ (∀ l, s.2.1 ≠ some (.io l)) ∧ ∀ l, s.2.2 ≠ some (.io l)) row.length row (([], b), none, none) 0 (by omega) ⟨rfl, hb, (fun _ z => by cases z), (fun _ z => by cases z)⟩ ?_
    · have z1 := z.1
      have e := foldl_fst (toldStep p) (fun s (_ : Option D × Option D) a => (some (D.int a), some (D.int (monthOf p s.2 a).1))) row ([], b) (none, none)
      have e' : (row.foldl (fun s a => (toldStep p s.1 a, some (D.int a), some (D.int (monthOf p s.1.2 a).1))) (([], b), none, none)).1 = toldFrom p b row := e
      generalize row.foldl (fun (s : (List (Int × Int) × Int × Int) × Option D × Option D) a => (toldStep p s.1 a, some (D.int a), some (D.int (monthOf p s.1.2 a).1))) (([], b), none, none) = r at e' z1
      rw [e'] at z1
      exact ⟨[r.2.1, r.2.2], z1⟩
    · rintro k ⟨⟨fo, ba, id⟩, q, g⟩ a ha hk ⟨h1, h2, h3, h4⟩
      have e1 := run_law_month hn ok (b := (ba, id)) h2 a
      dsimp only at h1 h2 h3 h4 e1
      have e2 : fo.length < 1000000 := by omega
      refine ⟨?_, ?_, month_nonneg ok h2 a, (fun _ z => by cases z), (fun _ z => by cases z)⟩
      · simp [pairD] at e1
        simp [toldStep, e1, e2, pairD, h3, h4]
      · show (fo ++ [_]).length = k + 1
        rw [List.length_append, h1]
        rfl
  refine run_ge u42 h fun n hn => ?_
  obtain ⟨q, k3⟩ := key n hn
  simp [f42, pairD] at k3 ⊢
  simp [k3]
end PV
set_option Elab.async false
set_option linter.all false
set_option maxRecDepth 100000
set_option maxHeartbeats 1000000
/-! What the law draws. -/
namespace PV
open PySem PySem.Spec L2
/-- the source of numbers -/
structure Src where
  c : Int
  s : Int
  q : Int
def srcL (σ : Src) : List D := [.int σ.c, .int σ.s, .int σ.q]
def Src.Ok (σ : Src) : Prop := 0 < σ.q ∧ σ.q < 1000000000000
def pick (σ : Src) (n : Int) : Int × Src :=
  if 0 < σ.c then (σ.c % n, ⟨σ.c / n, σ.s, σ.q⟩)
  else (((σ.s * 48271 % σ.q + 1) * (σ.s * 48271 % σ.q + 1) % 2147483423 / 7) % n, ⟨σ.c, σ.s * 48271 % σ.q + 1, σ.q⟩)
theorem pick_ok {σ : Src} (h : σ.Ok) {n : Int} : (pick σ n).2.Ok := by unfold pick; split <;> exact h
theorem pick_lt {σ : Src} {n : Int} (h : 0 < n) : 0 ≤ (pick σ n).1 ∧ (pick σ n).1 < n := by
  unfold pick
  split
  · exact ⟨Int.emod_nonneg _ (by omega), Int.emod_lt_of_pos _ h⟩
  · exact ⟨Int.emod_nonneg _ (by omega), Int.emod_lt_of_pos _ h⟩
theorem run_pick {m : Nat} (h : 1 ≤ m) {σ : Src} (ok : σ.Ok) {n : Int} (h1 : 0 < n) (h2 : n < 1073741824) : runs U m 7 [.io (srcL σ), .int n] = some (.int (pick σ n).1, srcL (pick σ n).2) :=
  run_ge u7 h fun k hk => by
    have hm : mulOk (σ.s * 48271 % σ.q + 1) (σ.s * 48271 % σ.q + 1) = true := mulOk_l (by
      have a := Int.emod_nonneg (σ.s * 48271) (show σ.q ≠ 0 by have := ok.1; omega)
      have b := Int.emod_lt_of_pos (σ.s * 48271) ok.1
      have := ok.2
      omega)
    have hm2 : mulOk σ.s 48271 = true := small_mul (by omega)
    unfold pick
    by_cases hc : 0 < σ.c
    · simp [f7, srcL, hc, bin_mod, bin_div, h1, h2, putAt, ixN]
    · have h3 := ok.1
      simp [f7, srcL, hc, bin_mod, bin_div, h1, h2, h3, hm, hm2, putAt, ixN]
/-! ### steps with draws -/
@[simp] theorem callIo_s {C : Ora} {k i : Nat} {os : List Opd} {e : Env} : callIo C k i (some (os, e)) = (vals os).bind fun ds => match e[i]? with
      | some (some (.lst true l)) => (C k (.io l :: freezes ds)).bind fun r => some (.v r.1, e.set i (some (.lst true r.2)))
      | some (some (.io l)) => (C k (.io l :: freezes ds)).bind fun r => some (.v r.1, e.set i (some (.io r.2)))
      | _ => none := by
  show ((vals os).bind fun ds => match e[i]? with
      | some (some (.lst true l)) => (C k (.io l :: freezes ds)).map fun r => (Opd.v r.1, e.set i (some (.lst true r.2)))
      | some (some (.io l)) => (C k (.io l :: freezes ds)).map fun r => (Opd.v r.1, e.set i (some (.io r.2)))
      | _ => none) = _
  simp only [Option.map_eq_bind]
  rfl
theorem forC_ex {C : Ora} {tg : Tg} {b : ISs} (I : Nat → Env → Prop) : ∀ (ds : List D) (k : Nat) (e : Env), I k e → (∀ j d e, ds[j]? = some d → I (k + j) e → ∃ e', ((store tg d e).bind fun e => evSs C b e) = some (.nx e') ∧ I (k + j + 1) e') →
    ∃ e', forC C tg b ds e = some (.nx e') ∧ I (k + ds.length) e'
  | [], k, e, h, _ => ⟨e, rfl, h⟩
  | d :: r, k, e, h, hs => by
    obtain ⟨e1, h1, h2⟩ := hs 0 d e rfl h
    obtain ⟨e2, h3, h4⟩ := forC_ex I r (k + 1) e1 h2 fun j d e hd hI => by
      have e5 : k + 1 + j = k + (j + 1) := by omega
      rw [e5] at hI ⊢
      exact hs (j + 1) d e (by simpa using hd) hI
    refine ⟨e2, ?_, ?_⟩
    · rw [forC_cons, h1]
      exact h3
    · have e5 : k + (d :: r).length = k + 1 + r.length := by rw [List.length_cons]; omega
      rw [e5]
      exact h4
theorem compL_ex {F : D → Env → Option (Option D × Env)} (I : Nat → Env → Prop) (P : D → Prop) : ∀ (ds : List D) (k : Nat) (e : Env), I k e → (∀ j d e, ds[j]? = some d → I (k + j) e → ∃ r e', F d e = some (some r, e') ∧ P r ∧ I (k + j + 1) e') →
    ∃ rs e', compL F ds e = some (rs, e') ∧ rs.length = ds.length ∧ (∀ r ∈ rs, P r) ∧ I (k + ds.length) e'
  | [], k, e, h, _ => ⟨[], e, rfl, rfl, (fun _ z => by cases z), h⟩
  | d :: r, k, e, h, hs => by
    obtain ⟨x, e1, h1, h2, h2'⟩ := hs 0 d e rfl h
    obtain ⟨rs, e2, h3, h4, h5, h6⟩ := compL_ex I P r (k + 1) e1 h2' fun j d e hd hI => by
      have e5 : k + 1 + j = k + (j + 1) := by omega
      rw [e5] at hI ⊢
      exact hs (j + 1) d e (by simpa using hd) hI
    refine ⟨x :: rs, e2, ?_, by rw [List.length_cons, h4]; rfl, fun y hy => ?_, ?_⟩
    · show ((F d e).bind fun z => (compL F r z.2).map fun y => (match z.1 with | some w => w :: y.1 | none => y.1, y.2)) = _
      rw [h1]
      show (compL F r e1).map _ = _
      rw [h3]
      rfl
    · rcases List.mem_cons.mp hy with z | z
      · rw [z]; exact h2
      · exact h5 y z
    · have e5 : k + (d :: r).length = k + 1 + r.length := by rw [List.length_cons]; omega
      rw [e5]
      exact h6
theorem ex_pick {σ : Src} (ok : σ.Ok) {n : Int} (h1 : 0 < n) (h2 : n < 1073741824) : ∃ r σ', (∀ m, 1 ≤ m → runs U m 7 [.io (srcL σ), .int n] = some (.int r, srcL σ')) ∧ 0 ≤ r ∧ r < n ∧ σ'.Ok :=
  ⟨_, _, fun m h => run_pick h ok h1 h2, (pick_lt h1).1, (pick_lt h1).2, pick_ok ok⟩
theorem ex_chosen {σ : Src} (ok : σ.Ok) {l : List D} (h1 : l ≠ []) (h2 : l.length < 1000) : ∃ d σ', (∀ m, 2 ≤ m → runs U m 9 [.io (srcL σ), .lst false l] = some (d, srcL σ')) ∧ d ∈ l ∧ σ'.Ok := by
  have hl : 0 < l.length := List.length_pos_iff.mpr h1
  obtain ⟨r, σ', e, r1, r2, ok'⟩ := ex_pick ok (n := (l.length : Int)) (by omega) (by omega)
  have hr : r.toNat < l.length := by omega
  have ea : atI l r = some l[r.toNat] := by rw [atI_nat r1 r2, List.getElem?_eq_getElem hr]
  refine ⟨l[r.toNat], σ', fun m h => run_ge u9 h fun n hn => ?_, List.getElem_mem hr, ok'⟩
  simp [f9, e n hn, ea]
end PV
set_option Elab.async false
set_option linter.all false
set_option maxRecDepth 100000
set_option maxHeartbeats 2000000
/-! Bands, plans and rows that the law draws. -/
namespace PV
open PySem PySem.Spec L2
theorem compV_ex {it : Env → Option (List D × Env)} {g t u vs} {ds rs : List D} {e e1 e2 : Env} (h : it e = some (ds, e1)) (hf : vs.all (freeAt e1) = true) (hc : compL (compF g t u vs) ds (wipeE e1 vs) = some (rs, e2)) (hl : rs.length ≤ lim) : compV it g t u vs e = some (.v (.lst true rs), unwipe e1 vs e2) := by
  show ((it e).bind fun x => if vs.all (freeAt x.2) = true then (compL (compF g t u vs) x.1 (wipeE x.2 vs)).bind fun y => if y.1.length ≤ lim then some (Opd.v (.lst true y.1), unwipe x.2 vs y.2) else none else none) = _
  rw [h]
  show (if vs.all (freeAt e1) = true then _ else _) = _
  rw [if_pos hf, hc]
  exact if_pos hl
theorem ints_of_all {P : Int → Prop} : ∀ {rs : List D}, (∀ r ∈ rs, ∃ v, r = .int v ∧ P v) → ∃ is : List Int, rs = is.map .int ∧ ∀ i ∈ is, P i
  | [], _ => ⟨[], rfl, fun _ z => by cases z⟩
  | r :: rs, h => by
    obtain ⟨v, rfl, hv⟩ := h r List.mem_cons_self
    obtain ⟨is, rfl, his⟩ := ints_of_all (rs := rs) fun r hr => h r (List.mem_cons_of_mem _ hr)
    exact ⟨v :: is, rfl, fun i hi => (List.mem_cons.mp hi).elim (fun z => by rw [z]; exact hv) (his i)⟩
theorem insU_len (x : Int) : ∀ l : List Int, (insU x l).length ≤ l.length + 1
  | [] => Nat.le_refl _
  | y :: r => by
    unfold insU
    split
    · exact Nat.le_refl _
    · split
      · exact Nat.le_succ _
      · rw [List.length_cons, List.length_cons]
        have := insU_len x r
        omega
theorem sortU_len : ∀ l : List Int, (sortU l).length ≤ l.length
  | [] => Nat.le_refl _
  | x :: r => by
    have := insU_len x (sortU r)
    have := sortU_len r
    show (insU x (sortU r)).length ≤ r.length + 1
    omega
structure BandsOk (bands : List (Int × Int)) : Prop where
  ne : bands ≠ []
  len : bands.length ≤ 5
  first : (bands.head?.map (·.1)) = some 0
  ris : (bands.map (·.1)).Pairwise (· < ·)
  band : ∀ b ∈ bands, 0 ≤ b.1 ∧ b.1 ≤ 1000000 ∧ 0 ≤ b.2 ∧ b.2 ≤ 100
theorem rangeL_len {i j : Int} : (rangeL i j).length = (j - i).toNat := by unfold rangeL; rw [List.length_map, List.length_range]
theorem ex_bands {m : Nat} (h : 4 ≤ m) {σ : Src} (ok : σ.Ok) {wide : Int} (hw : 1 ≤ wide ∧ wide ≤ 1000000) : ∃ bands σ', runs U m 13 [.io (srcL σ), .int 5, .int wide] = some (.tup (bands.map pairD), srcL σ') ∧ BandsOk bands ∧ σ'.Ok ∧ ∀ b ∈ bands, b.1 ≤ wide := by
  obtain ⟨n, rfl⟩ := Nat.exists_eq_add_of_le' h
  obtain ⟨r1, σ1, e1, a1, b1, ok1⟩ := ex_pick ok (n := 101) (by decide) (by decide)
  obtain ⟨r2, σ2, e2, a2, b2, ok2⟩ := ex_pick ok1 (n := 5) (by decide) (by decide)
  have e1 := e1 (n + 3) (by omega)
  have e2 := e2 (n + 3) (by omega)
  -- the starts
  have c1 : ∃ (is : List Int) (σ3 : Src), compV (evI (runs U (n + 3)) (.range (.cons (.var 6) .nil))) (store (.name 7)) (evB (runs U (n + 3)) true .nil) (ev (runs U (n + 3)) (.bin .add (.int 1) (.callio 7 0 (.cons (.var 2) .nil)))) [7]
      [some (.io (srcL σ2)), some (.int 5), some (.int wide), none, none, some (.lst true [.tup [.int 0, .int r1]]), some (.int r2), none] =
      some (.v (.lst true (is.map .int)), [some (.io (srcL σ3)), some (.int 5), some (.int wide), none, none, some (.lst true [.tup [.int 0, .int r1]]), some (.int r2), none]) ∧ is.length ≤ 4 ∧ (∀ i ∈ is, 1 ≤ i ∧ i ≤ wide) ∧ σ3.Ok := by
    obtain ⟨rs, e', z1, z2, z3, z4⟩ := compL_ex (F := compF (store (.name 7)) (evB (runs U (n + 3)) true .nil) (ev (runs U (n + 3)) (.bin .add (.int 1) (.callio 7 0 (.cons (.var 2) .nil)))) [7])
      (fun _ e => ∃ τ : Src, τ.Ok ∧ e = [some (.io (srcL τ)), some (.int 5), some (.int wide), none, none, some (.lst true [.tup [.int 0, .int r1]]), some (.int r2), none]) (fun r => ∃ v, r = .int v ∧ 1 ≤ v ∧ v ≤ wide) (rangeL 0 r2) 0 _ ⟨σ2, ok2, rfl⟩ (by
        rintro j d e hd ⟨τ, hτ, rfl⟩
        obtain ⟨v, τ', e3, v1, v2, hτ'⟩ := ex_pick hτ (n := wide) (by omega) (by omega)
        have e3 := e3 (n + 3) (by omega)
        obtain ⟨i, rfl⟩ : ∃ i, d = .int i := by
          unfold rangeL at hd
          rw [List.getElem?_map] at hd
          obtain ⟨_, _, z⟩ := Option.map_eq_some_iff.mp hd
          exact ⟨_, z.symm⟩
        exact ⟨.int (1 + v), _, by simp [compF, e3], ⟨_, rfl, by omega, by omega⟩, τ', hτ', rfl⟩)
    obtain ⟨τ, hτ, rfl⟩ := z4
    obtain ⟨is, rfl, his⟩ := ints_of_all z3
    refine ⟨is, τ, ?_, ?_, his, hτ⟩
    · refine (compV_ex (e1 := [some (.io (srcL σ2)), some (.int 5), some (.int wide), none, none, some (.lst true [.tup [.int 0, .int r1]]), some (.int r2), none]) (ds := rangeL 0 r2) (by
        have : rangeOk r2 = true := by unfold rangeOk; simp; omega
        simp [rangeD, this]) (by simp [freeAt]) z1 ?_).trans ?_
      · rw [z2, rangeL_len]
        show _ ≤ 1000000
        omega
      · simp [unwipe]
    · rw [List.length_map, rangeL_len] at z2
      omega
  obtain ⟨is, σ3, c1, il, ib, ok3⟩ := c1
  have c2 := sset_ints (o := true) (l := is) (by omega)
  have l4 : (sortU is).length ≤ 4 := Nat.le_trans (sortU_len is) il
  have ss := sortU_sorted is
  have sm : ∀ i ∈ sortU is, 1 ≤ i ∧ i ≤ wide := fun i hi => ib i ((mem_sortU i is).mp hi)
  generalize sortU is = st at c2 l4 ss sm
  generalize is.map D.int = isd at c1 c2
  -- their rates
  obtain ⟨e', z1, z2⟩ := forC_ex (C := runs U (n + 3)) (tg := .name 4) (b := (.cons (.append 5 (.tup (.cons (.var 4) (.cons (.callio 9 0 (.cons (.lst (.cons (.int 0) (.cons (.int 1) (.cons (.int 5) (.cons (.int 10) (.cons (.int 20) (.cons (.int 50) (.cons (.int 100) (.cons (.callio 7 0 (.cons (.int 101) .nil)) .nil))))))))) .nil)) .nil)))) .nil))
    (fun k e => ∃ (τ : Src) (bs : List (Int × Int)) (x : Option D), τ.Ok ∧ (∀ l, x ≠ some (.io l)) ∧ bs.map (·.1) = 0 :: st.take k ∧ (∀ b ∈ bs, 0 ≤ b.2 ∧ b.2 ≤ 100) ∧ e = [some (.io (srcL τ)), some (.int 5), some (.int wide), some (.lst false (st.map .int)), x, some (.lst true (bs.map pairD)), some (.int r2), none])
    (st.map .int) 0 [some (.io (srcL σ3)), some (.int 5), some (.int wide), some (.lst false (st.map .int)), none, some (.lst true [.tup [.int 0, .int r1]]), some (.int r2), none]
    ⟨σ3, [(0, r1)], none, ok3, (fun _ z => by cases z), rfl, (fun b hb => by rw [List.mem_singleton.mp hb]; dsimp only; omega), rfl⟩ (by
      rintro j d e hd ⟨τ, bs, x, hτ, hx, hbs, hr, rfl⟩
      rw [List.getElem?_map] at hd
      obtain ⟨i, hi, rfl⟩ := Option.map_eq_some_iff.mp hd
      obtain ⟨v, τ1, e3, v1, v2, hτ1⟩ := ex_pick hτ (n := 101) (by decide) (by decide)
      have e3 := e3 (n + 3) (by omega)
      obtain ⟨d, τ2, e4, hd4, hτ2⟩ := ex_chosen hτ1 (l := [.int 0, .int 1, .int 5, .int 10, .int 20, .int 50, .int 100, .int v]) (by simp) (by simp)
      have e4 := e4 (n + 3) (by omega)
      obtain ⟨w, rfl, w1, w2⟩ : ∃ w, d = .int w ∧ 0 ≤ w ∧ w ≤ 100 := by
        simp only [List.mem_cons, List.not_mem_nil, or_false] at hd4
        rcases hd4 with z | z | z | z | z | z | z | z <;> exact ⟨_, z, by omega, by omega⟩
      have hl : bs.length < 1000000 := by
        have := congrArg List.length hbs
        rw [List.length_map, List.length_cons, List.length_take] at this
        omega
      refine ⟨_, ?_, τ2, bs ++ [(i, w)], some (.int i), hτ2, (fun _ z => by cases z), ?_, ?_, rfl⟩
      · simp [e3, e4, hx, hl, pairD]
      · rw [List.map_append, hbs, Nat.zero_add, List.take_add_one, hi]
        rfl
      · intro b hb
        rcases List.mem_append.mp hb with z | z
        · exact hr b z
        · rw [List.mem_singleton.mp z]
          exact ⟨w1, w2⟩)
  rw [Nat.zero_add, List.length_map, List.take_length] at z2
  obtain ⟨τ, bs, x, hτ, hx, hbs, hr, rfl⟩ := z2
  generalize st.map D.int = std at *
  have okb : ∀ bs' : List (Int × Int), bs'.map (·.1) = 0 :: st → (∀ b ∈ bs', 0 ≤ b.2 ∧ b.2 ≤ 100) → BandsOk bs' := fun bs' g1 g2 => by
    refine ⟨(fun z => by rw [z] at g1; cases g1), ?_, ?_, ?_, fun b hb => ?_⟩
    · have := congrArg List.length g1
      rw [List.length_map, List.length_cons] at this
      omega
    · cases bs' with
      | nil => cases g1
      | cons b r => exact congrArg some (List.cons.inj g1).1
    · rw [g1]
      exact List.pairwise_cons.mpr ⟨fun i hi => by have := sm i hi; omega, ss⟩
    · have := g2 b hb
      have hb1 : b.1 ∈ (0 :: st) := by rw [← g1]; exact List.mem_map.mpr ⟨b, hb, rfl⟩
      rcases List.mem_cons.mp hb1 with z | z
      · omega
      · have := sm _ z
        omega
  have okw : ∀ bs' : List (Int × Int), bs'.map (·.1) = 0 :: st → ∀ b ∈ bs', b.1 ≤ wide := fun bs' g1 b hb => by
    have hb1 : b.1 ∈ (0 :: st) := by rw [← g1]; exact List.mem_map.mpr ⟨b, hb, rfl⟩
    rcases List.mem_cons.mp hb1 with z | z
    · omega
    · have := sm _ z
      omega
  obtain ⟨r3, σ4, e5, a3, b3, ok4⟩ := ex_pick hτ (n := 2) (by decide) (by decide)
  have e5 := e5 (n + 3) (by omega)
  have pre : runs U (n + 4) 13 [.io (srcL σ), .int 5, .int wide] = runFn (runs U (n + 3)) f13 [.io (srcL σ), .int 5, .int wide] := run_one u13
  by_cases h0 : r3 = 0
  · subst h0
    obtain ⟨d, σ5, e6, hd6, ok5⟩ := ex_chosen ok4 (l := [.int 0, .int 1, .int 10]) (by simp) (by simp)
    have e6 := e6 (n + 3) (by omega)
    obtain ⟨w, rfl, w1, w2⟩ : ∃ w, d = .int w ∧ 0 ≤ w ∧ w ≤ 100 := by
      simp only [List.mem_cons, List.not_mem_nil, or_false] at hd6
      rcases hd6 with z | z | z <;> exact ⟨_, z, by omega, by omega⟩
    cases bs with
    | nil => cases hbs
    | cons b0 br =>
      have hbr : br.map (·.1) = st := (List.cons.inj hbs).2
      refine ⟨(0, w) :: br, σ5, ?_, okb _ (by rw [List.map_cons, hbr]) (fun b hb => (List.mem_cons.mp hb).elim (fun z => by rw [z]; exact ⟨w1, w2⟩) fun z => hr b (List.mem_cons_of_mem _ z)), ok5, okw _ (by rw [List.map_cons, hbr])⟩
      rw [pre]
      simp [f13, e1, e2, c1, c2, z1, e5, e6, putAt, ixN, pairD]
  · refine ⟨bs, σ4, ?_, okb bs hbs hr, ok4, okw bs hbs⟩
    rw [pre]
    simp [f13, e1, e2, c1, c2, z1, e5, h0]
end PV
set_option Elab.async false
set_option linter.all false
set_option maxRecDepth 100000
set_option maxHeartbeats 2000000
/-! Plans and rows that the law draws. -/
namespace PV
open PySem PySem.Spec L2
/-- the end of the law's plan -/
def f14t : ISs := (.cons (.par [5, 6] (.cons (.callio 9 0 (.cons (.lst (.cons (.str (Str.ofString "parts")) (.cons (.str (Str.ofString "whole")) .nil))) .nil)) (.cons (.callio 9 0 (.cons (.lst (.cons (.str (Str.ofString "down")) (.cons (.str (Str.ofString "half")) .nil))) .nil)) .nil))) (.cons (.asg (.name 2) (.callio 9 0 (.cons (.lst (.cons (.int 0) (.cons (.int 0) (.cons (.int 1) (.cons (.int 50) (.cons (.int 500) (.cons (.callio 7 0 (.cons (.int 501) .nil)) .nil))))))) .nil))) (.cons (.ret (.tup (.cons (.callio 13 0 (.cons (.int 5) (.cons (.var 1) .nil))) (.cons (.var 5) (.cons (.var 6) (.cons (.var 3) (.cons (.var 4) (.cons (.var 2) .nil)))))))) .nil)))
theorem f14_eq : f14 = ⟨2, 7, true, (.cons (.asg (.tup [(.name 3), (.name 4)]) (.tup (.cons .non (.cons .non .nil)))) (.cons (.ife (.cmp .eq (.callio 7 0 (.cons (.int 2) .nil)) (.int 0)) (.cons (.asg (.name 3) (.tup (.cons (.bin .add (.int 1) (.callio 7 0 (.cons (.int 12) .nil))) (.cons (.callio 9 0 (.cons (.lst (.cons (.int 1) (.cons (.int 5) (.cons (.int 10) (.cons (.bin .add (.int 1) (.callio 7 0 (.cons (.int 100) .nil))) .nil))))) .nil)) .nil)))) .nil) .nil) (.cons (.ife (.cmp .eq (.callio 7 0 (.cons (.int 2) .nil)) (.int 0)) (.cons (.asg (.name 4) (.tup (.cons (.bin .add (.int 1) (.callio 7 0 (.cons (.var 1) .nil))) (.cons (.callio 9 0 (.cons (.lst (.cons (.int 1) (.cons (.int 2) (.cons (.int 100) (.cons (.bin .add (.int 1) (.callio 7 0 (.cons (.int 1000) .nil))) .nil))))) .nil)) .nil)))) .nil) .nil) f14t)))⟩ := rfl
structure BonusOk (b : Option (Int × Int)) : Prop where
  ok : ∀ x, b = some x → 1 ≤ x.1 ∧ x.1 ≤ 12 ∧ 1 ≤ x.2 ∧ x.2 ≤ 100
structure FeeOk (b : Option (Int × Int)) : Prop where
  ok : ∀ x, b = some x → 1 ≤ x.1 ∧ x.1 ≤ 1000000 ∧ 1 ≤ x.2 ∧ x.2 ≤ 1000
@[simp] theorem opt_ne_io {b : Option (Int × Int)} {l : List D} : (optP b = .io l) = False := by cases b <;> simp
theorem top_opt {b : Option (Int × Int)} : (optP b).top = optP b := by cases b <;> rfl
/-- a variable that holds none or a pair -/
theorem rdVar_opt {e : Env} {i : Nat} {b : Option (Int × Int)} (h : e[i]? = some (some (optP b))) : rdVar e i = some (.v (optP b), e) := by
  unfold rdVar
  rw [h]
  cases b <;> rfl
theorem ex_tail {n : Nat} (h : 4 ≤ n) {σ : Src} (ok : σ.Ok) {wide : Int} (hw : 1 ≤ wide ∧ wide ≤ 1000000) {b f : Option (Int × Int)} (hb : BonusOk b) (hf : FeeOk f) (hfw : ∀ x, f = some x → x.1 ≤ wide) :
    ∃ (p : Plan) (σ' : Src) (r : Env), evSs (runs U n) f14t [some (.io (srcL σ)), some (.int wide), none, some (optP b), some (optP f), none, none] = some (.rt (.tup (planL p)) (some (.io (srcL σ')) :: r)) ∧ p.Ok ∧ σ'.Ok ∧ ∀ e ∈ edgesOf p, e ≤ wide := by
  obtain ⟨d1, σ1, e1, m1, ok1⟩ := ex_chosen ok (l := [.str (Str.ofString "parts"), .str (Str.ofString "whole")]) (by simp) (by simp)
  obtain ⟨d2, σ2, e2, m2, ok2⟩ := ex_chosen ok1 (l := [.str (Str.ofString "down"), .str (Str.ofString "half")]) (by simp) (by simp)
  obtain ⟨v, σ3, e3, v1, v2, ok3⟩ := ex_pick ok2 (n := 501) (by decide) (by decide)
  obtain ⟨d3, σ4, e4, m4, ok4⟩ := ex_chosen ok3 (l := [.int 0, .int 0, .int 1, .int 50, .int 500, .int v]) (by simp) (by simp)
  obtain ⟨bands, σ5, e5, hbands, ok5, hbw⟩ := ex_bands h ok4 hw
  have e1 := e1 n (by omega)
  have e2 := e2 n (by omega)
  have e3 := e3 n (by omega)
  have e4 := e4 n (by omega)
  obtain ⟨w, rfl⟩ : ∃ w, d1 = .str (mS w) := by
    simp only [List.mem_cons, List.not_mem_nil, or_false] at m1
    rcases m1 with z | z
    · exact ⟨false, z⟩
    · exact ⟨true, z⟩
  obtain ⟨u, rfl⟩ : ∃ w, d2 = .str (rS w) := by
    simp only [List.mem_cons, List.not_mem_nil, or_false] at m2
    rcases m2 with z | z
    · exact ⟨false, z⟩
    · exact ⟨true, z⟩
  obtain ⟨c, rfl, c1, c2⟩ : ∃ c, d3 = .int c ∧ 0 ≤ c ∧ c ≤ 500 := by
    simp only [List.mem_cons, List.not_mem_nil, or_false] at m4
    rcases m4 with z | z | z | z | z | z <;> exact ⟨_, z, by omega, by omega⟩
  have hE : ∀ e ∈ edgesOf ⟨bands, w, u, b, f, c⟩, e ≤ wide := fun e he => by
    rcases List.mem_append.mp he with z | z
    · obtain ⟨x, hx, rfl⟩ := List.mem_map.mp z
      exact hbw x hx
    · cases f with
      | none => cases z
      | some f => rw [List.mem_singleton.mp z]; exact hfw f rfl
  refine ⟨⟨bands, w, u, b, f, c⟩, σ5, [some (.int wide), some (.int c), some (optP b), some (optP f), some (.str (mS w)), some (.str (rS u))], ?_⟩
  cases b with
  | none =>
    cases f with
    | none =>
      refine ⟨?_, ⟨hbands.ne, hbands.len, hbands.first, hbands.ris, hbands.band, hb.ok, hf.ok, c1, c2⟩, ok5, hE⟩
      simp [f14t, e1, e2, e3, e4, e5, planL]
    | some f =>
      refine ⟨?_, ⟨hbands.ne, hbands.len, hbands.first, hbands.ris, hbands.band, hb.ok, hf.ok, c1, c2⟩, ok5, hE⟩
      simp [f14t, e1, e2, e3, e4, e5, planL]
  | some b =>
    cases f with
    | none =>
      refine ⟨?_, ⟨hbands.ne, hbands.len, hbands.first, hbands.ris, hbands.band, hb.ok, hf.ok, c1, c2⟩, ok5, hE⟩
      simp [f14t, e1, e2, e3, e4, e5, planL]
    | some f =>
      refine ⟨?_, ⟨hbands.ne, hbands.len, hbands.first, hbands.ris, hbands.band, hb.ok, hf.ok, c1, c2⟩, ok5, hE⟩
      simp [f14t, e1, e2, e3, e4, e5, planL]
theorem ex_planW {m : Nat} (h : 5 ≤ m) {σ : Src} (ok : σ.Ok) {wide : Int} (hw : 1 ≤ wide ∧ wide ≤ 1000000) : ∃ (p : Plan) (σ' : Src), runs U m 14 [.io (srcL σ), .int wide] = some (.tup (planL p), srcL σ') ∧ p.Ok ∧ σ'.Ok ∧ ∀ e ∈ edgesOf p, e ≤ wide := by
  obtain ⟨n, rfl⟩ := Nat.exists_eq_add_of_le' h
  have pre : runs U (n + 5) 14 [.io (srcL σ), .int wide] = runFn (runs U (n + 4)) f14 [.io (srcL σ), .int wide] := run_one u14
  rw [pre, f14_eq]
  -- the bonus
  obtain ⟨r1, σ1, e1, a1, b1, ok1⟩ := ex_pick ok (n := 2) (by decide) (by decide)
  have e1 := e1 (n + 4) (by omega)
  have step2 : ∀ (τ : Src) (b : Option (Int × Int)), τ.Ok → BonusOk b → ∃ (p : Plan) (σ' : Src) (r : Env), seqO (evS (runs U (n + 4)) (.ife (.cmp .eq (.callio 7 0 (.cons (.int 2) .nil)) (.int 0)) (.cons (.asg (.name 4) (.tup (.cons (.bin .add (.int 1) (.callio 7 0 (.cons (.var 1) .nil))) (.cons (.callio 9 0 (.cons (.lst (.cons (.int 1) (.cons (.int 2) (.cons (.int 100) (.cons (.bin .add (.int 1) (.callio 7 0 (.cons (.int 1000) .nil))) .nil))))) .nil)) .nil)))) .nil) .nil) [some (.io (srcL τ)), some (.int wide), none, some (optP b), some .non, none, none]) (fun e => evSs (runs U (n + 4)) f14t e) = some (.rt (.tup (planL p)) (some (.io (srcL σ')) :: r)) ∧ p.Ok ∧ σ'.Ok ∧ ∀ e ∈ edgesOf p, e ≤ wide := by
    intro τ b hτ hb
    obtain ⟨r1, σ1, e1, a1, b1, ok1⟩ := ex_pick hτ (n := 2) (by decide) (by decide)
    have e1 := e1 (n + 4) (by omega)
    by_cases h0 : r1 = 0
    · subst h0
      obtain ⟨x, σ2, e2, x1, x2, ok2⟩ := ex_pick ok1 (n := wide) (by omega) (by omega)
      obtain ⟨y, σ3, e3, y1, y2, ok3⟩ := ex_pick ok2 (n := 1000) (by decide) (by decide)
      obtain ⟨d, σ4, e4, m4, ok4⟩ := ex_chosen ok3 (l := [.int 1, .int 2, .int 100, .int (1 + y)]) (by simp) (by simp)
      have e2 := e2 (n + 4) (by omega)
      have e3 := e3 (n + 4) (by omega)
      have e4 := e4 (n + 4) (by omega)
      obtain ⟨c, rfl, c1, c2⟩ : ∃ c, d = .int c ∧ 1 ≤ c ∧ c ≤ 1000 := by
        simp only [List.mem_cons, List.not_mem_nil, or_false] at m4
        rcases m4 with z | z | z | z <;> exact ⟨_, z, by omega, by omega⟩
      obtain ⟨p, σ', r, e5, hp, ho⟩ := ex_tail (n := n + 4) (by omega) ok4 hw hb (f := some (1 + x, c)) ⟨fun z hz => by cases hz; dsimp only; omega⟩ (fun z hz => by cases hz; dsimp only; omega)
      refine ⟨p, σ', r, ?_, hp, ho⟩
      simp at e5
      simp [e1, e2, e3, e4, e5]
    · obtain ⟨p, σ', r, e5, hp, ho⟩ := ex_tail (n := n + 4) (by omega) ok1 hw hb (f := none) ⟨fun z hz => by cases hz⟩ (fun z hz => by cases hz)
      refine ⟨p, σ', r, ?_, hp, ho⟩
      simp at e5
      simp [e1, e5, h0]
  by_cases h0 : r1 = 0
  · subst h0
    obtain ⟨x, σ2, e2, x1, x2, ok2⟩ := ex_pick ok1 (n := 12) (by decide) (by decide)
    obtain ⟨y, σ3, e3, y1, y2, ok3⟩ := ex_pick ok2 (n := 100) (by decide) (by decide)
    obtain ⟨d, σ4, e4, m4, ok4⟩ := ex_chosen ok3 (l := [.int 1, .int 5, .int 10, .int (1 + y)]) (by simp) (by simp)
    have e2 := e2 (n + 4) (by omega)
    have e3 := e3 (n + 4) (by omega)
    have e4 := e4 (n + 4) (by omega)
    obtain ⟨c, rfl, c1, c2⟩ : ∃ c, d = .int c ∧ 1 ≤ c ∧ c ≤ 100 := by
      simp only [List.mem_cons, List.not_mem_nil, or_false] at m4
      rcases m4 with z | z | z | z <;> exact ⟨_, z, by omega, by omega⟩
    obtain ⟨p, σ', r, e5, hp, ho⟩ := step2 σ4 (some (1 + x, c)) ok4 ⟨fun z hz => by cases hz; dsimp only; omega⟩
    refine ⟨p, σ', ?_, hp, ho⟩
    simp at e5
    simp [e1, e2, e3, e4, e5]
  · obtain ⟨p, σ', r, e5, hp, ho⟩ := step2 σ1 none ok1 ⟨fun z hz => by cases hz⟩
    refine ⟨p, σ', ?_, hp, ho⟩
    simp at e5
    simp [e1, e5, h0]
theorem ex_plan {m : Nat} (h : 5 ≤ m) {σ : Src} (ok : σ.Ok) {wide : Int} (hw : 1 ≤ wide ∧ wide ≤ 1000000) : ∃ (p : Plan) (σ' : Src), runs U m 14 [.io (srcL σ), .int wide] = some (.tup (planL p), srcL σ') ∧ p.Ok ∧ σ'.Ok := by
  obtain ⟨p, σ', h1, h2, h3, _⟩ := ex_planW h ok hw
  exact ⟨p, σ', h1, h2, h3⟩
end PV
set_option Elab.async false
set_option linter.all false
set_option maxRecDepth 100000
set_option maxHeartbeats 2000000
/-! Rows that the law draws; its source. -/
namespace PV
open PySem PySem.Spec L2
theorem atI_mem {l : List D} {r : Int} (h1 : 0 ≤ r) (h2 : r < l.length) : ∃ d ∈ l, atI l r = some d := by
  have hr : r.toNat < l.length := by omega
  exact ⟨_, List.getElem_mem hr, by rw [atI_nat h1 h2, List.getElem?_eq_getElem hr]⟩
@[simp] theorem pow_18 : bin .pow (.int 10) (.int 18) = some (.int 1000000000000000000) := by rfl
@[simp] theorem pow_12 : bin .pow (.int 10) (.int 12) = some (.int 1000000000000) := by rfl
@[simp] theorem pow_11 : bin .pow (.int 10) (.int 11) = some (.int 100000000000) := by rfl
@[simp] theorem pow_9 : bin .pow (.int 10) (.int 9) = some (.int 1000000000) := by rfl
@[simp] theorem pow_6 : bin .pow (.int 10) (.int 6) = some (.int 1000000) := by rfl
theorem ex_row {m : Nat} (h : 2 ≤ m) {σ : Src} (ok : σ.Ok) {most wide : Int} (hm : 0 ≤ most ∧ most ≤ 200) (hw : 1 ≤ wide ∧ wide ≤ 10000000) : ∃ (row : List Int) (σ' : Src), runs U m 15 [.io (srcL σ), .int most, .int wide] = some (.tup (row.map .int), srcL σ') ∧ row.length ≤ most.toNat ∧ (∀ x ∈ row, -wide ≤ x ∧ x ≤ wide) ∧ σ'.Ok := by
  obtain ⟨n, rfl⟩ := Nat.exists_eq_add_of_le' h
  have pre : runs U (n + 2) 15 [.io (srcL σ), .int most, .int wide] = runFn (runs U (n + 1)) f15 [.io (srcL σ), .int most, .int wide] := run_one u15
  rw [pre]
  obtain ⟨r1, σ1, e1, a1, b1, ok1⟩ := ex_pick ok (n := most + 1) (by omega) (by omega)
  have e1 := e1 (n + 1) (by omega)
  obtain ⟨e', z1, z2⟩ := forC_ex (C := runs U (n + 1)) (tg := .name 4) (b := (.cons (.asg (.name 5) (.callio 7 0 (.cons (.int 6) .nil))) (.cons (.asg (.name 6) (.callio 7 0 (.cons (.var 2) .nil))) (.cons (.append 3 (.idx (.lst (.cons (.int 0) (.cons (.int 0) (.cons (.var 6) (.cons (.var 6) (.cons (.bin .sub (.int 0) (.var 6)) (.cons (.bin .sub (.int 0) (.bin .fdiv (.var 6) (.int 4))) .nil))))))) (.var 5))) .nil))))
    (fun k e => ∃ (τ : Src) (row : List Int) (x y z : Option D), τ.Ok ∧ (∀ l, x ≠ some (.io l)) ∧ (∀ l, y ≠ some (.io l)) ∧ (∀ l, z ≠ some (.io l)) ∧ row.length = k ∧ (∀ x ∈ row, -wide ≤ x ∧ x ≤ wide) ∧ e = [some (.io (srcL τ)), some (.int most), some (.int wide), some (.lst true (row.map .int)), x, y, z])
    (rangeL 0 r1) 0 [some (.io (srcL σ1)), some (.int most), some (.int wide), some (.lst true []), none, none, none]
    ⟨σ1, [], none, none, none, ok1, (fun _ z => by cases z), (fun _ z => by cases z), (fun _ z => by cases z), rfl, (fun _ z => by cases z), rfl⟩ (by
      rintro j d e hd ⟨τ, row, x, y, z, hτ, hx, hy, hz, hl, hr, rfl⟩
      obtain ⟨i, rfl⟩ : ∃ i, d = .int i := by
        unfold rangeL at hd
        rw [List.getElem?_map] at hd
        obtain ⟨_, _, z⟩ := Option.map_eq_some_iff.mp hd
        exact ⟨_, z.symm⟩
      have hj : j < (rangeL 0 r1).length := at_len hd
      rw [rangeL_len] at hj
      obtain ⟨w, τ1, e3, v1, v2, hτ1⟩ := ex_pick hτ (n := 6) (by decide) (by decide)
      obtain ⟨am, τ2, e4, u1, u2, hτ2⟩ := ex_pick hτ1 (n := wide) (by omega) (by omega)
      have e3 := e3 (n + 1) (by omega)
      have e4 := e4 (n + 1) (by omega)
      obtain ⟨d, hd, ea⟩ := atI_mem (l := [.int 0, .int 0, .int am, .int am, .int (0 - am), .int (0 - am / 4)]) v1 (by simpa using v2)
      obtain ⟨q, rfl, q1, q2⟩ : ∃ q, d = .int q ∧ -wide ≤ q ∧ q ≤ wide := by
        simp only [List.mem_cons, List.not_mem_nil, or_false] at hd
        rcases hd with z | z | z | z | z | z <;> exact ⟨_, z, by omega, by omega⟩
      have hl2 : row.length < 1000000 := by omega
      refine ⟨_, ?_, τ2, row ++ [q], some (.int i), some (.int w), some (.int am), hτ2, (fun _ z => by cases z), (fun _ z => by cases z), (fun _ z => by cases z), by rw [List.length_append, hl]; rfl, ?_, rfl⟩
      · simp at ea
        simp [e3, e4, ea, bin_div, hx, hy, hz, hl2]
      · intro b hb
        rcases List.mem_append.mp hb with z | z
        · exact hr b z
        · rw [List.mem_singleton.mp z]
          exact ⟨q1, q2⟩)
  obtain ⟨τ, row, x, y, z, hτ, hx, hy, hz, hl, hr, rfl⟩ := z2
  rw [rangeL_len] at hl
  have hro : rangeOk r1 = true := by unfold rangeOk; simp; omega
  refine ⟨row, τ, ?_, by omega, hr, hτ⟩
  have er : rangeD [.int r1] = some (rangeL 0 r1) := if_pos hro
  generalize rangeL 0 r1 = rg at *
  simp [f15, e1, er, z1]
theorem ex_source {m : Nat} (h : 1 ≤ m) (ns : List Int) {k : Int} (hk : 0 ≤ k ∧ k ≤ 1000) : ∃ σ : Src, runs U m 6 [.scr ns, .int k] = some (.lst true (srcL σ), []) ∧ σ.Ok := by
  obtain ⟨n, rfl⟩ := Nat.exists_eq_add_of_le' h
  have pre : runs U (n + 1) 6 [.scr ns, .int k] = runFn (runs U n) f6 [.scr ns, .int k] := run_one u6
  rw [pre]
  obtain ⟨cell, hcell⟩ : ∃ cell : Int, cell = if k < ns.length then ns.getD k.toNat 0 else 0 := ⟨_, rfl⟩
  obtain ⟨d, hd, ea⟩ := atI_mem (l := [.int 2147483647, .int 2147483629, .int 2147483587, .int 2147483579, .int 2147483563, .int 2147483549, .int 2147483543, .int 2147483497]) (r := k % 8) (by omega) (by simp; omega)
  obtain ⟨q, rfl, q1, q2⟩ : ∃ q, d = .int q ∧ 0 < q ∧ q < 1000000000000 := by
    simp only [List.mem_cons, List.not_mem_nil, or_false] at hd
    rcases hd with z | z | z | z | z | z | z | z <;> exact ⟨_, z, by omega, by omega⟩
  have m1 : mulOk (cell % 2147483489 + 1) (48271 + 2 * k) = true := mulOk_l (by omega)
  have m2 : mulOk ((cell % 2147483489 + 1) * (48271 + 2 * k) % 2147483489) ((cell % 2147483489 + 1) * (48271 + 2 * k) % 2147483489) = true := mulOk_l (by
    generalize (cell % 2147483489 + 1) * (48271 + 2 * k) = x
    omega)
  have m3 : mulOk 2 k = true := mulOk_l (by omega)
  refine ⟨⟨if 1000000000000000000 ≤ cell then cell else 0, (cell % 2147483489 + 1) * (48271 + 2 * k) % 2147483489 * ((cell % 2147483489 + 1) * (48271 + 2 * k) % 2147483489) % 2147483477 + k + 1, q⟩, ?_, q1, q2⟩
  by_cases hl : k < ns.length
  · have ec : atI ns k = some cell := by
      rw [atI_nat hk.1 hl, hcell, if_pos hl, List.getD_eq_getElem?_getD, List.getElem?_eq_getElem (by omega)]
      rfl
    by_cases hc : 1000000000000000000 ≤ cell <;> simp [f6, hl, ec, bin_mod, m1, m2, m3, hc, ea, srcL]
  · have ec : cell = 0 := by rw [hcell, if_neg hl]
    subst ec
    simp at m1 m2
    simp [f6, hl, bin_mod, m1, m2, m3, ea, srcL]
end PV
set_option Elab.async false
set_option linter.all false
/-! What the laws share (K02 has its own copy of these). -/
namespace PV
open PySem PySem.Spec L2
/-- no list that was handed in -/
def Fl (x : Option D) : Prop := ∀ l, x ≠ some (.io l)
theorem fl_some {d : D} (h : ∀ l, d ≠ .io l) : Fl (some d) := fun l z => h l (Option.some.inj z)
theorem fl_none : Fl none := fun _ z => by cases z
theorem fl_int {i : Int} : Fl (some (.int i)) := fun _ z => by cases z
theorem fl_tup {l : List D} : Fl (some (.tup l)) := fun _ z => by cases z
theorem fl_lst {o : Bool} {l : List D} : Fl (some (.lst o l)) := fun _ z => by cases z
theorem range_int {i j : Int} {k : Nat} {d : D} (h : (rangeL i j)[k]? = some d) : d = .int (i + k) ∧ k < (j - i).toNat := by
  have h1 := at_len h
  rw [rangeL_len] at h1
  unfold rangeL at h
  rw [List.getElem?_map, List.getElem?_range h1] at h
  exact ⟨(Option.some.inj h).symm, h1⟩
theorem okEq_opt {n : Nat} {a : Option (Int × Int)} : D.okEq (n + 1) (optP a) = true := by
  cases a with
  | none => rfl
  | some b => exact okEq_pair
end PV
set_option Elab.async false
set_option linter.all false
set_option maxRecDepth 100000
/-! Slots that don't matter; results at given data; loops that may end early. -/
namespace PV
open PySem PySem.Spec L2
/-- what lies in a slot that doesn't matter -/
structure Jk where
  x : Option D
  h : Fl x
@[simp] theorem Jk.ne (y : Jk) (l : List D) : (y.x = some (D.io l)) = False := eq_false (y.h l)
def jn : Jk := ⟨none, fl_none⟩
def jb (b : Bool) : Jk := ⟨some (.bl b), fun _ z => by cases z⟩
def ji (i : Int) : Jk := ⟨some (.int i), fl_int⟩
def jt (l : List D) : Jk := ⟨some (.tup l), fl_tup⟩
def jl (o : Bool) (l : List D) : Jk := ⟨some (.lst o l), fl_lst⟩
def jnon : Jk := ⟨some .non, fun _ z => by cases z⟩
def js (ns : List Int) : Jk := ⟨some (.scr ns), fun _ z => by cases z⟩
theorem fl_opt {b : Option (Int × Int)} : Fl (some (optP b)) := by cases b <;> exact fun _ z => by cases z
def jo (b : Option (Int × Int)) : Jk := ⟨some (optP b), fl_opt⟩
/-! ### at given data -/
mutual
def D.same : D → D → Bool
  | .non, .non => true
  | .bl a, .bl b => decide (a = b)
  | .int a, .int b => decide (a = b)
  | .str a, .str b => decide (a.cps.toList = b.cps.toList)
  | .tup a, .tup b => sames a b
  | .lst o a, .lst o' b => decide (o = o') && sames a b
  | _, _ => false
def sames : List D → List D → Bool
  | [], [] => true
  | a :: r, b :: s => a.same b && sames r s
  | _, _ => false
end
mutual
theorem same_eq : ∀ {a b : D}, a.same b = true → a = b
  | .non, .non, _ => rfl
  | .bl a, .bl b, h => by rw [of_decide_eq_true h]
  | .int a, .int b, h => by rw [of_decide_eq_true h]
  | .str a, .str b, h => by
    have := of_decide_eq_true h
    obtain ⟨⟨a⟩⟩ := a
    obtain ⟨⟨b⟩⟩ := b
    have e : a = b := this
    rw [e]
  | .tup a, .tup b, h => by rw [sames_eq (show sames a b = true from h)]
  | .lst o a, .lst o' b, h => by
    have h := Bool.and_eq_true _ _ ▸ (show (decide (o = o') && sames a b) = true from h)
    rw [of_decide_eq_true h.1, sames_eq h.2]
theorem sames_eq : ∀ {a b : List D}, sames a b = true → a = b
  | [], [], _ => rfl
  | a :: r, b :: s, h => by
    have h := Bool.and_eq_true _ _ ▸ (show (a.same b && sames r s) = true from h)
    rw [same_eq h.1, sames_eq h.2]
end
def outIs (r : Option (D × List D)) (d : D) : Bool := match r with
  | some (x, []) => x.same d
  | _ => false
theorem out_is {r : Option (D × List D)} {d : D} (h : outIs r d = true) : r = some (d, []) := by
  unfold outIs at h
  split at h
  · rw [same_eq h]
  · cases h
/-- a plan's numbers, looked at -/
def Plan.chk (p : Plan) : Bool := !p.bands.isEmpty && (decide (p.bands.length ≤ 5) && (decide (p.bands.head?.map (·.1) = some 0) && (decide ((p.bands.map (·.1)).Pairwise (· < ·)) &&
  (p.bands.all (fun b => decide (0 ≤ b.1 ∧ b.1 ≤ 1000000 ∧ 0 ≤ b.2 ∧ b.2 ≤ 100)) && ((match p.bonus with | none => true | some b => decide (1 ≤ b.1 ∧ b.1 ≤ 12 ∧ 1 ≤ b.2 ∧ b.2 ≤ 100)) &&
  ((match p.fee with | none => true | some b => decide (1 ≤ b.1 ∧ b.1 ≤ 1000000 ∧ 1 ≤ b.2 ∧ b.2 ≤ 1000)) && decide (0 ≤ p.charge ∧ p.charge ≤ 500)))))))
theorem ok_of_chk {p : Plan} (h : p.chk = true) : p.Ok := by
  unfold Plan.chk at h
  simp only [Bool.and_eq_true] at h
  obtain ⟨h1, h2, h3, h4, h5, h6, h7, h8⟩ := h
  refine ⟨(fun z => by rw [z] at h1; cases h1), of_decide_eq_true h2, of_decide_eq_true h3, of_decide_eq_true h4, fun b hb => of_decide_eq_true (List.all_eq_true.mp h5 b hb), fun b hb => ?_, fun b hb => ?_, of_decide_eq_true h8⟩
  · rw [hb] at h6
    exact of_decide_eq_true h6
  · rw [hb] at h7
    exact of_decide_eq_true h7
/-! ### loops -/
/-- a return with such a value -/
def Rt (o : Option Out) (r : D) : Prop := ∃ e, o = some (.rt r e)
@[simp] theorem rt_iff {d r : D} {e : Env} : Rt (some (.rt d e)) r ↔ d = r :=
  ⟨fun ⟨_, h⟩ => by cases h; rfl, fun h => ⟨e, by rw [h]⟩⟩
theorem forC_find {C : Ora} {tg : Tg} {b : ISs} (I : Nat → Env → Prop) (R : D → Prop) : ∀ (ds : List D) (k : Nat) (e : Env), I k e →
    (∀ j d e, ds[j]? = some d → I (k + j) e → (∃ e', ((store tg d e).bind fun e => evSs C b e) = some (.nx e') ∧ I (k + j + 1) e') ∨ ∃ r, Rt ((store tg d e).bind fun e => evSs C b e) r ∧ R r) →
    (∃ e', forC C tg b ds e = some (.nx e') ∧ I (k + ds.length) e') ∨ ∃ r, Rt (forC C tg b ds e) r ∧ R r
  | [], k, e, h, _ => .inl ⟨e, rfl, h⟩
  | d :: r, k, e, h, hs => by
    rcases hs 0 d e rfl h with ⟨e1, h1, h2⟩ | ⟨q, ⟨e1, h1⟩, h2⟩
    · have ih := forC_find I R r (k + 1) e1 h2 fun j d e hd hI => by
        have e5 : k + 1 + j = k + (j + 1) := by omega
        rw [e5] at hI ⊢
        exact hs (j + 1) d e (by simpa using hd) hI
      have e5 : k + (d :: r).length = k + 1 + r.length := by rw [List.length_cons]; omega
      rw [forC_cons, h1, e5]
      exact ih
    · exact .inr ⟨q, ⟨e1, by rw [forC_cons, h1]; rfl⟩, h2⟩
/-- the least of a range with a growing property, by halving -/
theorem whileC_bs {C : Ora} {c : IE} {b : ISs} (I : Int → Int → Env → Prop) (P : Int → Bool) (A B : Int)
    (hc : ∀ lo hi e, A ≤ lo → lo ≤ hi → hi ≤ B → I lo hi e → toB (ev C c e) = some (decide (lo < hi), e))
    (hb : ∀ lo hi e, A ≤ lo → lo < hi → hi ≤ B → I lo hi e → ∃ e', evSs C b e = some (.nx e') ∧ if P ((lo + hi) / 2) = true then I lo ((lo + hi) / 2) e' else I ((lo + hi) / 2 + 1) hi e')
    (mono : ∀ x y, A ≤ x → x ≤ y → y ≤ B → P x = true → P y = true) :
    ∀ (k n : Nat) (lo hi : Int) (e : Env), hi - lo < 2 ^ k → k + 1 ≤ n → A ≤ lo → lo ≤ hi → hi ≤ B → I lo hi e → P hi = true → (∀ x, A ≤ x → x < lo → P x = false) →
      ∃ r e', whileC C c b n e = some (.nx e') ∧ I r r e' ∧ P r = true ∧ (∀ x, A ≤ x → x < r → P x = false) ∧ A ≤ r ∧ r ≤ B
  | k, 0, _, _, _, _, h, _, _, _, _, _, _ => absurd h (by omega)
  | k, n + 1, lo, hi, e, hk, hn, h1, h2, h3, hI, hP, hl => by
    have hc1 := hc lo hi e h1 h2 h3 hI
    show ∃ r e', ((toB (ev C c e)).bind fun x => if x.1 = true then (evSs C b x.2).bind fun o => match o with
      | .nx e => whileC C c b n e
      | .ct e => whileC C c b n e
      | .bk e => some (.nx e)
      | .rt d e => some (.rt d e)
    else some (.nx x.2)) = some (.nx e') ∧ _
    rw [hc1]
    by_cases hlt : lo < hi
    · obtain ⟨e1, e2, e3⟩ := hb lo hi e h1 hlt h3 hI
      cases k with
      | zero => exact absurd hk (by rw [Int.pow_zero]; omega)
      | succ k =>
      rw [Int.pow_succ] at hk
      simp only [Option.bind_some, decide_eq_true hlt, if_true, e2]
      by_cases hp : P ((lo + hi) / 2) = true
      · rw [if_pos hp] at e3
        exact whileC_bs I P A B hc hb mono k n lo ((lo + hi) / 2) e1 (by omega) (by omega) h1 (by omega) (by omega) e3 hp hl
      · rw [if_neg hp] at e3
        refine whileC_bs I P A B hc hb mono k n ((lo + hi) / 2 + 1) hi e1 (by omega) (by omega) (by omega) (by omega) h3 e3 hP fun x hx hx2 => ?_
        cases hpx : P x with
        | false => rfl
        | true => exact absurd (mono x ((lo + hi) / 2) hx (by omega) (by omega) hpx) hp
    · have : lo = hi := by omega
      subst this
      refine ⟨lo, e, ?_, hI, hP, hl, h1, h3⟩
      simp [hlt]
end PV
set_option Elab.async false
set_option linter.all false
set_option maxRecDepth 100000
set_option maxHeartbeats 2000000
/-! Functions that are the same but for the names of constants and the numbers of what they call. -/
namespace PV
open PySem
section
variable (p : Nat → Nat)
mutual
def mE : IE → IE
  | .glo _ i => .int i
  | .bin op a b => .bin op (mE a) (mE b)
  | .neg a => .neg (mE a)
  | .cmp op a b => .cmp op (mE a) (mE b)
  | .chain o1 o2 a b c => .chain o1 o2 (mE a) (mE b) (mE c)
  | .chain3 o1 o2 o3 a b c d => .chain3 o1 o2 o3 (mE a) (mE b) (mE c) (mE d)
  | .boolop k es => .boolop k (mEs es)
  | .not a => .not (mE a)
  | .ife c a b => .ife (mE c) (mE a) (mE b)
  | .tup es => .tup (mEs es)
  | .lst es => .lst (mEs es)
  | .idx a b => .idx (mE a) (mE b)
  | .slice a lo hi => .slice (mE a) (mO lo) (mO hi)
  | .rev a => .rev (mE a)
  | .call f es => .call (p f) (mEs es)
  | .callio f i es => .callio (p f) i (mEs es)
  | .blt b es => .blt b (mEs es)
  | .comp elt tg it cs own => .comp (mE elt) tg (mI it) (mEs cs) own
  | .non => .non
  | .bl b => .bl b
  | .int i => .int i
  | .str x => .str x
  | .var i => .var i
  | .mov i => .mov i
  | .bor i => .bor i
def mEs : IEs → IEs
  | .nil => .nil
  | .cons a r => .cons (mE a) (mEs r)
def mO : IO → IO
  | .none => .none
  | .some a => .some (mE a)
def mI : IT → IT
  | .seq a => .seq (mE a)
  | .range es => .range (mEs es)
  | .enum a => .enum (mE a)
  | .zip a b => .zip (mE a) (mE b)
end
mutual
def mS' : IS → IS
  | .asg tg a => .asg tg (mE p a)
  | .par is es => .par is (mEs p es)
  | .setI i k a => .setI i (mE p k) (mE p a)
  | .append i a => .append i (mE p a)
  | .extend i a => .extend i (mE p a)
  | .popAt i k => .popAt i (mE p k)
  | .insAt i es => .insAt i (mEs p es)
  | .setSl i lo hi a => .setSl i (mE p lo) (mE p hi) (mE p a)
  | .expr a => .expr (mE p a)
  | .ret a => .ret (mE p a)
  | .ife c a b => .ife (mE p c) (mSs a) (mSs b)
  | .for_ tg it b => .for_ tg (mI p it) (mSs b)
  | .while_ c b => .while_ (mE p c) (mSs b)
  | .brk => .brk
  | .cont => .cont
  | .raise => .raise
def mSs : ISs → ISs
  | .nil => .nil
  | .cons a r => .cons (mS' a) (mSs r)
end
variable {p} {C : Ora} (hC : ∀ f ds, C f ds = C (p f) ds)
include hC
mutual
theorem mE_ok : ∀ (a : IE) (e : Env), ev C a e = ev C (mE p a) e
  | .glo _ i, e => rfl
  | .bin op a b, e => by
    rw [mE, ev_bin, ev_bin, mE_ok a e, show (fun e => ev C b e) = fun e => ev C (mE p b) e from funext fun e => mE_ok b e]
  | .neg a, e => by rw [mE, ev_neg, ev_neg, mE_ok a e]
  | .cmp op a b, e => by
    rw [mE, ev_cmp, ev_cmp, mE_ok a e, show (fun e => ev C b e) = fun e => ev C (mE p b) e from funext fun e => mE_ok b e]
  | .chain o1 o2 a b c, e => by
    rw [mE, ev_chain, ev_chain, mE_ok a e, show (fun e => ev C b e) = fun e => ev C (mE p b) e from funext fun e => mE_ok b e, show (fun e => ev C c e) = fun e => ev C (mE p c) e from funext fun e => mE_ok c e]
  | .chain3 o1 o2 o3 a b c d, e => by
    rw [mE, ev_chain3, ev_chain3, mE_ok a e, show (fun e => ev C b e) = fun e => ev C (mE p b) e from funext fun e => mE_ok b e, show (fun e => ev C c e) = fun e => ev C (mE p c) e from funext fun e => mE_ok c e, show (fun e => ev C d e) = fun e => ev C (mE p d) e from funext fun e => mE_ok d e]
  | .boolop k es, e => by rw [mE, ev_boolop, ev_boolop, mB_ok es k e]
  | .not a, e => by rw [mE, ev_not, ev_not, mE_ok a e]
  | .ife c a b, e => by
    rw [mE, ev_ife, ev_ife, mE_ok c e]
    congr 1
    funext x
    rw [mE_ok a x.2, mE_ok b x.2]
  | .tup es, e => by rw [mE, ev_tup, ev_tup, mEs_ok es e]
  | .lst es, e => by rw [mE, ev_lst, ev_lst, mEs_ok es e]
  | .idx a b, e => by
    rw [mE, ev_idx, ev_idx, mE_ok a e, show (fun e => ev C b e) = fun e => ev C (mE p b) e from funext fun e => mE_ok b e]
  | .slice a lo hi, e => by
    rw [mE, ev_slice, ev_slice, mE_ok a e]
    congr 1
    funext x
    rw [mO_ok lo x.2]
    congr 1
    funext y
    rw [mO_ok hi y.2]
  | .rev a, e => by rw [mE, ev_rev, ev_rev, mE_ok a e]
  | .call f es, e => by
    rw [mE, ev_call, ev_call, mEs_ok es e]
    congr 1
    funext x
    congr 1
    funext ds
    rw [hC f]
  | .callio f i es, e => by
    rw [mE, ev_callio, ev_callio, mEs_ok es e]
    congr 1
    funext _
    unfold callIo
    congr 1
    funext x
    congr 1
    funext ds
    split
    · rw [hC f]
    · rw [hC f]
    · rfl
  | .blt b es, e => by rw [mE, ev_blt, ev_blt, mEs_ok es e]
  | .comp elt tg it cs own, e => by
    rw [mE, ev_comp, ev_comp, show evI C it = evI C (mI p it) from funext fun e => mI_ok it e, show evB C true cs = evB C true (mEs p cs) from funext fun e => mB_ok cs true e, show ev C elt = ev C (mE p elt) from funext fun e => mE_ok elt e]
  | .non, e => rfl
  | .bl b, e => rfl
  | .int i, e => rfl
  | .str x, e => rfl
  | .var i, e => rfl
  | .mov i, e => rfl
  | .bor i, e => rfl
theorem mEs_ok : ∀ (a : IEs) (e : Env), evs C a e = evs C (mEs p a) e
  | .nil, e => rfl
  | .cons a r, e => by
    rw [mEs, evs_cons, evs_cons, mE_ok a e]
    congr 1
    funext x
    rw [mEs_ok r x.2]
theorem mB_ok : ∀ (a : IEs) (k : Bool) (e : Env), evB C k a e = evB C k (mEs p a) e
  | .nil, k, e => rfl
  | .cons a r, k, e => by
    rw [mEs, evB_step, evB_step, mE_ok a e]
    congr 1
    funext x
    rw [mB_ok r k x.2]
theorem mO_ok : ∀ (a : IO) (e : Env), evO C a e = evO C (mO p a) e
  | .none, e => rfl
  | .some a, e => by rw [mO, evO_some, evO_some, mE_ok a e]
theorem mI_ok : ∀ (a : IT) (e : Env), evI C a e = evI C (mI p a) e
  | .seq a, e => by rw [mI, evI_seq, evI_seq, mE_ok a e]
  | .range es, e => by rw [mI, evI_range, evI_range, mEs_ok es e]
  | .enum a, e => by rw [mI, evI_enum, evI_enum, mE_ok a e]
  | .zip a b, e => by
    rw [mI, evI_zip, evI_zip, mE_ok a e]
    congr 1
    funext x
    rw [mE_ok b x.2]
end
mutual
theorem mS_ok : ∀ (a : IS) (e : Env), evS C a e = evS C (mS' p a) e
  | .asg tg a, e => by rw [mS', evS_asg, evS_asg, mE_ok hC a e]
  | .par is es, e => by rw [mS', evS_par, evS_par, mEs_ok hC es e]
  | .setI i k a, e => by
    rw [mS', evS_setI, evS_setI, mE_ok hC a e]
    congr 1
    funext x
    congr 1
    funext d
    congr 1
    funext _
    rw [mE_ok hC k x.2]
  | .append i a, e => by rw [mS', evS_append, evS_append, mE_ok hC a e]
  | .extend i a, e => by rw [mS', evS_extend, evS_extend, mE_ok hC a e]
  | .popAt i k, e => by rw [mS', evS_popAt, evS_popAt, mE_ok hC k e]
  | .insAt i es, e => by rw [mS', evS_insAt, evS_insAt, mEs_ok hC es e]
  | .setSl i lo hi a, e => by
    rw [mS', evS_setSl, evS_setSl, mE_ok hC a e]
    congr 1
    funext x
    congr 1
    funext d
    congr 1
    funext _
    rw [mE_ok hC lo x.2]
    congr 1
    funext y
    congr 1
    funext k
    rw [mE_ok hC hi y.2]
  | .expr a, e => by rw [mS', evS_expr, evS_expr, mE_ok hC a e]
  | .ret a, e => by rw [mS', evS_ret, evS_ret, mE_ok hC a e]
  | .ife c a b, e => by
    rw [mS', evS_ife, evS_ife, mE_ok hC c e]
    congr 1
    funext x
    rw [mSs_ok a x.2, mSs_ok b x.2]
  | .for_ tg it b, e => by
    rw [mS', evS_for, evS_for, mI_ok hC it e]
    congr 1
    funext x
    unfold forC
    congr 1
    funext d e
    congr 1
    funext e
    exact mSs_ok b e
  | .while_ c b, e => by
    rw [mS', evS_while, evS_while]
    unfold whileC
    rw [show (fun e => toB (ev C c e)) = fun e => toB (ev C (mE p c) e) from funext fun e => by rw [mE_ok hC c e], show (fun e => evSs C b e) = fun e => evSs C (mSs p b) e from funext fun e => mSs_ok b e]
  | .brk, e => rfl
  | .cont, e => rfl
  | .raise, e => rfl
theorem mSs_ok : ∀ (a : ISs) (e : Env), evSs C a e = evSs C (mSs p a) e
  | .nil, e => rfl
  | .cons a r, e => by
    rw [mSs, evSs_cons, evSs_cons, mS_ok a e, show (fun e => evSs C r e) = fun e => evSs C (mSs p r) e from funext fun e => mSs_ok r e]
end
end
def nrm (p : Nat → Nat) (f : Fn) : Fn := ⟨f.np, f.ns, f.io, mSs p f.body⟩
theorem runs_same {T : Nat → Option Fn} {p : Nat → Nat} (h : ∀ f, (T f).map (nrm p) = (T (p f)).map (nrm p)) : ∀ (n f : Nat) (ds : List D), runs T n f ds = runs T n (p f) ds
  | 0, _, _ => rfl
  | n + 1, f, ds => by
    have ih := runs_same h n
    have e : ∀ fn : Fn, runFn (runs T n) fn ds = runFn (runs T n) (nrm p fn) ds := fun fn => by
      unfold runFn nrm
      dsimp only
      rw [mSs_ok ih fn.body]
    show ((T f).bind fun fn => runFn (runs T n) fn ds) = (T (p f)).bind fun fn => runFn (runs T n) fn ds
    have a : ∀ o : Option Fn, (o.bind fun fn => runFn (runs T n) fn ds) = (o.map (nrm p)).bind fun fn => runFn (runs T n) fn ds := fun o => by
      cases o with
      | none => rfl
      | some fn => exact e fn
    rw [a, a (T (p f)), h f]
end PV
set_option Elab.async false
set_option linter.all false
set_option maxRecDepth 100000
set_option maxHeartbeats 0
/-! Which functions are the same (printed by gen.py). -/
namespace PV
open PySem
def piL : List (Nat × Nat) := [(101, 3), (102, 21), (103, 90), (106, 2), (107, 3), (108, 21), (122, 3), (123, 21), (124, 84), (125, 86), (126, 87), (127, 88), (128, 89), (129, 90), (130, 53), (131, 69), (132, 70), (134, 111), (135, 119), (154, 142), (155, 143), (156, 144), (157, 146), (158, 147), (159, 90), (180, 174), (183, 81), (185, 138), (186, 139), (187, 136), (188, 137), (192, 114), (193, 119), (194, 138), (195, 139), (225, 33), (226, 91), (228, 111), (229, 213), (230, 215), (249, 139), (253, 91), (254, 138), (265, 54), (266, 63), (267, 64), (268, 163), (269, 166), (270, 114), (271, 81), (272, 179)]
def pi (f : Nat) : Nat := (piL.lookup f).getD f
theorem pi_all : ∀ x ∈ piL, (U x.1).map (nrm pi) = (U x.2).map (nrm pi) := by
  simp only [piL, List.forall_mem_cons, List.not_mem_nil, false_implies, implies_true, and_true]
  refine ⟨?_, ?_, ?_, ?_, ?_, ?_, ?_, ?_, ?_, ?_, ?_, ?_, ?_, ?_, ?_, ?_, ?_, ?_, ?_, ?_, ?_, ?_, ?_, ?_, ?_, ?_, ?_, ?_, ?_, ?_, ?_, ?_, ?_, ?_, ?_, ?_, ?_, ?_, ?_, ?_, ?_, ?_, ?_, ?_, ?_, ?_, ?_, ?_, ?_, ?_, ?_⟩ <;> rfl
theorem lookup_mem : ∀ {l : List (Nat × Nat)} {f g : Nat}, l.lookup f = some g → (f, g) ∈ l
  | [], _, _, h => by cases h
  | (a, b) :: r, f, g, h => by
    rw [List.lookup_cons] at h
    split at h
    · rename_i e
      rw [eq_of_beq e, Option.some.inj h]
      exact List.mem_cons_self
    · exact List.mem_cons_of_mem _ (lookup_mem h)
theorem pi_ok (f : Nat) : (U f).map (nrm pi) = (U (pi f)).map (nrm pi) := by
  unfold pi
  cases h : piL.lookup f with
  | none => rfl
  | some g => exact pi_all _ (lookup_mem h)
theorem same (n : Nat) {f g : Nat} (h : pi f = g) (ds : List D) : runs U n f ds = runs U n g ds := by rw [← h]; exact runs_same pi_ok n f ds
end PV
set_option Elab.async false
set_option linter.all false
set_option maxRecDepth 100000
set_option maxHeartbeats 2000000
/-! Edges and stretches. -/
namespace PV
open PySem PySem.Spec L2
/-- lists that simp shall leave whole -/
def iL (l : List Int) : List D := l.map .int
def pL (l : List (Int × Int)) : List D := l.map pairD
@[simp] theorem fr_ints' {l : List Int} : freezes (iL l) = iL l := fr_ints
@[simp] theorem len_ints {l : List Int} : (iL l).length = l.length := List.length_map ..
@[simp] theorem fr_pL {l : List (Int × Int)} : freezes (pL l) = pL l := fr_pairs
@[simp] theorem len_pL {l : List (Int × Int)} : (pL l).length = l.length := List.length_map ..
/-! ### ranges -/
def rangeI (i j : Int) : List Int := (List.range (j - i).toNat).map fun (k : Nat) => i + k
theorem rangeL_eq {i j : Int} : rangeL i j = iL (rangeI i j) := by
  unfold rangeL iL rangeI
  rw [List.map_map]
  rfl
@[simp] theorem len_rangeI {i j : Int} : (rangeI i j).length = (j - i).toNat := by unfold rangeI; rw [List.length_map, List.length_range]
theorem mem_rangeI {i j x : Int} : x ∈ rangeI i j ↔ i ≤ x ∧ x < j := by
  unfold rangeI
  rw [List.mem_map]
  constructor
  · rintro ⟨k, hk, rfl⟩
    have := List.mem_range.mp hk
    omega
  · rintro ⟨h1, h2⟩
    exact ⟨(x - i).toNat, List.mem_range.mpr (by omega), by omega⟩
theorem rangeI_get {i j : Int} {k : Nat} (h : k < (j - i).toNat) : (rangeI i j)[k]? = some (i + k) := by
  unfold rangeI
  rw [List.getElem?_map, List.getElem?_range h]
  rfl
theorem rangeI_ris {i j : Int} : (rangeI i j).Pairwise (· < ·) := by
  unfold rangeI
  rw [List.pairwise_map]
  exact List.pairwise_lt_range.imp fun h => by omega
theorem rangeI_at {i j x : Int} {k : Nat} (h : (rangeI i j)[k]? = some x) : x = i + k ∧ k < (j - i).toNat := by
  have h1 := at_len h
  rw [len_rangeI] at h1
  rw [rangeI_get h1] at h
  exact ⟨(Option.some.inj h).symm, h1⟩
theorem iL_at {l : List Int} {k : Nat} {d : D} (h : (iL l)[k]? = some d) : ∃ x, l[k]? = some x ∧ d = .int x := by
  unfold iL at h
  rw [List.getElem?_map] at h
  obtain ⟨x, h1, h2⟩ := Option.map_eq_some_iff.mp h
  exact ⟨x, h1, h2.symm⟩
theorem rangeD1 {j : Int} (h : -2305843009213693952 ≤ j ∧ j ≤ 2305843009213693952) : rangeD [.int j] = some (iL (rangeI 0 j)) := by
  rw [← rangeL_eq]
  exact if_pos (by unfold rangeOk; simp; omega)
theorem rangeD2 {i j : Int} (h : -2305843009213693952 ≤ j ∧ j ≤ 2305843009213693952) (h' : -2305843009213693952 ≤ i ∧ i ≤ 2305843009213693952) : rangeD [.int i, .int j] = some (iL (rangeI i j)) := by
  rw [← rangeL_eq]
  exact if_pos ⟨by unfold rangeOk; simp; omega, by unfold rangeOk; simp; omega⟩
/-- downwards -/
def rangeN (i j : Int) : List Int := (List.range (i - j).toNat).map fun (k : Nat) => i - k
@[simp] theorem len_rangeN {i j : Int} : (rangeN i j).length = (i - j).toNat := by unfold rangeN; rw [List.length_map, List.length_range]
theorem rangeN_at {i j x : Int} {k : Nat} (h : (rangeN i j)[k]? = some x) : x = i - k ∧ k < (i - j).toNat := by
  have h1 := at_len h
  rw [len_rangeN] at h1
  unfold rangeN at h
  rw [List.getElem?_map, List.getElem?_range h1] at h
  exact ⟨(Option.some.inj h).symm, h1⟩
theorem rangeD3 {i j : Int} (h : -2305843009213693952 ≤ j ∧ j ≤ 2305843009213693952) (h' : -2305843009213693952 ≤ i ∧ i ≤ 2305843009213693952) : rangeD [.int i, .int j, .int (-1)] = some (iL (rangeN i j)) := by
  have e : iL (rangeN i j) = rangeC i j := by
    unfold rangeC iL rangeN
    rw [List.map_map]
    rfl
  rw [e]
  exact if_pos ⟨by unfold rangeOk; simp; omega, by unfold rangeOk; simp; omega, rfl⟩
theorem iL_get {l : List Int} {x : Int} (h1 : 0 ≤ x) (h2 : x < l.length) : atI (iL l) x = some (.int (l.getD x.toNat 0)) := by
  rw [atI_nat h1 (by rw [len_ints]; exact h2)]
  unfold iL
  rw [List.getElem?_map, List.getD_eq_getElem?_getD, List.getElem?_eq_getElem (by omega)]
  rfl
theorem iL_last {l : List Int} (h : l ≠ []) : atI (iL l) (-1) = some (.int (l.getLast h)) := by
  rw [atI_last (by simpa [iL] using h)]
  unfold iL
  rw [List.getLast?_map, List.getLast?_eq_some_getLast h]
  rfl
/-- the values of a function from 0 on -/
def vals0 (F : Int → Int) (n : Nat) : List Int := (List.range n).map fun (k : Nat) => F k
@[simp] theorem len_vals0 {F : Int → Int} {n : Nat} : (vals0 F n).length = n := by unfold vals0; rw [List.length_map, List.length_range]
theorem vals0_at {F : Int → Int} {n : Nat} {x : Int} (h1 : 0 ≤ x) (h2 : x < n) : atI (iL (vals0 F n)) x = some (.int (F x)) := by
  rw [iL_get h1 (by rw [len_vals0]; exact h2)]
  unfold vals0
  rw [List.getD_eq_getElem?_getD, List.getElem?_map, List.getElem?_range (by omega)]
  show some (D.int (F ((x.toNat : Nat) : Int))) = _
  rw [Int.toNat_of_nonneg h1]
theorem vals0_eq {F : Int → Int} {n : Nat} : iL (vals0 F n) = (rangeI 0 n).map fun x => D.int (F x) := by
  unfold iL vals0 rangeI
  rw [List.map_map, List.map_map]
  refine List.map_congr_left fun k _ => ?_
  simp
def optI : Option Int → D
  | none => .non
  | some i => .int i
@[simp] theorem fr_optI {b} : (optI b).freeze = optI b := by cases b <;> rfl
@[simp] theorem own_optI {b} : (optI b).isOwn = false := by cases b <;> rfl
@[simp] theorem top_optI {b} : (optI b).top = optI b := by cases b <;> rfl
@[simp] theorem optI_ne_io {b : Option Int} {l : List D} : (optI b = .io l) = False := by cases b <;> simp [optI]
@[simp] theorem optI_none : optI none = .non := rfl
@[simp] theorem optI_some {i} : optI (some i) = .int i := rfl
def strD (s : Int × Option Int) : D := .tup [.int s.1, optI s.2]
def strsD (l : List (Int × Option Int)) : List D := l.map strD
@[simp] theorem fr_strD {s} : (strD s).freeze = strD s := by simp [strD]
@[simp] theorem fr_strs {l} : freezes (strsD l) = strsD l := freezes_map (fun _ => fr_strD) l
@[simp] theorem len_strs {l} : (strsD l).length = l.length := List.length_map ..
theorem edges_len {p : Plan} (ok : p.Ok) : (edgesOf p).length ≤ 6 := by
  have := ok.len
  unfold edgesOf
  rw [List.length_append, List.length_map]
  cases p.fee <;> simp <;> omega
theorem run_edges {m : Nat} (h : 1 ≤ m) {p : Plan} (ok : p.Ok) : runs U m 44 [.tup (planL p)] = some (.lst true (iL (edgesOf p)), []) :=
  run_ge u44 h fun n hn => by
    have l5 := ok.len
    have c1 : compV (evI (runs U n) i44_0) (store u44_0) (evB (runs U n) true c44_0) (ev (runs U n) x44_0) [1, 2] [some (.tup (planL p)), none, none] = some (.v (.lst true (iL (p.bands.map (·.1)))), [some (.tup (planL p)), none, none]) :=
      compV_ok (ds := p.bands.map pairD) (by simp [i44_0]) (by simp [freeAt]) (by
        unfold iL
        rw [List.map_map]
        exact compL_map pairD _ _ fun a ha => by simp [compF, pairD, x44_0, u44_0, c44_0]) (by simp; omega)
    have hi : (iL (p.bands.map (·.1))).length ≤ 5 := by simp; omega
    unfold edgesOf
    cases hf : p.fee with
    | none =>
      have a1 := bin_addL (o := true) (o' := true) (l := iL (p.bands.map (·.1))) (m := []) (by simp; omega)
      have a2 : iL (p.bands.map (·.1) ++ []) = iL (p.bands.map (·.1)) ++ [] := List.map_append ..
      dsimp only
      rw [a2]
      generalize iL (p.bands.map (·.1)) = es at *
      simp [f44, c1, hf, a1]
    | some f =>
      have a1 := bin_addL (o := true) (o' := true) (l := iL (p.bands.map (·.1))) (m := [.int f.1]) (by simp; omega)
      have a2 : iL (p.bands.map (·.1) ++ [f.1]) = iL (p.bands.map (·.1)) ++ [.int f.1] := List.map_append ..
      dsimp only
      rw [a2]
      generalize iL (p.bands.map (·.1)) = es at *
      simp [f44, c1, hf, a1]
theorem stc_zip : ∀ {l : List Int} (h : l ≠ []), stc l = (l.zip (l.drop 1)).map (fun x => (x.1, some (x.2 - 1))) ++ [(l.getLast h, none)]
  | [], h => absurd rfl h
  | [a], _ => rfl
  | a :: b :: r, _ => by
    rw [stc, stc_zip (l := b :: r) (fun z => nomatch z)]
    simp
theorem stc_len {l : List Int} : (stc l).length = l.length := by
  induction l with
  | nil => rfl
  | cons a r ih => cases r with
    | nil => rfl
    | cons b r => rw [stc, List.length_cons, ih]; simp
theorem insU_ne {x : Int} {l : List Int} : insU x l ≠ [] := by
  cases l with
  | nil => exact fun z => nomatch z
  | cons y r =>
    unfold insU
    split
    · exact fun z => nomatch z
    · split <;> exact fun z => nomatch z
theorem sortU_ne {l : List Int} (h : l ≠ []) : sortU l ≠ [] := by
  cases l with
  | nil => exact absurd rfl h
  | cons x r => exact insU_ne
theorem run_between {m : Nat} (h : 1 ≤ m) {es : List Int} (h1 : es ≠ []) (h2 : es.length < 64) : runs U m 45 [.lst false (iL es)] = some (.lst true (strsD (stc (sortU es))), []) :=
  run_ge u45 h fun n hn => by
    have c0 := sset_ints (o := false) h2
    obtain ⟨s, hs⟩ : ∃ s, s = sortU es := ⟨_, rfl⟩
    have sn : s ≠ [] := by rw [hs]; exact sortU_ne h1
    have sl : s.length ≤ 64 := by rw [hs]; have := sortU_len es; omega
    have c0 : blt .sset [.lst false (iL es)] = some (.lst true (iL (sortU es))) := c0
    rw [← hs] at c0 ⊢
    have fz : ∀ l : List Int, freezes (l.map .int) = l.map .int := fun l => by simp
    have c1 : compV (evI (runs U n) i45_0) (store u45_0) (evB (runs U n) true c45_0) (ev (runs U n) x45_0) [2, 3] [some (.lst false (iL es)), some (.lst true (iL s)), none, none] = some (.v (.lst true (((s.zip (s.drop 1)).map fun x => ((x.1, some (x.2 - 1)) : Int × Option Int)).map strD)), [some (.lst false (iL es)), some (.lst false (iL s)), none, none]) :=
      compV_ok (ds := (s.zip (s.drop 1)).map fun x => .tup [.int x.1, .int x.2]) (by
        have e2 : zipL (iL s) ((iL s).drop 1) = (s.zip (s.drop 1)).map fun x => .tup [.int x.1, .int x.2] := by
          unfold iL
          rw [← List.map_drop, zipL_map]
        simp [i45_0, e2, -List.drop_one]) (by simp [freeAt]) (by
        rw [List.map_map]
        exact compL_map _ _ _ fun a ha => by simp [compF, x45_0, u45_0, c45_0, strD]) (by
          rw [List.length_map, List.length_map, List.length_zip]
          show _ ≤ 1000000
          omega)
    have c2 : atI (iL s) (-1) = some (.int (s.getLast sn)) := by
      rw [atI_last (by simpa [iL] using sn)]
      unfold iL
      rw [List.getLast?_map, List.getLast?_eq_some_getLast sn]
      rfl
    have c3 : strsD (stc s) = (((s.zip (s.drop 1)).map fun x => ((x.1, some (x.2 - 1)) : Int × Option Int)).map strD) ++ [.tup [.int (s.getLast sn), .non]] := by
      rw [stc_zip sn]
      unfold strsD
      rw [List.map_append]
      rfl
    have c4 := bin_addL (o := true) (o' := true) (l := (((s.zip (s.drop 1)).map fun x => ((x.1, some (x.2 - 1)) : Int × Option Int)).map strD)) (m := [.tup [.int (s.getLast sn), .non]]) (by
      rw [List.length_map, List.length_map, List.length_zip, List.length_singleton]
      show _ ≤ 1000000
      omega)
    rw [c3]
    generalize (((s.zip (s.drop 1)).map fun x => ((x.1, some (x.2 - 1)) : Int × Option Int)).map strD) = ys at *
    generalize s.getLast sn = la at *
    simp [f45, c0, c1, c2, c4]
def stretchesOf (p : Plan) : List (Int × Option Int) := stc (sortU (edgesOf p))
theorem edges_ne {p : Plan} (ok : p.Ok) : edgesOf p ≠ [] := by
  obtain ⟨r, bs, e⟩ := ok.head
  unfold edgesOf
  rw [e]
  simp
theorem run_stretches {m : Nat} (h : 2 ≤ m) {p : Plan} (ok : p.Ok) : runs U m 46 [.tup (planL p)] = some (.lst true (strsD (stretchesOf p)), []) :=
  run_ge u46 h fun n hn => by
    have e1 := run_edges (m := n) hn ok
    have e2 := run_between (m := n) hn (edges_ne ok) (by have := edges_len ok; omega)
    simp [f46, e1, e2, stretchesOf]
/-! ### what the stretches are -/
theorem edges_nonneg {p : Plan} (ok : p.Ok) {e : Int} (h : e ∈ edgesOf p) : 0 ≤ e ∧ e ≤ 1000000 := by
  unfold edgesOf at h
  rcases List.mem_append.mp h with z | z
  · obtain ⟨b, hb, rfl⟩ := List.mem_map.mp z
    have := ok.band b hb
    omega
  · cases hf : p.fee with
    | none => rw [hf] at z; cases z
    | some f =>
      rw [hf] at z
      rw [List.mem_singleton.mp z]
      have := ok.fee f hf
      omega
theorem zero_edge {p : Plan} (ok : p.Ok) : (0 : Int) ∈ edgesOf p := by
  obtain ⟨r, bs, e⟩ := ok.head
  unfold edgesOf
  rw [e]
  simp
theorem head_zero {l : List Int} (hs : l.Pairwise (· < ·)) (h0 : (0 : Int) ∈ l) (hn : ∀ e ∈ l, 0 ≤ e) : l.head? = some 0 := by
  cases l with
  | nil => cases h0
  | cons a r =>
    have h1 := hn a (by simp)
    rcases List.mem_cons.mp h0 with z | z
    · rw [z]; rfl
    · have := (List.pairwise_cons.mp hs).1 0 z
      omega
end PV
set_option Elab.async false
set_option linter.all false
set_option maxRecDepth 100000
/-! The first pair of which the greater one leaves less. -/
namespace PV
def StMono (F : Int → Int) (s : List Int) : Prop := ∀ st ∈ stc s, ∀ x y, st.1 ≤ x → x ≤ y → (∀ m, st.2 = some m → y ≤ m) → F x ≤ F y
def Upto (F : Int → Int) (a : Int) : Prop := ∀ x y, 0 ≤ x → x < a → x < y → F x ≤ F y
def FirstPair (F : Int → Int) : Option (Int × Int) → Prop
  | none => ∀ x y, 0 ≤ x → x < y → F x ≤ F y
  | some ab => 0 ≤ ab.1 ∧ ab.1 < ab.2 ∧ F ab.2 < F ab.1 ∧ Upto F ab.1 ∧ ∀ y, ab.1 < y → y < ab.2 → F ab.1 ≤ F y
theorem fp_unique {F : Int → Int} : ∀ {a b : Option (Int × Int)}, FirstPair F a → FirstPair F b → a = b
  | none, none, _, _ => rfl
  | none, some b, h1, h2 => absurd (h1 b.1 b.2 h2.1 h2.2.1) (by have := h2.2.2.1; omega)
  | some a, none, h1, h2 => absurd (h2 a.1 a.2 h1.1 h1.2.1) (by have := h1.2.2.1; omega)
  | some (a, c), some (b, d), h1, h2 => by
    obtain ⟨a1, a2, a3, a4, a5⟩ := h1
    obtain ⟨b1, b2, b3, b4, b5⟩ := h2
    dsimp only at *
    have e1 : a = b := by
      rcases Int.lt_trichotomy a b with h | h | h
      · have := b4 a c a1 h a2; omega
      · exact h
      · have := a4 b d b1 h b2; omega
    subst e1
    have e2 : c = d := by
      rcases Int.lt_trichotomy c d with h | h | h
      · have := b5 c a2 h; omega
      · exact h
      · have := a5 d b2 h; omega
    rw [e2]
theorem head_le {s : List Int} (hs : s.Pairwise (· < ·)) {b : Int} (hb : b ∈ s) : ∃ a, s.head? = some a ∧ a ≤ b := by
  cases s with
  | nil => cases hb
  | cons a r =>
    refine ⟨a, rfl, ?_⟩
    rcases List.mem_cons.mp hb with z | z
    · rw [z]; exact Int.le_refl _
    · have := (List.pairwise_cons.mp hs).1 b z
      omega
section
variable {F : Int → Int} {s : List Int} (hs : s.Pairwise (· < ·)) (hm : StMono F s)
include hs hm
theorem later_start {b y : Int} (hb : b ∈ s) (hy : b ≤ y) : ∃ c ∈ s, b ≤ c ∧ c ≤ y ∧ F c ≤ F y := by
  obtain ⟨a, h1, h2⟩ := head_le hs hb
  obtain ⟨st, h3, h4, h5⟩ := stc_cover hs h1 (x := y) (by omega)
  obtain ⟨h6, h7, h8⟩ := stc_mem hs h3
  refine ⟨st.1, h6, ?_, h4, hm st h3 st.1 y (Int.le_refl _) h4 h5⟩
  rcases h7 b hb with z | ⟨m, z1, z2⟩
  · exact z
  · have := h5 m z1
    omega
theorem upto_next {a m : Int} (hst : (a, some m) ∈ stc s) (hu : Upto F a) (hc : ∀ c ∈ s, m < c → F m ≤ F c) : Upto F (m + 1) := by
  intro x y hx hx2 hxy
  by_cases h : x < a
  · exact hu x y hx h hxy
  · by_cases hy : y ≤ m
    · exact hm _ hst x y (by dsimp only; omega) (by omega) fun k hk => by cases hk; exact hy
    · have hb := ((stc_mem hs hst).2.2 m rfl).2
      obtain ⟨c, c1, c2, c3, c4⟩ := later_start hs hm hb (y := y) (by omega)
      have h1 := hm _ hst x m (by dsimp only; omega) (by omega) fun k hk => by cases hk; exact Int.le_refl _
      have h2 := hc c c1 (by omega)
      omega
theorem fp_found {a m less more bound : Int} (hst : (a, some m) ∈ stc s) (ha : 0 ≤ a) (hu : Upto F a) (h1 : a ≤ less) (h2 : less ≤ m) (h3 : ∀ x, a ≤ x → x < less → F x ≤ bound) (h4 : bound < F less)
    (h5 : ∀ c ∈ s, m < c → bound ≤ F c) (h6 : more ∈ s) (h7 : m < more) (h8 : F more < F less) (h9 : ∀ c ∈ s, m < c → c < more → F less ≤ F c) : FirstPair F (some (less, more)) := by
  have hb := ((stc_mem hs hst).2.2 m rfl).2
  refine ⟨by dsimp only; omega, by dsimp only; omega, h8, fun x y hx hx2 hxy => ?_, fun y hy hy2 => ?_⟩
  · dsimp only at hx2
    by_cases h : x < a
    · exact hu x y hx h hxy
    · by_cases hy : y ≤ m
      · exact hm _ hst x y (by dsimp only; omega) (by omega) fun k hk => by cases hk; exact hy
      · obtain ⟨c, c1, c2, c3, c4⟩ := later_start hs hm hb (y := y) (by omega)
        have := h3 x (by omega) hx2
        have := h5 c c1 (by omega)
        omega
  · dsimp only at *
    by_cases hym : y ≤ m
    · exact hm _ hst less y h1 (by omega) fun k hk => by cases hk; exact hym
    · obtain ⟨c, c1, c2, c3, c4⟩ := later_start hs hm hb (y := y) (by omega)
      have := h9 c c1 (by omega) (by omega)
      omega
theorem fp_none {a : Int} (hst : (a, none) ∈ stc s) (hu : Upto F a) : FirstPair F none := by
  intro x y hx hxy
  by_cases h : x < a
  · exact hu x y hx h hxy
  · exact hm _ hst x y (by dsimp only; omega) (by omega) fun k hk => by cases hk
end
/-! the law's way -/
theorem lf_none {F : Int → Int} {W : Int} (hW : ∀ x y, W ≤ x → x ≤ y → F x ≤ F y) (h : ∀ x y, 0 ≤ x → x < y → y ≤ W → F x ≤ F y) (h0 : 0 ≤ W) : FirstPair F none := by
  intro x y hx hxy
  by_cases h1 : y ≤ W
  · exact h x y hx hxy h1
  · by_cases h2 : W ≤ x
    · exact hW x y h2 (by omega)
    · have := h x W hx (by omega) (Int.le_refl _)
      have := hW W y (Int.le_refl _) (by omega)
      omega
theorem lf_some {F : Int → Int} {W a b : Int} (hW : ∀ x y, W ≤ x → x ≤ y → F x ≤ F y) (h1 : 0 ≤ a) (h2 : a < b) (h3 : b ≤ W) (h4 : F b < F a) (h5 : ∀ x y, 0 ≤ x → x < a → x < y → y ≤ W → F x ≤ F y)
    (h6 : ∀ y, a < y → y < b → F a ≤ F y) : FirstPair F (some (a, b)) := by
  refine ⟨h1, h2, h4, fun x y hx hx2 hxy => ?_, h6⟩
  dsimp only at hx2
  by_cases hy : y ≤ W
  · exact h5 x y hx hx2 hxy hy
  · have := h5 x W hx hx2 (by omega) (Int.le_refl _)
    have := hW W y (Int.le_refl _) (by omega)
    omega
theorem clear_in {es s : List Int} {st : Int × Option Int} {x y : Int} (hs : s.Pairwise (· < ·)) (hmem : ∀ e ∈ es, e ∈ s) (hst : st ∈ stc s) (hx : st.1 ≤ x) (hy : ∀ m, st.2 = some m → y ≤ m) : Clear es x y := by
  rintro e he ⟨h1, h2⟩
  rcases (stc_mem hs hst).2.1 e (hmem e he) with z | ⟨m, z1, z2⟩
  · omega
  · have := hy m z1
    omega
/-- the balance at the end of a first month -/
def fstM (p : Plan) (x : Int) : Int := balanceFrom p x (isDue p 1)
theorem stMono_of {p : Plan} (ok : p.Ok) {due : Bool} {s : List Int} (hs : s.Pairwise (· < ·)) (hmem : ∀ e ∈ edgesOf p, e ∈ s) (h0 : ∀ e ∈ s, 0 ≤ e) : StMono (fun x => balanceFrom p x due) s := by
  intro st hst x y hx hxy hy
  have := h0 _ (stc_mem hs hst).1
  exact balance_mono_clear ok (by omega) hxy (clear_in hs hmem hst hx hy)
theorem fp_parts {p : Plan} (ok : p.Ok) (hw : p.whole = false) : FirstPair (fstM p) none := fun x y hx hxy => balance_mono_parts ok hw hx (by omega)
end PV
set_option Elab.async false
set_option linter.all false
set_option maxRecDepth 100000
set_option maxHeartbeats 4000000
/-! Walks over stretches: what the laws share. -/
namespace PV
open PySem PySem.Spec L2
theorem run_ex {i k m : Nat} {f : Fn} {ds : List D} {P : D × List D → Prop} (h : U i = some f) (hm : k + 1 ≤ m) (hr : ∀ n, k ≤ n → ∃ r, runFn (runs U n) f ds = some r ∧ P r) : ∃ r, runs U m i ds = some r ∧ P r := by
  obtain ⟨n, rfl⟩ := Nat.exists_eq_add_of_le' (Nat.le_trans (Nat.le_add_left 1 k) hm)
  rw [run_one h]
  exact hr n (by omega)
theorem minL_spec : ∀ {l : List Int}, l ≠ [] → minL l ∈ l ∧ ∀ x ∈ l, minL l ≤ x
  | [], h => absurd rfl h
  | [a], _ => ⟨by simp [minL], fun x hx => by rw [List.mem_singleton.mp hx]; exact Int.le_refl _⟩
  | a :: b :: r, _ => by
    obtain ⟨h1, h2⟩ := minL_spec (l := b :: r) (fun z => nomatch z)
    show (if a ≤ minL (b :: r) then a else minL (b :: r)) ∈ a :: b :: r ∧ ∀ x ∈ a :: b :: r, (if a ≤ minL (b :: r) then a else minL (b :: r)) ≤ x
    split
    · refine ⟨by simp, fun x hx => ?_⟩
      rcases List.mem_cons.mp hx with z | z
      · rw [z]; exact Int.le_refl _
      · have := h2 x z; omega
    · refine ⟨List.mem_cons_of_mem _ h1, fun x hx => ?_⟩
      rcases List.mem_cons.mp hx with z | z
      · rw [z]; omega
      · exact h2 x z
theorem blt_minL {o : Bool} {l : List Int} (h : l ≠ []) : blt .minL [.lst o (iL l)] = some (.int (minL l)) := by
  show ((D.ints (l.map .int)).bind fun l => if l.isEmpty = true then none else some (D.int (minL l))) = _
  rw [ints_map]
  exact if_neg (by simpa using h)
theorem stc_get : ∀ {l : List Int} {j : Nat}, (stc l)[j]? = (l[j]?).map fun a => (a, (l[j + 1]?).map (· - 1))
  | [], j => by simp [stc]
  | [a], 0 => rfl
  | [a], j + 1 => by simp [stc]
  | a :: b :: r, 0 => rfl
  | a :: b :: r, j + 1 => by
    rw [stc, List.getElem?_cons_succ, stc_get (l := b :: r)]
    simp
theorem stc_fst : ∀ {l : List Int}, (stc l).map (·.1) = l
  | [] => rfl
  | [a] => rfl
  | a :: b :: r => by
    rw [stc, List.map_cons, stc_fst (l := b :: r)]
theorem cut_dropLast {α : Type} {l : List α} : cutL l none (some (-1)) = l.dropLast := by
  have e1 : HT.sIx l.length 0 none = 0 := rfl
  have e2 : HT.sIx l.length l.length (some (-1)) = l.length - 1 := by
    show (if (-1 : Int) < 0 then ((-1 : Int) + (l.length : Int)).toNat else min (-1 : Int).toNat l.length) = _
    rw [if_pos (by decide)]
    omega
  unfold cutL
  rw [e1, e2, List.dropLast_eq_take, Nat.sub_zero, List.drop_zero]
/-- the sorted edges -/
structure Edged (p : Plan) (s : List Int) : Prop where
  ris : s.Pairwise (· < ·)
  mem : ∀ e, e ∈ s ↔ e ∈ edgesOf p
  nn : ∀ e ∈ s, 0 ≤ e ∧ e ≤ 1000000
  hd : s.head? = some 0
  len : s.length ≤ 6
theorem edged_of {p : Plan} (ok : p.Ok) : Edged p (sortU (edgesOf p)) := by
  have h1 : ∀ e, e ∈ sortU (edgesOf p) ↔ e ∈ edgesOf p := fun e => mem_sortU e _
  have h2 := sortU_sorted (edgesOf p)
  exact ⟨h2, h1, fun e he => edges_nonneg ok ((h1 e).mp he), head_zero h2 ((h1 0).mpr (zero_edge ok)) fun e he => (edges_nonneg ok ((h1 e).mp he)).1, by have := sortU_len (edgesOf p); have := edges_len ok; omega⟩
theorem fst_mono {p : Plan} (ok : p.Ok) {s : List Int} (E : Edged p s) : StMono (fstM p) s := stMono_of ok E.ris (fun e he => (E.mem e).mpr he) fun e he => (E.nn e he).1
/-! ### pieces of a plan -/
theorem cut_take' {α : Type} {l : List α} {j : Nat} (h : j ≤ l.length) : cutL l none (some (j : Int)) = l.take j := by
  have e1 : HT.sIx l.length 0 none = 0 := rfl
  have e2 : HT.sIx l.length l.length (some (j : Int)) = j := by
    show (if (j : Int) < 0 then ((j : Int) + (l.length : Int)).toNat else min (j : Int).toNat l.length) = _
    rw [if_neg (by omega), Int.toNat_natCast, Nat.min_eq_left h]
  unfold cutL
  rw [e1, e2]
  rfl
@[simp] theorem fr_drop1 {p : Plan} : freezes ((planL p).drop 1) = [.str (mS p.whole), .str (rS p.half), optP p.bonus, optP p.fee, .int p.charge] := by simp [planL]
@[simp] theorem fr_drop1' {p : Plan} : freezes (planL p).tail = [.str (mS p.whole), .str (rS p.half), optP p.bonus, optP p.fee, .int p.charge] := by simp [planL]
@[simp] theorem fr_drop2 {p : Plan} : freezes ((planL p).drop 2) = [.str (rS p.half), optP p.bonus, optP p.fee, .int p.charge] := by simp [planL]
@[simp] theorem cut_plan1 {p : Plan} : cutL (planL p) none (some 1) = [.tup (p.bands.map pairD)] := by
  rw [show (1 : Int) = ((1 : Nat) : Int) from rfl, cut_take' (by show 1 ≤ 6; decide)]
  rfl
def partsP (p : Plan) : Plan := { p with whole := false }
def wholeP (p : Plan) : Plan := { p with whole := true }
theorem parts_ok {p : Plan} (ok : p.Ok) : (partsP p).Ok := ⟨ok.ne, ok.len, ok.first, ok.ris, ok.band, ok.bonus, ok.fee, ok.charge⟩
theorem whole_ok {p : Plan} (ok : p.Ok) : (wholeP p).Ok := ⟨ok.ne, ok.len, ok.first, ok.ris, ok.band, ok.bonus, ok.fee, ok.charge⟩
theorem run_law_parts {m : Nat} (h : 1 ≤ m) {p : Plan} : runs U m 148 [.tup (planL p)] = some (.tup (planL (partsP p)), []) :=
  run_ge u148 h fun n hn => by
    have e2 : bin .add (.tup [.tup (p.bands.map pairD), .str (Str.ofString "parts")]) (.tup [.str (rS p.half), optP p.bonus, optP p.fee, .int p.charge]) = some (.tup (planL (partsP p))) := bin_addT (show 2 + 4 ≤ lim by decide)
    simp [f148, e2]
theorem wholeS {p : Plan} : bin .add (.tup [.tup (p.bands.map pairD)]) (.tup [.str (Str.ofString "whole")]) = some (.tup [.tup (p.bands.map pairD), .str (Str.ofString "whole")]) := bin_addT (show 1 + 1 ≤ lim by decide)
theorem wholeS2 {p : Plan} : bin .add (.tup [.tup (p.bands.map pairD), .str (Str.ofString "whole")]) (.tup [.str (rS p.half), optP p.bonus, optP p.fee, .int p.charge]) = some (.tup (planL (wholeP p))) := bin_addT (show 2 + 4 ≤ lim by decide)
theorem partsS {p : Plan} : bin .add (.tup [.tup (p.bands.map pairD)]) (.tup [.str (Str.ofString "parts")]) = some (.tup [.tup (p.bands.map pairD), .str (Str.ofString "parts")]) := bin_addT (show 1 + 1 ≤ lim by decide)
theorem partsS2 {p : Plan} : bin .add (.tup [.tup (p.bands.map pairD), .str (Str.ofString "parts")]) (.tup [.str (rS p.half), optP p.bonus, optP p.fee, .int p.charge]) = some (.tup (planL (partsP p))) := bin_addT (show 2 + 4 ≤ lim by decide)
@[simp] theorem cmp_neNN : cmp .ne .non .non = some false := by decide +kernel
@[simp] theorem cmp_eqNN : cmp .eq .non .non = some true := by decide +kernel
/-! ### a long body in pieces -/
def isA : ISs → ISs → ISs
  | .nil, b => b
  | .cons a r, b => .cons a (isA r b)
theorem seqO_assoc {x : Option Out} {f g : Env → Option Out} : seqO (seqO x f) g = seqO x fun e => seqO (f e) g := by
  cases x with
  | none => rfl
  | some o => cases o <;> rfl
theorem evSs_isA {C : Ora} {b : ISs} : ∀ (a : ISs) (e : Env), evSs C (isA a b) e = seqO (evSs C a e) fun e => evSs C b e
  | .nil, e => rfl
  | .cons a r, e => by
    rw [isA, evSs_cons, evSs_cons, seqO_assoc]
    congr 1
    funext e
    exact evSs_isA r e
theorem go_on {C : Ora} {a b : ISs} {e e1 : Env} (h : evSs C a e = some (.nx e1)) : evSs C (isA a b) e = evSs C b e1 := by
  rw [evSs_isA, h]
  rfl
theorem cut6_01 {a b c d e f : D} : cutL [a, b, c, d, e, f] none (some 4) = [a, b, c, d] := rfl
theorem cut6_5 {a b c d e f : D} : cutL [a, b, c, d, e, f] (some 5) none = [f] := rfl
theorem cut6_3 {a b c d e f : D} : cutL [a, b, c, d, e, f] none (some 3) = [a, b, c] := rfl
theorem cut6_4 {a b c d e f : D} : cutL [a, b, c, d, e, f] (some 4) none = [e, f] := rfl
theorem cut6_05 {a b c d e f : D} : cutL [a, b, c, d, e, f] none (some 5) = [a, b, c, d, e] := rfl
theorem cut2_1 {a b : D} : cutL [a, b] none (some 1) = [a] := rfl
theorem add11 {a b : D} : bin .add (.tup [a]) (.tup [b]) = some (.tup [a, b]) := bin_addT (show 1 + 1 ≤ lim by decide)
theorem add21 {a b c : D} : bin .add (.tup [a, b]) (.tup [c]) = some (.tup [a, b, c]) := bin_addT (show 2 + 1 ≤ lim by decide)
theorem add15 {x a b c d e : D} : bin .add (.tup [x]) (.tup [a, b, c, d, e]) = some (.tup [x, a, b, c, d, e]) := bin_addT (show 1 + 5 ≤ lim by decide)
theorem add41 {x a b c d : D} : bin .add (.tup [x, a, b, c]) (.tup [d]) = some (.tup [x, a, b, c, d]) := bin_addT (show 4 + 1 ≤ lim by decide)
theorem add51 {x a b c d e : D} : bin .add (.tup [x, a, b, c, d]) (.tup [e]) = some (.tup [x, a, b, c, d, e]) := bin_addT (show 5 + 1 ≤ lim by decide)
theorem add31 {x a b c : D} : bin .add (.tup [x, a, b]) (.tup [c]) = some (.tup [x, a, b, c]) := bin_addT (show 3 + 1 ≤ lim by decide)
theorem add42 {x a b c d e : D} : bin .add (.tup [x, a, b, c]) (.tup [d, e]) = some (.tup [x, a, b, c, d, e]) := bin_addT (show 4 + 2 ≤ lim by decide)
theorem add24 {x a b c d e : D} : bin .add (.tup [x, a]) (.tup [b, c, d, e]) = some (.tup [x, a, b, c, d, e]) := bin_addT (show 2 + 4 ≤ lim by decide)
end PV
set_option Elab.async false
set_option linter.all false
set_option maxRecDepth 100000
/-! Ranges that neither overlap nor touch. -/
namespace PV
structure Cn (R : List (Int × Int)) : Prop where
  le : ∀ p ∈ R, p.1 ≤ p.2
  gap : R.Pairwise fun a b => a.2 + 1 < b.1
def InR (R : List (Int × Int)) (x : Int) : Prop := ∃ p ∈ R, p.1 ≤ x ∧ x ≤ p.2
theorem cn_nil : Cn [] := ⟨fun _ h => (by cases h), .nil⟩
theorem cn_tail {a : Int × Int} {r : List (Int × Int)} (h : Cn (a :: r)) : Cn r := ⟨fun p hp => h.le p (List.mem_cons_of_mem _ hp), (List.pairwise_cons.mp h.gap).2⟩
theorem cn_first {a : Int × Int} {r : List (Int × Int)} (h : Cn (a :: r)) {x : Int} (hx : InR (a :: r) x) : a.1 ≤ x := by
  obtain ⟨p, hp, h1, h2⟩ := hx
  rcases List.mem_cons.mp hp with z | z
  · rw [← z]; exact h1
  · have := (List.pairwise_cons.mp h.gap).1 p z
    have := h.le a List.mem_cons_self
    omega
theorem cn_rest {a : Int × Int} {r : List (Int × Int)} (h : Cn (a :: r)) {x : Int} : InR r x ↔ InR (a :: r) x ∧ a.2 + 1 < x := by
  constructor
  · rintro ⟨p, hp, h1, h2⟩
    have := (List.pairwise_cons.mp h.gap).1 p hp
    exact ⟨⟨p, List.mem_cons_of_mem _ hp, h1, h2⟩, by omega⟩
  · rintro ⟨⟨p, hp, h1, h2⟩, h3⟩
    rcases List.mem_cons.mp hp with z | z
    · rw [z] at h2; omega
    · exact ⟨p, z, h1, h2⟩
theorem cn_unique : ∀ {R S : List (Int × Int)}, Cn R → Cn S → (∀ x, InR R x ↔ InR S x) → R = S
  | [], [], _, _, _ => rfl
  | [], b :: s, _, h2, h => by
    obtain ⟨p, hp, _⟩ := (h b.1).mpr ⟨b, List.mem_cons_self, Int.le_refl _, h2.le b List.mem_cons_self⟩
    cases hp
  | a :: r, [], h1, _, h => by
    obtain ⟨p, hp, _⟩ := (h a.1).mp ⟨a, List.mem_cons_self, Int.le_refl _, h1.le a List.mem_cons_self⟩
    cases hp
  | a :: r, b :: s, h1, h2, h => by
    have la := h1.le a List.mem_cons_self
    have lb := h2.le b List.mem_cons_self
    have in1 : ∀ x, a.1 ≤ x → x ≤ a.2 → InR (b :: s) x := fun x g1 g2 => (h x).mp ⟨a, List.mem_cons_self, g1, g2⟩
    have in2 : ∀ x, b.1 ≤ x → x ≤ b.2 → InR (a :: r) x := fun x g1 g2 => (h x).mpr ⟨b, List.mem_cons_self, g1, g2⟩
    have e1 : a.1 = b.1 := by
      have := cn_first h2 (in1 a.1 (Int.le_refl _) la)
      have := cn_first h1 (in2 b.1 (Int.le_refl _) lb)
      omega
    have key : ∀ {a b : Int × Int} {r s : List (Int × Int)}, Cn (a :: r) → Cn (b :: s) → a.1 = b.1 → (∀ x, b.1 ≤ x → x ≤ b.2 → InR (a :: r) x) → a.1 ≤ a.2 → b.2 ≤ a.2 := by
      intro a b r s h1 h2 e hin ha
      rcases Int.lt_or_le a.2 b.2 with z | z
      · obtain ⟨p, hp, g1, g2⟩ := hin (a.2 + 1) (by omega) (by omega)
        rcases List.mem_cons.mp hp with y | y
        · rw [y] at g2; omega
        · have := (List.pairwise_cons.mp h1.gap).1 p y
          omega
      · exact z
    have e2 : a.2 = b.2 := by
      have := key h1 h2 e1 in2 la
      have := key h2 h1 e1.symm in1 lb
      omega
    have hab : a = b := by
      obtain ⟨a1, a2⟩ := a
      obtain ⟨b1, b2⟩ := b
      dsimp only at e1 e2
      rw [e1, e2]
    subst hab
    rw [cn_unique (cn_tail h1) (cn_tail h2) fun x => by rw [cn_rest h1, cn_rest h2, h x]]
def jn1 (found : List (Int × Int)) (p : Int × Int) : List (Int × Int) := match found.getLast? with
  | none => found ++ [p]
  | some q => if p.1 ≤ q.2 + 1 then found.dropLast ++ [(q.1, max p.2 q.2)] else found ++ [p]
theorem inR_app {R S : List (Int × Int)} {x : Int} : InR (R ++ S) x ↔ InR R x ∨ InR S x := by
  constructor
  · rintro ⟨p, hp, h⟩
    rcases List.mem_append.mp hp with z | z
    · exact .inl ⟨p, z, h⟩
    · exact .inr ⟨p, z, h⟩
  · rintro (⟨p, hp, h⟩ | ⟨p, hp, h⟩)
    · exact ⟨p, List.mem_append_left _ hp, h⟩
    · exact ⟨p, List.mem_append_right _ hp, h⟩
theorem inR_one {p : Int × Int} {x : Int} : InR [p] x ↔ p.1 ≤ x ∧ x ≤ p.2 :=
  ⟨fun ⟨q, hq, h⟩ => by rw [List.mem_singleton.mp hq] at h; exact h, fun h => ⟨p, List.mem_singleton.mpr rfl, h⟩⟩
theorem jn1_ok {found : List (Int × Int)} {p : Int × Int} (c : Cn found) (hp : p.1 ≤ p.2) (hf : ∀ q ∈ found, q.1 ≤ p.1) :
    Cn (jn1 found p) ∧ (∀ x, InR (jn1 found p) x ↔ InR found x ∨ (p.1 ≤ x ∧ x ≤ p.2)) ∧ ∀ q ∈ jn1 found p, q.1 ≤ p.1 := by
  rcases List.eq_nil_or_concat found with z | ⟨l, q, z⟩
  · subst z
    refine ⟨⟨fun a ha => ?_, ?_⟩, fun x => ?_, fun a ha => ?_⟩
    · rw [List.mem_singleton.mp (show a ∈ [p] from ha)]; exact hp
    · show [p].Pairwise _
      simp
    · show InR [p] x ↔ _
      rw [inR_one]
      exact ⟨.inr, fun h => h.elim (fun ⟨_, h, _⟩ => by cases h) id⟩
    · rw [List.mem_singleton.mp (show a ∈ [p] from ha)]; exact Int.le_refl _
  · rw [List.concat_eq_append] at z
    subst z
    have e : jn1 (l ++ [q]) p = if p.1 ≤ q.2 + 1 then l ++ [(q.1, max p.2 q.2)] else l ++ [q] ++ [p] := by
      unfold jn1
      rw [List.getLast?_concat, List.dropLast_concat]
    have hq := hf q (by simp)
    have lq := c.le q (by simp)
    have hl := List.pairwise_append.mp c.gap
    rw [e]
    by_cases h : p.1 ≤ q.2 + 1
    · rw [if_pos h]
      refine ⟨⟨fun a ha => ?_, ?_⟩, fun x => ?_, fun a ha => ?_⟩
      · rcases List.mem_append.mp ha with z | z
        · exact c.le a (List.mem_append_left _ z)
        · rw [List.mem_singleton.mp z]; dsimp only; omega
      · refine List.pairwise_append.mpr ⟨hl.1, by simp, fun a ha b hb => ?_⟩
        rw [List.mem_singleton.mp hb]
        exact hl.2.2 a ha q (by simp)
      · rw [inR_app, inR_app, inR_one, inR_one]
        dsimp only
        constructor
        · rintro (h1 | h1)
          · exact .inl (.inl h1)
          · by_cases hx : x ≤ q.2
            · exact .inl (.inr ⟨h1.1, hx⟩)
            · exact .inr ⟨by omega, by omega⟩
        · rintro ((h1 | h1) | h1)
          · exact .inl h1
          · exact .inr ⟨h1.1, by omega⟩
          · exact .inr ⟨by omega, by omega⟩
      · rcases List.mem_append.mp ha with z | z
        · exact hf a (List.mem_append_left _ z)
        · rw [List.mem_singleton.mp z]; exact hq
    · rw [if_neg h]
      refine ⟨⟨fun a ha => ?_, ?_⟩, fun x => ?_, fun a ha => ?_⟩
      · rcases List.mem_append.mp ha with z | z
        · exact c.le a z
        · rw [List.mem_singleton.mp z]; exact hp
      · refine List.pairwise_append.mpr ⟨c.gap, by simp, fun a ha b hb => ?_⟩
        rw [List.mem_singleton.mp hb]
        rcases List.mem_append.mp ha with z | z
        · have := hl.2.2 a z q (by simp)
          omega
        · rw [List.mem_singleton.mp z]; omega
      · rw [inR_app, inR_one]
      · rcases List.mem_append.mp ha with z | z
        · exact hf a z
        · rw [List.mem_singleton.mp z]; exact Int.le_refl _
theorem jn_fold : ∀ {l found : List (Int × Int)}, Cn found → (∀ p ∈ l, p.1 ≤ p.2) → l.Pairwise (fun a b => a.1 ≤ b.1) → (∀ q ∈ found, ∀ p ∈ l, q.1 ≤ p.1) →
    Cn (l.foldl jn1 found) ∧ ∀ x, InR (l.foldl jn1 found) x ↔ InR found x ∨ InR l x
  | [], found, c, _, _, _ => ⟨c, fun x => ⟨.inl, fun h => h.elim id fun ⟨_, h, _⟩ => by cases h⟩⟩
  | p :: l, found, c, h1, h2, h3 => by
    obtain ⟨g1, g2, g3⟩ := jn1_ok c (h1 p List.mem_cons_self) fun q hq => h3 q hq p List.mem_cons_self
    have hp := List.pairwise_cons.mp h2
    obtain ⟨k1, k2⟩ := jn_fold (l := l) g1 (fun q hq => h1 q (List.mem_cons_of_mem _ hq)) hp.2 fun q hq r hr => by
      have := g3 q hq
      have := hp.1 r hr
      omega
    refine ⟨k1, fun x => ?_⟩
    rw [List.foldl_cons, k2, g2, show (p :: l) = [p] ++ l from rfl, inR_app, inR_one, or_assoc]
/-- ranges that are joined -/
def joinF (l : List (Int × Int)) : List (Int × Int) := l.foldl jn1 []
theorem joinF_ok {l : List (Int × Int)} (h1 : ∀ p ∈ l, p.1 ≤ p.2) (h2 : l.Pairwise fun a b => a.1 ≤ b.1) : Cn (joinF l) ∧ ∀ x, InR (joinF l) x ↔ InR l x := by
  obtain ⟨k1, k2⟩ := jn_fold (l := l) cn_nil h1 h2 fun q hq => by cases hq
  exact ⟨k1, fun x => (k2 x).trans ⟨fun h => h.elim (fun ⟨_, h, _⟩ => by cases h) id, .inr⟩⟩
/-- of two lists of the same numbers -/
theorem joinF_eq {l m : List (Int × Int)} (h1 : ∀ p ∈ l, p.1 ≤ p.2) (h2 : l.Pairwise fun a b => a.1 ≤ b.1) (h3 : ∀ p ∈ m, p.1 ≤ p.2) (h4 : m.Pairwise fun a b => a.1 ≤ b.1) (h : ∀ x, InR l x ↔ InR m x) : joinF l = joinF m := by
  obtain ⟨a1, a2⟩ := joinF_ok h1 h2
  obtain ⟨b1, b2⟩ := joinF_ok h3 h4
  exact cn_unique a1 b1 fun x => by rw [a2, b2, h x]
/-! ### numbers as ranges -/
def lr1 (found : List (Int × Int)) (n : Int) : List (Int × Int) := match found.getLast? with
  | none => found ++ [(n, n)]
  | some q => if q.2 = n - 1 then found.dropLast ++ [(q.1, n)] else found ++ [(n, n)]
theorem lr1_eq {found : List (Int × Int)} {n : Int} (h : ∀ q, found.getLast? = some q → q.2 < n) : lr1 found n = jn1 found (n, n) := by
  unfold lr1 jn1
  cases hq : found.getLast? with
  | none => rfl
  | some q =>
    have := h q hq
    dsimp only
    by_cases h1 : q.2 = n - 1
    · rw [if_pos h1, if_pos (by omega), show max n q.2 = n by omega]
    · rw [if_neg h1, if_neg (by omega)]
theorem lr1_last {found : List (Int × Int)} {n : Int} : ∃ a, (lr1 found n).getLast? = some (a, n) := by
  unfold lr1
  split
  · exact ⟨n, by simp⟩
  · split
    · rename_i q _ _
      exact ⟨q.1, by simp⟩
    · exact ⟨n, by simp⟩
theorem lr_fold : ∀ {ns : List Int} {found : List (Int × Int)}, ns.Pairwise (· < ·) → (∀ q, found.getLast? = some q → ∀ n ∈ ns, q.2 < n) → ns.foldl lr1 found = (ns.map fun n => (n, n)).foldl jn1 found
  | [], _, _, _ => rfl
  | n :: ns, found, h1, h2 => by
    have hp := List.pairwise_cons.mp h1
    rw [List.foldl_cons, List.map_cons, List.foldl_cons, ← lr1_eq fun q hq => h2 q hq n List.mem_cons_self]
    refine lr_fold hp.2 fun q hq m hm => ?_
    obtain ⟨a, ha⟩ := lr1_last (found := found) (n := n)
    rw [ha] at hq
    cases hq
    exact hp.1 m hm
/-- the numbers' ranges -/
def rangesF (ns : List Int) : List (Int × Int) := ns.foldl lr1 []
theorem rangesF_eq {ns : List Int} (h : ns.Pairwise (· < ·)) : rangesF ns = joinF (ns.map fun n => (n, n)) := lr_fold h fun q hq => by cases hq
theorem inR_nums {ns : List Int} {x : Int} : InR (ns.map fun n => (n, n)) x ↔ x ∈ ns := by
  constructor
  · rintro ⟨p, hp, h1, h2⟩
    obtain ⟨n, hn, rfl⟩ := List.mem_map.mp hp
    dsimp only at h1 h2
    rw [show x = n by omega]
    exact hn
  · intro h
    exact ⟨(x, x), List.mem_map.mpr ⟨x, h, rfl⟩, Int.le_refl _, Int.le_refl _⟩
theorem rangesF_ok {ns : List Int} (h : ns.Pairwise (· < ·)) : Cn (rangesF ns) ∧ ∀ x, InR (rangesF ns) x ↔ x ∈ ns := by
  rw [rangesF_eq h]
  obtain ⟨a, b⟩ := joinF_ok (l := ns.map fun n => (n, n)) (fun p hp => by obtain ⟨n, _, rfl⟩ := List.mem_map.mp hp; exact Int.le_refl _) (by
    rw [List.pairwise_map]
    exact h.imp fun h => Int.le_of_lt h)
  exact ⟨a, fun x => (b x).trans inR_nums⟩
/-! ### those that touch alone -/
def jt1 (found : List (Int × Int)) (p : Int × Int) : List (Int × Int) := match found.getLast? with
  | none => found ++ [p]
  | some q => if q.2 + 1 = p.1 then found.dropLast ++ [(q.1, p.2)] else found ++ [p]
theorem jt1_eq {found : List (Int × Int)} {p : Int × Int} (hp : p.1 ≤ p.2) (h : ∀ q, found.getLast? = some q → q.2 < p.1) : jt1 found p = jn1 found p := by
  unfold jt1 jn1
  cases hq : found.getLast? with
  | none => rfl
  | some q =>
    have := h q hq
    dsimp only
    by_cases h1 : q.2 + 1 = p.1
    · rw [if_pos h1, if_pos (by omega), show max p.2 q.2 = p.2 by omega]
    · rw [if_neg h1, if_neg (by omega)]
theorem jt1_last {found : List (Int × Int)} {p : Int × Int} : ∃ a, (jt1 found p).getLast? = some (a, p.2) := by
  unfold jt1
  split
  · exact ⟨p.1, by simp⟩
  · split
    · rename_i q _ _
      exact ⟨q.1, by simp⟩
    · exact ⟨p.1, by simp⟩
def joinT (l : List (Int × Int)) : List (Int × Int) := l.foldl jt1 []
theorem jt_fold : ∀ {l found : List (Int × Int)}, (∀ p ∈ l, p.1 ≤ p.2) → l.Pairwise (fun a b => a.2 < b.1) → (∀ q, found.getLast? = some q → ∀ p ∈ l, q.2 < p.1) → l.foldl jt1 found = l.foldl jn1 found
  | [], _, _, _, _ => rfl
  | p :: l, found, h1, h2, h3 => by
    have hp := List.pairwise_cons.mp h2
    rw [List.foldl_cons, List.foldl_cons, ← jt1_eq (h1 p List.mem_cons_self) fun q hq => h3 q hq p List.mem_cons_self]
    refine jt_fold (fun q hq => h1 q (List.mem_cons_of_mem _ hq)) hp.2 fun q hq r hr => ?_
    obtain ⟨a, ha⟩ := jt1_last (found := found) (p := p)
    rw [ha] at hq
    cases hq
    exact hp.1 r hr
theorem joinT_eq {l : List (Int × Int)} (h1 : ∀ p ∈ l, p.1 ≤ p.2) (h2 : l.Pairwise fun a b => a.2 < b.1) : joinT l = joinF l := jt_fold h1 h2 fun q hq => by cases hq
end PV
set_option Elab.async false
set_option linter.all false
set_option maxRecDepth 100000
set_option maxHeartbeats 4000000
/-! Ranges that are joined: walks. -/
namespace PV
open PySem PySem.Spec L2
theorem mem_insP (x y : Int × Int) : ∀ l : List (Int × Int), y ∈ insP x l ↔ y = x ∨ y ∈ l
  | [] => by simp [insP]
  | a :: r => by
    unfold insP
    split
    · rw [List.mem_cons, mem_insP x y r, List.mem_cons]
      constructor
      · rintro (h | h | h)
        · exact .inr (.inl h)
        · exact .inl h
        · exact .inr (.inr h)
      · rintro (h | h | h)
        · exact .inr (.inl h)
        · exact .inl h
        · exact .inr (.inr h)
    · rw [List.mem_cons]
theorem mem_sortP (y : Int × Int) : ∀ l : List (Int × Int), y ∈ sortP l ↔ y ∈ l
  | [] => by simp [sortP]
  | a :: r => by
    rw [sortP, mem_insP, mem_sortP y r, List.mem_cons]
theorem insP_ris {x : Int × Int} : ∀ {l : List (Int × Int)}, l.Pairwise (fun a b => a.1 ≤ b.1) → (insP x l).Pairwise fun a b => a.1 ≤ b.1
  | [], _ => by simp [insP]
  | a :: r, h => by
    have h' := List.pairwise_cons.mp h
    unfold insP
    by_cases hl : ltP a x = true
    · rw [if_pos hl]
      have ha : a.1 ≤ x.1 := by
        unfold ltP at hl
        simp at hl
        omega
      refine List.pairwise_cons.mpr ⟨fun b hb => ?_, insP_ris h'.2⟩
      rcases (mem_insP x b r).mp hb with z | z
      · rw [z]; exact ha
      · exact h'.1 b z
    · rw [if_neg hl]
      have ha : x.1 ≤ a.1 := by
        unfold ltP at hl
        simp at hl
        omega
      refine List.pairwise_cons.mpr ⟨fun b hb => ?_, h⟩
      rcases List.mem_cons.mp hb with z | z
      · rw [z]; exact ha
      · have := h'.1 b z
        omega
theorem sortP_ris : ∀ {l : List (Int × Int)}, (sortP l).Pairwise fun a b => a.1 ≤ b.1
  | [] => .nil
  | a :: r => insP_ris sortP_ris
theorem insP_len {x : Int × Int} : ∀ {l : List (Int × Int)}, (insP x l).length = l.length + 1
  | [] => rfl
  | a :: r => by
    unfold insP
    split
    · rw [List.length_cons, insP_len, List.length_cons]
    · rfl
theorem sortP_len : ∀ {l : List (Int × Int)}, (sortP l).length = l.length
  | [] => rfl
  | a :: r => by rw [sortP, insP_len, sortP_len, List.length_cons]
theorem blt_sorted {o : Bool} {l : List (Int × Int)} : blt .sorted [.lst o (pL l)] = some (.lst true (pL (sortP l))) := by
  show ((D.pairs (l.map pairD)).map fun l => D.lst true ((sortP l).map pairD)) = _
  rw [pairs_map]
  rfl
theorem atI_concat {l : List D} {x : D} : atI (l ++ [x]) (-1) = some x := by
  rw [atI_last (by simp)]
  simp
theorem putAt_concat {l : List D} {x d : D} : putAt (l ++ [x]) (.int (-1)) d = some (l ++ [d]) := by
  unfold putAt
  have e : ixN (l ++ [x]).length (-1) = some l.length := by
    unfold ixN
    rw [if_neg (by omega), if_pos (by simp; omega), List.length_append, List.length_singleton]
    congr 1
    omega
  dsimp only
  rw [e]
  simp
theorem ne_nil {o o' : Bool} {l : List (Int × Int)} : cmp .ne (.lst o (pL l)) (.lst o' []) = some (!l.isEmpty) := by
  rw [cmp_ne_nil (l := pL l) (okEqs_map (fun a => okEq_pair) _)]
  cases l <;> rfl
theorem eq_nil {o o' : Bool} {l : List (Int × Int)} : cmp .eq (.lst o (pL l)) (.lst o' []) = some l.isEmpty := by
  have h : okEqs 11 (pL l) = true := okEqs_map (fun a => okEq_pair) _
  show (if (okEqs 11 (pL l) && true) = true then some (PyData.eqv (.list (toPys (pL l))) (.list (toPys []))) else none) = _
  rw [h]
  cases l with
  | nil => show some (PyData.eqv (.list (toPys [])) (.list (toPys []))) = _; rw [toPys, PyData.eqv, PyData.eqvAll]; rfl
  | cons a r => show some (PyData.eqv (.list (toPys (pairD a :: r.map pairD))) (.list (toPys []))) = _; rw [toPys, toPys, PyData.eqv, PyData.eqvAll]; rfl
theorem pL_app {l : List (Int × Int)} {q : Int × Int} : pL (l ++ [q]) = pL l ++ [pairD q] := by
  unfold pL
  rw [List.map_append]
  rfl
@[simp] theorem pL_nil : pL [] = [] := rfl
theorem step109 {C : Ora} {x0 : Option D} {x2 x3 : Jk} {found : List (Int × Int)} {p : Int × Int} (hl : found.length < 1000000) :
    ((store t109_0 (pairD p) [x0, some (.lst true (pL found)), x2.x, x3.x]).bind fun e => evSs C b109_0 e) = some (.nx [x0, some (.lst true (pL (jn1 found p))), some (.int p.1), some (.int p.2)]) := by
  have n1 := ne_nil (o := false) (o' := true) (l := found)
  have hl' : (pL found).length < 1000000 := by rw [len_pL]; exact hl
  rcases List.eq_nil_or_concat found with z | ⟨l, q, z⟩
  · subst z
    have e : jn1 [] p = [p] := rfl
    rw [e]
    simp at n1
    simp [t109_0, b109_0, pairD, n1, pL]
  · rw [List.concat_eq_append] at z
    subst z
    have e : jn1 (l ++ [q]) p = if p.1 ≤ q.2 + 1 then l ++ [(q.1, max p.2 q.2)] else l ++ [q] ++ [p] := by
      unfold jn1
      rw [List.getLast?_concat, List.dropLast_concat]
    rw [e]
    have hn : (l ++ [q]).isEmpty = false := by simp
    rw [hn] at n1
    have a1 := atI_concat (l := pL l) (x := pairD q)
    have a2 := fun d => putAt_concat (l := pL l) (x := pairD q) (d := d)
    rw [pL_app] at n1 hl' ⊢
    have len : (pL l ++ [pairD q]).length < 1000000 := hl'
    rw [show pairD q = .tup [.int q.1, .int q.2] from rfl] at *
    by_cases h : p.1 ≤ q.2 + 1
    · rw [if_pos h, pL_app]
      generalize pL l = L at *
      simp [t109_0, b109_0, pairD, n1, a1, a2, h]
    · rw [if_neg h, pL_app, pL_app]
      simp only [show pairD q = .tup [.int q.1, .int q.2] from rfl] at *
      generalize pL l = L at *
      have len2 : L.length + 1 < 1000000 := by simpa using len
      simp [t109_0, b109_0, pairD, n1, a1, a2, h, len2]
theorem jn1_len {found : List (Int × Int)} {p : Int × Int} : (jn1 found p).length ≤ found.length + 1 := by
  unfold jn1
  split
  · simp
  · split
    · rw [List.length_append, List.length_dropLast, List.length_singleton]; omega
    · simp
theorem run_joined {m : Nat} (h : 1 ≤ m) {l : List (Int × Int)} (hl : l.length ≤ 10000) : runs U m 109 [.lst false (pL l)] = some (.lst true (pL (joinF (sortP l))), []) :=
  run_ge u109 h fun n hn => by
    obtain ⟨s, hs⟩ : ∃ s, s = sortP l := ⟨_, rfl⟩
    have sl : s.length ≤ 10000 := by rw [hs, sortP_len]; exact hl
    have e1 := blt_sorted (o := false) (l := l)
    rw [← hs] at e1 ⊢
    obtain ⟨e', z1, z2⟩ := forC_ex (C := runs U n) (tg := t109_0) (b := b109_0)
      (fun k e => ∃ (y2 y3 : Jk), ((s.take k).foldl jn1 []).length ≤ k ∧ e = [some (.lst false (pL l)), some (.lst true (pL ((s.take k).foldl jn1 []))), y2.x, y3.x])
      (pL s) 0 [some (.lst false (pL l)), some (.lst true []), none, none] ⟨jn, jn, Nat.le_refl _, rfl⟩ (by
        rintro k d e hd ⟨y2, y3, hk, rfl⟩
        rw [Nat.zero_add] at hk ⊢
        unfold pL at hd
        rw [List.getElem?_map] at hd
        obtain ⟨p, hp, rfl⟩ := Option.map_eq_some_iff.mp hd
        have hk2 := at_len hp
        have et : s.take (k + 1) = s.take k ++ [p] := by rw [List.take_add_one, hp]; rfl
        rw [et, List.foldl_append, List.foldl_cons, List.foldl_nil]
        have := jn1_len (found := (s.take k).foldl jn1 []) (p := p)
        exact ⟨_, step109 (x2 := y2) (x3 := y3) (by omega), ji p.1, ji p.2, by omega, rfl⟩)
    obtain ⟨y2, y3, _, rfl⟩ := z2
    rw [Nat.zero_add, len_pL, List.take_length] at z1
    have ej : s.foldl jn1 [] = joinF s := rfl
    rw [ej] at z1
    have fs : freezes (pL s) = pL s := fr_pL
    generalize pL (joinF s) = r at *
    generalize pL s = sd at *
    generalize pL l = ld at *
    simp [f109, e1, fs, z1]
theorem step115 {C : Ora} {x0 : Option D} {x2 : Jk} {found : List (Int × Int)} {x : Int} (hl : found.length < 1000000) :
    ((store t115_0 (.int x) [x0, some (.lst true (pL found)), x2.x]).bind fun e => evSs C b115_0 e) = some (.nx [x0, some (.lst true (pL (lr1 found x))), some (.int x)]) := by
  have n1 := ne_nil (o := false) (o' := true) (l := found)
  have hl' : (pL found).length < 1000000 := by rw [len_pL]; exact hl
  rcases List.eq_nil_or_concat found with z | ⟨l, q, z⟩
  · subst z
    have e : lr1 [] x = [(x, x)] := rfl
    rw [e]
    simp at n1
    simp [t115_0, b115_0, pairD, n1, pL]
  · rw [List.concat_eq_append] at z
    subst z
    have e : lr1 (l ++ [q]) x = if q.2 = x - 1 then l ++ [(q.1, x)] else l ++ [q] ++ [(x, x)] := by
      unfold lr1
      rw [List.getLast?_concat, List.dropLast_concat]
    rw [e]
    have hn : (l ++ [q]).isEmpty = false := by simp
    rw [hn] at n1
    have a1 := atI_concat (l := pL l) (x := pairD q)
    have a2 := fun d => putAt_concat (l := pL l) (x := pairD q) (d := d)
    rw [pL_app] at n1 hl' ⊢
    have len : (pL l ++ [pairD q]).length < 1000000 := hl'
    rw [show pairD q = .tup [.int q.1, .int q.2] from rfl] at *
    by_cases h : q.2 = x - 1
    · rw [if_pos h, pL_app]
      generalize pL l = L at *
      obtain ⟨qa, qb⟩ := q
      dsimp only at *
      subst h
      simp [t115_0, b115_0, pairD, n1, a1, a2]
    · rw [if_neg h, pL_app, pL_app]
      simp only [show pairD q = .tup [.int q.1, .int q.2] from rfl] at *
      generalize pL l = L at *
      have len2 : L.length + 1 < 1000000 := by simpa using len
      simp [t115_0, b115_0, pairD, n1, a1, a2, h, len2]
theorem lr1_len {found : List (Int × Int)} {p : Int} : (lr1 found p).length ≤ found.length + 1 := by
  unfold lr1
  split
  · simp
  · split
    · rw [List.length_append, List.length_dropLast, List.length_singleton]; omega
    · simp
theorem run_ranges {m : Nat} (h : 1 ≤ m) {s : List Int} (hl : s.length ≤ 100000) : runs U m 115 [.lst false (iL s)] = some (.lst true (pL (rangesF s)), []) :=
  run_ge u115 h fun n hn => by
    obtain ⟨e', z1, z2⟩ := forC_ex (C := runs U n) (tg := t115_0) (b := b115_0)
      (fun k e => ∃ (y2 : Jk), ((s.take k).foldl lr1 []).length ≤ k ∧ e = [some (.lst false (iL s)), some (.lst true (pL ((s.take k).foldl lr1 []))), y2.x])
      (iL s) 0 [some (.lst false (iL s)), some (.lst true []), none] ⟨jn, Nat.le_refl _, rfl⟩ (by
        rintro k d e hd ⟨y2, hk, rfl⟩
        rw [Nat.zero_add] at hk ⊢
        obtain ⟨p, hp, rfl⟩ := iL_at hd
        have hk2 := at_len hp
        have et : s.take (k + 1) = s.take k ++ [p] := by rw [List.take_add_one, hp]; rfl
        rw [et, List.foldl_append, List.foldl_cons, List.foldl_nil]
        have := lr1_len (found := (s.take k).foldl lr1 []) (p := p)
        exact ⟨_, step115 (x2 := y2) (by omega), ji p, by omega, rfl⟩)
    obtain ⟨y2, _, rfl⟩ := z2
    rw [Nat.zero_add, len_ints, List.take_length] at z1
    have ej : s.foldl lr1 [] = rangesF s := rfl
    rw [ej] at z1
    have fs : freezes (iL s) = iL s := fr_ints'
    generalize pL (rangesF s) = r at *
    generalize iL s = sd at *
    simp [f115, fs, z1]
theorem step214 {C : Ora} {x0 : Option D} {x2 x3 : Jk} {found : List (Int × Int)} {p : Int × Int} (hl : found.length < 1000000) :
    ((store t214_0 (pairD p) [x0, some (.lst true (pL found)), x2.x, x3.x]).bind fun e => evSs C b214_0 e) = some (.nx [x0, some (.lst true (pL (jt1 found p))), some (.int p.1), some (.int p.2)]) := by
  have n1 := ne_nil (o := false) (o' := true) (l := found)
  have hl' : (pL found).length < 1000000 := by rw [len_pL]; exact hl
  rcases List.eq_nil_or_concat found with z | ⟨l, q, z⟩
  · subst z
    have e : jt1 [] p = [p] := rfl
    rw [e]
    simp at n1
    simp [t214_0, b214_0, pairD, n1, pL]
  · rw [List.concat_eq_append] at z
    subst z
    have e : jt1 (l ++ [q]) p = if q.2 + 1 = p.1 then l ++ [(q.1, p.2)] else l ++ [q] ++ [p] := by
      unfold jt1
      rw [List.getLast?_concat, List.dropLast_concat]
    rw [e]
    have hn : (l ++ [q]).isEmpty = false := by simp
    rw [hn] at n1
    have a1 := atI_concat (l := pL l) (x := pairD q)
    have a2 := fun d => putAt_concat (l := pL l) (x := pairD q) (d := d)
    rw [pL_app] at n1 hl' ⊢
    have len : (pL l ++ [pairD q]).length < 1000000 := hl'
    rw [show pairD q = .tup [.int q.1, .int q.2] from rfl] at *
    by_cases h : q.2 + 1 = p.1
    · rw [if_pos h, pL_app]
      generalize pL l = L at *
      simp [t214_0, b214_0, pairD, n1, a1, a2, h]
    · rw [if_neg h, pL_app, pL_app]
      simp only [show pairD q = .tup [.int q.1, .int q.2] from rfl] at *
      generalize pL l = L at *
      have len2 : L.length + 1 < 1000000 := by simpa using len
      simp [t214_0, b214_0, pairD, n1, a1, a2, h, len2]
theorem jt1_len {found : List (Int × Int)} {p : Int × Int} : (jt1 found p).length ≤ found.length + 1 := by
  unfold jt1
  split
  · simp
  · split
    · rw [List.length_append, List.length_dropLast, List.length_singleton]; omega
    · simp
theorem run_joinedT {m : Nat} (h : 1 ≤ m) {s : List (Int × Int)} (hl : s.length ≤ 10000) : runs U m 214 [.lst false (pL s)] = some (.lst true (pL (joinT s)), []) :=
  run_ge u214 h fun n hn => by
    obtain ⟨e', z1, z2⟩ := forC_ex (C := runs U n) (tg := t214_0) (b := b214_0)
      (fun k e => ∃ (y2 y3 : Jk), ((s.take k).foldl jt1 []).length ≤ k ∧ e = [some (.lst false (pL s)), some (.lst true (pL ((s.take k).foldl jt1 []))), y2.x, y3.x])
      (pL s) 0 [some (.lst false (pL s)), some (.lst true []), none, none] ⟨jn, jn, Nat.le_refl _, rfl⟩ (by
        rintro k d e hd ⟨y2, y3, hk, rfl⟩
        rw [Nat.zero_add] at hk ⊢
        unfold pL at hd
        rw [List.getElem?_map] at hd
        obtain ⟨p, hp, rfl⟩ := Option.map_eq_some_iff.mp hd
        have hk2 := at_len hp
        have et : s.take (k + 1) = s.take k ++ [p] := by rw [List.take_add_one, hp]; rfl
        rw [et, List.foldl_append, List.foldl_cons, List.foldl_nil]
        have := jt1_len (found := (s.take k).foldl jt1 []) (p := p)
        exact ⟨_, step214 (x2 := y2) (x3 := y3) (by omega), ji p.1, ji p.2, by omega, rfl⟩)
    obtain ⟨y2, y3, _, rfl⟩ := z2
    rw [Nat.zero_add, len_pL, List.take_length] at z1
    have ej : s.foldl jt1 [] = joinT s := rfl
    rw [ej] at z1
    have fs : freezes (pL s) = pL s := fr_pL
    generalize pL (joinT s) = r at *
    generalize pL s = sd at *
    simp [f214, fs, z1]
theorem pL_eq {o o' : Bool} {l : List (Int × Int)} : cmp .ne (.lst o (pL l)) (.lst o' (pL l)) = some false := cmp_ne_lst (okEqs_map (fun a => okEq_pair) _)
end PV
set_option Elab.async false
set_option linter.all false
set_option maxRecDepth 100000
set_option maxHeartbeats 4000000
/-! Plans that are nearly the same: another rate, a band less or more. -/
namespace PV
open PySem PySem.Spec L2
def bandsP (p : Plan) (bs : List (Int × Int)) : Plan := { p with bands := bs }
def rateP (p : Plan) (i : Nat) (r : Int) : Plan := bandsP p (p.bands.take i ++ ((p.bands.getD i (0, 0)).1, r) :: p.bands.drop (i + 1))
theorem bands_split {l : List (Int × Int)} {i : Nat} (h : i < l.length) : l = l.take i ++ l.getD i (0, 0) :: l.drop (i + 1) := by
  have e : l.getD i (0, 0) = l[i] := by rw [List.getD_eq_getElem?_getD, List.getElem?_eq_getElem h]; rfl
  rw [e]
  conv => lhs; rw [← List.take_append_drop i l, List.drop_eq_getElem_cons h]
theorem rateP_starts {p : Plan} {i : Nat} (h : i < p.bands.length) {r : Int} : (rateP p i r).bands.map (·.1) = p.bands.map (·.1) := by
  show (p.bands.take i ++ ((p.bands.getD i (0, 0)).1, r) :: p.bands.drop (i + 1)).map (·.1) = _
  conv => rhs; rw [bands_split h]
  rw [List.map_append, List.map_append]
  rfl
theorem rateP_ok {p : Plan} (ok : p.Ok) {i : Nat} (h : i < p.bands.length) {r : Int} (hr : 0 ≤ r ∧ r ≤ 100) : (rateP p i r).Ok := by
  have e := rateP_starts h (r := r)
  have hl := congrArg List.length e
  rw [List.length_map, List.length_map] at hl
  have l5 := ok.len
  refine ⟨fun z => ?_, by omega, ?_, by rw [e]; exact ok.ris, fun b hb => ?_, ok.bonus, ok.fee, ok.charge⟩
  · rw [z, List.length_nil] at hl
    omega
  · rw [← List.head?_map, e, List.head?_map]
    exact ok.first
  · rcases List.mem_append.mp (show b ∈ p.bands.take i ++ ((p.bands.getD i (0, 0)).1, r) :: p.bands.drop (i + 1) from hb) with z | z
    · exact ok.band b (List.mem_of_mem_take z)
    · rcases List.mem_cons.mp z with y | y
      · have hm : p.bands.getD i (0, 0) ∈ p.bands := by
          rw [List.getD_eq_getElem?_getD, List.getElem?_eq_getElem h]
          exact List.getElem_mem h
        have := ok.band _ hm
        rw [y]
        exact ⟨this.1, this.2.1, hr.1, hr.2⟩
      · exact ok.band b (List.mem_of_mem_drop y)
theorem bandsP_eq (p : Plan) : bandsP p p.bands = p := rfl
/-- the steps of a rate put in -/
theorem rate_facts {p : Plan} (ok : p.Ok) {i : Nat} (h : i < p.bands.length) (r : Int) : ∃ (T1 T2 T3 T4 : List D) (b : Int × Int), b = p.bands.getD i (0, 0) ∧ cutL (p.bands.map pairD) none (some (i : Int)) = T1 ∧ freezes T1 = T1 ∧ cutL (p.bands.map pairD) (some ((i : Int) + 1)) none = T2 ∧ freezes T2 = T2 ∧
    atI (p.bands.map pairD) (i : Int) = some (.tup [.int b.1, .int b.2]) ∧ bin .add (.tup T1) (.tup [.tup [.int b.1, .int r]]) = some (.tup T3) ∧ bin .add (.tup T3) (.tup T2) = some (.tup T4) ∧ freezes T4 = T4 ∧ T4 = (rateP p i r).bands.map pairD ∧
    bin .add (.tup [.tup T4]) (.tup [.str (mS p.whole), .str (rS p.half), optP p.bonus, optP p.fee, .int p.charge]) = some (.tup (planL (rateP p i r))) := by
  have l5 := ok.len
  refine ⟨(p.bands.take i).map pairD, (p.bands.drop (i + 1)).map pairD, (p.bands.take i ++ [((p.bands.getD i (0, 0)).1, r)]).map pairD, (rateP p i r).bands.map pairD, p.bands.getD i (0, 0), rfl, ?_, fr_pairs, ?_, fr_pairs, ?_, ?_, ?_, fr_pairs, rfl, ?_⟩
  · rw [cut_take' (by rw [List.length_map]; omega), List.map_take]
  · rw [show ((i : Int) + 1) = ((i + 1 : Nat) : Int) from rfl, cutL_from, List.map_drop]
  · rw [atI_nat (by omega) (by rw [List.length_map]; omega), List.getElem?_map, List.getD_eq_getElem?_getD, Int.toNat_natCast, List.getElem?_eq_getElem h]
    rfl
  · rw [bin_addT (by rw [List.length_map, List.length_take]; show _ + 1 ≤ 1000000; omega), List.map_append]
    rfl
  · rw [bin_addT (by rw [List.length_map, List.length_map, List.length_append, List.length_take, List.length_drop]; show _ + 1 + _ ≤ 1000000; omega), ← List.map_append, List.append_assoc]
    rfl
  · exact bin_addT (show 1 + 5 ≤ lim by decide)
theorem lessP_ok {p : Plan} (ok : p.Ok) {i : Nat} (h1 : 1 ≤ i) : (bandsP p (p.bands.take i ++ p.bands.drop (i + 1))).Ok := by
  obtain ⟨r, bs, e⟩ := ok.head
  have hs : (p.bands.take i ++ p.bands.drop (i + 1)).Sublist p.bands := by
    have h1 : (p.bands.drop (i + 1)).Sublist (p.bands.drop i) := by rw [← List.drop_drop]; exact List.drop_sublist _ _
    have := List.Sublist.append (List.Sublist.refl (p.bands.take i)) h1
    rwa [List.take_append_drop] at this
  have hd : (p.bands.take i ++ p.bands.drop (i + 1)).head? = p.bands.head? := by
    rw [e]
    obtain ⟨j, rfl⟩ : ∃ j, i = j + 1 := ⟨i - 1, by omega⟩
    rfl
  refine ⟨fun z => ?_, Nat.le_trans hs.length_le ok.len, ?_, ok.ris.sublist (hs.map _), fun b hb => ok.band b (hs.subset hb), ok.bonus, ok.fee, ok.charge⟩
  · rw [show p.bands.take i ++ p.bands.drop (i + 1) = [] from z, e] at hd
    cases hd
  · show ((p.bands.take i ++ p.bands.drop (i + 1)).head?.map (·.1)) = some 0
    rw [hd]
    exact ok.first
theorem last_max {p : Plan} (ok : p.Ok) {b : Int × Int} (hb : b ∈ p.bands) : b.1 ≤ (lastB p.bands).1 := by
  obtain ⟨i, hi⟩ := List.mem_iff_getElem?.mp hb
  have hl := at_len hi
  have e : p.bands[p.bands.length - 1]? = some (lastB p.bands) := by
    rw [← List.getLast?_eq_getElem?]
    exact (last_mem ok.ne (0, 0)).2
  by_cases h : i = p.bands.length - 1
  · rw [h, e] at hi
    rw [Option.some.inj hi]
    exact Int.le_refl _
  · have hp := ok.ris
    rw [List.pairwise_map] at hp
    obtain ⟨q1, q2⟩ := List.getElem?_eq_some_iff.mp hi
    obtain ⟨q3, q4⟩ := List.getElem?_eq_some_iff.mp e
    have := List.pairwise_iff_getElem.mp hp i _ q1 q3 (by omega)
    rw [q2, q4] at this
    omega
theorem moreP_ok {p : Plan} (ok : p.Ok) {s r : Int} (hl : p.bands.length < 5) (hs : (lastB p.bands).1 < s) (h1 : s ≤ 1000000) (hr : 0 ≤ r ∧ r ≤ 100) : (bandsP p (p.bands ++ [(s, r)])).Ok := by
  have hs' : ∀ b ∈ p.bands, b.1 < s := fun b hb => by have := last_max ok hb; omega
  obtain ⟨r0, bs, e⟩ := ok.head
  refine ⟨fun z => ?_, ?_, ?_, ?_, fun b hb => ?_, ok.bonus, ok.fee, ok.charge⟩
  · have z : p.bands ++ [(s, r)] = [] := z
    simp at z
  · show (p.bands ++ [(s, r)]).length ≤ 5
    rw [List.length_append, List.length_singleton]
    omega
  · show ((p.bands ++ [(s, r)]).head?.map (·.1)) = some 0
    rw [e]
    rfl
  · show ((p.bands ++ [(s, r)]).map (·.1)).Pairwise (· < ·)
    rw [List.map_append]
    refine List.pairwise_append.mpr ⟨ok.ris, by simp, fun a ha b hb => ?_⟩
    obtain ⟨x, hx, rfl⟩ := List.mem_map.mp ha
    simp at hb
    rw [hb]
    exact hs' x hx
  · rcases List.mem_append.mp (show b ∈ p.bands ++ [(s, r)] from hb) with z | z
    · exact ok.band b z
    · rw [List.mem_singleton.mp z]
      have h0 := ok.band (0, r0) (by rw [e]; exact List.mem_cons_self)
      have := hs' (0, r0) (by rw [e]; exact List.mem_cons_self)
      exact ⟨by dsimp only at *; omega, h1, hr⟩
def n55_0 : IS := (.asg (.tup [(.name 4), (.name 5), (.name 6), (.name 7), (.name 8), (.name 9)]) (.var 1))
def n55_1 : IS := (.asg (.name 2) (.callio 7 0 (.cons (.int 8) .nil)))
def n55_2 : IS := (.ife (.cmp .eq (.var 2) (.int 0)) (.cons (.ret (.tup (.cons (.var 4) (.cons (.var 5) (.cons (.ife (.cmp .eq (.var 6) (.str (Str.ofString "down"))) (.str (Str.ofString "half")) (.str (Str.ofString "down"))) (.cons (.var 7) (.cons (.var 8) (.cons (.var 9) .nil)))))))) .nil) .nil)
def n55_3 : IS := (.ife (.cmp .eq (.var 2) (.int 1)) (.cons (.ret (.tup (.cons (.var 4) (.cons (.var 5) (.cons (.var 6) (.cons .non (.cons (.var 8) (.cons (.var 9) .nil)))))))) .nil) .nil)
def n55_4 : IS := (.ife (.cmp .eq (.var 2) (.int 2)) (.cons (.ret (.tup (.cons (.var 4) (.cons (.var 5) (.cons (.var 6) (.cons (.var 7) (.cons .non (.cons (.var 9) .nil)))))))) .nil) .nil)
def n55_5 : IS := (.ife (.cmp .eq (.var 2) (.int 3)) (.cons (.ret (.tup (.cons (.var 4) (.cons (.var 5) (.cons (.var 6) (.cons (.var 7) (.cons (.var 8) (.cons (.blt .max2 (.cons (.int 0) (.cons (.bin .sub (.var 9) (.int 1)) .nil))) .nil)))))))) .nil) .nil)
def n55_6 : IS := (.asg (.name 3) (.callio 7 0 (.cons (.blt .len (.cons (.var 4) .nil)) .nil)))
def n55_7 : IS := (.asg (.tup [(.name 10), (.name 11)]) (.idx (.var 4) (.var 3)))
def n55_8 : IS := (.ife (.cmp .eq (.var 2) (.int 4)) (.cons (.asg (.name 4) (.bin .add (.bin .add (.slice (.var 4) .none (.some (.var 3))) (.tup (.cons (.tup (.cons (.var 10) (.cons (.blt .max2 (.cons (.int 0) (.cons (.bin .sub (.var 11) (.int 1)) .nil))) .nil))) .nil))) (.slice (.var 4) (.some (.bin .add (.var 3) (.int 1))) .none))) .nil) (.cons (.ife (.boolop true (.cons (.cmp .eq (.var 2) (.int 5)) (.cons (.cmp .gt (.var 3) (.int 0)) .nil))) (.cons (.asg (.name 4) (.bin .add (.slice (.var 4) .none (.some (.var 3))) (.slice (.var 4) (.some (.bin .add (.var 3) (.int 1))) .none))) .nil) (.cons (.ife (.boolop true (.cons (.cmp .eq (.var 2) (.int 6)) (.cons (.cmp .lt (.blt .len (.cons (.var 4) .nil)) (.int 5)) (.cons (.cmp .lt (.idx (.idx (.var 4) (.neg (.int 1))) (.int 0)) (.int 999000)) .nil)))) (.cons (.asg (.name 4) (.bin .add (.var 4) (.tup (.cons (.tup (.cons (.bin .add (.bin .add (.idx (.idx (.var 4) (.neg (.int 1))) (.int 0)) (.int 1)) (.callio 7 0 (.cons (.int 900) .nil))) (.cons (.idx (.idx (.var 4) (.neg (.int 1))) (.int 1)) .nil))) .nil)))) .nil) (.cons (.ife (.boolop true (.cons (.cmp .notN (.var 7) .non) (.cons (.cmp .eq (.var 2) (.int 7)) .nil))) (.cons (.asg (.name 7) (.tup (.cons (.blt .min2 (.cons (.int 12) (.cons (.bin .mul (.int 2) (.idx (.var 7) (.int 0))) .nil))) (.cons (.idx (.var 7) (.int 1)) .nil)))) .nil) .nil) .nil)) .nil)) .nil))
def n55_9 : IS := (.ret (.tup (.cons (.var 4) (.cons (.var 5) (.cons (.var 6) (.cons (.var 7) (.cons (.var 8) (.cons (.var 9) .nil))))))))
def t55 : ISs := (.cons n55_6 (.cons n55_7 (.cons n55_8 (.cons n55_9 .nil))))
theorem f55_eq : f55 = ⟨2, 12, true, (.cons n55_0 (.cons n55_1 (.cons n55_2 (.cons n55_3 (.cons n55_4 (.cons n55_5 t55))))))⟩ := rfl
@[simp] theorem rS_down {w} : cmp .eq (.str (rS w)) (.str (Str.ofString "down")) = some (!w) := by cases w <;> decide +kernel
/-- the parts of a plan where they lie -/
abbrev E55 (s : Option D) (p : Plan) (k : Option D) (a : Option D) (bs : List (Int × Int)) (bo : Option (Int × Int)) (x y : Option D) : Env :=
  [s, some (.tup (planL p)), k, a, some (.tup (bs.map pairD)), some (.str (mS p.whole)), some (.str (rS p.half)), some (optP bo), some (optP p.fee), some (.int p.charge), x, y]
theorem n55_start {C : Ora} {s : Option D} {p : Plan} {r : ISs} : evSs C (.cons n55_0 r) [s, some (.tup (planL p)), none, none, none, none, none, none, none, none, none, none] = evSs C r (E55 s p none none p.bands p.bonus none none) := by
  have : evS C n55_0 [s, some (.tup (planL p)), none, none, none, none, none, none, none, none, none, none] = some (.nx (E55 s p none none p.bands p.bonus none none)) := by
    cases hb : p.bonus <;> cases hf : p.fee <;> simp [n55_0, planL, E55, hb, hf]
  rw [evSs_cons, this]
  rfl
theorem n55_end {C : Ora} {s k a x y : Option D} {p : Plan} {bs : List (Int × Int)} {bo : Option (Int × Int)} : evSs C (.cons n55_9 .nil) (E55 s p k a bs bo x y) = some (.rt (.tup (planL { p with bands := bs, bonus := bo })) (E55 s p k a bs bo x y)) := by
  cases hb : bo <;> cases hf : p.fee <;> simp [n55_9, planL, E55, hf]
theorem ex_near {m : Nat} (h : 2 ≤ m) {p : Plan} (ok : p.Ok) {σ : Src} (hσ : σ.Ok) : ∃ (q : Plan) (σ' : Src), runs U m 55 [.io (srcL σ), .tup (planL p)] = some (.tup (planL q), srcL σ') ∧ q.Ok ∧ σ'.Ok := by
  obtain ⟨n, rfl⟩ := Nat.exists_eq_add_of_le' (Nat.le_trans (by decide : 1 ≤ 2) h)
  rw [run_one u55, f55_eq]
  obtain ⟨k, σ1, e1, k0, k8, ok1⟩ := ex_pick hσ (n := 8) (by decide) (by decide)
  have e1 := e1 n (by omega)
  have l5 := ok.len
  have l1 : 0 < p.bands.length := List.length_pos_iff.mpr ok.ne
  have fin : ∀ {q : Plan} {σ' : Src} {r : Env}, evSs (runs U n) (.cons n55_0 (.cons n55_1 (.cons n55_2 (.cons n55_3 (.cons n55_4 (.cons n55_5 t55)))))) [some (.io (srcL σ)), some (.tup (planL p)), none, none, none, none, none, none, none, none, none, none] = some (.rt (.tup (planL q)) (some (.io (srcL σ')) :: r)) → q.Ok → σ'.Ok →
      ∃ (q : Plan) (σ' : Src), runFn (runs U n) ⟨2, 12, true, (.cons n55_0 (.cons n55_1 (.cons n55_2 (.cons n55_3 (.cons n55_4 (.cons n55_5 t55))))))⟩ [.io (srcL σ), .tup (planL p)] = some (.tup (planL q), srcL σ') ∧ q.Ok ∧ σ'.Ok := fun {q σ' r} hz h2 h3 => by
    refine ⟨q, σ', ?_, h2, h3⟩
    rw [runFn_s, if_pos ⟨rfl, by decide, rfl⟩]
    show (evSs (runs U n) (.cons n55_0 _) [some (.io (srcL σ)), some (.tup (planL p)), none, none, none, none, none, none, none, none, none, none]).bind _ = _
    rw [hz]
    rfl
  have s1 : evS (runs U n) n55_1 (E55 (some (.io (srcL σ))) p none none p.bands p.bonus none none) = some (.nx (E55 (some (.io (srcL σ1))) p (some (.int k)) none p.bands p.bonus none none)) := by
    simp [n55_1, e1, E55]
  have hk : k = 0 ∨ k = 1 ∨ k = 2 ∨ k = 3 ∨ 4 ≤ k := by omega
  rcases hk with rfl | rfl | rfl | rfl | hk
  · refine fin (q := { p with half := !p.half }) (σ' := σ1) (r := (E55 (some (.io (srcL σ1))) p (some (.int 0)) none p.bands p.bonus none none).tail) ?_ ⟨ok.ne, ok.len, ok.first, ok.ris, ok.band, ok.bonus, ok.fee, ok.charge⟩ ok1
    rw [n55_start, evSs_cons, s1, seqO_nx]
    have : evS (runs U n) n55_2 (E55 (some (.io (srcL σ1))) p (some (.int 0)) none p.bands p.bonus none none) = some (.rt (.tup (planL { p with half := !p.half })) (E55 (some (.io (srcL σ1))) p (some (.int 0)) none p.bands p.bonus none none)) := by
      cases hb : p.bonus <;> cases hf : p.fee <;> cases hh : p.half <;> simp [n55_2, planL, E55, hb, hf, hh] <;> rfl
    rw [evSs_cons, this]
    rfl
  · refine fin (q := { p with bonus := none }) (σ' := σ1) (r := (E55 (some (.io (srcL σ1))) p (some (.int 1)) none p.bands p.bonus none none).tail) ?_ ⟨ok.ne, ok.len, ok.first, ok.ris, ok.band, (fun b hb => by cases hb), ok.fee, ok.charge⟩ ok1
    rw [n55_start, evSs_cons, s1, seqO_nx]
    have : evSs (runs U n) (.cons n55_2 (.cons n55_3 (.cons n55_4 (.cons n55_5 t55)))) (E55 (some (.io (srcL σ1))) p (some (.int 1)) none p.bands p.bonus none none) = some (.rt (.tup (planL { p with bonus := none })) (E55 (some (.io (srcL σ1))) p (some (.int 1)) none p.bands p.bonus none none)) := by
      cases hb : p.bonus <;> cases hf : p.fee <;> simp [n55_2, n55_3, planL, E55, hb, hf]
    rw [this]
    rfl
  · refine fin (q := { p with fee := none }) (σ' := σ1) (r := (E55 (some (.io (srcL σ1))) p (some (.int 2)) none p.bands p.bonus none none).tail) ?_ ⟨ok.ne, ok.len, ok.first, ok.ris, ok.band, ok.bonus, (fun b hb => by cases hb), ok.charge⟩ ok1
    rw [n55_start, evSs_cons, s1, seqO_nx]
    have : evSs (runs U n) (.cons n55_2 (.cons n55_3 (.cons n55_4 (.cons n55_5 t55)))) (E55 (some (.io (srcL σ1))) p (some (.int 2)) none p.bands p.bonus none none) = some (.rt (.tup (planL { p with fee := none })) (E55 (some (.io (srcL σ1))) p (some (.int 2)) none p.bands p.bonus none none)) := by
      cases hb : p.bonus <;> cases hf : p.fee <;> simp [n55_2, n55_3, n55_4, planL, E55, hb, hf]
    rw [this]
    rfl
  · have hc := ok.charge
    refine fin (q := { p with charge := max 0 (p.charge - 1) }) (σ' := σ1) (r := (E55 (some (.io (srcL σ1))) p (some (.int 3)) none p.bands p.bonus none none).tail) ?_ ⟨ok.ne, ok.len, ok.first, ok.ris, ok.band, ok.bonus, ok.fee, by show 0 ≤ max 0 (p.charge - 1) ∧ max 0 (p.charge - 1) ≤ 500; omega⟩ ok1
    rw [n55_start, evSs_cons, s1, seqO_nx]
    have : evSs (runs U n) (.cons n55_2 (.cons n55_3 (.cons n55_4 (.cons n55_5 t55)))) (E55 (some (.io (srcL σ1))) p (some (.int 3)) none p.bands p.bonus none none) = some (.rt (.tup (planL { p with charge := max 0 (p.charge - 1) })) (E55 (some (.io (srcL σ1))) p (some (.int 3)) none p.bands p.bonus none none)) := by
      cases hb : p.bonus <;> cases hf : p.fee <;> simp [n55_2, n55_3, n55_4, n55_5, planL, E55, hb, hf]
    rw [this]
    rfl
  · have k0' : ¬ k = 0 := by omega
    have k1' : ¬ k = 1 := by omega
    have k2' : ¬ k = 2 := by omega
    have k3' : ¬ k = 3 := by omega
    obtain ⟨at_, σ2, e2, a0, a1, ok2⟩ := ex_pick ok1 (n := (p.bands.length : Int)) (by omega) (by omega)
    have e2 := e2 n (by omega)
    obtain ⟨i, rfl⟩ : ∃ i : Nat, at_ = i := ⟨at_.toNat, by omega⟩
    have hi : i < p.bands.length := by omega
    obtain ⟨T1, T2, T3, T4, b, hb0, q1, q2, q3, q4, q5, q6, q7, q8, q9, q10⟩ := rate_facts ok hi (max 0 ((p.bands.getD i (0, 0)).2 - 1))
    rw [← hb0] at q6 q9 q10
    have hbm : b ∈ p.bands := by
      rw [hb0, List.getD_eq_getElem?_getD, List.getElem?_eq_getElem hi]
      exact List.getElem_mem hi
    have hbb := ok.band b hbm
    have mid : evSs (runs U n) (.cons n55_2 (.cons n55_3 (.cons n55_4 (.cons n55_5 t55)))) (E55 (some (.io (srcL σ1))) p (some (.int k)) none p.bands p.bonus none none) =
        evSs (runs U n) (.cons n55_8 (.cons n55_9 .nil)) (E55 (some (.io (srcL σ2))) p (some (.int k)) (some (.int (i : Int))) p.bands p.bonus (some (.int b.1)) (some (.int b.2))) := by
      have z2 : evS (runs U n) n55_2 (E55 (some (.io (srcL σ1))) p (some (.int k)) none p.bands p.bonus none none) = some (.nx (E55 (some (.io (srcL σ1))) p (some (.int k)) none p.bands p.bonus none none)) := by simp [n55_2, E55, k0']
      have z3 : evS (runs U n) n55_3 (E55 (some (.io (srcL σ1))) p (some (.int k)) none p.bands p.bonus none none) = some (.nx (E55 (some (.io (srcL σ1))) p (some (.int k)) none p.bands p.bonus none none)) := by simp [n55_3, E55, k1']
      have z4 : evS (runs U n) n55_4 (E55 (some (.io (srcL σ1))) p (some (.int k)) none p.bands p.bonus none none) = some (.nx (E55 (some (.io (srcL σ1))) p (some (.int k)) none p.bands p.bonus none none)) := by simp [n55_4, E55, k2']
      have z5 : evS (runs U n) n55_5 (E55 (some (.io (srcL σ1))) p (some (.int k)) none p.bands p.bonus none none) = some (.nx (E55 (some (.io (srcL σ1))) p (some (.int k)) none p.bands p.bonus none none)) := by simp [n55_5, E55, k3']
      have z6 : evS (runs U n) n55_6 (E55 (some (.io (srcL σ1))) p (some (.int k)) none p.bands p.bonus none none) = some (.nx (E55 (some (.io (srcL σ2))) p (some (.int k)) (some (.int (i : Int))) p.bands p.bonus none none)) := by simp [n55_6, E55, e2]
      have z7 : evS (runs U n) n55_7 (E55 (some (.io (srcL σ2))) p (some (.int k)) (some (.int (i : Int))) p.bands p.bonus none none) = some (.nx (E55 (some (.io (srcL σ2))) p (some (.int k)) (some (.int (i : Int))) p.bands p.bonus (some (.int b.1)) (some (.int b.2)))) := by simp [n55_7, E55, q5]
      rw [evSs_cons, z2, seqO_nx, evSs_cons, z3, seqO_nx, evSs_cons, z4, seqO_nx, evSs_cons, z5, seqO_nx, t55, evSs_cons, z6, seqO_nx, evSs_cons, z7, seqO_nx]
    have done : ∀ {σ' : Src} {bs : List (Int × Int)} {bo : Option (Int × Int)}, evS (runs U n) n55_8 (E55 (some (.io (srcL σ2))) p (some (.int k)) (some (.int (i : Int))) p.bands p.bonus (some (.int b.1)) (some (.int b.2))) = some (.nx (E55 (some (.io (srcL σ'))) p (some (.int k)) (some (.int (i : Int))) bs bo (some (.int b.1)) (some (.int b.2)))) →
        Plan.Ok { p with bands := bs, bonus := bo } → σ'.Ok → ∃ (q : Plan) (σ' : Src), runFn (runs U n) ⟨2, 12, true, (.cons n55_0 (.cons n55_1 (.cons n55_2 (.cons n55_3 (.cons n55_4 (.cons n55_5 t55))))))⟩ [.io (srcL σ), .tup (planL p)] = some (.tup (planL q), srcL σ') ∧ q.Ok ∧ σ'.Ok := fun {σ' bs bo} hz h2 h3 => by
      refine fin (q := { p with bands := bs, bonus := bo }) (σ' := σ') (r := (E55 (some (.io (srcL σ'))) p (some (.int k)) (some (.int (i : Int))) bs bo (some (.int b.1)) (some (.int b.2))).tail) ?_ h2 h3
      rw [n55_start, evSs_cons, s1, seqO_nx, mid, evSs_cons, hz, seqO_nx, n55_end]
      rfl
    have same : evS (runs U n) n55_8 (E55 (some (.io (srcL σ2))) p (some (.int k)) (some (.int (i : Int))) p.bands p.bonus (some (.int b.1)) (some (.int b.2))) = some (.nx (E55 (some (.io (srcL σ2))) p (some (.int k)) (some (.int (i : Int))) p.bands p.bonus (some (.int b.1)) (some (.int b.2)))) →
        ∃ (q : Plan) (σ' : Src), runFn (runs U n) ⟨2, 12, true, (.cons n55_0 (.cons n55_1 (.cons n55_2 (.cons n55_3 (.cons n55_4 (.cons n55_5 t55))))))⟩ [.io (srcL σ), .tup (planL p)] = some (.tup (planL q), srcL σ') ∧ q.Ok ∧ σ'.Ok := fun hz => done hz ok ok2
    have hk4 : k = 4 ∨ k = 5 ∨ k = 6 ∨ k = 7 := by omega
    rcases hk4 with rfl | rfl | rfl | rfl
    · have ok4 := rateP_ok ok hi (r := max 0 (b.2 - 1)) (by omega)
      refine done (σ' := σ2) (bs := (rateP p i (max 0 (b.2 - 1))).bands) (bo := p.bonus) ?_ ok4 ok2
      simp only [E55]
      rw [← q9]
      generalize p.bands.map pairD = B at *
      simp [n55_8, q1, q2, q3, q4, q6, q7, q8]
    · by_cases hi0 : 0 < i
      · refine done (σ' := σ2) (bs := p.bands.take i ++ p.bands.drop (i + 1)) (bo := p.bonus) ?_ (lessP_ok ok hi0) ok2
        have g1 : cutL (p.bands.map pairD) none (some (i : Int)) = (p.bands.take i).map pairD := by rw [cut_take' (by rw [List.length_map]; omega), List.map_take]
        have g2 : cutL (p.bands.map pairD) (some ((i : Int) + 1)) none = (p.bands.drop (i + 1)).map pairD := by rw [show ((i : Int) + 1) = ((i + 1 : Nat) : Int) from rfl, cutL_from, List.map_drop]
        have f1 : freezes ((p.bands.take i).map pairD) = (p.bands.take i).map pairD := fr_pairs
        have f2 : freezes ((p.bands.drop (i + 1)).map pairD) = (p.bands.drop (i + 1)).map pairD := fr_pairs
        have f3 : freezes ((p.bands.take i ++ p.bands.drop (i + 1)).map pairD) = (p.bands.take i ++ p.bands.drop (i + 1)).map pairD := fr_pairs
        have b1 : bin .add (.tup ((p.bands.take i).map pairD)) (.tup ((p.bands.drop (i + 1)).map pairD)) = some (.tup ((p.bands.take i ++ p.bands.drop (i + 1)).map pairD)) := by
          rw [bin_addT (by rw [List.length_map, List.length_map, List.length_take, List.length_drop]; show _ ≤ 1000000; omega), ← List.map_append]
        have hi' : (0 : Int) < (i : Int) := by omega
        clear q1 q2 q3 q4 q5 q6 q7 q8 q9 q10 mid same done
        simp only [E55]
        generalize (p.bands.take i ++ p.bands.drop (i + 1)).map pairD = t3 at *
        generalize (p.bands.take i).map pairD = t1 at *
        generalize (p.bands.drop (i + 1)).map pairD = t2 at *
        generalize p.bands.map pairD = B at *
        simp [n55_8, hi0, g1, g2, f1, f2, f3, b1]
      · exact same (by cases hb : p.bonus <;> simp [n55_8, E55, hi0])
    · have lm : lastB p.bands ∈ p.bands := (last_mem ok.ne (0, 0)).1
      have c2 : atI (p.bands.map pairD) (-1) = some (.tup [.int (lastB p.bands).1, .int (lastB p.bands).2]) := by
        rw [atI_last (by simpa using ok.ne), List.getLast?_map, (last_mem ok.ne (0, 0)).2]
        rfl
      have lb := ok.band _ lm
      have ll : ((p.bands.map pairD).length : Int) = p.bands.length := by rw [List.length_map]
      by_cases h5 : p.bands.length < 5
      · have h5' : ((p.bands.map pairD).length : Int) < 5 := by omega
        by_cases h9 : (lastB p.bands).1 < 999000
        · obtain ⟨r, σ3, e3, r0, r1, ok3⟩ := ex_pick ok2 (n := 900) (by decide) (by decide)
          have e3 := e3 n (by omega)
          refine done (σ' := σ3) (bs := p.bands ++ [((lastB p.bands).1 + 1 + r, (lastB p.bands).2)]) (bo := p.bonus) ?_ (moreP_ok ok h5 (by omega) (by omega) ⟨lb.2.2.1, lb.2.2.2⟩) ok3
          have b1 : bin .add (.tup (p.bands.map pairD)) (.tup [.tup [.int ((lastB p.bands).1 + 1 + r), .int (lastB p.bands).2]]) = some (.tup ((p.bands ++ [((lastB p.bands).1 + 1 + r, (lastB p.bands).2)]).map pairD)) := by
            rw [bin_addT (by rw [List.length_map]; show _ + 1 ≤ 1000000; omega), List.map_append]
            rfl
          have f3 : freezes ((p.bands ++ [((lastB p.bands).1 + 1 + r, (lastB p.bands).2)]).map pairD) = (p.bands ++ [((lastB p.bands).1 + 1 + r, (lastB p.bands).2)]).map pairD := fr_pairs
          clear q1 q2 q3 q4 q5 q6 q7 q8 q9 q10 mid same done
          simp only [E55]
          generalize (p.bands ++ [((lastB p.bands).1 + 1 + r, (lastB p.bands).2)]).map pairD = t3 at *
          generalize lastB p.bands = la at *
          generalize p.bands.map pairD = B at *
          simp [n55_8, h5', h9, c2, e3, b1, f3]
        · refine same ?_
          clear q1 q2 q3 q4 q5 q6 q7 q8 q9 q10 mid same done
          simp only [E55]
          generalize lastB p.bands = la at *
          generalize p.bands.map pairD = B at *
          cases hb : p.bonus <;> simp [n55_8, h5', h9, c2]
      · have h5' : ¬ ((p.bands.map pairD).length : Int) < 5 := by omega
        refine same ?_
        clear q1 q2 q3 q4 q5 q6 q7 q8 q9 q10 mid same done
        simp only [E55]
        generalize p.bands.map pairD = B at *
        cases hb : p.bonus <;> simp [n55_8, h5']
    · cases hb : p.bonus with
      | none => rw [hb] at same; exact same (by simp [n55_8, E55])
      | some bo =>
        rw [hb] at done
        have hbo := ok.bonus bo hb
        have hm : mulOk 2 bo.1 = true := small_mul (by omega)
        refine done (σ' := σ2) (bs := p.bands) (bo := some (min 12 (2 * bo.1), bo.2)) ?_ ⟨ok.ne, ok.len, ok.first, ok.ris, ok.band, (fun x hx => by cases hx; exact ⟨by dsimp only; omega, by dsimp only; omega, hbo.2.2.1, hbo.2.2.2⟩), ok.fee, ok.charge⟩ ok2
        simp [n55_8, E55, hm]
end PV
set_option Elab.async false
set_option linter.all false
set_option maxRecDepth 100000
set_option maxHeartbeats 4000000
/-! k71: what was seen; plans that explain it. -/
namespace PV
open PySem PySem.Spec L2
theorem psum_le {base : Int} : ∀ {b : Int × Int} {l : List (Int × Int)}, ((b :: l).map (·.1)).Pairwise (· < ·) → (∀ c ∈ b :: l, 0 ≤ c.2 ∧ c.2 ≤ 100) → psum base (b :: l) ≤ 100 * max 0 (base - b.1)
  | b, [], _, h => Int.mul_le_mul_of_nonneg_right (h b List.mem_cons_self).2 (by omega)
  | b, c :: l, hp, h => by
    have hp' := List.pairwise_cons.mp hp
    have hbc : b.1 < c.1 := hp'.1 c.1 (by simp)
    have ih := psum_le (base := base) hp'.2 fun d hd => h d (List.mem_cons_of_mem _ hd)
    have h1 : b.2 * part base c.1 b.1 ≤ 100 * part base c.1 b.1 := Int.mul_le_mul_of_nonneg_right (h b List.mem_cons_self).2 (by unfold part; omega)
    have e : part base c.1 b.1 + max 0 (base - c.1) = max 0 (base - b.1) := by unfold part; omega
    rw [psum]
    omega
theorem plain_le {p : Plan} (ok : p.Ok) {x : Int} (hx : 0 ≤ x) : plain p x ≤ 100 * x := by
  unfold plain
  split
  · have := ok.band _ (List.mem_filter.mp (last_mem (filt_ne ok hx) (0, 0)).1).1
    rw [Int.mul_comm]
    exact Int.mul_le_mul_of_nonneg_right this.2.2.2 hx
  · unfold partSum
    rw [psum_eq]
    obtain ⟨r, bs, e⟩ := ok.head
    have hr := ok.ris
    have hb : ∀ b ∈ p.bands, 0 ≤ b.2 ∧ b.2 ≤ 100 := fun b hb => ⟨(ok.band b hb).2.2.1, (ok.band b hb).2.2.2⟩
    rw [e] at hr hb ⊢
    have := psum_le (base := x) hr hb
    dsimp only at this
    omega
theorem balance_le {p : Plan} (ok : p.Ok) {x : Int} (hx : 0 ≤ x) {due : Bool} : balanceFrom p x due ≤ 2 * x + 1 := by
  have h1 := plain_le ok hx
  have h2 : thousandths p x due ≤ 200 * x := by
    unfold thousandths
    split
    · cases hb : p.bonus with
      | none =>
        show plain p x + x * 0 ≤ _
        omega
      | some b =>
        have := ok.bonus b hb
        have : x * b.2 ≤ x * 100 := Int.mul_le_mul_of_nonneg_left this.2.2.2 hx
        show plain p x + x * b.2 ≤ _
        omega
    · omega
  have h3 : interestOf p x due ≤ x + 1 := by
    unfold interestOf
    generalize thousandths p x due = t at *
    split <;> omega
  have h4 : 0 ≤ x + interestOf p x due := by
    have := thousandths_nonneg ok hx (due := due)
    unfold interestOf
    generalize thousandths p x due = t at *
    split <;> omega
  unfold balanceFrom
  dsimp only
  cases hf : p.fee with
  | none => dsimp only; omega
  | some f =>
    have := ok.fee f hf
    dsimp only
    split <;> omega
theorem eqvAll_pL : ∀ a b : List (Int × Int), PyData.eqvAll (toPys (pL a)) (toPys (pL b)) = decide (a = b)
  | [], [] => by show PyData.eqvAll (toPys []) (toPys []) = _; rw [toPys, PyData.eqvAll]; rfl
  | [], y :: b => by show PyData.eqvAll (toPys []) (toPys (pairD y :: b.map pairD)) = _; rw [toPys, toPys, PyData.eqvAll]; rfl
  | x :: a, [] => by show PyData.eqvAll (toPys (pairD x :: a.map pairD)) (toPys []) = _; rw [toPys, toPys, PyData.eqvAll]; rfl
  | x :: a, y :: b => by
    have ih := eqvAll_pL a b
    show PyData.eqvAll (toPys (pairD x :: pL a)) (toPys (pairD y :: pL b)) = _
    rw [toPys, toPys, PyData.eqvAll, ih]
    have e : PyData.eqv (pairD x).toPy (pairD y).toPy = decide (x = y) := by
      obtain ⟨x1, x2⟩ := x
      obtain ⟨y1, y2⟩ := y
      show PyData.eqv (D.tup [.int x1, .int x2]).toPy (D.tup [.int y1, .int y2]).toPy = _
      rw [D.toPy, D.toPy, PyData.eqv, toPys, toPys, toPys, toPys, toPys, toPys, PyData.eqvAll, PyData.eqvAll, PyData.eqvAll, D.toPy, D.toPy, D.toPy, D.toPy, PyData.eqv, PyData.eqv, Bool.and_true]
      by_cases h1 : x1 = y1 <;> by_cases h2 : x2 = y2 <;> simp [h1, h2]
    rw [e]
    by_cases h1 : x = y <;> by_cases h2 : a = b <;> simp [h1, h2]
theorem ne_pL {o o' : Bool} {a b : List (Int × Int)} : cmp .ne (.lst o (pL a)) (.lst o' (pL b)) = some (!decide (a = b)) := by
  have h : ∀ l : List (Int × Int), okEqs 11 (pL l) = true := fun l => okEqs_map (fun a => okEq_pair) _
  show (if (okEqs 11 (pL a) && okEqs 11 (pL b)) = true then some (!PyData.eqv (.list (toPys (pL a))) (.list (toPys (pL b)))) else none) = _
  rw [h, h, PyData.eqv, eqvAll_pL]
  rfl
theorem eq_pL {o o' : Bool} {a b : List (Int × Int)} : cmp .eq (.lst o (pL a)) (.lst o' (pL b)) = some (decide (a = b)) := by
  have h : ∀ l : List (Int × Int), okEqs 11 (pL l) = true := fun l => okEqs_map (fun a => okEq_pair) _
  show (if (okEqs 11 (pL a) && okEqs 11 (pL b)) = true then some (PyData.eqv (.list (toPys (pL a))) (.list (toPys (pL b)))) else none) = _
  rw [h, h, PyData.eqv, eqvAll_pL]
  rfl
theorem ne_tL {a b : List (Int × Int)} : cmp .ne (.tup (pL a)) (.tup (pL b)) = some (!decide (a = b)) := by
  have h : ∀ l : List (Int × Int), okEqs 11 (pL l) = true := fun l => okEqs_map (fun a => okEq_pair) _
  show (if (okEqs 11 (pL a) && okEqs 11 (pL b)) = true then some (!PyData.eqv (.tuple (toPys (pL a))) (.tuple (toPys (pL b)))) else none) = _
  rw [h, h, PyData.eqv, eqvAll_pL]
  rfl
/-! ### what was seen -/
abbrev Sight := List Int × List (Int × Int)
def sightD (s : Sight) : D := .tup [.tup (iL s.1), .tup (pL s.2)]
def seenD (l : List Sight) : List D := l.map sightD
def SightOk (s : Sight) : Prop := RowOk s.1 ∧ s.2.length = s.1.length ∧ ∀ x ∈ s.2, (0 ≤ x.1 ∧ x.1 ≤ 1000000000000) ∧ 0 ≤ x.2 ∧ x.2 ≤ 1000000000000
def SeenOk (l : List Sight) : Prop := l.length ≤ 6 ∧ ∀ s ∈ l, SightOk s
@[simp] theorem fr_sight {s : Sight} : (sightD s).freeze = sightD s := by
  have h1 : freezes (iL s.1) = iL s.1 := fr_ints
  have h2 : freezes (pL s.2) = pL s.2 := fr_pL
  show D.tup [.tup (freezes (iL s.1)), .tup (freezes (pL s.2))] = _
  rw [h1, h2]
  rfl
@[simp] theorem fr_seen {l : List Sight} : freezes (seenD l) = seenD l := freezes_map (fun _ => fr_sight) l
def explB (p : Plan) (l : List Sight) : Bool := l.all fun s => decide (toldOf p s.1 = s.2)
theorem run_sight {m : Nat} (h : 4 ≤ m) {s : Sight} (ok : SightOk s) : runs U m 210 [sightD s] = some (.bl true, []) :=
  run_ge u210 h fun n hn => by
    obtain ⟨o1, o2, o3⟩ := ok
    have e1 := run_is_row (m := n) hn o1
    have e1 : runs U n 5 [.tup (iL s.1)] = some (.bl true, []) := e1
    have l1 := o1.1
    have c1 : compV (evI (runs U n) i210_0) (store u210_0) (evB (runs U n) true c210_0) (ev (runs U n) x210_0) [2] [some (sightD s), some (.tup [.int 0, .int 1000000000000]), none] =
        some (.v (.lst true ((s.2.map fun x => (decide (0 ≤ x.1) && decide (x.1 ≤ 1000000000000)) && (decide (0 ≤ x.2) && decide (x.2 ≤ 1000000000000))).map .bl)), [some (sightD s), some (.tup [.int 0, .int 1000000000000]), none]) :=
      compV_ok (ds := pL s.2) (by simp [i210_0, sightD, pL]) (by simp [freeAt]) (by
        rw [List.map_map]
        exact compL_map pairD _ _ fun a ha => by
          have e := run_is_pair (m := n) (by omega) a 0 1000000000000 0 1000000000000
          simp [pairD] at e
          simp [compF, x210_0, u210_0, c210_0, pairD, e]) (by rw [List.length_map, List.length_map]; show _ ≤ 1000000; omega)
    have c2 := all_bools (o := true) (l := s.2.map fun x => (decide (0 ≤ x.1) && decide (x.1 ≤ 1000000000000)) && (decide (0 ≤ x.2) && decide (x.2 ≤ 1000000000000)))
    rw [all_map fun a ha => by have := o3 a ha; simp [this.1.1, this.1.2, this.2.1, this.2.2]] at c2
    generalize (s.2.map fun x => (decide (0 ≤ x.1) && decide (x.1 ≤ 1000000000000)) && (decide (0 ≤ x.2) && decide (x.2 ≤ 1000000000000))).map D.bl = w at c1 c2
    have l2 : ((pL s.2).length : Int) = ((iL s.1).length : Int) := by
      show (((s.2.map pairD).length : Nat) : Int) = (((s.1.map D.int).length : Nat) : Int)
      rw [List.length_map, List.length_map, o2]
    have f1 : freezes (iL s.1) = iL s.1 := fr_ints
    have f2 : freezes (pL s.2) = pL s.2 := fr_pL
    simp only [sightD] at c1 ⊢
    generalize iL s.1 = a at *
    generalize pL s.2 = b at *
    simp [f210, e1, c1, c2, l2, f1, f2]
theorem run_seen {m : Nat} (h : 5 ≤ m) {l : List Sight} (ok : SeenOk l) : runs U m 211 [.tup (seenD l)] = some (.non, []) :=
  run_ge u211 h fun n hn => by
    have l1 := ok.1
    have c1 : compV (evI (runs U n) i211_0) (store u211_0) (evB (runs U n) true c211_0) (ev (runs U n) x211_0) [1] [some (.tup (seenD l)), none] = some (.v (.lst true ((l.map fun _ => true).map .bl)), [some (.tup (seenD l)), none]) :=
      compV_ok (ds := l.map sightD) (by simp [i211_0]; rfl) (by simp [freeAt]) (by
        rw [List.map_map]
        exact compL_map sightD _ _ fun a ha => by
          have e := run_sight (m := n) hn (ok.2 a ha)
          simp [sightD, iL, pL] at e
          simp [compF, x211_0, u211_0, c211_0, sightD, iL, pL, e]) (by rw [List.length_map, List.length_map]; show _ ≤ 1000000; omega)
    have c2 := all_bools (o := true) (l := l.map fun _ => true)
    rw [all_map fun a ha => rfl] at c2
    have l2 : ¬ (6 : Int) < ((seenD l).length : Int) := by
      show ¬ (6 : Int) < (((l.map sightD).length : Nat) : Int)
      rw [List.length_map]
      omega
    generalize (l.map fun _ => true).map D.bl = w at c1 c2
    generalize seenD l = sd at *
    simp [f211, c1, c2, l2]
theorem run_explains {m : Nat} (h : 7 ≤ m) {p : Plan} (ok : p.Ok) {l : List Sight} (okl : SeenOk l) : runs U m 212 [.tup (planL p), .tup (seenD l)] = some (.bl (explB p l), []) :=
  run_ge u212 h fun n hn => by
    have l1 := okl.1
    have c1 : compV (evI (runs U n) i212_0) (store u212_0) (evB (runs U n) true c212_0) (ev (runs U n) x212_0) [2, 3] [some (.tup (planL p)), some (.tup (seenD l)), none, none] =
        some (.v (.lst true ((l.map fun s => decide (toldOf p s.1 = s.2)).map .bl)), [some (.tup (planL p)), some (.tup (seenD l)), none, none]) :=
      compV_ok (ds := l.map sightD) (by simp [i212_0]; rfl) (by simp [freeAt]) (by
        rw [List.map_map]
        exact compL_map sightD _ _ fun a ha => by
          have oa := okl.2 a ha
          have e := run_told_of (m := n) hn ok (row := a.1) (by have := oa.1.1; omega)
          have e : runs U n 31 [.tup (planL p), .tup (iL a.1)] = some (.lst true (pL (toldOf p a.1)), []) := e
          have e2 := fun o o' => eq_pL (o := o) (o' := o') (a := toldOf p a.1) (b := a.2)
          have f1 : freezes (iL a.1) = iL a.1 := fr_ints
          have f2 : freezes (pL a.2) = pL a.2 := fr_pL
          have es : sightD a = .tup [.tup (iL a.1), .tup (pL a.2)] := rfl
          rw [es]
          generalize pL (toldOf p a.1) = t at *
          generalize iL a.1 = r at *
          generalize pL a.2 = t2 at *
          simp [compF, x212_0, u212_0, c212_0, e, e2, f1, f2]) (by rw [List.length_map, List.length_map]; show _ ≤ 1000000; omega)
    have c2 := all_bools (o := true) (l := l.map fun s => decide (toldOf p s.1 = s.2))
    have c3 : (l.map fun s => decide (toldOf p s.1 = s.2)).all id = explB p l := by rw [List.all_map]; rfl
    rw [c3] at c2
    generalize (l.map fun s => decide (toldOf p s.1 = s.2)).map D.bl = w at c1 c2
    generalize seenD l = sd at *
    simp [f212, c1, c2]
theorem run_law_explains {m : Nat} (h : 6 ≤ m) {p : Plan} (ok : p.Ok) {l : List Sight} (okl : SeenOk l) : runs U m 216 [.tup (planL p), .tup (seenD l)] = some (.bl (explB p l), []) :=
  run_ge u216 h fun n hn => by
    have key : ∀ (k : List Sight), (∀ s ∈ k, SightOk s) → ∀ y2 y3 : Jk, (explB p k = true → ∃ y2' y3' : Jk, forC (runs U n) t216_0 b216_0 (seenD k) [some (.tup (planL p)), some (.tup (seenD l)), y2.x, y3.x] = some (.nx [some (.tup (planL p)), some (.tup (seenD l)), y2'.x, y3'.x])) ∧
        (explB p k = false → ∃ e, forC (runs U n) t216_0 b216_0 (seenD k) [some (.tup (planL p)), some (.tup (seenD l)), y2.x, y3.x] = some (.rt (.bl false) e)) := by
      intro k
      induction k with
      | nil => intro _ y2 y3; exact ⟨fun _ => ⟨y2, y3, rfl⟩, fun z => by cases z⟩
      | cons s k ih =>
        intro hk y2 y3
        have os := hk s List.mem_cons_self
        have e := run_law_told (m := n) hn ok (b := (0, 0)) (Int.le_refl 0) (row := s.1) (by have := os.1.1; omega)
        have e : runs U n 42 [.tup (planL p), .tup [.int 0, .int 0], .tup (iL s.1)] = some (.tup [.lst true (pL (toldOf p s.1)), pairD (toldFrom p (0, 0) s.1).2], []) := e
        have e2 := ne_tL (a := toldOf p s.1) (b := s.2)
        have f1 : freezes (iL s.1) = iL s.1 := fr_ints
        have f2 : freezes (pL s.2) = pL s.2 := fr_pL
        have es : sightD s = .tup [.tup (iL s.1), .tup (pL s.2)] := rfl
        have ec : explB p (s :: k) = (decide (toldOf p s.1 = s.2) && explB p k) := rfl
        have un : seenD (s :: k) = sightD s :: seenD k := rfl
        obtain ⟨i1, i2⟩ := ih (fun s hs => hk s (List.mem_cons_of_mem _ hs)) (jt (iL s.1)) (jt (pL s.2))
        rw [ec, un, es, forC_cons]
        by_cases hd : toldOf p s.1 = s.2
        · have st : ((store t216_0 (.tup [.tup (iL s.1), .tup (pL s.2)]) [some (.tup (planL p)), some (.tup (seenD l)), y2.x, y3.x]).bind fun e => evSs (runs U n) b216_0 e) = some (.nx [some (.tup (planL p)), some (.tup (seenD l)), (jt (iL s.1)).x, (jt (pL s.2)).x]) := by
            rw [decide_eq_true hd] at e2
            generalize pL (toldOf p s.1) = t at *
            generalize pairD (toldFrom p (0, 0) s.1).2 = t3 at *
            generalize iL s.1 = r at *
            generalize pL s.2 = t2 at *
            simp [t216_0, b216_0, e, e2, f1, f2, jt]
          rw [st, decide_eq_true hd, Bool.true_and]
          exact ⟨i1, i2⟩
        · have st : ∃ e, ((store t216_0 (.tup [.tup (iL s.1), .tup (pL s.2)]) [some (.tup (planL p)), some (.tup (seenD l)), y2.x, y3.x]).bind fun e => evSs (runs U n) b216_0 e) = some (.rt (.bl false) e) := by
            rw [decide_eq_false hd] at e2
            generalize pL (toldOf p s.1) = t at *
            generalize pairD (toldFrom p (0, 0) s.1).2 = t3 at *
            generalize iL s.1 = r at *
            generalize pL s.2 = t2 at *
            simp [t216_0, b216_0, e, e2, f1, f2]
          obtain ⟨e', st⟩ := st
          rw [st, decide_eq_false hd]
          exact ⟨(fun z => by cases z), fun _ => ⟨e', rfl⟩⟩
    obtain ⟨i1, i2⟩ := key l okl.2 jn jn
    simp only [jn] at i1 i2
    cases hb : explB p l with
    | true =>
      obtain ⟨y2, y3, z⟩ := i1 hb
      have fs : freezes (seenD l) = seenD l := fr_seen
      generalize seenD l = sd at *
      simp [f216, fs, z]
    | false =>
      obtain ⟨e, z⟩ := i2 hb
      have fs : freezes (seenD l) = seenD l := fr_seen
      generalize seenD l = sd at *
      simp [f216, fs, z]
end PV
set_option Elab.async false
set_option linter.all false
set_option maxRecDepth 100000
set_option maxHeartbeats 4000000
/-! k71: plans that fit, rates that explain. -/
namespace PV
open PySem PySem.Spec L2
def plansD (l : List Plan) : List D := l.map fun p => .tup (planL p)
@[simp] theorem fr_plans {l : List Plan} : freezes (plansD l) = plansD l := freezes_map (fun p => by show D.tup (freezes (planL p)) = _; rw [fr_plan]) l
def enumP : Nat → List Plan → List (Nat × Plan)
  | _, [] => []
  | n, p :: r => (n, p) :: enumP (n + 1) r
def enumPD (x : Nat × Plan) : D := .tup [.int x.1, .tup (planL x.2)]
theorem enum_plans : ∀ {l : List Plan} {n : Nat}, enumL n (plansD l) = (enumP n l).map enumPD
  | [], _ => rfl
  | p :: r, n => by
    show .tup [.int n, .tup (planL p)] :: enumL (n + 1) (plansD r) = _
    rw [enum_plans]
    rfl
theorem enumP_mem : ∀ {l : List Plan} {n : Nat} {x : Nat × Plan}, x ∈ enumP n l → x.2 ∈ l
  | p :: r, n, x, h => by
    rcases List.mem_cons.mp (show x ∈ (n, p) :: enumP (n + 1) r from h) with z | z
    · rw [z]; exact List.mem_cons_self
    · exact List.mem_cons_of_mem _ (enumP_mem z)
theorem enumP_len : ∀ {l : List Plan} {n : Nat}, (enumP n l).length = l.length
  | [], _ => rfl
  | p :: r, n => by
    show (enumP (n + 1) r).length + 1 = r.length + 1
    rw [enumP_len]
def fitI (l : List Plan) (s : List Sight) : List Int := ((enumP 0 l).filter fun x => explB x.2 s).map fun x => (x.1 : Int)
theorem fitI_D {l : List Plan} {s : List Sight} : iL (fitI l s) = ((enumP 0 l).filter fun x => explB x.2 s).map fun x => D.int (x.1 : Int) := by
  unfold iL fitI
  rw [List.map_map]
  rfl
theorem run_fitting {m : Nat} (h : 8 ≤ m) {l : List Plan} (okl : ∀ p ∈ l, p.Ok) (h1 : 1 ≤ l.length) (h6 : l.length ≤ 6) {s : List Sight} (oks : SeenOk s) : runs U m 213 [.tup (plansD l), .tup (seenD s)] = some (.lst true (iL (fitI l s)), []) :=
  run_ge u213 h fun n hn => by
    have e1 := run_seen (m := n) (by omega) oks
    have c1 : compV (evI (runs U n) i213_0) (store u213_0) (evB (runs U n) true c213_0) (ev (runs U n) x213_0) [3] [some (.tup (plansD l)), some (.tup (seenD s)), none, none] = some (.v (.lst true ((l.map fun _ => true).map .bl)), [some (.tup (plansD l)), some (.tup (seenD s)), none, none]) :=
      compV_ok (ds := plansD l) (by simp [i213_0]) (by simp [freeAt]) (by
        rw [List.map_map]
        exact compL_map (fun p : Plan => D.tup (planL p)) _ _ fun a ha => by
          have e := run_is_plan (m := n) (by omega) (okl a ha)
          simp [compF, x213_0, u213_0, c213_0, e]) (by rw [List.length_map, List.length_map]; show _ ≤ 1000000; omega)
    have c2 := all_bools (o := true) (l := l.map fun _ => true)
    rw [all_map fun a ha => rfl] at c2
    have c3 : compV (evI (runs U n) i213_1) (store u213_1) (evB (runs U n) true c213_1) (ev (runs U n) x213_1) [2, 3] [some (.tup (plansD l)), some (.tup (seenD s)), none, none] = some (.v (.lst true (iL (fitI l s))), [some (.tup (plansD l)), some (.tup (seenD s)), none, none]) := by
      rw [fitI_D]
      exact compV_ok (ds := (enumP 0 l).map enumPD) (by simp [i213_1, enum_plans]) (by simp [freeAt]) (compL_enc enumPD _ _ _ fun x hx => by
        have e := run_explains (m := n) (by omega) (okl _ (enumP_mem hx)) oks
        cases hb : explB x.2 s <;> rw [hb] at e <;> simp [compF, x213_1, u213_1, c213_1, enumPD, e]) (by
          rw [List.length_map]
          refine Nat.le_trans (List.length_filter_le _ _) ?_
          rw [enumP_len]
          show _ ≤ 1000000
          omega)
    have l2 : (1 : Int) ≤ ((plansD l).length : Int) := by
      show (1 : Int) ≤ (((l.map _).length : Nat) : Int)
      rw [List.length_map]
      omega
    have l3 : ((plansD l).length : Int) ≤ 6 := by
      show (((l.map _).length : Nat) : Int) ≤ 6
      rw [List.length_map]
      omega
    generalize (l.map fun _ => true).map D.bl = w at c1 c2
    generalize iL (fitI l s) = r at *
    have fpd : freezes (plansD l) = plansD l := fr_plans
    generalize plansD l = pd at *
    have fsd : freezes (seenD s) = seenD s := fr_seen
    generalize seenD s = sd at *
    simp [f213, fsd, fpd, e1, c1, c2, c3, l2, l3]
/-! ### rates -/
def goodR (p : Plan) (i : Nat) (s : List Sight) (k : Nat) : List Int := ((rangeI 0 101).take k).filter fun r => explB (rateP p i r) s
theorem good_len {p : Plan} {i : Nat} {s : List Sight} {k : Nat} : (goodR p i s k).length ≤ k := by
  refine Nat.le_trans (List.length_filter_le _ _) ?_
  rw [List.length_take]
  omega
theorem good_next {p : Plan} {i : Nat} {s : List Sight} {k : Nat} {x : Int} (h : (rangeI 0 101)[k]? = some x) : goodR p i s (k + 1) = if explB (rateP p i x) s = true then goodR p i s k ++ [x] else goodR p i s k := by
  unfold goodR
  rw [List.take_add_one, h, List.filter_append]
  show _ ++ List.filter _ [x] = _
  rw [List.filter_cons]
  split <;> simp
theorem good_ris {p : Plan} {i : Nat} {s : List Sight} {k : Nat} : (goodR p i s k).Pairwise (· < ·) := List.Pairwise.sublist (List.filter_sublist.trans (List.take_sublist _ _)) rangeI_ris
theorem rate_index {p : Plan} {i : Nat} (hi : i < p.bands.length) : (decide ((0 : Int) ≤ (i : Int)) && decide ((i : Int) ≤ (((p.bands.map pairD).length : Nat) : Int) - 1)) = true := by
  rw [List.length_map]
  simp
  omega
theorem step215 {n : Nat} (hn : 8 ≤ n) {p : Plan} (ok : p.Ok) {i : Nat} (hi : i < p.bands.length) {s : List Sight} (oks : SeenOk s) {x : Int} {k : Nat} (hx : (rangeI 0 101)[k]? = some x) {y4 y5 : Jk} :
    ∃ y4' y5' : Jk, ((store t215_0 (.int x) [some (.tup (planL p)), some (.int (i : Int)), some (.tup (seenD s)), some (.lst true (pL ((goodR p i s k).map fun r => (r, r)))), y4.x, y5.x]).bind fun e => evSs (runs U n) b215_0 e) =
      some (.nx [some (.tup (planL p)), some (.int (i : Int)), some (.tup (seenD s)), some (.lst true (pL ((goodR p i s (k + 1)).map fun r => (r, r)))), y4'.x, y5'.x]) := by
  have hr := mem_rangeI.mp (List.mem_of_getElem? hx)
  obtain ⟨T1, T2, T3, T4, b, hb0, q1, q2, q3, q4, q5, q6, q7, q8, q9, q10⟩ := rate_facts ok hi x
  have e := run_explains (m := n) (by omega) (rateP_ok ok hi (r := x) (by omega)) oks
  have gl := good_len (p := p) (i := i) (s := s) (k := k)
  have hk := at_len hx
  rw [len_rangeI] at hk
  have ll : (pL ((goodR p i s k).map fun r => (r, r))).length < 1000000 := by
    unfold pL
    rw [List.length_map, List.length_map]
    omega
  refine ⟨ji x, jt T4, ?_⟩
  rw [good_next hx]
  have fq : freezes (planL (rateP p i x)) = planL (rateP p i x) := fr_plan
  have ep : pL ((goodR p i s k ++ [x]).map fun r => (r, r)) = pL ((goodR p i s k).map fun r => (r, r)) ++ [.tup [.int x, .int x]] := by
    unfold pL
    rw [List.map_append, List.map_append]
    rfl
  clear q9
  generalize planL (rateP p i x) = pq at *
  generalize hB : p.bands.map pairD = B at *
  have hpl : ∀ k, atI (planL p) k = atI [.tup B, .str (mS p.whole), .str (rS p.half), optP p.bonus, optP p.fee, .int p.charge] k := fun k => by rw [planL, hB]
  have hp0 : atI (planL p) 0 = some (.tup B) := by rw [planL, hB]; simp
  have fB : freezes B = B := by rw [← hB]; exact fr_pairs
  have hcu : cutL (planL p) (some 1) none = [.str (mS p.whole), .str (rS p.half), optP p.bonus, optP p.fee, .int p.charge] := by rw [planL, cutL_1]; rfl
  generalize planL p = P at *
  cases hb : explB (rateP p i x) s with
  | true =>
    rw [hb] at e
    rw [if_pos rfl, ep]
    generalize pL ((goodR p i s k).map fun r => (r, r)) = G at *
    have fsd : freezes (seenD s) = seenD s := fr_seen
    generalize seenD s = sd at *
    simp [t215_0, b215_0, fsd, hp0, hcu, q1, q2, q3, q4, q5, q6, q7, q8, q10, e, fq, ll, ji, jt, -plan_0, -cutL_1]
  | false =>
    rw [hb] at e
    rw [if_neg (by decide)]
    generalize pL ((goodR p i s k).map fun r => (r, r)) = G at *
    have fsd : freezes (seenD s) = seenD s := fr_seen
    generalize seenD s = sd at *
    simp [t215_0, b215_0, fsd, hp0, hcu, q1, q2, q3, q4, q5, q6, q7, q8, q10, e, fq, ll, ji, jt, -plan_0, -cutL_1]
def goodA (p : Plan) (i : Nat) (s : List Sight) : List Int := goodR p i s 101
theorem run_rates_for {m : Nat} (h : 9 ≤ m) {p : Plan} (ok : p.Ok) {i : Nat} (hi : i < p.bands.length) {s : List Sight} (oks : SeenOk s) : runs U m 215 [.tup (planL p), .int (i : Int), .tup (seenD s)] = some (.lst true (pL (rangesF (goodA p i s))), []) :=
  run_ge u215 h fun n hn => by
    have e1 := run_req_plan (m := n) (by omega) ok
    have e2 := run_is_integer (m := n) (by omega) (i : Int) 0 ((((p.bands.map pairD).length : Nat) : Int) - 1)
    rw [rate_index hi] at e2
    have e3 := run_seen (m := n) (by omega) oks
    have er : rangeD [.int 101] = some (iL (rangeI 0 101)) := rangeD1 (by decide)
    obtain ⟨e', z1, z2⟩ := forC_ex (C := runs U n) (tg := t215_0) (b := b215_0)
      (fun k e => ∃ y4 y5 : Jk, e = [some (.tup (planL p)), some (.int (i : Int)), some (.tup (seenD s)), some (.lst true (pL ((goodR p i s k).map fun r => (r, r)))), y4.x, y5.x])
      (iL (rangeI 0 101)) 0 [some (.tup (planL p)), some (.int (i : Int)), some (.tup (seenD s)), some (.lst true []), none, none] ⟨jn, jn, rfl⟩ (by
        rintro k d e hd ⟨y4, y5, rfl⟩
        rw [Nat.zero_add]
        obtain ⟨x, hx, rfl⟩ := iL_at hd
        obtain ⟨y4', y5', q⟩ := step215 (n := n) hn ok hi oks hx (y4 := y4) (y5 := y5)
        exact ⟨_, q, y4', y5', rfl⟩)
    obtain ⟨y4, y5, rfl⟩ := z2
    rw [Nat.zero_add, len_ints, len_rangeI, show ((101 : Int) - 0).toNat = 101 from rfl] at z1
    have gl := good_len (p := p) (i := i) (s := s) (k := 101)
    have e4 := run_joinedT (m := n) (by omega) (s := (goodR p i s 101).map fun r => (r, r)) (by rw [List.length_map]; omega)
    have ej : joinT ((goodR p i s 101).map fun r => (r, r)) = rangesF (goodA p i s) := by
      have gr := good_ris (p := p) (i := i) (s := s) (k := 101)
      unfold goodA
      rw [rangesF_eq gr]
      refine joinT_eq (fun q hq => ?_) ?_
      · obtain ⟨r, _, rfl⟩ := List.mem_map.mp hq
        exact Int.le_refl _
      · rw [List.pairwise_map]
        exact gr
    rw [ej] at e4
    have fp : freezes (pL ((goodR p i s 101).map fun r => (r, r))) = pL ((goodR p i s 101).map fun r => (r, r)) := fr_pL
    generalize iL (rangeI 0 101) = rg at *
    generalize pL ((goodR p i s 101).map fun r => (r, r)) = gd at *
    generalize pL (rangesF (goodA p i s)) = rr at *
    have fsd : freezes (seenD s) = seenD s := fr_seen
    generalize seenD s = sd at *
    generalize hB : p.bands.map pairD = B at *
    have hp0 : atI (planL p) 0 = some (.tup B) := by rw [planL, hB]; simp
    have fq : freezes (planL p) = planL p := fr_plan
    generalize planL p = P at *
    simp [f215, fsd, e1, e2, e3, er, z1, e4, hp0, fq, fp, -plan_0]
end PV
set_option Elab.async false
set_option linter.all false
set_option maxRecDepth 100000
set_option maxHeartbeats 4000000
/-! k71: what is seen; the law. -/
namespace PV
open PySem PySem.Spec L2
def Bd (x : Int × Int) : Prop := (0 ≤ x.1 ∧ x.1 ≤ 400000) ∧ 0 ≤ x.2 ∧ x.2 ≤ 400000
def bdN : Nat → Int
  | 0 => 0
  | k + 1 => 2 * bdN k + 6001
theorem bdN_le : ∀ {k j : Nat}, bdN k ≤ bdN (k + j) ∧ 0 ≤ bdN k
  | 0, 0 => ⟨Int.le_refl _, Int.le_refl _⟩
  | k + 1, 0 => ⟨Int.le_refl _, by have := (bdN_le (k := k) (j := 0)).2; show 0 ≤ 2 * bdN k + 6001; omega⟩
  | k, j + 1 => by
    obtain ⟨a, b⟩ := bdN_le (k := k) (j := j)
    refine ⟨?_, b⟩
    show bdN k ≤ 2 * bdN (k + j) + 6001
    omega
theorem month_bd {p : Plan} (ok : p.Ok) {b : Int × Int} {B x : Int} (h0 : 0 ≤ b.1) (hB : b.1 ≤ B) (hx : -3000 ≤ x ∧ x ≤ 3000) : 0 ≤ (monthOf p b x).1 ∧ (monthOf p b x).1 ≤ B ∧ 0 ≤ (monthOf p b x).2.1 ∧ (monthOf p b x).2.1 ≤ 2 * B + 6001 := by
  unfold monthOf
  split
  · rename_i hn
    have ht : 0 ≤ min b.1 (-x) := by omega
    have hk : keptOf p (min b.1 (-x)) ≤ min b.1 (-x) ∧ 0 ≤ keptOf p (min b.1 (-x)) := by
      generalize min b.1 (-x) = t at *
      have hc := ok.charge
      have h1 : t * p.charge ≤ t * 500 := Int.mul_le_mul_of_nonneg_left hc.2 ht
      have h2 : 0 ≤ t * p.charge := Int.mul_nonneg ht hc.1
      unfold keptOf
      generalize t * p.charge = u at *
      omega
    have a := balance_nonneg ok (base := b.1 - min b.1 (-x)) (by omega) (due := false)
    have c := balance_le ok (x := b.1 - min b.1 (-x)) (by omega) (due := false)
    dsimp only
    exact ⟨by omega, by omega, a, by omega⟩
  · have a := balance_nonneg ok (base := b.1 + x) (by omega) (due := isDue p (b.2 + 1))
    have c := balance_le ok (x := b.1 + x) (by omega) (due := isDue p (b.2 + 1))
    dsimp only
    exact ⟨Int.le_refl _, by omega, a, by omega⟩
theorem told_bd {p : Plan} (ok : p.Ok) : ∀ (row : List Int) (fo : List (Int × Int)) (b : Int × Int) (k : Nat), k + row.length ≤ 6 → (∀ x ∈ row, -3000 ≤ x ∧ x ≤ 3000) → 0 ≤ b.1 → b.1 ≤ bdN k → (∀ x ∈ fo, Bd x) → ∀ x ∈ (row.foldl (toldStep p) (fo, b)).1, Bd x
  | [], fo, b, k, _, _, _, _, h => h
  | a :: r, fo, b, k, hk, hr, h0, hB, h => by
    rw [List.length_cons] at hk
    obtain ⟨m1, m2, m3, m4⟩ := month_bd ok h0 hB (hr a List.mem_cons_self)
    have hb6 : bdN (k + 1) ≤ 400000 := by
      have := (bdN_le (k := k + 1) (j := 6 - (k + 1))).1
      rw [show k + 1 + (6 - (k + 1)) = 6 by omega] at this
      exact Int.le_trans this (by decide)
    have e1 : bdN (k + 1) = 2 * bdN k + 6001 := rfl
    have n0 := (bdN_le (k := k) (j := 0)).2
    refine told_bd ok r _ _ (k + 1) (by omega) (fun x hx => hr x (List.mem_cons_of_mem _ hx)) m3 (by show (monthOf p b a).2.1 ≤ _; omega) fun x hx => ?_
    rcases List.mem_append.mp hx with z | z
    · exact h x z
    · rw [List.mem_singleton.mp z]
      exact ⟨⟨m1, by dsimp only; omega⟩, m3, by dsimp only; omega⟩
theorem told_len {p : Plan} (ok : p.Ok) {row : List Int} (h : row.length ≤ 1000) : (toldOf p row).length = row.length := (run_told_from (m := 5) (by decide) ok (b := (0, 0)) (Int.le_refl 0) h).2.1
theorem step217 {n : Nat} (hn : 5 ≤ n) {p : Plan} (ok : p.Ok) {σ : Src} (hσ : σ.Ok) {l : List Sight} (hl : l.length ≤ 1000) {t : Int} {y3 y4 y5 y6 : Jk} :
    ∃ (s : Sight) (σ' : Src) (z3 z4 z5 z6 : Jk), ((store t217_0 (.int t) [some (.io (srcL σ)), some (.tup (planL p)), some (.lst true (seenD l)), y3.x, y4.x, y5.x, y6.x]).bind fun e => evSs (runs U n) b217_0 e) =
      some (.nx [some (.io (srcL σ')), some (.tup (planL p)), some (.lst true (seenD (l ++ [s]))), z3.x, z4.x, z5.x, z6.x]) ∧ SightOk s ∧ σ'.Ok := by
  obtain ⟨row, σ1, e1, rl, rb, ok1⟩ := ex_row (m := n) (by omega) hσ (most := 6) (wide := 3000) (by decide) (by decide)
  have rl : row.length ≤ 6 := rl
  have e2 := run_law_told (m := n) (by omega) ok (b := (0, 0)) (Int.le_refl 0) (row := row) (by omega)
  have e2 : runs U n 42 [.tup (planL p), .tup [.int 0, .int 0], .tup (iL row)] = some (.tup [.lst true (pL (toldOf p row)), pairD (toldFrom p (0, 0) row).2], []) := e2
  have e1 : runs U n 15 [.io (srcL σ), .int 6, .int 3000] = some (.tup (iL row), srcL σ1) := e1
  have tb := told_bd ok row [] (0, 0) 0 (by omega) rb (Int.le_refl 0) (Int.le_refl 0) (fun x hx => by cases hx)
  have tb : ∀ x ∈ toldOf p row, Bd x := tb
  have tl := told_len ok (row := row) (by omega)
  have ro : RowOk row := ⟨by omega, fun x hx => by have := rb x hx; omega⟩
  have ll : (seenD l).length < 1000000 := by unfold seenD; rw [List.length_map]; omega
  have fr : freezes (iL row) = iL row := fr_ints
  have hs : ∀ t : List (Int × Int), seenD (l ++ [(row, t)]) = seenD l ++ [.tup [.tup (iL row), .tup (pL t)]] := fun t => by unfold seenD; rw [List.map_append]; rfl
  have ft : ∀ t : List (Int × Int), freezes (pL t) = pL t := fun t => fr_pL
  generalize htt : toldOf p row = T at *
  generalize pairD (toldFrom p (0, 0) row).2 = T3 at *
  have ne := ne_tL (a := T) (b := [])
  have keep : SightOk (row, T) := ⟨ro, tl, fun x hx => by have := tb x hx; unfold Bd at this; omega⟩
  by_cases h0 : T = []
  · rw [decide_eq_true h0] at ne
    have ne : cmp .ne (.tup (pL T)) (.tup []) = some false := ne
    refine ⟨(row, T), σ1, ji t, jt (iL row), jt (pL T), y6, ?_, keep, ok1⟩
    rw [hs]
    have f1 := ft T
    generalize pL T = pT at *
    generalize seenD l = sd at *
    generalize iL row = rd at *
    simp [t217_0, b217_0, e1, e2, ne, f1, fr, ll, ji, jt]
  · rw [decide_eq_false h0] at ne
    have ne : cmp .ne (.tup (pL T)) (.tup []) = some true := ne
    obtain ⟨r, σ2, e3, r0, r1, ok2⟩ := ex_pick ok1 (n := 8) (by decide) (by decide)
    have e3 := e3 n (by omega)
    by_cases hr : r = 0
    · subst hr
      have lt : 0 < T.length := List.length_pos_iff.mpr h0
      obtain ⟨at_, σ3, e4, a0, a1, ok3⟩ := ex_pick ok2 (n := (T.length : Int)) (by omega) (by omega)
      have e4 := e4 n (by omega)
      obtain ⟨i, rfl⟩ : ∃ i : Nat, at_ = i := ⟨at_.toNat, by omega⟩
      have hi : i < T.length := by omega
      have lenT : ((pL T).length : Int) = T.length := by unfold pL; rw [List.length_map]
      rw [← lenT] at e4
      have q1 : cutL (pL T) none (some (i : Int)) = pL (T.take i) := by unfold pL; rw [cut_take' (by rw [List.length_map]; omega), List.map_take]
      have q3 : cutL (pL T) (some ((i : Int) + 1)) none = pL (T.drop (i + 1)) := by unfold pL; rw [show ((i : Int) + 1) = ((i + 1 : Nat) : Int) from rfl, cutL_from, List.map_drop]
      have q5 : atI (pL T) (i : Int) = some (.tup [.int (T[i]).1, .int (T[i]).2]) := by
        unfold pL
        rw [atI_nat (by omega) (by rw [List.length_map]; omega), List.getElem?_map, Int.toNat_natCast, List.getElem?_eq_getElem hi]
        rfl
      have q6 : bin .add (.tup (pL (T.take i))) (.tup [.tup [.int (T[i]).1, .int ((T[i]).2 + 1)]]) = some (.tup (pL (T.take i ++ [((T[i]).1, (T[i]).2 + 1)]))) := by
        unfold pL
        rw [bin_addT (by rw [List.length_map, List.length_take]; show _ + 1 ≤ 1000000; omega), List.map_append]
        rfl
      have q7 : bin .add (.tup (pL (T.take i ++ [((T[i]).1, (T[i]).2 + 1)]))) (.tup (pL (T.drop (i + 1)))) = some (.tup (pL (T.take i ++ [((T[i]).1, (T[i]).2 + 1)] ++ T.drop (i + 1)))) := by
        unfold pL
        rw [bin_addT (by rw [List.length_map, List.length_map, List.length_append, List.length_take, List.length_drop]; show _ + 1 + _ ≤ 1000000; omega), ← List.map_append]
      refine ⟨(row, T.take i ++ [((T[i]).1, (T[i]).2 + 1)] ++ T.drop (i + 1)), σ3, ji t, jt (iL row), jt (pL (T.take i ++ [((T[i]).1, (T[i]).2 + 1)] ++ T.drop (i + 1))), ji (i : Int), ?_, ⟨ro, ?_, fun x hx => ?_⟩, ok3⟩
      · rw [hs]
        have f1 := ft T
        have f2 := ft (T.take i)
        have f3 := ft (T.drop (i + 1))
        have f4 := ft (T.take i ++ [((T[i]).1, (T[i]).2 + 1)] ++ T.drop (i + 1))
        generalize pL (T.take i ++ [((T[i]).1, (T[i]).2 + 1)] ++ T.drop (i + 1)) = p4 at *
        generalize pL (T.take i ++ [((T[i]).1, (T[i]).2 + 1)]) = p3 at *
        generalize pL (T.take i) = p1 at *
        generalize pL (T.drop (i + 1)) = p2 at *
        generalize pL T = pT at *
        generalize seenD l = sd at *
        generalize iL row = rd at *
        simp [t217_0, b217_0, e1, e2, ne, e3, e4, q1, q3, q5, q6, q7, f1, f2, f3, f4, fr, ll, ji, jt]
      · show (T.take i ++ [((T[i]).1, (T[i]).2 + 1)] ++ T.drop (i + 1)).length = row.length
        rw [List.length_append, List.length_append, List.length_take, List.length_drop, List.length_singleton]
        omega
      · have hm : ∀ y ∈ T, Bd y := tb
        rcases List.mem_append.mp hx with z | z
        · rcases List.mem_append.mp z with z | z
          · have := hm x (List.mem_of_mem_take z)
            unfold Bd at this
            omega
          · rw [List.mem_singleton.mp z]
            have := hm T[i] (List.getElem_mem hi)
            unfold Bd at this
            dsimp only
            omega
        · have := hm x (List.mem_of_mem_drop z)
          unfold Bd at this
          omega
    · refine ⟨(row, T), σ2, ji t, jt (iL row), jt (pL T), y6, ?_, keep, ok2⟩
      rw [hs]
      have f1 := ft T
      generalize pL T = pT at *
      generalize seenD l = sd at *
      generalize iL row = rd at *
      simp [t217_0, b217_0, e1, e2, ne, e3, hr, f1, fr, ll, ji, jt]
theorem ex_seen {m : Nat} (h : 6 ≤ m) {p : Plan} (ok : p.Ok) {σ : Src} (hσ : σ.Ok) : ∃ (s : List Sight) (σ' : Src), runs U m 217 [.io (srcL σ), .tup (planL p)] = some (.tup (seenD s), srcL σ') ∧ SeenOk s ∧ σ'.Ok := by
  obtain ⟨n, rfl⟩ := Nat.exists_eq_add_of_le' (Nat.le_trans (by decide : 1 ≤ 6) h)
  rw [run_one u217]
  obtain ⟨w, σ1, e1, w0, w1, ok1⟩ := ex_pick hσ (n := 5) (by decide) (by decide)
  have e1 := e1 n (by omega)
  obtain ⟨e', z1, z2⟩ := forC_ex (C := runs U n) (tg := t217_0) (b := b217_0)
    (fun k e => ∃ (τ : Src) (l : List Sight) (y3 y4 y5 y6 : Jk), τ.Ok ∧ l.length = k ∧ (∀ s ∈ l, SightOk s) ∧ e = [some (.io (srcL τ)), some (.tup (planL p)), some (.lst true (seenD l)), y3.x, y4.x, y5.x, y6.x])
    (iL (rangeI 0 w)) 0 [some (.io (srcL σ1)), some (.tup (planL p)), some (.lst true []), none, none, none, none] ⟨σ1, [], jn, jn, jn, jn, ok1, rfl, (fun _ z => by cases z), rfl⟩ (by
      rintro k d e hd ⟨τ, l, y3, y4, y5, y6, hτ, hl, hs, rfl⟩
      obtain ⟨x, hx, rfl⟩ := iL_at hd
      obtain ⟨rfl, hk⟩ := rangeI_at hx
      obtain ⟨s, τ', z3, z4, z5, z6, q, os, hτ'⟩ := step217 (n := n) (by omega) ok hτ (l := l) (by omega) (t := 0 + (k : Int)) (y3 := y3) (y4 := y4) (y5 := y5) (y6 := y6)
      refine ⟨_, q, τ', l ++ [s], z3, z4, z5, z6, hτ', by rw [List.length_append, hl]; rfl, fun s' hs' => ?_, rfl⟩
      rcases List.mem_append.mp hs' with z | z
      · exact hs s' z
      · rw [List.mem_singleton.mp z]; exact os)
  obtain ⟨τ, l, y3, y4, y5, y6, hτ, hl, hs, rfl⟩ := z2
  rw [Nat.zero_add, len_ints, len_rangeI] at hl
  have er : rangeD [.int w] = some (iL (rangeI 0 w)) := rangeD1 (by omega)
  refine ⟨l, τ, ?_, ⟨by omega, hs⟩, hτ⟩
  generalize iL (rangeI 0 w) = rg at *
  generalize seenD l = sd at *
  simp [f217, e1, er, z1]
end PV
set_option Elab.async false
set_option linter.all false
set_option maxRecDepth 100000
set_option maxHeartbeats 4000000
/-! k71: the law. -/
namespace PV
open PySem PySem.Spec L2
theorem step218 {n : Nat} (hn : 8 ≤ n) {p : Plan} (ok : p.Ok) {i : Nat} (hi : i < p.bands.length) {s : List Sight} (oks : SeenOk s) {x : Int} {k : Nat} (hx : (rangeI 0 101)[k]? = some x) {x0 x1 x3 x4 x6 x11 : Option D} {y7 y10 : Jk} :
    ∃ y7' y10' : Jk, ((store t218_0 (.int x) [x0, x1, some (.tup (planL p)), x3, x4, some (.tup (seenD s)), x6, y7.x, some (.int (i : Int)), some (.lst true (iL (goodR p i s k))), y10.x, x11]).bind fun e => evSs (runs U n) b218_0 e) =
      some (.nx [x0, x1, some (.tup (planL p)), x3, x4, some (.tup (seenD s)), x6, y7'.x, some (.int (i : Int)), some (.lst true (iL (goodR p i s (k + 1)))), y10'.x, x11]) := by
  have hr := mem_rangeI.mp (List.mem_of_getElem? hx)
  obtain ⟨T1, T2, T3, T4, b, hb0, q1, q2, q3, q4, q5, q6, q7, q8, q9, q10⟩ := rate_facts ok hi x
  have e := run_law_explains (m := n) (by omega) (rateP_ok ok hi (r := x) (by omega)) oks
  have gl := good_len (p := p) (i := i) (s := s) (k := k)
  have hk := at_len hx
  rw [len_rangeI] at hk
  have ll : (iL (goodR p i s k)).length < 1000000 := by
    unfold iL
    rw [List.length_map]
    omega
  refine ⟨ji x, jt T4, ?_⟩
  rw [good_next hx]
  have fq : freezes (planL (rateP p i x)) = planL (rateP p i x) := fr_plan
  have ep : iL (goodR p i s k ++ [x]) = iL (goodR p i s k) ++ [.int x] := by
    unfold iL
    rw [List.map_append]
    rfl
  clear q9
  generalize planL (rateP p i x) = pq at *
  generalize hB : p.bands.map pairD = B at *
  have hp0 : atI (planL p) 0 = some (.tup B) := by rw [planL, hB]; simp
  have fB : freezes B = B := by rw [← hB]; exact fr_pairs
  have hcu : cutL (planL p) (some 1) none = [.str (mS p.whole), .str (rS p.half), optP p.bonus, optP p.fee, .int p.charge] := by rw [planL, cutL_1]; rfl
  have fsd : freezes (seenD s) = seenD s := fr_seen
  generalize planL p = P at *
  cases hb : explB (rateP p i x) s with
  | true =>
    rw [hb] at e
    rw [if_pos rfl, ep]
    generalize iL (goodR p i s k) = G at *
    generalize seenD s = sd at *
    simp [t218_0, b218_0, fsd, hp0, hcu, q1, q2, q3, q4, q5, q6, q7, q8, q10, e, fq, ll, ji, jt, -plan_0, -cutL_1]
  | false =>
    rw [hb] at e
    rw [if_neg (by decide)]
    generalize iL (goodR p i s k) = G at *
    generalize seenD s = sd at *
    simp [t218_0, b218_0, fsd, hp0, hcu, q1, q2, q3, q4, q5, q6, q7, q8, q10, e, fq, ll, ji, jt, -plan_0, -cutL_1]
theorem all_rates : rangesF (rangeI 0 101) = [(0, 100)] := by decide +kernel
theorem good_all {p : Plan} {i : Nat} : goodA p i [] = rangeI 0 101 := by
  unfold goodA goodR
  rw [List.take_of_length_le (by rw [len_rangeI]; decide)]
  exact List.filter_eq_self.mpr fun _ _ => rfl
theorem k71_turn {n : Nat} (hn : 10 ≤ n) (ns : List Int) {k : Int} (hk : 0 ≤ k ∧ k ≤ 1000) {y1 y2 y3 y4 y5 y6 y7 y9 y10 : Jk} {o8 : Option Int} :
    ∃ (z1 z2 z3 z4 z5 z6 z7 z9 z10 : Jk) (p8 : Option Int), ((store t218_1 (.int k) [some (.scr ns), y1.x, y2.x, y3.x, y4.x, y5.x, y6.x, y7.x, o8.map .int, y9.x, y10.x, none]).bind fun e => evSs (runs U n) b218_1 e) =
      some (.nx [some (.scr ns), z1.x, z2.x, z3.x, z4.x, z5.x, z6.x, z7.x, p8.map .int, z9.x, z10.x, none]) := by
  obtain ⟨σ, e1, ok0⟩ := ex_source (m := n) (by omega) ns hk
  obtain ⟨p, σ1, e2, ok, ok1⟩ := ex_plan (m := n) (by omega) ok0 (wide := 2000) (by decide)
  obtain ⟨pa, σ2, e3, oka, ok2⟩ := ex_near (m := n) (by omega) ok ok1
  obtain ⟨pb, σ3, e4, okb, ok3⟩ := ex_near (m := n) (by omega) ok ok2
  obtain ⟨pc, σ4, e5, okc, ok4⟩ := ex_plan (m := n) (by omega) ok3 (wide := 2000) (by decide)
  obtain ⟨s, σ5, e6, oks, ok5⟩ := ex_seen (m := n) (by omega) ok ok4
  have okl : ∀ q ∈ [p, pa, pb, pc], Plan.Ok q := fun q hq => by
    simp only [List.mem_cons, List.not_mem_nil, or_false] at hq
    rcases hq with rfl | rfl | rfl | rfl <;> assumption
  have okn : SeenOk [] := ⟨by decide, fun _ z => by cases z⟩
  have e7 := run_fitting (m := n) (by omega) okl (show 1 ≤ 4 by decide) (show 4 ≤ 6 by decide) oks
  have e8 := run_fitting (m := n) (by omega) (l := [p]) (fun q hq => by rw [List.mem_singleton.mp hq]; exact ok) (show 1 ≤ 1 by decide) (show 1 ≤ 6 by decide) okn
  have l1 : 0 < p.bands.length := List.length_pos_iff.mpr ok.ne
  have l5 := ok.len
  obtain ⟨at_, σ6, e9, a0, a1, ok6⟩ := ex_pick ok5 (n := (p.bands.length : Int)) (by omega) (by omega)
  have e9 := e9 n (by omega)
  obtain ⟨i, rfl⟩ : ∃ i : Nat, at_ = i := ⟨at_.toNat, by omega⟩
  have hi : i < p.bands.length := by omega
  have e10 := run_rates_for (m := n) (by omega) ok hi oks
  have e11 := run_rates_for (m := n) (by omega) ok hi okn
  rw [good_all, all_rates] at e11
  have e12 := run_ranges (m := n) (by omega) (s := goodA p i s) (by have := good_len (p := p) (i := i) (s := s) (k := 101); unfold goodA; omega)
  have c1 : ∀ (z1 z3 z7 z9 z10 : Option D), compV (evI (runs U n) i218_0) (store u218_0) (evB (runs U n) true c218_0) (ev (runs U n) x218_0) [8, 11] [some (.scr ns), z1, some (.tup (planL p)), z3, some (.tup (plansD [p, pa, pb, pc])), some (.tup (seenD s)), y6.x, z7, o8.map .int, z9, z10, none] =
      some (.v (.lst true (iL (fitI [p, pa, pb, pc] s))), [some (.scr ns), z1, some (.tup (planL p)), z3, some (.tup (plansD [p, pa, pb, pc])), some (.tup (seenD s)), y6.x, z7, o8.map .int, z9, z10, none]) := fun z1 z3 z7 z9 z10 => by
    rw [fitI_D]
    exact compV_ok (ds := (enumP 0 [p, pa, pb, pc]).map enumPD) (by simp [i218_0, enum_plans]) (by cases o8 <;> simp [freeAt]) (compL_enc enumPD _ _ _ fun x hx => by
      have e := run_law_explains (m := n) (by omega) (okl _ (enumP_mem hx)) oks
      have fsd : freezes (seenD s) = seenD s := fr_seen
      generalize seenD s = sd at *
      cases hb : explB x.2 s <;> rw [hb] at e <;> simp [compF, x218_0, u218_0, c218_0, enumPD, fsd, e]) (by
        rw [List.length_map]
        refine Nat.le_trans (List.length_filter_le _ _) ?_
        rw [enumP_len]
        show 4 ≤ 1000000
        decide)
  obtain ⟨e', z1, z2⟩ := forC_ex (C := runs U n) (tg := t218_0) (b := b218_0)
    (fun j e => ∃ y7 y10 : Jk, e = [some (.scr ns), some (.int k), some (.tup (planL p)), some (.lst true (srcL σ6)), some (.tup (plansD [p, pa, pb, pc])), some (.tup (seenD s)), some (.lst false (iL (fitI [p, pa, pb, pc] s))), y7.x, some (.int (i : Int)), some (.lst true (iL (goodR p i s j))), y10.x, none])
    (iL (rangeI 0 101)) 0 [some (.scr ns), some (.int k), some (.tup (planL p)), some (.lst true (srcL σ6)), some (.tup (plansD [p, pa, pb, pc])), some (.tup (seenD s)), some (.lst false (iL (fitI [p, pa, pb, pc] s))), y7.x, some (.int (i : Int)), some (.lst true []), y10.x, none] ⟨y7, y10, rfl⟩ (by
      rintro j d e hd ⟨w7, w10, rfl⟩
      rw [Nat.zero_add]
      obtain ⟨x, hx, rfl⟩ := iL_at hd
      obtain ⟨v7, v10, q⟩ := step218 (n := n) (by omega) ok hi oks hx (x0 := some (.scr ns)) (x1 := some (.int k)) (x3 := some (.lst true (srcL σ6))) (x4 := some (.tup (plansD [p, pa, pb, pc]))) (x6 := some (.lst false (iL (fitI [p, pa, pb, pc] s)))) (x11 := none) (y7 := w7) (y10 := w10)
      exact ⟨_, q, v7, v10, rfl⟩)
  obtain ⟨w7, w10, rfl⟩ := z2
  rw [Nat.zero_add, len_ints, len_rangeI, show ((101 : Int) - 0).toNat = 101 from rfl] at z1
  have eg : goodR p i s 101 = goodA p i s := rfl
  rw [eg] at z1
  have er : rangeD [.int 101] = some (iL (rangeI 0 101)) := rangeD1 (by decide)
  have g1 : ∀ o o', cmp .ne (.lst o (iL (fitI [p, pa, pb, pc] s))) (.lst o' (iL (fitI [p, pa, pb, pc] s))) = some false := fun o o' => cmp_ne_lst (okEqs_map (fun a => okEq_int) _)
  have g2 : ∀ o o', cmp .ne (.lst o (iL (fitI [p] []))) (.lst o' [.int 0]) = some false := fun o o' => cmp_ne_lst (l := [.int 0]) rfl
  have g3 : ∀ o o', cmp .ne (.lst o (pL (rangesF (goodA p i s)))) (.lst o' (pL (rangesF (goodA p i s)))) = some false := fun o o' => pL_eq
  have g4 : ∀ o o', cmp .ne (.lst o (pL [(0, 100)])) (.lst o' [.tup [.int 0, .int 100]]) = some false := fun o o' => pL_eq (l := [(0, 100)])
  have pd : plansD [p, pa, pb, pc] = [.tup (planL p), .tup (planL pa), .tup (planL pb), .tup (planL pc)] := rfl
  have e8 : runs U n 213 [.tup [.tup (planL p)], .tup []] = some (.lst true (iL (fitI [p] [])), []) := e8
  have e11 : runs U n 215 [.tup (planL p), .int (i : Int), .tup []] = some (.lst true (pL [(0, 100)]), []) := e11
  have ll : ((p.bands.map pairD).length : Int) = p.bands.length := by rw [List.length_map]
  have fsd : freezes (seenD s) = seenD s := fr_seen
  have fpd : freezes (plansD [p, pa, pb, pc]) = plansD [p, pa, pb, pc] := fr_plans
  have fg : freezes (iL (goodA p i s)) = iL (goodA p i s) := fr_ints
  refine ⟨ji k, jt (planL p), jl true (srcL σ6), jt (plansD [p, pa, pb, pc]), jt (seenD s), jl false (iL (fitI [p, pa, pb, pc] s)), w7, jl false (iL (goodA p i s)), w10, some (i : Int), ?_⟩
  rw [pd] at e7 c1 z1 ⊢
  clear okl
  generalize iL (fitI [p, pa, pb, pc] s) = F at *
  generalize iL (fitI [p] []) = F1 at *
  generalize pL (rangesF (goodA p i s)) = R at *
  generalize pL [(0, 100)] = R1 at *
  generalize iL (goodA p i s) = G at *
  generalize iL (rangeI 0 101) = rg at *
  generalize seenD s = sd at *
  cases o8 <;> simp only [Option.map_none, Option.map_some] at c1 <;> simp [t218_1, b218_1, e1, e2, e3, e4, e5, e6, c1, e7, e8, g1, g2, e9, er, z1, e10, e11, e12, g3, g4, fsd, fg, ji, jt, jl]
def p71 : Plan := ⟨[(0, 10), (100, 20)], true, true, none, none, 0⟩
theorem p71_ok : p71.Ok := ok_of_chk (by decide +kernel)
theorem seen_one {x y : Int} (hx : 0 ≤ x ∧ x ≤ 1000) (hy : 0 ≤ y ∧ y ≤ 1000) : SeenOk [([x], [(0, y)])] := by
  refine ⟨by show 1 ≤ 6; decide, fun s hs => ?_⟩
  rw [List.mem_singleton.mp hs]
  refine ⟨⟨by show 1 ≤ 200; decide, fun z hz => ?_⟩, rfl, fun z hz => ?_⟩
  · rw [List.mem_singleton.mp hz]; omega
  · rw [List.mem_singleton.mp hz]; dsimp only; omega
theorem t71_1 : rangesF (goodA p71 1 [([150], [(0, 153)])]) = [(17, 23)] := by decide +kernel
theorem t71_2 : rangesF (goodA p71 1 [([99], [(0, 99)])]) = [] := by decide +kernel
def d71 : D := .tup [.tup [.tup [.int 0, .int 10], .tup [.int 100, .int 20]], .str (Str.ofString "whole"), .str (Str.ofString "half"), .non, .non, .int 0]
theorem k71_1 : runs U 15 215 [d71, .int 1, .tup [.tup [.tup [.int 150], .tup [.tup [.int 0, .int 153]]]]] = some (.lst true [.tup [.int 17, .int 23]], []) := by
  have e := run_rates_for (m := 15) (by decide) p71_ok (i := 1) (by decide) (seen_one (x := 150) (y := 153) (by decide) (by decide))
  rw [t71_1] at e
  exact e
theorem k71_2 : runs U 15 215 [d71, .int 1, .tup [.tup [.tup [.int 99], .tup [.tup [.int 0, .int 99]]]]] = some (.lst true [], []) := by
  have e := run_rates_for (m := 15) (by decide) p71_ok (i := 1) (by decide) (seen_one (x := 99) (y := 99) (by decide) (by decide))
  rw [t71_2] at e
  exact e
theorem k71_end {C : Ora} (h1 : C 215 [d71, .int 1, .tup [.tup [.tup [.int 150], .tup [.tup [.int 0, .int 153]]]]] = some (.lst true [.tup [.int 17, .int 23]], []))
    (h2 : C 215 [d71, .int 1, .tup [.tup [.tup [.int 99], .tup [.tup [.int 0, .int 99]]]]] = some (.lst true [], [])) {x0 x1 x3 x4 x5 x6 x7 x8 x9 x10 x11 : Option D} {y2 : Jk} :
    ∃ e, evSs C r218_0 [x0, x1, y2.x, x3, x4, x5, x6, x7, x8, x9, x10, x11] = some (.rt (.bl true) e) := by
  have c1 : ∀ o o', cmp .eq (.lst o [.tup [.int 17, .int 23]]) (.lst o' [.tup [.int 17, .int 23]]) = some true := fun o o' => by cases o <;> cases o' <;> decide +kernel
  have c2 : ∀ o o', cmp .eq (.lst o []) (.lst o' []) = some true := fun o o' => by cases o <;> cases o' <;> decide +kernel
  simp only [d71] at h1 h2
  simp [r218_0, h1, h2, c1, c2]
theorem pure_k71 (ns : List Int) (hl : ns.length ≤ 63) : ∃ l, runs U 16 218 [.scr ns] = some (.bl true, l) := by
  have pre : runs U 16 218 [.scr ns] = runFn (runs U 15) f218 [.scr ns] := run_one u218
  rw [pre]
  obtain ⟨N, hN⟩ : ∃ N : Int, N = max 5 (min 14 (ns.length : Int)) := ⟨_, rfl⟩
  obtain ⟨e', z1, z2⟩ := forC_ex (C := runs U 15) (tg := t218_1) (b := b218_1)
    (fun _ e => ∃ (y1 y2 y3 y4 y5 y6 y7 y9 y10 : Jk) (o8 : Option Int), e = [some (.scr ns), y1.x, y2.x, y3.x, y4.x, y5.x, y6.x, y7.x, o8.map .int, y9.x, y10.x, none])
    (iL (rangeI 0 N)) 0 [some (.scr ns), none, none, none, none, none, none, none, none, none, none, none] ⟨jn, jn, jn, jn, jn, jn, jn, jn, jn, none, rfl⟩ (by
      rintro k d e hd ⟨y1, y2, y3, y4, y5, y6, y7, y9, y10, o8, rfl⟩
      obtain ⟨x, hx, rfl⟩ := iL_at hd
      obtain ⟨rfl, hk⟩ := rangeI_at hx
      obtain ⟨u1, u2, u3, u4, u5, u6, u7, u9, u10, v8, q⟩ := k71_turn (n := 15) (by decide) ns (k := 0 + (k : Int)) (by omega) (y1 := y1) (y2 := y2) (y3 := y3) (y4 := y4) (y5 := y5) (y6 := y6) (y7 := y7) (y9 := y9) (y10 := y10) (o8 := o8)
      exact ⟨_, q, u1, u2, u3, u4, u5, u6, u7, u9, u10, v8, rfl⟩)
  obtain ⟨y1, y2, y3, y4, y5, y6, y7, y9, y10, o8, rfl⟩ := z2
  obtain ⟨e, he⟩ := k71_end k71_1 k71_2 (x0 := some (.scr ns)) (x1 := y1.x) (y2 := y2) (x3 := y3.x) (x4 := y4.x) (x5 := y5.x) (x6 := y6.x) (x7 := y7.x) (x8 := o8.map .int) (x9 := y9.x) (x10 := y10.x) (x11 := none)
  have er : rangeD [.int N] = some (iL (rangeI 0 N)) := rangeD1 (by omega)
  generalize iL (rangeI 0 N) = rg at *
  refine ⟨[], ?_⟩
  simp [f218, ← hN, er, z1, he]
end PV
set_option maxHeartbeats 0
namespace PV
theorem pure_law (ns : List Int) (hl : ns.length ≤ 63) : ∃ l, runs U 16 218 [.scr ns] = some (.bl true, l) := pure_k71 ns hl
end PV
/-! ### the head -/
namespace PV
open PySem PySem.Spec PyProof.Rows L2
def top (i : Nat) : Stmt := PySem.Challenge.pw_savebands_k71_plans_and_rates_told_back.main.body.getD i (.Pass ⟨0, 0, 0, 0⟩)
def df0 : Df := ⟨"is_integer", "is_integer", top 14, ["value", "low", "high"], 0, f0⟩
def df1 : Df := ⟨"is_pair", "is_pair", top 15, ["value", "first", "second"], 1, f1⟩
def df2 : Df := ⟨"are_bands", "are_bands", top 16, ["value", "one", "other", "band"], 2, f2⟩
def df3 : Df := ⟨"is_plan", "is_plan", top 17, ["value", "manner", "rounding", "bonus", "fee", "charge"], 3, f3⟩
def df4 : Df := ⟨"is_payment", "is_payment", top 18, ["value"], 4, f4⟩
def df5 : Df := ⟨"is_row", "is_row", top 19, ["value", "payment"], 5, f5⟩
def df6 : Df := ⟨"require_plan", "require_plan", top 20, ["value"], 21, f21⟩
def df7 : Df := ⟨"is_due", "is_due", top 23, ["plan", "idle"], 24, f24⟩
def df8 : Df := ⟨"thousandths", "thousandths", top 24, ["plan", "base", "due", "bands", "found", "ends", "start", "rate", "end"], 25, f25⟩
def df9 : Df := ⟨"interest_of", "interest_of", top 25, ["plan", "base", "due", "found"], 26, f26⟩
def df10 : Df := ⟨"balance_from", "balance_from", top 26, ["plan", "base", "due", "found"], 27, f27⟩
def df11 : Df := ⟨"kept_of", "kept_of", top 27, ["plan", "taken"], 28, f28⟩
def df12 : Df := ⟨"month_of", "month_of", top 28, ["plan", "balance", "idle", "payment", "taken"], 29, f29⟩
def df13 : Df := ⟨"told_from", "told_from", top 29, ["plan", "balance", "idle", "row", "found", "payment", "got"], 30, f30⟩
def df14 : Df := ⟨"told_of", "told_of", top 30, ["plan", "row"], 31, f31⟩
def df15 : Df := ⟨"is_sight", "is_sight", top 34, ["value", "bounds", "pair"], 210, f210⟩
def df16 : Df := ⟨"require_seen", "require_seen", top 35, ["value", "one"], 211, f211⟩
def df17 : Df := ⟨"explains", "explains", top 36, ["plan", "seen", "row", "told"], 212, f212⟩
def df18 : Df := ⟨"fitting", "fitting", top 37, ["plans", "seen", "index", "plan"], 213, f213⟩
def df19 : Df := ⟨"joined", "joined", top 38, ["ranges", "found", "low", "high"], 214, f214⟩
def df20 : Df := ⟨"rates_for", "rates_for", top 39, ["plan", "index", "seen", "found", "rate", "bands"], 215, f215⟩
def df21 : Df := ⟨"_law_source", "_law_source", top 41, ["script", "k", "cell", "primes", "seed"], 6, f6⟩
def df22 : Df := ⟨"_law_pick", "_law_pick", top 42, ["source", "size", "drawn"], 7, f7⟩
def df23 : Df := ⟨"_law_chosen", "_law_chosen", top 43, ["source", "some"], 9, f9⟩
def df24 : Df := ⟨"_law_bands", "_law_bands", top 44, ["source", "most", "wide", "starts_so", "start_so", "found", "many", "turn"], 13, f13⟩
def df25 : Df := ⟨"_law_plan", "_law_plan", top 45, ["source", "wide", "charge_so", "bonus_so", "fee_so", "manner_so", "rounding_so"], 14, f14⟩
def df26 : Df := ⟨"_law_rate_of", "_law_rate_of", top 46, ["p", "base_so", "found", "rate_so", "at", "band_so", "upper", "start_so", "rate"], 36, f36⟩
def df27 : Df := ⟨"_law_due", "_law_due", top 47, ["p", "months_so"], 37, f37⟩
def df28 : Df := ⟨"_law_interest", "_law_interest", top 48, ["p", "base_so", "due_so", "found"], 38, f38⟩
def df29 : Df := ⟨"_law_left", "_law_left", top 49, ["p", "base_so", "due_so", "found"], 39, f39⟩
def df30 : Df := ⟨"_law_kept", "_law_kept", top 50, ["p", "taken"], 40, f40⟩
def df31 : Df := ⟨"_law_month", "_law_month", top 51, ["p", "here", "payment", "taken"], 41, f41⟩
def df32 : Df := ⟨"_law_told", "_law_told", top 52, ["p", "here", "payments", "found", "payment", "told"], 42, f42⟩
def df33 : Df := ⟨"_law_row", "_law_row", top 53, ["source", "most", "wide", "found", "turn", "way", "amount_so"], 15, f15⟩
def df34 : Df := ⟨"_law_near", "_law_near", top 54, ["source", "p", "way", "at", "bands_so", "manner_so", "rounding_so", "bonus_so", "fee_so", "charge_so", "start_so", "rate"], 55, f55⟩
def df35 : Df := ⟨"_law_ranges", "_law_ranges", top 55, ["numbers", "found", "number"], 115, f115⟩
def df36 : Df := ⟨"_law_explains", "_law_explains", top 56, ["p", "seen_so", "payments", "told"], 216, f216⟩
def df37 : Df := ⟨"_law_seen", "_law_seen", top 57, ["source", "p", "found", "turn", "payments", "told", "at"], 217, f217⟩
def df38 : Df := ⟨"law", "law", top 58, ["script", "k", "p", "source", "plans_so", "seen_so", "due", "rate", "at", "good", "bands_so", "q"], 218, f218⟩
def Ds : List Df := [df0, df1, df2, df3, df4, df5, df6, df7, df8, df9, df10, df11, df12, df13, df14, df15, df16, df17, df18, df19, df20, df21, df22, df23, df24, df25, df26, df27, df28, df29, df30, df31, df32, df33, df34, df35, df36, df37, df38]
def gl : List (Str × Int) := [("MAX_BANDS", 5), ("MAX_START", 1000000), ("MAX_RATE", 100), ("MAX_MONTHS", 12), ("MAX_FEE", 1000), ("MAX_CHARGE", 500), ("MAX_PAYMENT", 1000000000), ("MAX_ROW", 200), ("MAX_BASE", 1000000000000), ("MAX_SEEN", 6), ("MAX_PLANS", 6)]
def heD (d : Df) : He.DefD := ⟨(d.gname, none), d.name, d.name, defArgs d.st, defBody d.st, defScope d.st, [], []⟩
def faD : List He.Fa := (Ds.map fun d => .glo d.gname) ++ ((bNames.map .free) ++ gl.map fun c => .int c.1 c.2)
def fnD : List He.DefD := Ds.map heD
abbrev RR : PySem.W.OpenRow := PySem.W.OpenLaw.row PySem.Challenge.rw_savebands_k71_plans_and_rates_told_back
abbrev hkD : PySem.W.Hook := He.hookD 4 faD fnD
def obD (s : PySem.W.SharedT) : He.AlD := He.obsDG 4 faD fnD (HandSHeadRun.getT s)
theorem obD_eq (s : PySem.W.SharedT) : obD s = hkD.obs s.abs := He.obsDG_eq (HandSHeadRun.getT_eq s)
def loose0 : List PySem.Str := [Str.ofString "SaveError", Str.ofString "InvalidPlan", Str.ofString "InvalidIndex", Str.ofString "InvalidSeen", Str.ofString "MAX_BANDS", Str.ofString "MAX_START", Str.ofString "MAX_RATE", Str.ofString "MAX_MONTHS", Str.ofString "MAX_FEE", Str.ofString "MAX_CHARGE", Str.ofString "MAX_PAYMENT", Str.ofString "MAX_ROW", Str.ofString "is_integer", Str.ofString "is_pair", Str.ofString "are_bands", Str.ofString "is_plan", Str.ofString "is_payment", Str.ofString "is_row", Str.ofString "require_plan", Str.ofString "MAX_BASE"]
def loose1 : List PySem.Str := [Str.ofString "is_due", Str.ofString "thousandths", Str.ofString "interest_of", Str.ofString "balance_from", Str.ofString "kept_of", Str.ofString "month_of", Str.ofString "told_from", Str.ofString "told_of", Str.ofString "MAX_SEEN", Str.ofString "MAX_PLANS", Str.ofString "is_sight", Str.ofString "require_seen", Str.ofString "explains", Str.ofString "fitting", Str.ofString "joined", Str.ofString "rates_for", Str.ofString "_law_source", Str.ofString "_law_pick", Str.ofString "_law_chosen", Str.ofString "_law_bands"]
def loose2 : List PySem.Str := [Str.ofString "_law_plan", Str.ofString "_law_rate_of", Str.ofString "_law_due", Str.ofString "_law_interest", Str.ofString "_law_left", Str.ofString "_law_kept", Str.ofString "_law_month", Str.ofString "_law_told", Str.ofString "_law_row", Str.ofString "_law_near", Str.ofString "_law_ranges", Str.ofString "_law_explains", Str.ofString "_law_seen"]
def loose : List PySem.Str := loose0 ++ loose1 ++ loose2
theorem runD (w : PySem.World) : HandSHeadRun.RunEq RR (PySem.W.view RR.prog [58]) hkD obD 4000 loose w := by
  intro os
  kernel_rfl
theorem ckD : (Ds.all fun d => ckDf (tabN Ds) gl d) = true := by decide +kernel
theorem tabD : ∀ d ∈ Ds, U d.ix = some d.fn := by
  intro d hd
  simp only [Ds, List.mem_cons, List.not_mem_nil, or_false] at hd
  rcases hd with rfl | rfl | rfl | rfl | rfl | rfl | rfl | rfl | rfl | rfl | rfl | rfl | rfl | rfl | rfl | rfl | rfl | rfl | rfl | rfl | rfl | rfl | rfl | rfl | rfl | rfl | rfl | rfl | rfl | rfl | rfl | rfl | rfl | rfl | rfl | rfl | rfl | rfl | rfl <;> rfl
theorem fact_in {K : PySem.W.Frag} (c : He.SaysD faD fnD K) {f : He.Fa} (h : f ∈ faD) : f.ok K = true := by
  obtain ⟨i, hi⟩ := List.mem_iff_getElem?.mp h
  exact c.fact i hi
theorem wldD {K : PySem.W.Frag} {h : Heap} {mg : Str → Option Value} (X : K.In h) (G : h.Ns mainGlobals mg) (c : He.SaysD faD fnD K) : Wld PySem.Challenge.rw_savebands_k71_plans_and_rates_told_back.prog K mg gl U Ds where
  ck := fun d hd => List.all_eq_true.mp ckD d hd
  tab := tabD
  fun_ := fun d hd => by
    obtain ⟨i, hi⟩ := List.mem_iff_getElem?.mp hd
    exact c.def_ i (d := heD d) (by show (Ds.map heD)[i]? = _; rw [List.getElem?_map, hi]; rfl)
  at_ := fun d hd => He.glo_ok X G (fact_in c (List.mem_append_left _ (List.mem_map.mpr ⟨d, hd, rfl⟩)))
  free := fun x hx => He.free_ok X G (fact_in c (List.mem_append_right _ (List.mem_append_left _ (List.mem_map.mpr ⟨x, hx, rfl⟩))))
  glo := fun x i hx => by
    obtain ⟨t, ht⟩ := He.int_ok X G (fact_in c (f := .int x i) (List.mem_append_right _ (List.mem_append_right _ (List.mem_map.mpr ⟨(x, i), hx, rfl⟩))))
    exact ⟨_, ht, t, rfl⟩
end PV
open PySem PySem.W PySem.Calls PyProof.Rows
theorem PySem.Challenge.cw_savebands_k71_plans_and_rates_told_back_holds : PySem.Challenge.rw_savebands_k71_plans_and_rates_told_back.Holds := by
  w_on; o_law
  refine HandSHeadRun.head_any (r := OpenLaw.row PySem.Challenge.rw_savebands_k71_plans_and_rates_told_back) (q := view (OpenLaw.row PySem.Challenge.rw_savebands_k71_plans_and_rates_told_back).prog [58]) (H := PV.hkD) (ob := PV.obD) (M := 4000) (loose := PV.loose) (d := HandSHeadRun.topDef (OpenLaw.row PySem.Challenge.rw_savebands_k71_plans_and_rates_told_back).prog 58) (kwd := []) PV.obD_eq
    (by kernel_rfl) (fun s => by kernel_rfl) PV.runD (by kernel_rfl) (by kernel_rfl) (by kernel_rfl) (by rfl) (by first | assumption | decide +kernel) (by decide +kernel) ⟨rfl, rfl, rfl, rfl, rfl, by decide +kernel⟩ ?hw ?hc
  case hw => w_witness2
  case hc =>
    refine L2.walk_ofE (l := PySem.Challenge.rw_savebands_k71_plans_and_rates_told_back) (n := 63) (k := 16) (x := "script") (CX := L2.CX0) rfl (by decide) (by kernel_rfl) ⟨rfl, by decide, by decide⟩ ?F (fun _ _ _ _ z => z)
    intro w mg fa h Y G hmg0
    obtain ⟨K, KX, c⟩ := Y
    have W := PV.wldD KX G c
    have hmg : mg ("law" : PySem.Str) = some (.ref fa) := by
      have e : (HandSHeadRun.topDef (OpenLaw.row PySem.Challenge.rw_savebands_k71_plans_and_rates_told_back).prog 58).name = ("law" : PySem.Str) := by kernel_rfl
      rw [← e]
      exact hmg0
    have hd : PV.df38 ∈ PV.Ds := List.mem_of_getElem? (i := 38) rfl
    have e := hmg.symm.trans (W.at_ _ hd)
    cases e
    obtain ⟨fd, sp, hb, hs, hF⟩ := PV.law_of (w := w) W (n := 16) hd rfl rfl rfl PV.pure_law
    exact ⟨K, fd, sp, KX, hb, hs, fun base _ _ => hF base⟩
