import PyProof.Rows.All
import Wide.All
import OpenK.AllK
import Wide.FinOn
import HandS.ForMost
import HandS.ForExc
import HandS.Wide
import HandS.Deep
import HandS.IsInst
import HandS.Gcd
import HandS.Star
import HandS.TupAny
import HandS.Style
import HandS.Flow
import HandS.Zip
import HandS.ExcOwn
import HandS.CallSlots
import HandS.Ends
import HandS.Words
import HandS.More
import HandS.Comp
import KE.GoesMore
import PyProof.EnumMake
import PyProof.Draws
import PyProof.SumAny
import KE.DataMinMax
import PyProof.FactsAll.subtypes_4
import HandS.Defaults
import HandS.HeadHook1
import HandS.HeadHook2
import HandS.EndBits
import HandS.Codes
import HandS.Head0
import HandS.Head1
import HandS.Head2
import HandS.HeadEnd
import KE.KStateDown
import HandS.Head3
import PySem.Challenge.RW_leastburn_k74_whole_corners
set_option Elab.async false
set_option linter.all false
set_option maxRecDepth 100000
namespace PD
open PySem PySem.Spec PyProof.Rows L2

/-- plain data: a value without the heap; own: a list that one slot (or one pending value) owns; pin: a caller's -/
inductive D where
  | non | bl (b : Bool) | int (i : Int) | str (x : Str) | tup (ds : List D) | lst (ds : List D) | own (pin : Bool) (ds : List D) | hid
deriving Inhabited

mutual
/-- by value from now on -/
def D.frz : D → D
  | .own _ ds => .lst (D.frzs ds)
  | .non => .non | .bl b => .bl b | .int i => .int i | .str x => .str x | .tup ds => .tup ds | .lst ds => .lst ds | .hid => .hid
def D.frzs : List D → List D
  | [] => []
  | d :: ds => D.frz d :: D.frzs ds
end
mutual
def D.py : D → PyData
  | .non => .none | .bl b => .bool b | .int i => .int i | .str x => .str x
  | .tup ds => .tuple (D.pys ds) | .lst ds => .list (D.pys ds) | .own _ ds => .list (D.pys ds) | .hid => .none
def D.pys : List D → List PyData
  | [] => []
  | d :: ds => D.py d :: D.pys ds
end

abbrev Env := List (Option D)
/-- an exception: its class, what it keeps -/
structure EX where
  cls : Str
  arg : Option D

inductive R (α : Type) where
  | ok (a : α) (e : Env)
  | ex (x : EX) (e : Env)
  | bad
inductive RC where
  | ok (d : D) (out : Option D)
  | ex (x : EX) (out : Option D)
  | bad
abbrev CallF := Nat → List D → RC
def R.bind {α β : Type} : R α → (α → Env → R β) → R β
  | .ok a e, f => f a e
  | .ex x e, _ => .ex x e
  | .bad, _ => .bad
def R.op {α : Type} (e : Env) : Option α → R α
  | some a => .ok a e
  | none => .bad

/-- where nothing may be raised -/
def R.noex {α : Type} : R α → R α
  | .ok a e => .ok a e
  | _ => .bad

/-- built-ins -/
inductive BI where
  | len | abs | int | all | any | tuple | list | sum | sumL | repr | gcd | max2 | min2 | max1 | min1 | sorted
  | isInt | isBool | isTuple | isStr | isList | str
deriving DecidableEq

/-- targets -/
inductive IT where
  | nm (i : Nat) | tup (ts : IT) | nil | cons (t ts : IT)
/-- expressions -/
inductive IE where
  | lc (i : Nat) | gl (x : Str) | cst (d : D)
  | bin (op : Operator) (a b : IE) | neg (a : IE)
  | cmp (op : CmpOp) (a b : IE) | chn (op op' : CmpOp) (a b c : IE)
  | cmpR (op : CmpOp) (a : IE) (i : Nat) | cmpL (op : CmpOp) (i : Nat) (b : IE)
  | and_ (a b : IE) | or_ (a b : IE) | not_ (a : IE) | ite (c a b : IE)
  | tup (as : IE) | lst (as : IE) | nil | cons (a as : IE) | star (a as : IE)
  | sub (a i : IE) | subB (s : Nat) (i : IE)
  | slc (a lo hi : IE) | no | yes | rev (a : IE)
  | comp (elt : IE) (t : IT) (src : IE) (cond : IE) (vs : List Nat)
  | compB (elt : IE) (t : IT) (i : Nat) (cond : IE) (vs : List Nat)
  | comp2 (elt : IE) (t : IT) (src : IE) (cond : IE) (t1 : IT) (src1 : IE) (cond1 : IE) (vs : List Nat)
  | sE (e : IE) | sR1 (e : IE) | sR2 (a b : IE) | sEn (e : IE) | sZp (a b : IE)
  | callF (f : Nat) (as : IE) | callIO (f : Nat) (i : Nat) (as : IE)
  | callB (b : BI) (as : IE) | callBB (b : BI) (i : Nat) | isi (b : BI) (a : IE)
/-- statements -/
inductive IS where
  | skip | seq (a b : IS)
  | asg (t : IT) (e : IE) | par (i j : Nat) (a b : IE) | par3 (i j k : Nat) (a b c : IE) | aug (op : Operator) (i : Nat) (e : IE)
  | ife (c : IE) (a b : IS) | for_ (t : IT) (src : IE) (body : IS) | forB (t : IT) (i : Nat) (body : IS) | whl (c : IE) (body : IS)
  | ret (e : IE) | retS (i : Nat) | retN | brk | cont | exp (e : IE)
  | app (i : Nat) (e : IE) | ext (i : Nat) (e : IE) | ins (i : Nat) (k e : IE) | set (i : Nat) (k e : IE)
  | raise (c : Str) (e : IE) | stop
inductive Fl where
  | nx | rt (d : D) | bk | ct

/-- sizes -/
abbrev line : Nat := 16777216
def truth : D → Option Bool
  | .non => some false
  | .bl b => some b
  | .int i => some (i != 0)
  | .str x => if x.length ≤ line then some ((x.length : Int) != 0) else none
  | .tup ds => some !ds.isEmpty
  | .lst ds => some !ds.isEmpty
  | .own _ ds => some !ds.isEmpty
  | .hid => none
def shapedD (d : D) : Bool := SeqAt.shaped d.py

def binD : Operator → D → D → Option D
  | .Add, .int i, .int j => some (.int (i + j))
  | .Sub, .int i, .int j => some (.int (i - j))
  | .Mult, .int i, .int j => if i.natAbs.log2 + j.natAbs.log2 < 1000000 then some (.int (i * j)) else none
  | .FloorDiv, .int i, .int j => if 0 < j ∧ j.natAbs.log2 < 9000 then some (.int (i / j)) else none
  | .Mod, .int i, .int j => if 0 < j then some (.int (i % j)) else none
  | .Pow, .int i, .int j => if 0 ≤ j ∧ j ≤ 1000000 ∧ i.natAbs < 2 ^ 64 then some (.int (i ^ j.toNat)) else none
  | .Add, .str x, .str y => if x.length + y.length ≤ line then some (.str (x ++ y)) else none
  | .Add, .tup xs, .tup ys => if xs.length + ys.length ≤ line then some (.tup (xs ++ ys)) else none
  | .Add, .lst xs, .lst ys => if xs.length + ys.length ≤ line then some (.own false (xs ++ ys)) else none
  | _, _, _ => none

/-- tuples of ints -/
def intsOf : List D → Option (List Int)
  | [] => some []
  | .int i :: ds => (intsOf ds).map (i :: ·)
  | _ => none
def anyEqv (x : D) : List D → Bool
  | [] => false
  | y :: ys => PyData.eqv y.py x.py || anyEqv x ys
def cmpD : CmpOp → D → D → Option Bool
  | .Eq, a, b => if shapedD a ∧ shapedD b then some (PyData.eqv a.py b.py) else none
  | .NotEq, a, b => if shapedD a ∧ shapedD b then some (!PyData.eqv a.py b.py) else none
  | .Lt, .int i, .int j => some (decide (i < j))
  | .LtE, .int i, .int j => some (decide (i ≤ j))
  | .Gt, .int i, .int j => some (decide (j < i))
  | .GtE, .int i, .int j => some (decide (j ≤ i))
  | .Lt, .tup xs, .tup ys => match intsOf xs, intsOf ys with
    | some ns, some ms => some (HT.lexLt ns ms)
    | _, _ => none
  | .In, x, .lst ys => if shapedD x ∧ shapedD (.lst ys) then some (anyEqv x ys) else none
  | .NotIn, x, .lst ys => if shapedD x ∧ shapedD (.lst ys) then some (!anyEqv x ys) else none
  | .Is, x, .non => some (match x with | .non => true | _ => false)
  | .IsNot, x, .non => some (match x with | .non => false | _ => true)
  | .Is, .bl a, .bl b => some (decide (a = b))
  | .IsNot, .bl a, .bl b => some (!decide (a = b))
  | _, _, _ => none

def subD : D → D → Option D
  | .tup xs, .int i => atI xs i
  | .lst xs, .int i => atI xs i
  | .str x, .int i => if x.length ≤ line then (atI x.cps.toList i).map fun c => .str ⟨#[c]⟩ else none
  | _, _ => none
def cutD {α : Type} (xs : List α) (lo hi : Option Int) : List α := (xs.drop (HT.sIx xs.length 0 lo)).take (HT.sIx xs.length xs.length hi - HT.sIx xs.length 0 lo)
def partD : D → Option (Option Int)
  | .hid => some none
  | .int i => some (some i)
  | _ => none
def slcD : D → Option Int → Option Int → Option D
  | .lst xs, lo, hi => some (.own false (cutD xs lo hi))
  | .tup xs, lo, hi => some (.tup (cutD xs lo hi))
  | _, _, _ => none
def boolsOf : List D → Option (List Bool)
  | [] => some []
  | .bl b :: ds => (boolsOf ds).map (b :: ·)
  | _ => none
def listsOf : List D → Option (List (List D))
  | [] => some []
  | .lst xs :: ds => (listsOf ds).map (xs :: ·)
  | _ => none
def biD : BI → List D → Option D
  | .len, [.lst xs] => some (.int xs.length)
  | .len, [.tup xs] => some (.int xs.length)
  | .len, [.str x] => if x.length ≤ line then some (.int x.length) else none
  | .abs, [.int i] => some (.int (if i < 0 then -i else i))
  | .int, [.int i] => some (.int i)
  | .int, [.bl b] => some (.int (if b then 1 else 0))
  | .all, [.lst xs] => (boolsOf xs).map fun bs => .bl (bs.all id)
  | .any, [.lst xs] => (boolsOf xs).map fun bs => .bl (bs.any id)
  | .tuple, [.lst xs] => some (.tup xs)
  | .tuple, [.tup xs] => some (.tup xs)
  | .list, [.lst xs] => some (.own false xs)
  | .list, [.tup xs] => some (.own false xs)
  | .sum, [.lst xs] => (intsOf xs).map fun ns => .int ns.sum
  | .sumL, [.lst xs, .lst []] => (listsOf xs).bind fun xss => if xss ≠ [] ∧ xss.flatten.length ≤ line then some (.own false xss.flatten) else none
  | .repr, [d] => if d.py.showable = true ∧ d.py.depth ≤ 60 ∧ d.py.shown.length ≤ line then some (.str d.py.shown) else none
  | .gcd, [.int a, .int b] => some (.int (Nat.gcd a.natAbs b.natAbs : Nat))
  | .max2, [.int i, .int j] => some (.int (if j > i then j else i))
  | .min2, [.int i, .int j] => some (.int (if j < i then j else i))
  | .isInt, [d] => some (.bl (match d with | .int _ => true | .bl _ => true | _ => false))
  | .isBool, [d] => some (.bl (match d with | .bl _ => true | _ => false))
  | .isTuple, [d] => some (.bl (match d with | .tup _ => true | _ => false))
  | .isStr, [d] => some (.bl (match d with | .str _ => true | _ => false))
  | .isList, [d] => some (.bl (match d with | .lst _ => true | _ => false))
  | _, _ => none

/-- what may not be stored over: a caller's list, a hidden one -/
def pinned : D → Bool
  | .own p _ => p
  | .hid => true
  | _ => false
/-- a slot that may be stored to -/
def freeAt (i : Nat) (e : Env) : Bool := match e[i]? with
  | some (some d) => !pinned d
  | some none => true
  | none => false
mutual
def asg : IT → D → Env → R Unit
  | .nm i, d, e => if freeAt i e then .ok () (e.set i (some d)) else .bad
  | .tup ts, .tup ds, e => asgs ts ds e
  | _, _, _ => .bad
termination_by structural t => t
def asgs : IT → List D → Env → R Unit
  | .nil, [], e => .ok () e
  | .cons t ts, d :: ds, e => (asg t d e).bind fun _ e => asgs ts ds e
  | _, _, _ => .bad
termination_by structural t => t
end

def plains : List D → Bool
  | [] => true
  | .own _ _ :: _ => false
  | _ :: ds => plains ds
/-- the slots of a target -/
def itNames : IT → List Nat
  | .nm i => [i]
  | .tup ts => itNames ts
  | .nil => []
  | .cons t ts => itNames t ++ itNames ts
/-- a slot holds something -/
def hasAt (i : Nat) (e : Env) : Bool := match e[i]? with
  | some (some _) => true
  | _ => false
/-- a slot holds a list of its own -/
def ownAt (i : Nat) (e : Env) : Bool := match e[i]? with
  | some (some (.own _ _)) => true
  | _ => false
/-- a slot's list for a look: as it stands -/
def viewAt (i : Nat) (e : Env) : Option D := match e[i]? with
  | some (some .hid) => none
  | some (some d) => some d.frz
  | _ => none
/-- .. a flat list alone, or a by-value thing -/
def viewP (i : Nat) (e : Env) : Option D := match e[i]? with
  | some (some .hid) => none
  | some (some (.own _ xs)) => if plains xs then some (.lst xs) else none
  | some (some d) => some d
  | _ => none
/-- a slot read: by value from now on -/
def readAt (i : Nat) (e : Env) : R D := match e[i]? with
  | some (some d) => if pinned d then .bad else .ok d.frz (e.set i (some d.frz))
  | _ => .bad
/-- the items of a walked thing -/
def itemsOf : D → Option (List D)
  | .lst xs => some xs
  | .tup xs => some xs
  | _ => none
def rangeD (lo : Int) : Nat → List D
  | 0 => []
  | n + 1 => .int lo :: rangeD (lo + 1) n
def enumD (k : Int) : List D → List D
  | [] => []
  | d :: ds => .tup [.int k, d] :: enumD (k + 1) ds
def zipD : List D → List D → List D
  | x :: xs, y :: ys => .tup [x, y] :: zipD xs ys
  | _, _ => []
def small62 (i : Int) : Bool := decide (-(2 ^ 62) ≤ i) && decide (i < 2 ^ 62)
/-- the slots of a comprehension's own names -/
def wipeE (e : Env) : List Nat → Env
  | [] => e
  | v :: vs => (wipeE e vs).set v none
/-- none of these slots holds what is owned -/
def calmAt (e : Env) : List Nat → Bool
  | [] => true
  | v :: vs => (match e[v]? with
    | some (some (.own _ _)) => false
    | some (some .hid) => false
    | some _ => true
    | none => false) && (!vs.contains v && calmAt e vs)
/-- the slots as they were -/
def backE (e0 e : Env) : List Nat → Env
  | [] => e
  | v :: vs => backE e0 (e.set v (e0[v]?.getD none)) vs
/-- slots forgotten, if none is a caller's -/
def wipeR (e : Env) (vs : List Nat) : R Unit := if vs.all (freeAt · e) then .ok () (wipeE e vs) else .bad
/-- a comprehension's loop -/
def compL (f : D → Env → R (List D)) (vs : List Nat) : List D → Env → R (List D)
  | [], e => .ok [] e
  | d :: ds, e => (f d e).bind fun xs e1 => (wipeR e1 vs).bind fun _ e1 => (compL f vs ds e1).bind fun ys e2 => .ok (xs ++ ys) e2
/-- a for's loop -/
def forL (f : D → Env → R Fl) : List D → Env → R Fl
  | [], e => .ok .nx e
  | d :: ds, e => (f d e).bind fun fl e1 => match fl with
    | .nx => forL f ds e1
    | .ct => forL f ds e1
    | .bk => .ok .nx e1
    | .rt v => .ok (.rt v) e1
/-- a while's loop, at most so many turns -/
def whlL (c : Env → R Bool) (f : Env → R Fl) : Nat → Env → R Fl
  | 0, _ => .bad
  | n + 1, e => (c e).bind fun b e1 => if b then (f e1).bind fun fl e2 => match fl with
      | .nx => whlL c f n e2
      | .ct => whlL c f n e2
      | .bk => .ok .nx e2
      | .rt v => .ok (.rt v) e2
    else .ok .nx e1

/-- a slot hidden while something runs -/
def hideR {α : Type} (i : Nat) (v : D) : R α → R α
  | .ok a e => match e[i]? with
    | some (some .hid) => .ok a (e.set i (some v))
    | _ => .bad
  | .ex x e => match e[i]? with
    | some (some .hid) => .ex x (e.set i (some v))
    | _ => .bad
  | .bad => .bad
def retC (e : Env) : RC → R D
  | .ok d none => .ok d e
  | .ex x none => .ex x e
  | _ => .bad
def retIO (p : Bool) (i : Nat) (e : Env) : RC → R D
  | .ok d (some (.own _ xs)) => .ok d (e.set i (some (.own p xs)))
  | .ex x (some (.own _ xs)) => .ex x (e.set i (some (.own p xs)))
  | _ => .bad

section
variable (cf : CallF) (gl : Str → Option D)
mutual
/-- an expression's value -/
def ev : IE → Env → R D
  | .lc i, e => readAt i e
  | .gl x, e => .op e (gl x)
  | .cst d, e => .ok d e
  | .bin op a b, e => (ev a e).bind fun x e => (ev b e).bind fun y e => .op e (binD op x.frz y.frz)
  | .neg a, e => (ev a e).bind fun x e => match x with
    | .int i => .ok (.int (-i)) e
    | _ => .bad
  | .cmp op a b, e => (ev a e).bind fun x e => (ev b e).bind fun y e => .op e ((cmpD op x.frz y.frz).map .bl)
  | .chn op op' a b c, e => (ev a e).bind fun x e => (ev b e).bind fun y e => (R.op e (cmpD op x.frz y.frz)).bind fun k e =>
      if k then (ev c e).bind fun z e => .op e ((cmpD op' y.frz z.frz).map .bl) else .ok (.bl false) e
  | .cmpR op a i, e => (ev a e).bind fun x e => .op e ((viewAt i e).bind fun y => (cmpD op x.frz y).map .bl)
  | .cmpL op i b, e => if hasAt i e then (ev b e).bind fun y e => .op e ((viewAt i e).bind fun x => (cmpD op x y.frz).map .bl) else .bad
  | .and_ a b, e => (ev a e).bind fun x e => (R.op e (truth x)).bind fun k e => if k then ev b e else .ok x e
  | .or_ a b, e => (ev a e).bind fun x e => (R.op e (truth x)).bind fun k e => if k then .ok x e else ev b e
  | .not_ a, e => (ev a e).bind fun x e => (R.op e (truth x)).bind fun k e => .ok (.bl (!k)) e
  | .ite c a b, e => (ev c e).bind fun x e => (R.op e (truth x)).bind fun k e => if k then ev a e else ev b e
  | .tup as, e => (evs as e).bind fun ds e => if ds.length ≤ line then .ok (.tup (D.frzs ds)) e else .bad
  | .lst as, e => (evs as e).bind fun ds e => if ds.length ≤ line then .ok (.own false ds) e else .bad
  | .sub a i, e => (ev a e).bind fun x e => (ev i e).bind fun y e => .op e (subD x.frz y)
  | .subB s i, e => if hasAt s e then (ev i e).bind fun y e => match e[s]? with
    | some (some (.own _ xs)) => if plains xs then .op e (subD (.lst xs) y) else .bad
    | some (some .hid) => .bad
    | some (some d) => .op e (subD d y)
    | _ => .bad
    else .bad
  | .slc a lo hi, e => (ev a e).bind fun x e => (ev lo e).bind fun l e => (R.op e (partD l)).bind fun l e => (ev hi e).bind fun h e => (R.op e (partD h)).bind fun h e =>
      .op e (slcD x.frz l h)
  | .no, e => .ok .hid e
  | .yes, e => .ok (.bl true) e
  | .rev a, e => (ev a e).bind fun x e => match x.frz with
    | .lst xs => .ok (.own false xs.reverse) e
    | .tup xs => .ok (.tup xs.reverse) e
    | _ => .bad
  | .comp elt t src cond vs, e => (evI src e).bind fun ds e => if calmAt e vs then
      (compL (fun d e => ((asg t d e).bind fun _ e => (ev cond e).bind fun x e => (R.op e (truth x)).bind fun k e => if k then (ev elt e).bind fun x e => .ok [x] e else .ok [] e).noex) vs ds (wipeE e vs)).bind fun xs e' =>
        if xs.length ≤ line then .ok (.own false xs) (backE e e' vs) else .bad
    else .bad
  | .compB elt t i cond vs, e => match e[i]? with
    | some (some (.own p ds)) => if plains ds && calmAt (e.set i (some .hid)) vs then
      (hideR i (.own p ds) (compL (fun d e => ((asg t d e).bind fun _ e => (ev cond e).bind fun x e => (R.op e (truth x)).bind fun k e => if k then (ev elt e).bind fun x e => .ok [x] e else .ok [] e).noex) vs ds (wipeE (e.set i (some .hid)) vs))).bind fun xs e' =>
        if xs.length ≤ line then .ok (.own false xs) (backE e e' vs) else .bad
      else .bad
    | _ => .bad
  | .callF f as, e => (evs as e).bind fun ds e => retC e (cf f (D.frzs ds))
  | .callIO f i as, e => if hasAt i e then (evs as e).bind fun ds e => match e[i]? with
    | some (some (.own p xs)) => retIO p i e (cf f (.own true xs :: D.frzs ds))
    | _ => .bad
    else .bad
  | .callB b as, e => (evs as e).bind fun ds e => .op e (biD b (D.frzs ds))
  | .callBB b i, e => .op e ((viewP i e).bind fun x => biD b [x])
  | .isi b a, e => (ev a e).bind fun x e => .op e (biD b [x.frz])
  | _, _ => .bad
termination_by structural a => a
/-- arguments, items -/
def evs : IE → Env → R (List D)
  | .nil, e => .ok [] e
  | .cons a as, e => (ev a e).bind fun x e => (evs as e).bind fun xs e => .ok (x :: xs) e
  | .star a as, e => (ev a e).bind fun x e => match itemsOf x.frz with
    | some ys => (evs as e).bind fun xs e => .ok (ys ++ xs) e
    | none => .bad
  | _, _ => .bad
termination_by structural a => a
/-- what is walked -/
def evI : IE → Env → R (List D)
  | .sE a, e => (ev a e).bind fun x e => .op e (itemsOf x.frz)
  | .sR1 a, e => (ev a e).bind fun x e => match x with
    | .int j => if small62 j then .ok (rangeD 0 j.toNat) e else .bad
    | _ => .bad
  | .sR2 a b, e => (ev a e).bind fun x e => (ev b e).bind fun y e => match x, y with
    | .int i, .int j => if small62 i && small62 j then .ok (rangeD i (j - i).toNat) e else .bad
    | _, _ => .bad
  | .sEn a, e => (ev a e).bind fun x e => .op e ((itemsOf x.frz).map (enumD 0))
  | .sZp a b, e => (ev a e).bind fun x e => (ev b e).bind fun y e => match x.frz, y.frz with
    | .lst xs, .lst ys => .ok (zipD xs ys) e
    | .tup xs, .tup ys => .ok (zipD xs ys) e
    | _, _ => .bad
  | _, _ => .bad
termination_by structural a => a
end
/-- a test -/
def evT (a : IE) (e : Env) : R Bool := (ev cf gl a e).bind fun x e => R.op e (truth x)

def wMax : Nat := 1000000
/-- a statement -/
def evS : IS → Env → R Fl
  | .skip, e => .ok .nx e
  | .seq a b, e => (evS a e).bind fun fl e => match fl with
    | .nx => evS b e
    | fl => .ok fl e
  | .asg t a, e => (ev cf gl a e).bind fun x e => (match t with
    | .nm _ => asg t x e
    | _ => asg t x.frz e).bind fun _ e => .ok .nx e
  | .par i j a b, e => (ev cf gl a e).bind fun x e => (ev cf gl b e).bind fun y e => if freeAt i e && freeAt j e then .ok .nx ((e.set i (some x)).set j (some y)) else .bad
  | .par3 i j k a b c, e => (ev cf gl a e).bind fun x e => (ev cf gl b e).bind fun y e => (ev cf gl c e).bind fun z e =>
      if freeAt i e && (freeAt j e && freeAt k e) then .ok .nx (((e.set i (some x)).set j (some y)).set k (some z)) else .bad
  | .aug op i a, e => if hasAt i e then (ev cf gl a e).bind fun y e => match op, e[i]?, y with
    | .Add, some (some (.int x)), .int y => .ok .nx (e.set i (some (.int (x + y))))
    | .Sub, some (some (.int x)), .int y => .ok .nx (e.set i (some (.int (x - y))))
    | _, _, _ => .bad
    else .bad
  | .ife c a b, e => (evT cf gl c e).bind fun k e => if k then evS a e else evS b e
  | .for_ t src body, e => (evI cf gl src e).bind fun ds e => forL (fun d e => (asg t d e).bind fun _ e => evS body e) ds e
  | .forB t i body, e => match e[i]? with
    | some (some (.own p ds)) => if plains ds then hideR i (.own p ds) (forL (fun d e => (asg t d e).bind fun _ e => evS body e) ds (e.set i (some .hid))) else .bad
    | _ => .bad
  | .whl c body, e => whlL (evT cf gl c) (evS body) wMax e
  | .ret a, e => (ev cf gl a e).bind fun x e => .ok (.rt x) e
  | .retS i, e => match e[i]? with
    | some (some d) => if pinned d then .bad else .ok (.rt d) (e.set i none)
    | _ => .bad
  | .retN, e => .ok (.rt .non) e
  | .brk, e => .ok .bk e
  | .cont, e => .ok .ct e
  | .exp a, e => (ev cf gl a e).bind fun _ e => .ok .nx e
  | .app i a, e => if ownAt i e then (ev cf gl a e).bind fun x e => match e[i]? with
    | some (some (.own p xs)) => if xs.length < line then .ok .nx (e.set i (some (.own p (xs ++ [x])))) else .bad
    | _ => .bad
    else .bad
  | .ext i a, e => if ownAt i e then (ev cf gl a e).bind fun x e => match x, e[i]? with
    | .own _ ys, some (some (.own p xs)) => if xs.length + ys.length ≤ line then .ok .nx (e.set i (some (.own p (xs ++ D.frzs ys)))) else .bad
    | _, _ => .bad
    else .bad
  | .ins i k a, e => if ownAt i e then (ev cf gl k e).bind fun n e => (ev cf gl a e).bind fun x e => match n, e[i]? with
    | .int n, some (some (.own p xs)) => if 0 ≤ n ∧ n ≤ xs.length ∧ xs.length < line then .ok .nx (e.set i (some (.own p (xs.take n.toNat ++ [x] ++ xs.drop n.toNat)))) else .bad
    | _, _ => .bad
    else .bad
  | .set i k a, e => (ev cf gl a e).bind fun x e => if hasAt i e then (ev cf gl k e).bind fun n e => match n, e[i]? with
    | .int n, some (some (.own p xs)) => match ixN xs.length n with
      | some j => .ok .nx (e.set i (some (.own p (xs.set j x))))
      | none => .bad
    | _, _ => .bad
    else .bad
  | .raise c a, e => (ev cf gl a e).bind fun x e => .ex ⟨c, some x.frz⟩ e
  | .stop, _ => .bad
end

/-- a def: how many slots, how many parameters, whether the first one is changed for the caller, the body -/
structure Fn where
  slots : Nat
  pars : Nat
  io : Bool
  body : IS
/-- a call, at most so deep -/
def callN (T : List Fn) (gl : Str → Option D) : Nat → CallF
  | 0 => fun _ _ => .bad
  | k + 1 => fun f ds => match T[f]? with
    | some fn => if ds.length = fn.pars then
        match evS (callN T gl k) gl fn.body (ds.map some ++ List.replicate (fn.slots - fn.pars) none) with
        | .ok (.rt d) e => if fn.io then (match e[0]? with
            | some o => .ok d o
            | none => .bad) else .ok d none
        | .ok .nx e => if fn.io then (match e[0]? with
            | some o => .ok .non o
            | none => .bad) else .ok .non none
        | .ok _ _ => .bad
        | .ex x e => if fn.io then (match e[0]? with
            | some o => .ex x o
            | none => .bad) else .ex x none
        | .bad => .bad
      else .bad
    | none => .bad
end PD

set_option Elab.async false
set_option linter.all false
set_option maxRecDepth 100000
namespace PD
open PySem PySem.Spec PyProof.Rows L2

/-- a list, a tuple of the written part -/
def KL (K : PySem.W.Frag) (a : Addr) (xs : List V) : Prop := ∃ (o : Obj) (its : Array Value) (n : Nat), K.lookup a = some o ∧ o.cls = .type "list" ∧ o.dict = none ∧ o.data = .seq its n ∧ its.size ≤ sizeLine ∧ Vals xs its.toList
def KT (K : PySem.W.Frag) (a : Addr) (xs : List V) : Prop := ∃ (o : Obj) (its : Array Value) (n : Nat), K.lookup a = some o ∧ o.cls = .type "tuple" ∧ o.data = .seq its n ∧ its.size ≤ sizeLine ∧ Vals xs its.toList

mutual
/-- by value: nothing of it is owned (O) -/
inductive Rep (K : PySem.W.Frag) (H : Hp) (O : Addr → Prop) : V → D → Prop
  | non : Rep K H O .non .non
  | bl (b : Bool) : Rep K H O (.bl b) (.bl b)
  | int (i : Int) : Rep K H O (.int i) (.int i)
  | str (x : Str) : Rep K H O (.str x) (.str x)
  | tup {a : Addr} {xs : List V} {ds : List D} : (Rd H a (.tup xs) ∧ ¬ O a) ∨ KT K a xs → Reps K H O xs ds → Rep K H O (.ref a) (.tup ds)
  | lst {a : Addr} {xs : List V} {ds : List D} : (Rd H a (.lst xs) ∧ ¬ O a) ∨ KL K a xs → Reps K H O xs ds → Rep K H O (.ref a) (.lst ds)
inductive Reps (K : PySem.W.Frag) (H : Hp) (O : Addr → Prop) : List V → List D → Prop
  | nil : Reps K H O [] []
  | cons {v : V} {d : D} {vs : List V} {ds : List D} : Rep K H O v d → Reps K H O vs ds → Reps K H O (v :: vs) (d :: ds)
end
mutual
/-- owned: the lists at As -/
inductive Own (K : PySem.W.Frag) (H : Hp) (O : Addr → Prop) : List Addr → V → D → Prop
  | val {v : V} {d : D} : Rep K H O v d → Own K H O [] v d
  | own {a : Addr} {xs : List V} {ds : List D} {As : List Addr} {p : Bool} : H a = some (.lst xs) → Owns K H O As xs ds → Own K H O (a :: As) (.ref a) (.own p ds)
inductive Owns (K : PySem.W.Frag) (H : Hp) (O : Addr → Prop) : List Addr → List V → List D → Prop
  | nil : Owns K H O [] [] []
  | cons {As Bs : List Addr} {v : V} {d : D} {vs : List V} {ds : List D} : Own K H O As v d → Owns K H O Bs vs ds → Owns K H O (As ++ Bs) (v :: vs) (d :: ds)
end

section
variable {K : PySem.W.Frag} {H H' : Hp} {O O' : Addr → Prop}
theorem rd_mono {a : Addr} {u : HO} (k : ∀ a o, H a = some o → ¬ O a → H' a = some o) (ho : ∀ a, O' a → O a ∨ H a = none) (h : Rd H a u ∧ ¬ O a) : Rd H' a u ∧ ¬ O' a := by
  obtain ⟨h, n⟩ := h
  refine ⟨?_, fun z => ?_⟩
  · rcases h with h | ⟨o, h⟩
    · exact .inl (k _ _ h n)
    · exact .inr ⟨o, k _ _ h n⟩
  · rcases ho a z with q | q
    · exact n q
    · rcases h with h | ⟨o, h⟩ <;> (rw [q] at h; cases h)
mutual
theorem Rep.mono (k : ∀ a o, H a = some o → ¬ O a → H' a = some o) (ho : ∀ a, O' a → O a ∨ H a = none) : ∀ {v : V} {d : D}, Rep K H O v d → Rep K H' O' v d
  | _, _, .non => .non
  | _, _, .bl b => .bl b
  | _, _, .int i => .int i
  | _, _, .str x => .str x
  | _, _, .tup h r => .tup (h.imp (rd_mono k ho) id) (Reps.mono k ho r)
  | _, _, .lst h r => .lst (h.imp (rd_mono k ho) id) (Reps.mono k ho r)
theorem Reps.mono (k : ∀ a o, H a = some o → ¬ O a → H' a = some o) (ho : ∀ a, O' a → O a ∨ H a = none) : ∀ {vs : List V} {ds : List D}, Reps K H O vs ds → Reps K H' O' vs ds
  | _, _, .nil => .nil
  | _, _, .cons h r => .cons (Rep.mono k ho h) (Reps.mono k ho r)
end
mutual
theorem Own.mono (k : ∀ a o, H a = some o → ¬ O a → H' a = some o) (ho : ∀ a, O' a → O a ∨ H a = none) : ∀ {As : List Addr} {v : V} {d : D}, Own K H O As v d → (∀ a ∈ As, H' a = H a) → Own K H' O' As v d
  | _, _, _, .val h, _ => .val (h.mono k ho)
  | _, _, _, .own h r, e => .own ((e _ List.mem_cons_self).trans h) (Owns.mono k ho r fun a ha => e a (List.mem_cons_of_mem _ ha))
theorem Owns.mono (k : ∀ a o, H a = some o → ¬ O a → H' a = some o) (ho : ∀ a, O' a → O a ∨ H a = none) : ∀ {As : List Addr} {vs : List V} {ds : List D}, Owns K H O As vs ds → (∀ a ∈ As, H' a = H a) → Owns K H' O' As vs ds
  | _, _, _, .nil, _ => .nil
  | _, _, _, .cons h r, e => .cons (Own.mono k ho h fun a ha => e a (List.mem_append_left _ ha)) (Owns.mono k ho r fun a ha => e a (List.mem_append_right _ ha))
end
mutual
/-- owned no more -/
theorem Own.frz (ho : ∀ a, O' a → O a) : ∀ {As : List Addr} {v : V} {d : D}, Own K H O As v d → (∀ a ∈ As, ¬ O' a) → Rep K H O' v d.frz
  | _, _, d, .val h, _ => by
    have e : d.frz = d := by cases h <;> rfl
    rw [e]
    exact h.mono (fun _ _ q _ => q) fun a z => .inl (ho a z)
  | _, _, _, .own h r, n => .lst (.inl ⟨.inl h, n _ List.mem_cons_self⟩) (Owns.frz ho r fun a ha => n a (List.mem_cons_of_mem _ ha))
theorem Owns.frz (ho : ∀ a, O' a → O a) : ∀ {As : List Addr} {vs : List V} {ds : List D}, Owns K H O As vs ds → (∀ a ∈ As, ¬ O' a) → Reps K H O' vs (D.frzs ds)
  | _, _, _, .nil, _ => .nil
  | _, _, _, .cons h r, n => .cons (Own.frz ho h fun a ha => n a (List.mem_append_left _ ha)) (Owns.frz ho r fun a ha => n a (List.mem_append_right _ ha))
end
theorem Rep.frz {v : V} {d : D} (h : Rep K H O v d) : d.frz = d := by cases h <;> rfl
theorem Reps.frz : ∀ {vs : List V} {ds : List D}, Reps K H O vs ds → D.frzs ds = ds
  | _, _, .nil => rfl
  | _, _, .cons h r => by
    show D.frz _ :: D.frzs _ = _
    rw [h.frz, Reps.frz r]
theorem Reps.length : ∀ {vs : List V} {ds : List D}, Reps K H O vs ds → vs.length = ds.length
  | _, _, .nil => rfl
  | _, _, .cons _ r => congrArg Nat.succ (Reps.length r)
theorem Owns.length : ∀ {As : List Addr} {vs : List V} {ds : List D}, Owns K H O As vs ds → vs.length = ds.length
  | _, _, _, .nil => rfl
  | _, _, _, .cons _ r => congrArg Nat.succ (Owns.length r)
theorem Reps.get : ∀ {vs : List V} {ds : List D}, Reps K H O vs ds → ∀ {i : Nat} {v : V}, vs[i]? = some v → ∃ d, ds[i]? = some d ∧ Rep K H O v d
  | _, _, .nil, _, _, e => by simp at e
  | _, _, .cons h _, 0, _, e => by
    simp only [List.getElem?_cons_zero, Option.some.injEq] at e
    subst e
    exact ⟨_, rfl, h⟩
  | _, _, .cons _ r, i + 1, _, e => by
    simp only [List.getElem?_cons_succ] at e
    obtain ⟨d, e2, h⟩ := Reps.get r e
    exact ⟨d, by simpa using e2, h⟩
theorem Reps.get' {vs : List V} {ds : List D} (r : Reps K H O vs ds) {i : Nat} {d : D} (e : ds[i]? = some d) : ∃ v, vs[i]? = some v ∧ Rep K H O v d := by
  have hi : i < vs.length := by
    rw [r.length]
    exact (List.getElem?_eq_some_iff.mp e).1
  obtain ⟨d', e', h⟩ := r.get (List.getElem?_eq_getElem hi)
  rw [e] at e'
  cases e'
  exact ⟨_, List.getElem?_eq_getElem hi, h⟩
theorem Reps.append : ∀ {vs ws : List V} {ds es : List D}, Reps K H O vs ds → Reps K H O ws es → Reps K H O (vs ++ ws) (ds ++ es)
  | _, _, _, _, .nil, q => q
  | _, _, _, _, .cons h r, q => .cons h (Reps.append r q)
theorem Reps.take : ∀ {vs : List V} {ds : List D} (n : Nat), Reps K H O vs ds → Reps K H O (vs.take n) (ds.take n)
  | _, _, 0, _ => .nil
  | _, _, _ + 1, .nil => .nil
  | _, _, n + 1, .cons h r => .cons h (Reps.take n r)
theorem Reps.drop : ∀ {vs : List V} {ds : List D} (n : Nat), Reps K H O vs ds → Reps K H O (vs.drop n) (ds.drop n)
  | _, _, 0, r => r
  | _, _, _ + 1, .nil => .nil
  | _, _, n + 1, .cons _ r => Reps.drop n r
theorem Reps.reverse : ∀ {vs : List V} {ds : List D}, Reps K H O vs ds → Reps K H O vs.reverse ds.reverse
  | _, _, .nil => .nil
  | _, _, .cons h r => by
    rw [List.reverse_cons, List.reverse_cons]
    exact (Reps.reverse r).append (.cons h .nil)
theorem Reps.owns : ∀ {vs : List V} {ds : List D}, Reps K H O vs ds → Owns K H O [] vs ds
  | _, _, .nil => .nil
  | _, _, .cons h r => Owns.cons (As := []) (Bs := []) (.val h) (Reps.owns r)
theorem Owns.append : ∀ {As Bs : List Addr} {vs ws : List V} {ds es : List D}, Owns K H O As vs ds → Owns K H O Bs ws es → Owns K H O (As ++ Bs) (vs ++ ws) (ds ++ es)
  | _, _, _, _, _, _, .nil, q => q
  | _, _, _, _, _, _, .cons h r, q => by
    rw [List.append_assoc]
    exact .cons h (Owns.append r q)
/-- a plain list of items -/
theorem Owns.plain : ∀ {As : List Addr} {vs : List V} {ds : List D}, Owns K H O As vs ds → plains ds = true → As = [] ∧ Reps K H O vs ds
  | _, _, _, .nil, _ => ⟨rfl, .nil⟩
  | _, _, d :: ds, .cons (.val h) r, p => by
    have p2 : plains ds = true := by cases h <;> exact p
    obtain ⟨e, q⟩ := Owns.plain r p2
    subst e
    exact ⟨rfl, .cons h q⟩
  | _, _, _, .cons (.own _ _) _, p => by cases p

/-- the slots: σ the frame's, e the plain ones -/
inductive Slots (K : PySem.W.Frag) (H : Hp) (O : Addr → Prop) : List Addr → L2.St → Env → Prop
  | nil : Slots K H O [] [] []
  | no {A : List Addr} {x : Option V} {σ : L2.St} {e : Env} : Slots K H O A σ e → Slots K H O A (x :: σ) (none :: e)
  | hid {A : List Addr} {v : V} {σ : L2.St} {e : Env} : Slots K H O A σ e → Slots K H O A (some v :: σ) (some .hid :: e)
  | yes {As A : List Addr} {v : V} {d : D} {σ : L2.St} {e : Env} : Own K H O As v d → Slots K H O A σ e → Slots K H O (As ++ A) (some v :: σ) (some d :: e)

theorem Own.nohid {As : List Addr} {v : V} (h : Own K H O As v .hid) : False := by
  cases h with
  | val r => cases r
theorem Slots.length : ∀ {A : List Addr} {σ : L2.St} {e : Env}, Slots K H O A σ e → σ.length = e.length
  | _, _, _, .nil => rfl
  | _, _, _, .no r => congrArg Nat.succ (Slots.length r)
  | _, _, _, .hid r => congrArg Nat.succ (Slots.length r)
  | _, _, _, .yes _ r => congrArg Nat.succ (Slots.length r)
theorem Slots.mono (k : ∀ a o, H a = some o → ¬ O a → H' a = some o) (ho : ∀ a, O' a → O a ∨ H a = none) : ∀ {A : List Addr} {σ : L2.St} {e : Env}, Slots K H O A σ e → (∀ a ∈ A, H' a = H a) → Slots K H' O' A σ e
  | _, _, _, .nil, _ => .nil
  | _, _, _, .no r, e => .no (Slots.mono k ho r e)
  | _, _, _, .hid r, e => .hid (Slots.mono k ho r e)
  | _, _, _, .yes h r, e => .yes (h.mono k ho fun a ha => e a (List.mem_append_left _ ha)) (Slots.mono k ho r fun a ha => e a (List.mem_append_right _ ha))
/-- a slot's value taken out -/
theorem Slots.take : ∀ {A : List Addr} {σ : L2.St} {e : Env} {i : Nat} {d : D}, Slots K H O A σ e → e[i]? = some (some d) → d ≠ .hid →
    ∃ As B v, A.Perm (As ++ B) ∧ σ[i]? = some (some v) ∧ Own K H O As v d ∧ Slots K H O B σ (e.set i none)
  | _, _, _, _, _, .nil, e, _ => by simp at e
  | _, _, _, 0, _, .no r, e, _ => by simp at e
  | _, _, _, i + 1, _, .no r, e, n => by
    simp only [List.getElem?_cons_succ] at e
    obtain ⟨As, B, v, p, q, h, s⟩ := Slots.take r e n
    exact ⟨As, B, v, p, by simpa using q, h, .no s⟩
  | _, _, _, 0, _, .hid r, e, n => by
    simp only [List.getElem?_cons_zero, Option.some.injEq] at e
    exact absurd e.symm n
  | _, _, _, i + 1, _, .hid r, e, n => by
    simp only [List.getElem?_cons_succ] at e
    obtain ⟨As, B, v, p, q, h, s⟩ := Slots.take r e n
    exact ⟨As, B, v, p, by simpa using q, h, .hid s⟩
  | _, _, _, 0, _, .yes h r, e, _ => by
    simp only [List.getElem?_cons_zero, Option.some.injEq] at e
    subst e
    exact ⟨_, _, _, .refl _, rfl, h, .no r⟩
  | _, _, _, i + 1, _, .yes (As := Cs) h0 r, e, n => by
    simp only [List.getElem?_cons_succ] at e
    obtain ⟨As, B, v, p, q, h, s⟩ := Slots.take r e n
    refine ⟨As, Cs ++ B, v, ?_, by simpa using q, h, .yes h0 s⟩
    exact (p.append_left Cs).trans ((List.perm_append_comm_assoc Cs As B))
/-- a value put into an empty slot -/
theorem Slots.put : ∀ {B : List Addr} {σ : L2.St} {e : Env} {i : Nat} {As : List Addr} {v : V} {d : D}, Slots K H O B σ e → e[i]? = some none → Own K H O As v d →
    ∃ A, A.Perm (As ++ B) ∧ Slots K H O A (σ.set i (some v)) (e.set i (some d))
  | _, _, _, _, _, _, _, .nil, e, _ => by simp at e
  | _, _, _, 0, _, _, _, .no r, e, h => ⟨_, .refl _, .yes h r⟩
  | _, _, _, i + 1, _, _, _, .no r, e, h => by
    simp only [List.getElem?_cons_succ] at e
    obtain ⟨A, p, s⟩ := Slots.put r e h
    exact ⟨A, p, .no s⟩
  | _, _, _, 0, _, _, _, .hid r, e, h => by simp at e
  | _, _, _, i + 1, _, _, _, .hid r, e, h => by
    simp only [List.getElem?_cons_succ] at e
    obtain ⟨A, p, s⟩ := Slots.put r e h
    exact ⟨A, p, .hid s⟩
  | _, _, _, 0, _, _, _, .yes h0 r, e, h => by simp at e
  | _, _, _, i + 1, As, _, _, .yes (As := Cs) (A := A0) h0 r, e, h => by
    simp only [List.getElem?_cons_succ] at e
    obtain ⟨A, p, s⟩ := Slots.put r e h
    exact ⟨Cs ++ A, (p.append_left Cs).trans (List.perm_append_comm_assoc Cs As A0), .yes h0 s⟩
/-- a value put back into a hidden slot -/
theorem Slots.unhid : ∀ {B : List Addr} {σ : L2.St} {e : Env} {i : Nat} {As : List Addr} {v : V} {d : D}, Slots K H O B σ e → e[i]? = some (some .hid) → σ[i]? = some (some v) → Own K H O As v d →
    ∃ A, A.Perm (As ++ B) ∧ Slots K H O A σ (e.set i (some d))
  | _, _, _, _, _, _, _, .nil, e, _, _ => by simp at e
  | _, _, _, 0, _, _, _, .no r, e, _, h => by simp at e
  | _, _, _, i + 1, _, _, _, .no r, e, q, h => by
    simp only [List.getElem?_cons_succ] at e q
    obtain ⟨A, p, s⟩ := Slots.unhid r e q h
    exact ⟨A, p, .no s⟩
  | _, _, _, 0, _, _, _, .hid r, e, q, h => by
    simp only [List.getElem?_cons_zero, Option.some.injEq] at q
    subst q
    exact ⟨_, .refl _, .yes h r⟩
  | _, _, _, i + 1, _, _, _, .hid r, e, q, h => by
    simp only [List.getElem?_cons_succ] at e q
    obtain ⟨A, p, s⟩ := Slots.unhid r e q h
    exact ⟨A, p, .hid s⟩
  | _, _, _, 0, _, _, _, .yes h0 r, e, q, h => by
    simp only [List.getElem?_cons_zero, Option.some.injEq] at e
    subst e
    exact (h0.nohid).elim
  | _, _, _, i + 1, As, _, _, .yes (As := Cs) (A := A0) h0 r, e, q, h => by
    simp only [List.getElem?_cons_succ] at e q
    obtain ⟨A, p, s⟩ := Slots.unhid r e q h
    exact ⟨Cs ++ A, (p.append_left Cs).trans (List.perm_append_comm_assoc Cs As A0), .yes h0 s⟩
/-- an empty slot hidden -/
theorem Slots.hide : ∀ {A : List Addr} {σ : L2.St} {e : Env} {i : Nat} {v : V}, Slots K H O A σ e → e[i]? = some none → σ[i]? = some (some v) → Slots K H O A σ (e.set i (some .hid))
  | _, _, _, _, _, .nil, e, _ => by simp at e
  | _, _, _, 0, _, .no r, e, q => by
    simp only [List.getElem?_cons_zero, Option.some.injEq] at q
    subst q
    exact .hid r
  | _, _, _, i + 1, _, .no r, e, q => by
    simp only [List.getElem?_cons_succ] at e q
    exact .no (Slots.hide r e q)
  | _, _, _, 0, _, .hid r, e, q => by simp at e
  | _, _, _, i + 1, _, .hid r, e, q => by
    simp only [List.getElem?_cons_succ] at e q
    exact .hid (Slots.hide r e q)
  | _, _, _, 0, _, .yes h0 r, e, q => by simp at e
  | _, _, _, i + 1, _, .yes h0 r, e, q => by
    simp only [List.getElem?_cons_succ] at e q
    exact .yes h0 (Slots.hide r e q)
/-- an empty slot of the frame may hold anything -/
theorem Slots.any : ∀ {A : List Addr} {σ : L2.St} {e : Env} {i : Nat} {x : Option V}, Slots K H O A σ e → e[i]? = some none → Slots K H O A (σ.set i x) e
  | _, _, _, _, _, .nil, e => by simp at e
  | _, _, _, 0, _, .no r, e => .no r
  | _, _, _, i + 1, _, .no r, e => by
    simp only [List.getElem?_cons_succ] at e
    exact .no (Slots.any r e)
  | _, _, _, 0, _, .hid r, e => by simp at e
  | _, _, _, i + 1, _, .hid r, e => by
    simp only [List.getElem?_cons_succ] at e
    exact .hid (Slots.any r e)
  | _, _, _, 0, _, .yes h0 r, e => by simp at e
  | _, _, _, i + 1, _, .yes h0 r, e => by
    simp only [List.getElem?_cons_succ] at e
    exact .yes h0 (Slots.any r e)
theorem Slots.at_ : ∀ {A : List Addr} {σ : L2.St} {e : Env} {i : Nat} {d : D}, Slots K H O A σ e → e[i]? = some (some d) → ∃ v, σ[i]? = some (some v)
  | _, _, _, _, _, .nil, e => by simp at e
  | _, _, _, 0, _, .no r, e => by simp at e
  | _, _, _, i + 1, _, .no r, e => by
    simp only [List.getElem?_cons_succ] at e ⊢
    exact Slots.at_ r e
  | _, _, _, 0, _, .hid r, e => ⟨_, rfl⟩
  | _, _, _, i + 1, _, .hid r, e => by
    simp only [List.getElem?_cons_succ] at e ⊢
    exact Slots.at_ r e
  | _, _, _, 0, _, .yes h0 r, e => ⟨_, rfl⟩
  | _, _, _, i + 1, _, .yes h0 r, e => by
    simp only [List.getElem?_cons_succ] at e ⊢
    exact Slots.at_ r e
end
end PD

set_option Elab.async false
set_option linter.all false
set_option maxRecDepth 100000
namespace PD
open PySem PySem.Spec PyProof.Rows L2

/-- a frame: the heap at its entry, what it may change of that (ins), what others own (B), the slots that stay (pins) -/
structure Fr where
  K : PySem.W.Frag
  H0 : Hp
  ins : List Addr
  B : Addr → Prop
  pins : List (Nat × V)
abbrev Ps := List (V × D)
/-- some of these, in any sequence -/
def Sub (l m : List Addr) : Prop := ∃ r, (l ++ r).Perm m
theorem Sub.subset {l m : List Addr} (h : Sub l m) : ∀ {a}, a ∈ l → a ∈ m := fun {a} ha => let ⟨_, p⟩ := h; p.mem_iff.mp (List.mem_append_left _ ha)
theorem Sub.nodup {l m : List Addr} (h : Sub l m) (n : m.Nodup) : l.Nodup := let ⟨_, p⟩ := h; (List.nodup_append.mp (p.nodup_iff.mpr n)).1
theorem Sub.of {l m : List Addr} (h : List.Perm l m) : Sub l m := ⟨[], by rw [List.append_nil]; exact h⟩
theorem Sub.mid (A As B : List Addr) : Sub (A ++ B) (A ++ (As ++ B)) := ⟨As, by rw [List.append_assoc]; exact List.Perm.append_left A List.perm_append_comm⟩
def Oc (F : Fr) (A : List Addr) : Addr → Prop := fun a => F.B a ∨ a ∈ A
structure RelA (F : Fr) (A Bs : List Addr) (H : Hp) (σ : L2.St) (e : Env) (ps : Ps) : Prop where
  slots : Slots F.K H (Oc F (A ++ Bs)) A σ e
  pend : Owns F.K H (Oc F (A ++ Bs)) Bs (ps.map (·.1)) (ps.map (·.2))
  nd : (A ++ Bs).Nodup
  own : ∀ a ∈ A ++ Bs, ¬ F.B a ∧ (a ∈ F.ins ∨ F.H0 a = none)
  keep : ∀ a o, F.H0 a = some o → a ∉ F.ins → H a = some o
  trk : ∀ a, F.H0 a ≠ none → H a ≠ none
  bt : ∀ a, F.B a → F.H0 a ≠ none
  pins : ∀ p ∈ F.pins, σ[p.1]? = some (some p.2) ∧ ∃ d, e[p.1]? = some (some d) ∧ pinned d = true
def Rel (F : Fr) (H : Hp) (σ : L2.St) (e : Env) (ps : Ps) : Prop := ∃ A Bs, RelA F A Bs H σ e ps

theorem set_same {α : Type} : ∀ {l : List α} {i : Nat} {x : α}, l[i]? = some x → l.set i x = l
  | [], _, _, h => by simp at h
  | a :: l, 0, x, h => by
    simp only [List.getElem?_cons_zero, Option.some.injEq] at h
    subst h
    rfl
  | a :: l, i + 1, x, h => by
    simp only [List.getElem?_cons_succ] at h
    show a :: l.set i x = a :: l
    rw [set_same h]
theorem set_set {α : Type} : ∀ {l : List α} {i : Nat} {x y : α}, (l.set i x).set i y = l.set i y := by
  intro l i x y
  simp
theorem oc_sub {F : Fr} {A A' : List Addr} (h : ∀ a ∈ A', a ∈ A) : ∀ a, Oc F A' a → Oc F A a := fun a z => z.imp id (h a)
theorem k_same {H : Hp} {O : Addr → Prop} : ∀ a o, H a = some o → ¬ O a → H a = some o := fun _ _ h _ => h

section
variable {F : Fr} {A Bs : List Addr} {H H' : Hp} {σ : L2.St} {e : Env} {ps : Ps} {v : V} {d : D} {i : Nat}

theorem Owns.o {K : PySem.W.Frag} {O O' : Addr → Prop} {As : List Addr} {vs : List V} {ds : List D} (h : Owns K H O As vs ds) (ho : ∀ a, O' a → O a) : Owns K H O' As vs ds := h.mono k_same (fun a z => .inl (ho a z)) fun _ _ => rfl
theorem Slots.o {K : PySem.W.Frag} {O O' : Addr → Prop} {As : List Addr} {σ : L2.St} {e : Env} (h : Slots K H O As σ e) (ho : ∀ a, O' a → O a) : Slots K H O' As σ e := h.mono k_same (fun a z => .inl (ho a z)) fun _ _ => rfl
theorem Own.o {K : PySem.W.Frag} {O O' : Addr → Prop} {As : List Addr} {v : V} {d : D} (h : Own K H O As v d) (ho : ∀ a, O' a → O a) : Own K H O' As v d := h.mono k_same (fun a z => .inl (ho a z)) fun _ _ => rfl
theorem Rep.o {K : PySem.W.Frag} {O O' : Addr → Prop} {v : V} {d : D} (h : Rep K H O v d) (ho : ∀ a, O' a → O a) : Rep K H O' v d := h.mono k_same fun a z => .inl (ho a z)

/-- other addresses, as many or fewer, the same heap -/
theorem RelA.re {A' Bs' : List Addr} {σ' : L2.St} {e' : Env} {ps' : Ps} (R : RelA F A Bs H σ e ps) (sp : Sub (A' ++ Bs') (A ++ Bs)) (s : Slots F.K H (Oc F (A ++ Bs)) A' σ' e')
    (p : Owns F.K H (Oc F (A ++ Bs)) Bs' (ps'.map (·.1)) (ps'.map (·.2))) (pn : ∀ p ∈ F.pins, σ'[p.1]? = some (some p.2) ∧ ∃ d, e'[p.1]? = some (some d) ∧ pinned d = true) : RelA F A' Bs' H σ' e' ps' := by
  have sub : ∀ a ∈ A' ++ Bs', a ∈ A ++ Bs := fun a ha => sp.subset ha
  exact ⟨s.o (oc_sub sub), p.o (oc_sub sub), sp.nodup R.nd, fun a ha => R.own a (sub a ha), R.keep, R.trk, R.bt, pn⟩

/-- the last pending value is dropped -/
theorem Rel.drop {p : V × D} (h : Rel F H σ e (p :: ps)) : Rel F H σ e ps := by
  obtain ⟨A, Bs, R⟩ := h
  have q := R.pend
  simp only [List.map_cons] at q
  cases q with
  | @cons As B2 _ _ _ _ h r => exact ⟨A, B2, R.re (Sub.mid _ _ _) R.slots r R.pins⟩
/-- .. is by value from now on -/
theorem Rel.frz (h : Rel F H σ e ((v, d) :: ps)) : Rel F H σ e ((v, d.frz) :: ps) := by
  obtain ⟨A, Bs, R⟩ := h
  have q := R.pend
  simp only [List.map_cons] at q
  cases q with
  | @cons As B2 _ _ _ _ h r =>
    have sp : Sub (A ++ B2) (A ++ (As ++ B2)) := Sub.mid _ _ _
    have sub : ∀ a ∈ A ++ B2, a ∈ A ++ (As ++ B2) := fun a ha => sp.subset ha
    have hn : ∀ a ∈ As, ¬ Oc F (A ++ B2) a := fun a ha z => by
      rcases z with z | z
      · exact (R.own a (List.mem_append_right _ (List.mem_append_left _ ha))).1 z
      · have nd := R.nd
        rw [← List.append_assoc] at nd
        have p1 : (A ++ As ++ B2).Perm (As ++ (A ++ B2)) := (List.perm_append_comm.append_right B2).trans (by rw [List.append_assoc])
        have nd2 := p1.nodup_iff.mp nd
        exact (List.nodup_append.mp nd2).2.2 a ha a z rfl
    refine ⟨A, B2, R.slots.o (oc_sub sub), ?_, sp.nodup R.nd, fun a ha => R.own a (sub a ha), R.keep, R.trk, R.bt, R.pins⟩
    have h2 := Own.frz (O' := Oc F (A ++ B2)) (oc_sub sub) h hn
    exact Owns.cons (As := []) (.val h2) (r.o (oc_sub sub))
/-- a by-value thing is pending, too -/
theorem RelA.push (R : RelA F A Bs H σ e ps) (h : Rep F.K H (Oc F (A ++ Bs)) v d) : RelA F A Bs H σ e ((v, d) :: ps) :=
  ⟨R.slots, Owns.cons (As := []) (.val h) R.pend, R.nd, R.own, R.keep, R.trk, R.bt, R.pins⟩
theorem Rel.non (h : Rel F H σ e ps) : Rel F H σ e ((.non, .non) :: ps) := let ⟨A, Bs, R⟩ := h; ⟨A, Bs, R.push .non⟩
theorem Rel.bl (h : Rel F H σ e ps) (b : Bool) : Rel F H σ e ((.bl b, .bl b) :: ps) := let ⟨A, Bs, R⟩ := h; ⟨A, Bs, R.push (.bl b)⟩
theorem Rel.int (h : Rel F H σ e ps) (b : Int) : Rel F H σ e ((.int b, .int b) :: ps) := let ⟨A, Bs, R⟩ := h; ⟨A, Bs, R.push (.int b)⟩
theorem Rel.str (h : Rel F H σ e ps) (b : Str) : Rel F H σ e ((.str b, .str b) :: ps) := let ⟨A, Bs, R⟩ := h; ⟨A, Bs, R.push (.str b)⟩

theorem Owns.split {K : PySem.W.Frag} {O : Addr → Prop} : ∀ {As : List Addr} {vs ws : List V} {ds es : List D}, vs.length = ds.length → Owns K H O As (vs ++ ws) (ds ++ es) → ∃ B1 B2, As = B1 ++ B2 ∧ Owns K H O B1 vs ds ∧ Owns K H O B2 ws es
  | _, [], _, [], _, _, h => ⟨[], _, rfl, .nil, h⟩
  | _, [], _, _ :: _, _, l, _ => by simp at l
  | _, _ :: _, _, [], _, l, _ => by simp at l
  | _, v :: vs, ws, d :: ds, es, l, h => by
    simp only [List.cons_append] at h
    cases h with
    | @cons As B2 _ _ _ _ h r =>
      obtain ⟨B1, B3, e, q1, q2⟩ := Owns.split (by simpa using l) r
      exact ⟨As ++ B1, B3, by rw [e, List.append_assoc], .cons h q1, q2⟩
/-- pending values of two lists -/
def zps : List V → List D → Ps
  | v :: vs, d :: ds => (v, d) :: zps vs ds
  | _, _ => []
theorem zps_fst : ∀ {vs : List V} {ds : List D}, vs.length = ds.length → (zps vs ds).map (·.1) = vs
  | [], [], _ => rfl
  | [], _ :: _, l => by simp at l
  | _ :: _, [], l => by simp at l
  | v :: vs, d :: ds, l => by
    show v :: (zps vs ds).map (·.1) = v :: vs
    rw [zps_fst (by simpa using l)]
theorem zps_snd : ∀ {vs : List V} {ds : List D}, vs.length = ds.length → (zps vs ds).map (·.2) = ds
  | [], [], _ => rfl
  | [], _ :: _, l => by simp at l
  | _ :: _, [], l => by simp at l
  | v :: vs, d :: ds, l => by
    show d :: (zps vs ds).map (·.2) = d :: ds
    rw [zps_snd (by simpa using l)]
theorem RelA.split {vs : List V} {ds : List D} (R : RelA F A Bs H σ e (zps vs ds ++ ps)) (l : vs.length = ds.length) :
    ∃ B1 B2, Bs = B1 ++ B2 ∧ Owns F.K H (Oc F (A ++ Bs)) B1 vs ds ∧ Owns F.K H (Oc F (A ++ Bs)) B2 (ps.map (·.1)) (ps.map (·.2)) := by
  have q := R.pend
  rw [List.map_append, List.map_append, zps_fst l, zps_snd l] at q
  exact Owns.split l q

/-- a heap with one more thing -/
theorem keep_new {p : Addr} {o : HO} (hp : H p = none) {O : Addr → Prop} : ∀ a u, H a = some u → ¬ O a → upd H p o a = some u := fun a u h _ => by
  have hne : a ≠ p := fun z => by rw [z, hp] at h; cases h
  rw [upd_ne hne]
  exact h
theorem Owns.there {K : PySem.W.Frag} {O : Addr → Prop} : ∀ {As : List Addr} {vs : List V} {ds : List D}, Owns K H O As vs ds → ∀ a ∈ As, ∃ xs, H a = some (.lst xs) := by
  intro As vs ds h
  refine Owns.rec (motive_1 := fun As v d _ => ∀ a ∈ As, ∃ xs, H a = some (.lst xs)) (motive_2 := fun As vs ds _ => ∀ a ∈ As, ∃ xs, H a = some (.lst xs)) ?_ ?_ ?_ ?_ h
  · intro v d _ a ha
    cases ha
  · intro a xs ds As p h _ ih b hb
    rcases List.mem_cons.mp hb with z | z
    · rw [z]; exact ⟨_, h⟩
    · exact ih b z
  · intro a ha
    cases ha
  · intro As Bs v d vs ds _ _ h1 h2 a ha
    rcases List.mem_append.mp ha with z | z
    · exact h1 a z
    · exact h2 a z
theorem Own.there {K : PySem.W.Frag} {O : Addr → Prop} {As : List Addr} {v : V} {d : D} (h : Own K H O As v d) : ∀ a ∈ As, ∃ xs, H a = some (.lst xs) := by
  cases h with
  | val _ => intro a ha; cases ha
  | own h r =>
    intro a ha
    rcases List.mem_cons.mp ha with z | z
    · rw [z]; exact ⟨_, h⟩
    · exact r.there a z
theorem Slots.there {K : PySem.W.Frag} {O : Addr → Prop} : ∀ {A : List Addr} {σ : L2.St} {e : Env}, Slots K H O A σ e → ∀ a ∈ A, ∃ xs, H a = some (.lst xs)
  | _, _, _, .nil, a, ha => by cases ha
  | _, _, _, .no r, a, ha => Slots.there r a ha
  | _, _, _, .hid r, a, ha => Slots.there r a ha
  | _, _, _, .yes h r, a, ha => by
    rcases List.mem_append.mp ha with z | z
    · exact h.there a z
    · exact Slots.there r a z
theorem RelA.there (R : RelA F A Bs H σ e ps) : ∀ a ∈ A ++ Bs, ∃ xs, H a = some (.lst xs) := fun a ha => by
  rcases List.mem_append.mp ha with z | z
  · exact R.slots.there a z
  · exact R.pend.there a z
theorem RelA.h0 {p : Addr} (R : RelA F A Bs H σ e ps) (hp : H p = none) : F.H0 p = none := by
  cases q : F.H0 p with
  | none => rfl
  | some o => exact absurd hp (R.trk p (by rw [q]; exact fun z => nomatch z))
theorem RelA.nB {p : Addr} (R : RelA F A Bs H σ e ps) (hp : H p = none) : ¬ F.B p := fun z => R.bt p z (R.h0 hp)
theorem RelA.trkU {p : Addr} {o : HO} (R : RelA F A Bs H σ e ps) : ∀ a, F.H0 a ≠ none → upd H p o a ≠ none := fun a ha => by
  by_cases z : a = p
  · rw [z, upd_same]; exact fun q => nomatch q
  · rw [upd_ne z]; exact R.trk a ha
theorem RelA.fresh {p : Addr} (R : RelA F A Bs H σ e ps) (hp : H p = none) : p ∉ A ++ Bs := fun z => by
  obtain ⟨xs, q⟩ := R.there p z
  rw [hp] at q
  cases q
/-- a new tuple of pending values -/
theorem Rel.newT {vs : List V} {ds : List D} {p : Addr} (h : Rel F H σ e (zps vs ds ++ ps)) (l : vs.length = ds.length) (hp : H p = none) : Rel F (upd H p (.tup vs)) σ e ((.ref p, .tup (D.frzs ds)) :: ps) := by
  obtain ⟨A, Bs, R⟩ := h
  obtain ⟨B1, B2, eB, q1, q2⟩ := R.split l
  subst eB
  have sp : Sub (A ++ B2) (A ++ (B1 ++ B2)) := Sub.mid _ _ _
  have sub : ∀ a ∈ A ++ B2, a ∈ A ++ (B1 ++ B2) := fun a ha => sp.subset ha
  have hn : ∀ a ∈ B1, ¬ Oc F (A ++ B2) a := fun a ha z => by
    rcases z with z | z
    · exact (R.own a (List.mem_append_right _ (List.mem_append_left _ ha))).1 z
    · have nd := R.nd
      rw [← List.append_assoc] at nd
      have p1 : (A ++ B1 ++ B2).Perm (B1 ++ (A ++ B2)) := (List.perm_append_comm.append_right B2).trans (by rw [List.append_assoc])
      exact (List.nodup_append.mp (p1.nodup_iff.mp nd)).2.2 a ha a z rfl
  have rs := (q1.frz (O' := Oc F (A ++ B2)) (oc_sub sub) hn)
  have fr := R.fresh hp
  have hB := R.nB hp
  have h0 := R.h0 hp
  have same : ∀ a ∈ A ++ (B1 ++ B2), upd H p (.tup vs) a = H a := fun a ha => upd_ne fun z => fr (z ▸ ha)
  have ho : ∀ a, Oc F (A ++ B2) a → Oc F (A ++ (B1 ++ B2)) a ∨ H a = none := fun a z => .inl (oc_sub sub a z)
  refine ⟨A, B2, R.slots.mono (keep_new hp) ho fun a ha => same a (List.mem_append_left _ ha), ?_, sp.nodup R.nd, fun a ha => R.own a (sub a ha), fun a o h1 h2 => ?_, R.trkU, R.bt, R.pins⟩
  · refine Owns.cons (As := []) (.val (.tup (.inl ⟨.inl upd_same, fun z => ?_⟩) (rs.mono (keep_new hp) fun a z => .inl z))) (q2.mono (keep_new hp) ho fun a ha => same a (List.mem_append_right _ (List.mem_append_right _ ha)))
    rcases z with z | z
    · exact hB z
    · exact fr (sub _ z)
  · have hne : a ≠ p := fun z => by rw [z, h0] at h1; cases h1
    rw [upd_ne hne]
    exact R.keep a o h1 h2
/-- a new list of pending values, owned -/
theorem Rel.newL {vs : List V} {ds : List D} {p : Addr} (h : Rel F H σ e (zps vs ds ++ ps)) (l : vs.length = ds.length) (hp : H p = none) : Rel F (upd H p (.lst vs)) σ e ((.ref p, .own false ds) :: ps) := by
  obtain ⟨A, Bs, R⟩ := h
  obtain ⟨B1, B2, eB, q1, q2⟩ := R.split l
  subst eB
  have fr := R.fresh hp
  have hB := R.nB hp
  have h0 := R.h0 hp
  have same : ∀ a ∈ A ++ (B1 ++ B2), upd H p (.lst vs) a = H a := fun a ha => upd_ne fun z => fr (z ▸ ha)
  have perm : (A ++ (p :: B1 ++ B2)).Perm (p :: (A ++ (B1 ++ B2))) := by
    show (A ++ p :: (B1 ++ B2)).Perm _
    exact List.perm_middle
  have ho : ∀ a, Oc F (A ++ (p :: B1 ++ B2)) a → Oc F (A ++ (B1 ++ B2)) a ∨ H a = none := fun a z => by
    rcases z with z | z
    · exact .inl (.inl z)
    · rcases List.mem_cons.mp (perm.mem_iff.mp z) with z | z
      · exact .inr (z ▸ hp)
      · exact .inl (.inr z)
  refine ⟨A, p :: B1 ++ B2, R.slots.mono (keep_new hp) ho fun a ha => same a (List.mem_append_left _ ha), ?_, perm.nodup_iff.mpr (List.nodup_cons.mpr ⟨fr, R.nd⟩), fun a ha => ?_, fun a o h1 h2 => ?_, R.trkU, R.bt, R.pins⟩
  · exact Owns.cons (.own upd_same (q1.mono (keep_new hp) ho fun a ha => same a (List.mem_append_right _ (List.mem_append_left _ ha)))) (q2.mono (keep_new hp) ho fun a ha => same a (List.mem_append_right _ (List.mem_append_right _ ha)))
  · rcases List.mem_cons.mp (perm.mem_iff.mp ha) with z | z
    · rw [z]; exact ⟨hB, .inr h0⟩
    · exact R.own a z
  · have hne : a ≠ p := fun z => by rw [z, h0] at h1; cases h1
    rw [upd_ne hne]
    exact R.keep a o h1 h2
end
end PD

set_option Elab.async false
set_option linter.all false
set_option maxRecDepth 100000
namespace PD
open PySem PySem.Spec PyProof.Rows L2
section
variable {F : Fr} {A Bs : List Addr} {H H' : Hp} {σ : L2.St} {e : Env} {ps : Ps} {v : V} {d : D} {i : Nat}

theorem pinned_hid {d : D} (h : pinned d = false) : d ≠ .hid := fun z => by rw [z] at h; cases h
theorem pin_ne (R : RelA F A Bs H σ e ps) (h : e[i]? = some (some d)) (hp : pinned d = false) : ∀ p ∈ F.pins, p.1 ≠ i := fun p hp' z => by
  obtain ⟨_, d', q, pd⟩ := R.pins p hp'
  rw [z, h] at q
  cases q
  rw [hp] at pd
  cases pd
theorem pin_ne0 (R : RelA F A Bs H σ e ps) (h : e[i]? = some none) : ∀ p ∈ F.pins, p.1 ≠ i := fun p hp' z => by
  obtain ⟨_, d', q, pd⟩ := R.pins p hp'
  rw [z, h] at q
  cases q
theorem pins_set (R : RelA F A Bs H σ e ps) (n : ∀ p ∈ F.pins, p.1 ≠ i) (x : Option V) (y : Option D) :
    ∀ p ∈ F.pins, (σ.set i x)[p.1]? = some (some p.2) ∧ ∃ d, (e.set i y)[p.1]? = some (some d) ∧ pinned d = true := fun p hp => by
  obtain ⟨h1, d, h2, h3⟩ := R.pins p hp
  have ne : i ≠ p.1 := Ne.symm (n p hp)
  exact ⟨by rw [List.getElem?_set_ne ne]; exact h1, d, by rw [List.getElem?_set_ne ne]; exact h2, h3⟩
theorem pins_setE (R : RelA F A Bs H σ e ps) (n : ∀ p ∈ F.pins, p.1 ≠ i) (y : Option D) :
    ∀ p ∈ F.pins, σ[p.1]? = some (some p.2) ∧ ∃ d, (e.set i y)[p.1]? = some (some d) ∧ pinned d = true := fun p hp => by
  obtain ⟨h1, d, h2, h3⟩ := R.pins p hp
  have ne : i ≠ p.1 := Ne.symm (n p hp)
  exact ⟨h1, d, by rw [List.getElem?_set_ne ne]; exact h2, h3⟩
theorem pins_setP (R : RelA F A Bs H σ e ps) {y : D} (hy : pinned y = true) :
    ∀ p ∈ F.pins, σ[p.1]? = some (some p.2) ∧ ∃ d, (e.set i (some y))[p.1]? = some (some d) ∧ pinned d = true := fun p hp => by
  obtain ⟨h1, d, h2, h3⟩ := R.pins p hp
  by_cases ne : i = p.1
  · subst ne
    exact ⟨h1, y, by rw [List.getElem?_set_self (List.getElem?_eq_some_iff.mp h2).1], hy⟩
  · exact ⟨h1, d, by rw [List.getElem?_set_ne ne]; exact h2, h3⟩
theorem at_lt {α : Type} {l : List α} {x : α} (h : l[i]? = some x) : i < l.length := (List.getElem?_eq_some_iff.mp h).1
theorem set_at {α : Type} {l : List α} {x y : α} (h : l[i]? = some x) : (l.set i y)[i]? = some y := List.getElem?_set_self (at_lt h)

theorem perm3 (As B Bs : List Addr) : (B ++ (As ++ Bs)).Perm (As ++ B ++ Bs) := by
  have h : (B ++ As).Perm (As ++ B) := List.perm_append_comm
  have := h.append_right Bs
  rwa [List.append_assoc] at this
/-- a slot's value is taken out: it is pending -/
theorem Rel.take (R : Rel F H σ e ps) (h : e[i]? = some (some d)) (hp : pinned d = false) : ∃ v, σ[i]? = some (some v) ∧ Rel F H σ (e.set i none) ((v, d) :: ps) := by
  obtain ⟨A, Bs, R⟩ := R
  obtain ⟨As, B, v, p, hv, ho, s⟩ := R.slots.take h (pinned_hid hp)
  refine ⟨v, hv, B, As ++ Bs, ?_⟩
  exact R.re (Sub.of ((perm3 As B Bs).trans (p.symm.append_right Bs))) s (Owns.cons ho R.pend) (pins_setE R (pin_ne R h hp) none)
/-- a pending value is put into an empty slot -/
theorem Rel.put (R : Rel F H σ e ((v, d) :: ps)) (h : e[i]? = some none) : Rel F H (σ.set i (some v)) (e.set i (some d)) ps := by
  obtain ⟨A, Bs, R⟩ := R
  have q := R.pend
  simp only [List.map_cons] at q
  cases q with
  | @cons As B2 _ _ _ _ h1 r =>
    obtain ⟨A', p, s⟩ := R.slots.put h h1
    refine ⟨A', B2, ?_⟩
    refine R.re (Sub.of ((p.append_right B2).trans ?_)) s r (pins_set R (pin_ne0 R h) _ _)
    exact (perm3 As A B2).symm
theorem Rel.slot (R : Rel F H σ e ps) (h : e[i]? = some (some d)) : ∃ v, σ[i]? = some (some v) := let ⟨_, _, R⟩ := R; R.slots.at_ h
theorem Rel.len (R : Rel F H σ e ps) : σ.length = e.length := let ⟨_, _, R⟩ := R; R.slots.length
/-- a slot forgotten -/
theorem Rel.forget (R : Rel F H σ e ps) (h : freeAt i e = true) (x : Option V) : Rel F H (σ.set i x) (e.set i none) ps := by
  unfold freeAt at h
  cases q : e[i]? with
  | none => rw [q] at h; cases h
  | some o =>
    cases o with
    | none =>
      obtain ⟨A, Bs, R⟩ := R
      rw [set_same q]
      have z := R.slots.any (x := x) q
      refine ⟨A, Bs, z, R.pend, R.nd, R.own, R.keep, R.trk, R.bt, ?_⟩
      have w := pins_set R (pin_ne0 R q) x none
      rwa [set_same q] at w
    | some d =>
      rw [q] at h
      have hp : pinned d = false := by simpa using h
      obtain ⟨v, hv, R2⟩ := R.take q hp
      have R3 := R2.drop
      obtain ⟨A, Bs, R4⟩ := R3
      have z := R4.slots.any (x := x) (set_at q)
      refine ⟨A, Bs, z, R4.pend, R4.nd, R4.own, R4.keep, R4.trk, R4.bt, ?_⟩
      have w := pins_set R4 (pin_ne0 R4 (set_at q)) x none
      rwa [set_set] at w
/-- a pending value is stored -/
theorem Rel.set (R : Rel F H σ e ((v, d) :: ps)) (h : freeAt i e = true) : Rel F H (σ.set i (some v)) (e.set i (some d)) ps := by
  have R2 := R.forget (i := i) h none
  have hl : i < e.length := by
    unfold freeAt at h
    cases q : e[i]? with
    | none => rw [q] at h; cases h
    | some o => exact at_lt q
  have R3 := R2.put (i := i) (List.getElem?_set_self hl)
  rwa [set_set, set_set] at R3
/-- a slot is read: by value from now on -/
theorem Rel.read (R : Rel F H σ e ps) (h : e[i]? = some (some d)) (hp : pinned d = false) : ∃ v, σ[i]? = some (some v) ∧ Rel F H σ (e.set i (some d.frz)) ((v, d.frz) :: ps) := by
  obtain ⟨v, hv, R2⟩ := R.take h hp
  obtain ⟨A, Bs, R3⟩ := R2.frz
  refine ⟨v, hv, ?_⟩
  have q := R3.pend
  simp only [List.map_cons] at q
  have hr : Rep F.K H (Oc F (A ++ Bs)) v d.frz := by
    cases q with
    | cons h1 r =>
      cases hd : d.frz with
      | own p ds => cases d <;> cases hd
      | _ =>
        rw [hd] at h1
        cases h1 with
        | val w => exact w
  have R4 : Rel F H σ (e.set i none) ((v, d.frz) :: (v, d.frz) :: ps) := ⟨A, Bs, R3.push hr⟩
  have R5 := R4.put (i := i) (set_at h)
  rwa [set_set, set_same hv] at R5
/-- a slot is looked at -/
theorem Rel.view (R : Rel F H σ e ps) (h : e[i]? = some (some d)) (hh : d ≠ .hid) : ∃ v, σ[i]? = some (some v) ∧ Rep F.K H (fun _ => False) v d.frz := by
  obtain ⟨A, Bs, R⟩ := R
  obtain ⟨As, B, v, p, hv, ho, s⟩ := R.slots.take h hh
  exact ⟨v, hv, ho.frz (O' := fun _ => False) (fun _ z => z.elim) fun _ _ z => z⟩

/-- a heap with another list at a -/
theorem keep_upd {a : Addr} {xs : List V} {O : Addr → Prop} (ha : O a) : ∀ b u, H b = some u → ¬ O b → upd H a (.lst xs) b = some u := fun b u h n => by
  have hne : b ≠ a := fun z => n (z ▸ ha)
  rw [upd_ne hne]
  exact h
/-- a slot's owned list is changed -/
theorem Rel.mut (R : Rel F H σ e ps) {pn : Bool} {xs : List D} (h : e[i]? = some (some (.own pn xs))) :
    ∃ (a : Addr) (vs : List V) (As A0 Bs : List Addr) (O : Addr → Prop), σ[i]? = some (some (.ref a)) ∧ H a = some (.lst vs) ∧ Owns F.K H O As vs xs ∧ Owns F.K H O Bs (ps.map (·.1)) (ps.map (·.2)) ∧
      ∀ (vs' : List V) (ds' : List D) (Cs Bs' : List Addr) (ps' : Ps), Owns F.K H O Cs vs' ds' → Owns F.K H O Bs' (ps'.map (·.1)) (ps'.map (·.2)) → Sub (Cs ++ Bs') (As ++ Bs) →
        Rel F (upd H a (.lst vs')) σ (e.set i (some (.own pn ds'))) ps' := by
  obtain ⟨A, Bs, R⟩ := R
  obtain ⟨As', B, v, p, hv, ho, s⟩ := R.slots.take h (fun z => nomatch z)
  cases ho with
  | val r => cases r
  | @own a vs _ As _ ha hx =>
    refine ⟨a, vs, As, B, Bs, _, hv, ha, hx, R.pend, ?_⟩
    intro vs' ds' Cs Bs' ps' hC hB' hs
    -- all addresses: a :: As ++ B ++ Bs
    have pall : (A ++ Bs).Perm (a :: (As ++ B ++ Bs)) := p.append_right Bs
    have nd1 : (a :: (As ++ B ++ Bs)).Nodup := pall.nodup_iff.mp R.nd
    have na : a ∉ As ++ B ++ Bs := (List.nodup_cons.mp nd1).1
    have sAll : Sub (a :: (Cs ++ B ++ Bs')) (A ++ Bs) := by
      obtain ⟨r, hr⟩ := hs
      refine ⟨r, ?_⟩
      have e1 : (a :: (Cs ++ B ++ Bs') ++ r).Perm (a :: ((Cs ++ Bs') ++ r ++ B)) := by
        refine List.Perm.cons a ?_
        have h1 : (Cs ++ B ++ Bs' ++ r).Perm (Cs ++ (Bs' ++ r ++ B)) := by
          rw [List.append_assoc, List.append_assoc]
          refine List.Perm.append_left Cs ?_
          rw [← List.append_assoc]
          have : (B ++ (Bs' ++ r)).Perm ((Bs' ++ r) ++ B) := List.perm_append_comm
          rwa [← List.append_assoc] at this
        refine h1.trans ?_
        rw [← List.append_assoc, ← List.append_assoc]
      refine e1.trans ((List.Perm.cons a ((hr.append_right B).trans ?_)).trans pall.symm)
      rw [List.append_assoc, List.append_assoc]
      exact List.Perm.append_left As List.perm_append_comm
    have subAll : ∀ b ∈ a :: (Cs ++ B ++ Bs'), b ∈ A ++ Bs := fun b hb => sAll.subset hb
    have oa : Oc F (A ++ Bs) a := .inr (pall.mem_iff.mpr List.mem_cons_self)
    have hne : ∀ b ∈ As ++ B ++ Bs, upd H a (.lst vs') b = H b := fun b hb => upd_ne fun z => na (z ▸ hb)
    have inCB : ∀ b ∈ Cs ++ Bs', b ∈ As ++ B ++ Bs := fun b hb => by
      have := hs.subset hb
      rcases List.mem_append.mp this with z | z
      · exact List.mem_append_left _ (List.mem_append_left _ z)
      · exact List.mem_append_right _ z
    have ho2 : ∀ c, Oc F (a :: (Cs ++ B ++ Bs')) c → Oc F (A ++ Bs) c ∨ H c = none := fun c z => .inl (z.imp id (subAll c))
    have s2 : Slots F.K (upd H a (.lst vs')) (Oc F (a :: (Cs ++ B ++ Bs'))) B σ (e.set i none) := s.mono (keep_upd oa) ho2 fun b hb => hne b (List.mem_append_left _ (List.mem_append_right _ hb))
    have o2 : Own F.K (upd H a (.lst vs')) (Oc F (a :: (Cs ++ B ++ Bs'))) (a :: Cs) (.ref a) (.own pn ds') :=
      .own upd_same (hC.mono (keep_upd oa) ho2 fun b hb => hne b (inCB b (List.mem_append_left _ hb)))
    have b2 : Owns F.K (upd H a (.lst vs')) (Oc F (a :: (Cs ++ B ++ Bs'))) Bs' (ps'.map (·.1)) (ps'.map (·.2)) := hB'.mono (keep_upd oa) ho2 fun b hb => hne b (inCB b (List.mem_append_right _ hb))
    obtain ⟨A', p2, s3⟩ := s2.put (i := i) (set_at h) o2
    rw [set_set, set_same hv] at s3
    have pA : (A' ++ Bs').Perm (a :: (Cs ++ B ++ Bs')) := p2.append_right Bs'
    have eqm : ∀ c, Oc F (A' ++ Bs') c → Oc F (a :: (Cs ++ B ++ Bs')) c := fun c z => z.imp id fun q => pA.mem_iff.mp q
    refine ⟨A', Bs', s3.o eqm, b2.o eqm, pA.nodup_iff.mpr (sAll.nodup R.nd), fun b hb => R.own b (subAll b (pA.mem_iff.mp hb)), fun b o h1 h2 => ?_, R.trkU, R.bt, ?_⟩
    · have hba : b ≠ a := fun z => by
        subst z
        rcases (R.own b (pall.mem_iff.mpr List.mem_cons_self)).2 with q | q
        · exact h2 q
        · rw [q] at h1; cases h1
      rw [upd_ne hba]
      exact R.keep b o h1 h2
    · intro q hq
      obtain ⟨h1, d, h2, h3⟩ := R.pins q hq
      by_cases ne : i = q.1
      · subst ne
        rw [h] at h2
        cases h2
        exact ⟨h1, _, set_at h, h3⟩
      · exact ⟨h1, d, by rw [List.getElem?_set_ne ne]; exact h2, h3⟩

/-- pending values in another sequence, or fewer -/
theorem Rel.one {p q : V × D} (R : Rel F H σ e (p :: q :: ps)) : Rel F H σ e (p :: ps) := by
  obtain ⟨A, Bs, R⟩ := R
  have z := R.pend
  simp only [List.map_cons] at z
  cases z with
  | @cons As B2 _ _ _ _ h1 r =>
    cases r with
    | @cons As' B3 _ _ _ _ h2 r2 =>
      refine ⟨A, As ++ B3, R.re ?_ R.slots (Owns.cons h1 r2) R.pins⟩
      refine ⟨As', ?_⟩
      have h3 : (B3 ++ As').Perm (As' ++ B3) := List.perm_append_comm
      have : (A ++ (As ++ B3) ++ As').Perm (A ++ (As ++ (As' ++ B3))) := by
        rw [List.append_assoc, List.append_assoc]
        exact List.Perm.append_left A (List.Perm.append_left As h3)
      exact this
theorem Rel.swap {p q : V × D} (R : Rel F H σ e (p :: q :: ps)) : Rel F H σ e (q :: p :: ps) := by
  obtain ⟨A, Bs, R⟩ := R
  have z := R.pend
  simp only [List.map_cons] at z
  cases z with
  | @cons As B2 _ _ _ _ h1 r =>
    cases r with
    | @cons As' B3 _ _ _ _ h2 r2 =>
      refine ⟨A, As' ++ (As ++ B3), R.re (Sub.of (List.Perm.append_left A (List.perm_append_comm_assoc As' As B3))) R.slots (Owns.cons h2 (Owns.cons h1 r2)) R.pins⟩
/-- the heap of a by-value pending thing -/
theorem Rel.rep (R : Rel F H σ e ((v, d) :: ps)) (hd : d.frz = d) : ∃ A Bs, RelA F A Bs H σ e ((v, d) :: ps) ∧ Rep F.K H (Oc F (A ++ Bs)) v d := by
  obtain ⟨A, Bs, R⟩ := R
  refine ⟨A, Bs, R, ?_⟩
  have q := R.pend
  simp only [List.map_cons] at q
  cases q with
  | cons h1 r =>
    cases h1 with
    | val w => exact w
    | own h2 h3 => cases hd
end
end PD

set_option Elab.async false
set_option linter.all false
set_option maxRecDepth 100000
namespace PD
open PySem PySem.Spec PyProof.Rows L2

/-- how an exception of plain data lies -/
abbrev XRT := EX → Value → Option Addr → Hp → Prop
/-- what an outcome asks -/
def Out {α : Type} (F : Fr) (XR : XRT) (W : WX) (σ : L2.St) (ps : Ps) (Q : α → Env → Prop) : R α → Prop
  | .ok a e => Q a e
  | .ex x e => ∀ cls dd H', Rel F H' σ e ps → XR x cls dd H' → W cls dd σ H'
  | .bad => False
theorem Out.bind {α β : Type} {F : Fr} {XR : XRT} {W : WX} {σ : L2.St} {ps : Ps} {Q : β → Env → Prop} {m : R α} {f : α → Env → R β} (h : Out F XR W σ ps Q (m.bind f)) : Out F XR W σ ps (fun a e => Out F XR W σ ps Q (f a e)) m := by
  cases m with
  | ok a e => exact h
  | ex x e => exact h
  | bad => exact h
theorem Out.imp {α : Type} {F : Fr} {XR : XRT} {W : WX} {σ : L2.St} {ps : Ps} {Q Q' : α → Env → Prop} {m : R α} (h : Out F XR W σ ps Q m) (k : ∀ a e, Q a e → Q' a e) : Out F XR W σ ps Q' m := by
  cases m with
  | ok a e => exact k a e h
  | ex x e => exact h
  | bad => exact h
/-- more is pending -/
theorem Out.more {α : Type} {F : Fr} {XR : XRT} {W : WX} {σ : L2.St} {ps : Ps} {Q : α → Env → Prop} {m : R α} {p : V × D} (h : Out F XR W σ ps Q m) : Out F XR W σ (p :: ps) Q m := by
  cases m with
  | ok a e => exact h
  | ex x e => exact fun cls dd H' R q => h cls dd H' R.drop q
  | bad => exact h
theorem Out.mores {α : Type} {F : Fr} {XR : XRT} {W : WX} {σ : L2.St} {ps : Ps} {Q : α → Env → Prop} {m : R α} (h : Out F XR W σ ps Q m) : ∀ l : Ps, Out F XR W σ (l ++ ps) Q m
  | [] => h
  | _ :: l => (Out.mores h l).more
section
variable (cf : CallF) (gl : Str → Option D) (F : Fr) (XR : XRT) (W : WX)
/-- the reading of an expression: what the evaluator says -/
def tEv (ie : IE) : TE := fun σ H Q => ∃ env ps, Rel F H σ env ps ∧ Out F XR W σ ps (fun d e => ∀ v H', Rel F H' σ e ((v, d) :: ps) → Q v H') (ev cf gl ie env)
/-- .. of a test -/
def tTs (ie : IE) : TT := fun σ H Q => ∃ env ps, Rel F H σ env ps ∧ Out F XR W σ ps (fun k e => ∀ H', Rel F H' σ e ps → Q k H') (evT cf gl ie env)
/-- .. of arguments -/
def tEvs (ie : IE) : TA := fun σ H Q => ∃ env ps, Rel F H σ env ps ∧ Out F XR W σ ps (fun ds e => ∀ vs H', vs.length = ds.length → Rel F H' σ e (zps vs ds ++ ps) → Q vs H') (evs cf gl ie env)
end
theorem PE.of {X : Cx} {e : Expr} {t t' : TE} (h : PE X e t) (w : ∀ σ H Q, t' σ H Q → t σ H Q) : PE X e t' := ⟨fun pins s σ H Q I q => h.run pins s σ H Q I (w σ H Q q)⟩
theorem PT.of {X : Cx} {e : Expr} {t t' : TT} (h : PT X e t) (w : ∀ σ H Q, t' σ H Q → t σ H Q) : PT X e t' := ⟨fun pins s σ H Q I q => h.run pins s σ H Q I (w σ H Q q)⟩
theorem PW.of {X : Cx} {e : Expr} {t t' : TT} (h : PW X e t) (w : ∀ σ H Q, t' σ H Q → t σ H Q) : PW X e t' := ⟨fun wh pins s σ H Q I q => h.run wh pins s σ H Q I (w σ H Q q)⟩
theorem PA.of {X : Cx} {e : List Expr} {t t' : TA} (h : PA X e t) (w : ∀ σ H Q, t' σ H Q → t σ H Q) : PA X e t' := ⟨fun pos pins s σ H Q I q => h.run pos pins s σ H Q I (w σ H Q q)⟩
theorem PS.of {X : Cx} {e : Stmt} {t t' : TS} (h : PS X e t) (w : ∀ D σ H, t' D σ H → t D σ H) : PS X e t' := ⟨fun pins s σ H D I q => h.run pins s σ H D I (w D σ H q)⟩
theorem PSs.of {X : Cx} {e : List Stmt} {t t' : TS} (h : PSs X e t) (w : ∀ D σ H, t' D σ H → t D σ H) : PSs X e t' := ⟨fun pins s σ H D I q => h.run pins s σ H D I (w D σ H q)⟩

section
variable {cf : CallF} {gl : Str → Option D} {F : Fr} {XR : XRT} {W : WX} {σ : L2.St} {H : Hp} {env : Env} {ps : Ps} {ie : IE} {Q : VK}
/-- the value in the reading, then what follows -/
theorem tEv_of (R : Rel F H σ env ps) (h : Out F XR W σ ps (fun d e => ∀ v H', Rel F H' σ e ((v, d) :: ps) → Q v H') (ev cf gl ie env)) : tEv cf gl F XR W ie σ H Q := ⟨env, ps, R, h⟩
theorem tEvs_of {Q : List V → Hp → Prop} (R : Rel F H σ env ps) (h : Out F XR W σ ps (fun ds e => ∀ vs H', vs.length = ds.length → Rel F H' σ e (zps vs ds ++ ps) → Q vs H') (evs cf gl ie env)) : tEvs cf gl F XR W ie σ H Q := ⟨env, ps, R, h⟩
end

section
variable {F : Fr} {H : Hp} {σ : L2.St} {env : Env} {ps : Ps} {v : V} {d : D}
theorem Rel.is_int {i : Int} (R : Rel F H σ env ((v, .int i) :: ps)) : v = .int i := by
  obtain ⟨A, Bs, _, r⟩ := R.rep rfl
  cases r; rfl
theorem Rel.is_bl {i : Bool} (R : Rel F H σ env ((v, .bl i) :: ps)) : v = .bl i := by
  obtain ⟨A, Bs, _, r⟩ := R.rep rfl
  cases r; rfl
theorem Rel.is_str {i : Str} (R : Rel F H σ env ((v, .str i) :: ps)) : v = .str i := by
  obtain ⟨A, Bs, _, r⟩ := R.rep rfl
  cases r; rfl
theorem Rel.is_non (R : Rel F H σ env ((v, .non) :: ps)) : v = .non := by
  obtain ⟨A, Bs, _, r⟩ := R.rep rfl
  cases r; rfl
theorem sqL_of {K : PySem.W.Frag} {O : Addr → Prop} {a : Addr} {xs : List V} (h : (Rd H a (.lst xs) ∧ ¬ O a) ∨ KL K a xs) : SqL K H a xs := h.imp (·.1) id
theorem sqT_of {K : PySem.W.Frag} {O : Addr → Prop} {a : Addr} {xs : List V} (h : (Rd H a (.tup xs) ∧ ¬ O a) ∨ KT K a xs) : SqT K H a xs := h.imp (·.1) id
mutual
theorem Rep.dp {K : PySem.W.Frag} {O : Addr → Prop} : ∀ {v : V} {d : D}, Rep K H O v d → Dp K H v d.py
  | _, _, .non => .non
  | _, _, .bl b => .bl b
  | _, _, .int i => .int i
  | _, _, .str x => .str x
  | _, _, .tup h r => .tup (sqT_of h) (Reps.dp r)
  | _, _, .lst h r => .lst (sqL_of h) (Reps.dp r)
theorem Reps.dp {K : PySem.W.Frag} {O : Addr → Prop} : ∀ {vs : List V} {ds : List D}, Reps K H O vs ds → DpAll K H vs (D.pys ds)
  | _, _, .nil => .nil
  | _, _, .cons h r => .cons (Rep.dp h) (Reps.dp r)
end
/-- a derived by-value thing -/
theorem Rel.more (R : Rel F H σ env ((v, d) :: ps)) (hd : d.frz = d) {w : V} {d' : D} (k : ∀ O, Rep F.K H O v d → Rep F.K H O w d') : Rel F H σ env ((w, d') :: (v, d) :: ps) := by
  obtain ⟨A, Bs, R, r⟩ := R.rep hd
  exact ⟨A, Bs, R.push (k _ r)⟩
end
/-- a new tuple, list of by-value things -/
theorem RelA.newTr {F : Fr} {A Bs : List Addr} {H : Hp} {σ : L2.St} {e : Env} {ps : Ps} {vs : List V} {ds : List D} {p : Addr} (R : RelA F A Bs H σ e ps) (r : Reps F.K H (Oc F (A ++ Bs)) vs ds) (hp : H p = none) : Rel F (upd H p (.tup vs)) σ e ((.ref p, .tup ds) :: ps) := by
  have fr := R.fresh hp
  have same : ∀ a ∈ A ++ Bs, upd H p (.tup vs) a = H a := fun a ha => upd_ne fun z => fr (z ▸ ha)
  have ho : ∀ a, Oc F (A ++ Bs) a → Oc F (A ++ Bs) a ∨ H a = none := fun a z => .inl z
  refine ⟨A, Bs, R.slots.mono (keep_new hp) ho fun a ha => same a (List.mem_append_left _ ha), ?_, R.nd, R.own, fun a o h1 h2 => ?_, R.trkU, R.bt, R.pins⟩
  · refine Owns.cons (As := []) (.val (.tup (.inl ⟨.inl upd_same, fun z => ?_⟩) (r.mono (keep_new hp) ho))) (R.pend.mono (keep_new hp) ho fun a ha => same a (List.mem_append_right _ ha))
    rcases z with z | z
    · exact R.nB hp z
    · exact fr z
  · have hne : a ≠ p := fun z => by rw [z, R.h0 hp] at h1; cases h1
    rw [upd_ne hne]
    exact R.keep a o h1 h2
theorem RelA.newLr {F : Fr} {A Bs : List Addr} {H : Hp} {σ : L2.St} {e : Env} {ps : Ps} {vs : List V} {ds : List D} {p : Addr} (R : RelA F A Bs H σ e ps) (r : Reps F.K H (Oc F (A ++ Bs)) vs ds) (hp : H p = none) : Rel F (upd H p (.lst vs)) σ e ((.ref p, .own false ds) :: ps) := by
  have fr := R.fresh hp
  have same : ∀ a ∈ A ++ Bs, upd H p (.lst vs) a = H a := fun a ha => upd_ne fun z => fr (z ▸ ha)
  have perm : (A ++ (p :: Bs)).Perm (p :: (A ++ Bs)) := List.perm_middle
  have ho : ∀ a, Oc F (A ++ (p :: Bs)) a → Oc F (A ++ Bs) a ∨ H a = none := fun a z => by
    rcases z with z | z
    · exact .inl (.inl z)
    · rcases List.mem_cons.mp (perm.mem_iff.mp z) with z | z
      · exact .inr (z ▸ hp)
      · exact .inl (.inr z)
  refine ⟨A, p :: Bs, R.slots.mono (keep_new hp) ho fun a ha => same a (List.mem_append_left _ ha), ?_, perm.nodup_iff.mpr (List.nodup_cons.mpr ⟨fr, R.nd⟩), fun a ha => ?_, fun a o h1 h2 => ?_, R.trkU, R.bt, R.pins⟩
  · exact Owns.cons (As := [p]) (.own upd_same ((r.owns).mono (keep_new hp) ho fun a ha => by cases ha)) (R.pend.mono (keep_new hp) ho fun a ha => same a (List.mem_append_right _ ha))
  · rcases List.mem_cons.mp (perm.mem_iff.mp ha) with z | z
    · rw [z]; exact ⟨R.nB hp, .inr (R.h0 hp)⟩
    · exact R.own a z
  · have hne : a ≠ p := fun z => by rw [z, R.h0 hp] at h1; cases h1
    rw [upd_ne hne]
    exact R.keep a o h1 h2
theorem Rel.two {F : Fr} {H : Hp} {σ : L2.St} {e : Env} {ps : Ps} {v w : V} {d d' : D} (R : Rel F H σ e ((v, d) :: (w, d') :: ps)) (h1 : d.frz = d) (h2 : d'.frz = d') :
    ∃ A Bs, RelA F A Bs H σ e ps ∧ Rep F.K H (Oc F (A ++ Bs)) v d ∧ Rep F.K H (Oc F (A ++ Bs)) w d' := by
  obtain ⟨A, Bs, R⟩ := R
  have q := R.pend
  simp only [List.map_cons] at q
  cases q with
  | cons r1 q =>
    cases q with
    | cons r2 q =>
      cases r1 with
      | own _ _ => cases h1
      | val r1 =>
        cases r2 with
        | own _ _ => cases h2
        | val r2 => exact ⟨A, _, ⟨R.slots, q, R.nd, R.own, R.keep, R.trk, R.bt, R.pins⟩, r1, r2⟩
theorem Rel.one' {F : Fr} {H : Hp} {σ : L2.St} {e : Env} {ps : Ps} {v : V} {d : D} (R : Rel F H σ e ((v, d) :: ps)) (h1 : d.frz = d) :
    ∃ A Bs, RelA F A Bs H σ e ps ∧ Rep F.K H (Oc F (A ++ Bs)) v d := by
  obtain ⟨A, Bs, R⟩ := R
  have q := R.pend
  simp only [List.map_cons] at q
  cases q with
  | cons r1 q =>
    cases r1 with
    | own _ _ => cases h1
    | val r1 => exact ⟨A, _, ⟨R.slots, q, R.nd, R.own, R.keep, R.trk, R.bt, R.pins⟩, r1⟩
theorem RelA.rel {F : Fr} {A Bs : List Addr} {H : Hp} {σ : L2.St} {e : Env} {ps : Ps} (R : RelA F A Bs H σ e ps) : Rel F H σ e ps := ⟨A, Bs, R⟩
theorem frz_frz : ∀ d : D, d.frz.frz = d.frz
  | .non => rfl
  | .bl _ => rfl
  | .int _ => rfl
  | .str _ => rfl
  | .tup _ => rfl
  | .lst _ => rfl
  | .own _ _ => rfl
  | .hid => rfl

/-- list + list, of any that may be read -/
def rCatL (K : PySem.W.Frag) : R2 := fun x y H Q => ∃ l b xs zs, x = .ref l ∧ y = .ref b ∧ SqL K H l xs ∧ SqL K H b zs ∧ xs.length + zs.length ≤ sizeLine ∧ ∀ p, H p = none → Q (.ref p) (upd H p (.lst (xs ++ zs)))
theorem op_catL {X : Cx} : OpR X (binaryOp .Add) (rCatL X.K) := by
  intro pins s σ H x y v u Q I rx ry h
  obtain ⟨l, b, xs, zs, rfl, rfl, hH, hB, hz, q⟩ := h
  cases rx
  cases ry
  obtain ⟨its, r, pl, hz1⟩ := I.list hH
  obtain ⟨its2, r2, pl2, hz2⟩ := I.list hB
  have e1 := r.length
  have e2 := r2.length
  obtain ⟨⟨cls, dd, data, sl⟩, ho, hc, n, hd⟩ := pl.isList
  obtain ⟨⟨cls2, dd2, data2, sl2⟩, ho2, hc2, n2, hd2⟩ := pl2.isList
  simp only at hc hd hc2 hd2
  subst hc hd hc2 hd2
  refine concat_meets ⟨_, ho, rfl⟩ ⟨_, ho2, rfl⟩ noFill_list_add seq_list_add PySem.F.slot_list_add PySem.F.entry_list_add (PySem.F.args_list_add_2 _ _) (list_addW l b its.toArray its2.toArray n n2 dd dd2 sl sl2 (by simp only [List.size_toArray]; omega)) ⟨ho, ho2, ?_⟩
  have ea : its.toArray ++ its2.toArray = (its ++ its2).toArray := by simp
  rw [ea]
  exact ⟨.ref _, _, I.lnew (t' := s.toks) (r.append r2) (by rw [List.length_append]; omega), rfl, q _ I.fresh⟩
theorem line_eq : sizeLine = line := sizeLine_eq

/-- a binary operator on plain data: what is pending is used up -/
def rBin (F : Fr) (op : Operator) : R2 := fun x y H Q => ∃ σ env ps d1 d2 d, Rel F H σ env ((y, d2) :: (x, d1) :: ps) ∧ d1.frz = d1 ∧ d2.frz = d2 ∧ binD op d1 d2 = some d ∧ ∀ v H', Rel F H' σ env ((v, d) :: ps) → Q v H'
end PD

set_option Elab.async false
set_option linter.all false
set_option maxRecDepth 100000
namespace PD
open PySem PySem.Spec PyProof.Rows L2

section
variable {F : Fr} {H : Hp} {σ : L2.St} {env : Env} {ps : Ps}
theorem frz_own {b : Bool} {xs : List D} (h : (D.own b xs).frz = D.own b xs) : False := by cases h
/-- a binary operator -/
theorem op_bin {X : Cx} (hK : F.K = X.K) (op : Operator) : OpR X (binaryOp op) (rBin F op) := by
  intro pins s σ0 H x y v u Q I rx ry h
  obtain ⟨σ, env, ps, d1, d2, d, R, f1, f2, hd, q⟩ := h
  obtain ⟨A, Bs, RA, r2, r1⟩ := R.two f2 f1
  rw [hK] at r1 r2
  have R0 : Rel F H σ env ps := RA.rel
  unfold binD at hd
  split at hd
  · cases hd; cases r1; cases r2
    exact op_add pins s σ0 H _ _ v u Q I rx ry ⟨_, _, rfl, rfl, q _ _ (R0.int _)⟩
  · cases hd; cases r1; cases r2
    exact op_sub pins s σ0 H _ _ v u Q I rx ry ⟨_, _, rfl, rfl, q _ _ (R0.int _)⟩
  · split at hd
    · rename_i hc
      cases hd; cases r1; cases r2
      exact op_mulW pins s σ0 H _ _ v u Q I rx ry ⟨_, _, rfl, rfl, hc, q _ _ (R0.int _)⟩
    · cases hd
  · split at hd
    · rename_i hc
      cases hd; cases r1; cases r2
      exact op_fdivW pins s σ0 H _ _ v u Q I rx ry ⟨_, _, rfl, rfl, hc, q _ _ (R0.int _)⟩
    · cases hd
  · split at hd
    · rename_i hc
      cases hd; cases r1; cases r2
      exact op_mod pins s σ0 H _ _ v u Q I rx ry ⟨_, _, rfl, rfl, hc, q _ _ (R0.int _)⟩
    · cases hd
  · split at hd
    · rename_i hc
      cases hd; cases r1; cases r2
      exact op_pow pins s σ0 H _ _ v u Q I rx ry ⟨_, _, rfl, rfl, hc, q _ _ (R0.int _)⟩
    · cases hd
  · split at hd
    · rename_i hc
      cases hd; cases r1; cases r2
      exact op_add_str pins s σ0 H _ _ v u Q I rx ry ⟨_, _, rfl, rfl, by rw [line_eq]; exact hc, q _ _ (R0.str _)⟩
    · cases hd
  · split at hd
    · rename_i xs ys hc
      cases hd
      cases r1 with
      | @tup a us _ ht1 rs1 =>
        cases r2 with
        | @tup b ws _ ht2 rs2 =>
          have e1 := rs1.length
          have e2 := rs2.length
          rw [← hK] at rs1 rs2 ht1 ht2
          refine op_catA pins s σ0 H _ _ v u Q I rx ry ⟨a, b, us, ws, rfl, rfl, by rw [← hK]; exact sqT_of ht1, by rw [← hK]; exact sqT_of ht2, by rw [line_eq]; omega, fun z => ?_, fun z1 z2 => ?_, fun z1 z2 p hp => ?_⟩
          · subst z
            have : xs = [] := List.eq_nil_of_length_eq_zero (by rw [← e1]; rfl)
            subst this
            exact q _ _ ((RA.push (.tup ht2 rs2)).rel)
          · subst z2
            have : ys = [] := List.eq_nil_of_length_eq_zero (by rw [← e2]; rfl)
            subst this
            rw [List.append_nil] at q
            exact q _ _ ((RA.push (.tup ht1 rs1)).rel)
          · exact q _ _ (RA.newTr (rs1.append rs2) hp)
    · cases hd
  · split at hd
    · rename_i xs ys hc
      cases hd
      cases r1 with
      | @lst a us _ ht1 rs1 =>
        cases r2 with
        | @lst b ws _ ht2 rs2 =>
          have e1 := rs1.length
          have e2 := rs2.length
          rw [← hK] at rs1 rs2 ht1 ht2
          refine op_catL pins s σ0 H _ _ v u Q I rx ry ⟨a, b, us, ws, rfl, rfl, by rw [← hK]; exact sqL_of ht1, by rw [← hK]; exact sqL_of ht2, by rw [line_eq]; omega, fun p hp => ?_⟩
          exact q _ _ (RA.newLr (rs1.append rs2) hp)
    · cases hd
  · cases hd
end

/-- a comparison of two things that may be looked at -/
def rCmp (K : PySem.W.Frag) (op : CmpOp) : R2 := fun x y H Q => ∃ (O1 O2 : Addr → Prop) (d1 d2 : D) (b : Bool), Rep K H O1 x d1 ∧ Rep K H O2 y d2 ∧ cmpD op d1 d2 = some b ∧ Q (.bl b) H
theorem anyEqv_eq (x : D) : ∀ ys : List D, anyEqv x ys = (D.pys ys).any fun z => PyData.eqv z x.py
  | [] => rfl
  | y :: ys => by
    show (PyData.eqv y.py x.py || anyEqv x ys) = _
    rw [anyEqv_eq x ys]
    rfl
theorem intsOf_reps {K : PySem.W.Frag} {H : Hp} {O : Addr → Prop} : ∀ {vs : List V} {ds : List D}, Reps K H O vs ds → ∀ {ns : List Int}, intsOf ds = some ns → vs = ns.map V.int
  | _, _, .nil, ns, e => by
    cases e
    rfl
  | _, d :: ds, .cons h r, ns, e => by
    cases h with
    | int i =>
      simp only [intsOf] at e
      cases q : intsOf ds with
      | none => rw [q] at e; cases e
      | some ms =>
        rw [q] at e
        cases e
        rw [intsOf_reps r q]
        rfl
    | _ => cases e
theorem in_tupD {X : Cx} (hu : X.A.units + 65 < cLine) : OpR X (compareOp .In) (fun x y H Q => ∃ d ds, Dp X.K H x d ∧ Dp X.K H y (.tuple ds) ∧ SeqAt.shaped d = true ∧ SeqAt.shaped (.tuple ds) = true ∧ Q (.bl (ds.any fun z => PyData.eqv z d)) H) := by
  intro pins s σ H x y v u Q I rx ry h
  obtain ⟨d, ds, hd, he, sd, se, q⟩ := h
  obtain ⟨as, r1⟩ := Dp.reads I d x v hd rx
  obtain ⟨bs, r2⟩ := Dp.reads I (.tuple ds) y u he ry
  exact SeqAt.in_tuple_reads r2 r1 (SeqAt.canLay_of_shaped se) (SeqAt.canLay_of_shaped sd) (room_in_shaped sd hu) ⟨.bl _, H, I, rfl, q⟩
theorem notIn_tupD {X : Cx} (hu : X.A.units + 65 < cLine) : OpR X (compareOp .NotIn) (fun x y H Q => ∃ d ds, Dp X.K H x d ∧ Dp X.K H y (.tuple ds) ∧ SeqAt.shaped d = true ∧ SeqAt.shaped (.tuple ds) = true ∧ Q (.bl (!ds.any fun z => PyData.eqv z d)) H) := by
  intro pins s σ H x y v u Q I rx ry h
  obtain ⟨d, ds, hd, he, sd, se, q⟩ := h
  obtain ⟨as, r1⟩ := Dp.reads I d x v hd rx
  obtain ⟨bs, r2⟩ := Dp.reads I (.tuple ds) y u he ry
  exact SeqAt.notIn_tuple_reads r2 r1 (SeqAt.canLay_of_shaped se) (SeqAt.canLay_of_shaped sd) (room_in_shaped sd hu) ⟨.bl _, H, I, rfl, q⟩
theorem ba {a b : Bool} (h : a = true ∧ b = true) : a = true ∧ b = true := h
theorem op_cmp {X : Cx} (hu : X.A.units + 65 < cLine) (op : CmpOp) : OpR X (compareOp op) (rCmp X.K op) := by
  intro pins s σ0 H x y v u Q I rx ry h
  obtain ⟨O1, O2, d1, d2, b, r1, r2, hb, q⟩ := h
  have hu64 : X.A.units + 64 < cLine := by omega
  have hu0 : X.A.units < cLine := by omega
  unfold cmpD at hb
  split at hb
  · split at hb
    · rename_i hc
      cases hb
      exact op_eqD hu64 pins s σ0 H x y v u Q I rx ry ⟨_, _, r1.dp, r2.dp, hc.1, hc.2, q⟩
    · cases hb
  · split at hb
    · rename_i hc
      cases hb
      exact op_neD hu64 pins s σ0 H x y v u Q I rx ry ⟨_, _, r1.dp, r2.dp, hc.1, hc.2, q⟩
    · cases hb
  · cases hb; cases r1; cases r2
    exact op_lt pins s σ0 H _ _ v u Q I rx ry ⟨_, _, rfl, rfl, q⟩
  · cases hb; cases r1; cases r2
    exact op_le pins s σ0 H _ _ v u Q I rx ry ⟨_, _, rfl, rfl, q⟩
  · cases hb; cases r1; cases r2
    exact op_gt pins s σ0 H _ _ v u Q I rx ry ⟨_, _, rfl, rfl, q⟩
  · cases hb; cases r1; cases r2
    exact op_ge pins s σ0 H _ _ v u Q I rx ry ⟨_, _, rfl, rfl, q⟩
  · rename_i xs ys
    split at hb
    · rename_i ns ms e1 e2
      cases hb
      cases r1 with
      | tup ht1 rs1 =>
        cases r2 with
        | tup ht2 rs2 =>
          have w1 := intsOf_reps rs1 e1
          have w2 := intsOf_reps rs2 e2
          subst w1 w2
          exact op_ltT hu0 pins s σ0 H _ _ v u Q I rx ry ⟨_, _, _, _, rfl, rfl, sqT_of ht1, sqT_of ht2, q⟩
    · cases hb
  · split at hb
    · rename_i hc
      cases hb
      rw [anyEqv_eq] at q
      exact op_inD hu pins s σ0 H x y v u Q I rx ry ⟨_, _, r1.dp, r2.dp, hc.1, hc.2, q⟩
    · cases hb
  · split at hb
    · rename_i hc
      cases hb
      rw [anyEqv_eq] at q
      exact op_notInD hu pins s σ0 H x y v u Q I rx ry ⟨_, _, r1.dp, r2.dp, hc.1, hc.2, q⟩
    · cases hb
  · cases hb
    cases r2
    refine op_isN pins s σ0 H x _ v u Q I rx ry ⟨rfl, ?_⟩
    cases r1 <;> exact q
  · cases hb
    cases r2
    refine op_notN pins s σ0 H x _ v u Q I rx ry ⟨rfl, ?_⟩
    cases r1 <;> exact q
  · cases hb; cases r1; cases r2
    exact op_isBl pins s σ0 H _ _ v u Q I rx ry ⟨_, _, rfl, rfl, q⟩
  · cases hb; cases r1; cases r2
    exact op_notBl pins s σ0 H _ _ v u Q I rx ry ⟨_, _, rfl, rfl, q⟩
  · cases hb
end PD

set_option Elab.async false
set_option linter.all false
set_option maxRecDepth 100000
namespace PD
open PySem PySem.Spec PyProof.Rows L2

section
variable {X : Cx} {cf : CallF} {gl : Str → Option D} {F : Fr} {XR : XRT} {W : WX} {a b c : Expr} {ia ib ic : IE} {pos : Pos}

theorem ok_bind {α β : Type} {m : R α} {a : α} {e : Env} {f : α → Env → R β} (h : m = .ok a e) : m.bind f = f a e := by rw [h]; rfl
theorem op_some {α : Type} {e : Env} {x : α} : R.op e (some x) = .ok x e := rfl
/-- what an option gave -/
theorem Out.op {α β : Type} {σ : L2.St} {ps : Ps} {Q : β → Env → Prop} {e : Env} {o : Option α} {f : α → Env → R β} (h : Out F XR W σ ps Q ((R.op e o).bind f)) : ∃ x, o = some x ∧ Out F XR W σ ps Q (f x e) := by
  cases o with
  | none => exact h.elim
  | some x => exact ⟨x, rfl, h⟩
theorem Out.op1 {α : Type} {σ : L2.St} {ps : Ps} {Q : α → Env → Prop} {e : Env} {o : Option α} (h : Out F XR W σ ps Q (R.op e o)) : ∃ x, o = some x ∧ Q x e := by
  cases o with
  | none => exact h.elim
  | some x => exact ⟨x, rfl, h⟩

theorem Rel.has {H : Hp} {σ : L2.St} {env : Env} {ps : Ps} {i : Nat} (R : Rel F H σ env ps) (h : hasAt i env = true) : ∃ v, σ[i]? = some (some v) := by
  unfold hasAt at h
  split at h
  · rename_i q
    exact R.slot q
  · cases h
theorem Rel.viewAt {H : Hp} {σ : L2.St} {env : Env} {ps : Ps} {i : Nat} {d : D} (R : Rel F H σ env ps) (h : viewAt i env = some d) : ∃ v, σ[i]? = some (some v) ∧ Rep F.K H (fun _ => False) v d := by
  unfold PD.viewAt at h
  split at h
  · cases h
  · rename_i d2 hne q2
    cases h
    exact R.view q2 hne
  · cases h
theorem e_lc {i : Nat} {x : Str} (hN : X.N[i]? = some x) (hv : Vis X.env.scope x) (hd : (x == ("__debug__" : Str)) = false) (hcd : (x == ("__classdict__" : Str)) = false) : PE X (.Name x pos) (tEv cf gl F XR W (.lc i)) := by
  refine PE.of (pe_var hN hv hd hcd) fun σ H Q h => ?_
  obtain ⟨env, ps, R, h⟩ := h
  simp only [ev, readAt] at h
  split at h
  · rename_i d q
    split at h
    · exact h.elim
    · rename_i hp
      have hp' : pinned d = false := by simpa using hp
      obtain ⟨v, hv, R2⟩ := R.read q hp'
      exact ⟨v, hv, h v H R2⟩
  · exact h.elim
theorem e_gl {x : Str} {d : D} {u : Value} {v : V} (hg : Gl X x) (hm : X.mg x = some u) (r : RelV v u) (hx : gl x = some d) (hr : ∀ H O, Rep F.K H O v d) (hd : (x == ("__debug__" : Str)) = false) : PE X (.Name x pos) (tEv cf gl F XR W (.gl x)) := by
  refine PE.of (pe_glob hg hm r hd) fun σ H Q h => ?_
  obtain ⟨env, ps, R, h⟩ := h
  simp only [ev, hx, op_some] at h
  obtain ⟨A, Bs, R⟩ := R
  exact h v H ⟨A, Bs, R.push (hr H _)⟩
theorem e_int {i j} : PE X (.Constant (.int i) j pos) (tEv cf gl F XR W (.cst (.int i))) := by
  refine PE.of pe_int fun σ H Q h => ?_
  obtain ⟨env, ps, R, h⟩ := h
  simp only [ev] at h
  exact h _ H (R.int i)
theorem e_bl {i j} : PE X (.Constant (.bool i) j pos) (tEv cf gl F XR W (.cst (.bl i))) := by
  refine PE.of pe_bl fun σ H Q h => ?_
  obtain ⟨env, ps, R, h⟩ := h
  simp only [ev] at h
  exact h _ H (R.bl i)
theorem e_non {j} : PE X (.Constant .none j pos) (tEv cf gl F XR W (.cst .non)) := by
  refine PE.of pe_non fun σ H Q h => ?_
  obtain ⟨env, ps, R, h⟩ := h
  simp only [ev] at h
  exact h _ H R.non
theorem e_str {i j} : PE X (.Constant (.str i) j pos) (tEv cf gl F XR W (.cst (.str i))) := by
  refine PE.of pe_str fun σ H Q h => ?_
  obtain ⟨env, ps, R, h⟩ := h
  simp only [ev] at h
  exact h _ H (R.str i)

theorem e_bin (hK : F.K = X.K) {op : Operator} (ha : PE X a (tEv cf gl F XR W ia)) (hb : PE X b (tEv cf gl F XR W ib)) : PE X (.BinOp a op b pos) (tEv cf gl F XR W (.bin op ia ib)) := by
  refine PE.of (pe_op (op_bin hK op) ha hb) fun σ H Q h => ?_
  obtain ⟨env, ps, R, h⟩ := h
  simp only [ev] at h
  refine ⟨env, ps, R, h.bind.imp fun x e1 h v1 H1 R1 => ?_⟩
  refine ⟨e1, _, R1, h.bind.more.imp fun y e2 h v2 H2 R2 => ?_⟩
  obtain ⟨d, hd, q⟩ := h.op1
  exact ⟨σ, e2, ps, x.frz, y.frz, d, R2.frz.swap.frz.swap, frz_frz x, frz_frz y, hd, q⟩
theorem e_neg {op : UnaryOp} (hop : op = .USub) (ha : PE X a (tEv cf gl F XR W ia)) : PE X (.UnaryOp op a pos) (tEv cf gl F XR W (.neg ia)) := by
  subst hop
  refine PE.of (pe_un un_neg ha) fun σ H Q h => ?_
  obtain ⟨env, ps, R, h⟩ := h
  simp only [ev] at h
  refine ⟨env, ps, R, h.bind.imp fun x e1 h v1 H1 R1 => ?_⟩
  split at h
  · have := R1.is_int
    subst this
    exact ⟨_, rfl, h _ _ (R1.drop.int _)⟩
  · exact h.elim
theorem e_cmp (hK : F.K = X.K) (hu : X.A.units + 65 < cLine) {op : CmpOp} (ha : PE X a (tEv cf gl F XR W ia)) (hb : PE X b (tEv cf gl F XR W ib)) (hm : behindInMarks op b = false) : PE X (.Compare a [op] [b] pos) (tEv cf gl F XR W (.cmp op ia ib)) := by
  refine PE.of (pe_cmpR (op_cmp hu op) ha hb hm) fun σ H Q h => ?_
  obtain ⟨env, ps, R, h⟩ := h
  simp only [ev] at h
  refine ⟨env, ps, R, h.bind.imp fun x e1 h v1 H1 R1 => ?_⟩
  refine ⟨e1, _, R1, h.bind.more.imp fun y e2 h v2 H2 R2 => ?_⟩
  obtain ⟨d, hd, q⟩ := h.op1
  obtain ⟨k, hk, rfl⟩ := Option.map_eq_some_iff.mp hd
  obtain ⟨A, Bs, RA, r2, r1⟩ := (R2.frz.swap.frz.swap).two (frz_frz y) (frz_frz x)
  rw [hK] at r1 r2
  exact ⟨_, _, _, _, k, r1, r2, hk, q _ _ (RA.rel.bl k)⟩
/-- the right side a slot's own list, looked at -/
theorem e_cmpR (hK : F.K = X.K) (hu : X.A.units + 65 < cLine) {op : CmpOp} {i : Nat} {x : Str} {p2 : Pos} (ha : PE X a (tEv cf gl F XR W ia)) (hN : X.N[i]? = some x) (hv : Vis X.env.scope x) (hd : (x == ("__debug__" : Str)) = false) (hcd : (x == ("__classdict__" : Str)) = false) (hm : behindInMarks op (.Name x p2) = false) :
    PE X (.Compare a [op] [.Name x p2] pos) (tEv cf gl F XR W (.cmpR op ia i)) := by
  refine PE.of (pe_cmpR (op_cmp hu op) ha (pe_var hN hv hd hcd) hm) fun σ H Q h => ?_
  obtain ⟨env, ps, R, h⟩ := h
  simp only [ev] at h
  refine ⟨env, ps, R, h.bind.imp fun x e1 h v1 H1 R1 => ?_⟩
  obtain ⟨d, hd, q⟩ := h.op1
  obtain ⟨y, hy, hd⟩ := Option.bind_eq_some_iff.mp hd
  obtain ⟨k, hk, rfl⟩ := Option.map_eq_some_iff.mp hd
  obtain ⟨v2, hv2, r2⟩ := R1.viewAt hy
  obtain ⟨A, Bs, RA, r1⟩ := R1.frz.one' (frz_frz x)
  rw [hK] at r1 r2
  exact ⟨v2, hv2, _, _, _, _, k, r1, r2, hk, q _ _ (RA.rel.bl k)⟩
theorem e_cmpL (hK : F.K = X.K) (hu : X.A.units + 65 < cLine) {op : CmpOp} {i : Nat} {x : Str} {p2 : Pos} (hb : PE X b (tEv cf gl F XR W ib)) (hN : X.N[i]? = some x) (hv : Vis X.env.scope x) (hd : (x == ("__debug__" : Str)) = false) (hcd : (x == ("__classdict__" : Str)) = false) (hm : behindInMarks op b = false) :
    PE X (.Compare (.Name x p2) [op] [b] pos) (tEv cf gl F XR W (.cmpL op i ib)) := by
  refine PE.of (pe_cmpR (op_cmp hu op) (pe_var hN hv hd hcd) hb hm) fun σ H Q h => ?_
  obtain ⟨env, ps, R, h⟩ := h
  simp only [ev] at h
  split at h
  · rename_i hh
    obtain ⟨v0, hv0⟩ := R.has hh
    refine ⟨v0, hv0, env, ps, R, h.bind.imp fun y e1 h v1 H1 R1 => ?_⟩
    obtain ⟨d, hd, q⟩ := h.op1
    obtain ⟨z, hz, hd⟩ := Option.bind_eq_some_iff.mp hd
    obtain ⟨k, hk, rfl⟩ := Option.map_eq_some_iff.mp hd
    obtain ⟨v2, hv2, r2⟩ := R1.viewAt hz
    rw [hv0] at hv2
    cases hv2
    obtain ⟨A, Bs, RA, r1⟩ := R1.frz.one' (frz_frz y)
    rw [hK] at r1 r2
    exact ⟨_, _, _, _, k, r2, r1, hk, q _ _ (RA.rel.bl k)⟩
  · exact h.elim
end
end PD

set_option Elab.async false
set_option linter.all false
set_option maxRecDepth 100000
namespace PD
open PySem PySem.Spec PyProof.Rows L2
section
variable {X : Cx} {cf : CallF} {gl : Str → Option D} {F : Fr} {XR : XRT} {W : WX} {a b c : Expr} {ia ib ic : IE} {rest : List Expr} {pos : Pos}

theorem reps_empty {K : PySem.W.Frag} {H : Hp} {O : Addr → Prop} {vs : List V} {ds : List D} (r : Reps K H O vs ds) : (!ds.isEmpty) = !vs.isEmpty := by
  cases r <;> rfl
theorem owns_empty {K : PySem.W.Frag} {H : Hp} {O : Addr → Prop} {As : List Addr} {vs : List V} {ds : List D} (r : Owns K H O As vs ds) : (!ds.isEmpty) = !vs.isEmpty := by
  cases r <;> rfl
/-- a value's truth -/
theorem tru_own {K : PySem.W.Frag} {H : Hp} {O : Addr → Prop} {As : List Addr} {v : V} {d : D} {k : Bool} (h : Own K H O As v d) (t : truth d = some k) : TruV K v H k := by
  cases h with
  | val r =>
    cases r with
    | non => cases t; rfl
    | bl b => cases t; rfl
    | int i => cases t; rfl
    | str x =>
      simp only [truth] at t
      split at t
      · rename_i hl
        cases t
        exact ⟨by rw [line_eq]; exact hl, rfl⟩
      · cases t
    | tup h1 h2 =>
      cases t
      exact .inr (.inl ⟨_, sqT_of h1, reps_empty h2⟩)
    | lst h1 h2 =>
      cases t
      exact .inl ⟨_, sqL_of h1, reps_empty h2⟩
  | own h1 h2 =>
    cases t
    exact .inl ⟨_, .of h1, owns_empty h2⟩
theorem Rel.tru (hK : F.K = X.K) {H : Hp} {σ : L2.St} {env : Env} {ps : Ps} {v : V} {d : D} {k : Bool} (R : Rel F H σ env ((v, d) :: ps)) (t : truth d = some k) : TruV X.K v H k := by
  obtain ⟨A, Bs, R⟩ := R
  have q := R.pend
  simp only [List.map_cons] at q
  cases q with
  | cons h r =>
    rw [← hK]
    exact tru_own h t

theorem e_and (hK : F.K = X.K) (ha : PE X a (tEv cf gl F XR W ia)) (hb : PE X (.BoolOp .And (b :: rest) pos) (tEv cf gl F XR W ib)) : PE X (.BoolOp .And (a :: b :: rest) pos) (tEv cf gl F XR W (.and_ ia ib)) := by
  refine PE.of (pe_andT ha hb) fun σ H Q h => ?_
  obtain ⟨env, ps, R, h⟩ := h
  simp only [ev] at h
  refine ⟨env, ps, R, h.bind.imp fun x e1 h v1 H1 R1 => ?_⟩
  obtain ⟨k, hk, h⟩ := h.op
  refine ⟨k, R1.tru hK hk, ?_⟩
  cases k with
  | true =>
    rw [if_pos rfl] at h ⊢
    exact ⟨e1, ps, R1.drop, h⟩
  | false =>
    rw [if_neg Bool.false_ne_true] at h ⊢
    exact h v1 H1 R1
theorem e_or (hK : F.K = X.K) (ha : PE X a (tEv cf gl F XR W ia)) (hb : PE X (.BoolOp .Or (b :: rest) pos) (tEv cf gl F XR W ib)) : PE X (.BoolOp .Or (a :: b :: rest) pos) (tEv cf gl F XR W (.or_ ia ib)) := by
  refine PE.of (pe_orT ha hb) fun σ H Q h => ?_
  obtain ⟨env, ps, R, h⟩ := h
  simp only [ev] at h
  refine ⟨env, ps, R, h.bind.imp fun x e1 h v1 H1 R1 => ?_⟩
  obtain ⟨k, hk, h⟩ := h.op
  refine ⟨k, R1.tru hK hk, ?_⟩
  cases k with
  | false =>
    rw [if_neg Bool.false_ne_true] at h ⊢
    exact ⟨e1, ps, R1.drop, h⟩
  | true =>
    rw [if_pos rfl] at h ⊢
    exact h v1 H1 R1
theorem e_one {op} {t : TE} (h : PE X a t) : PE X (.BoolOp op [a] pos) t := pe_one h
theorem e_not (hK : F.K = X.K) (ha : PE X a (tEv cf gl F XR W ia)) : PE X (.UnaryOp .Not a pos) (tEv cf gl F XR W (.not_ ia)) := by
  refine PE.of (pe_notT ha) fun σ H Q h => ?_
  obtain ⟨env, ps, R, h⟩ := h
  simp only [ev] at h
  refine ⟨env, ps, R, h.bind.imp fun x e1 h v1 H1 R1 => ?_⟩
  obtain ⟨k, hk, h⟩ := h.op
  exact ⟨k, R1.tru hK hk, h _ _ (R1.drop.bl _)⟩

theorem t_plain (hK : F.K = X.K) (ha : PE X a (tEv cf gl F XR W ia)) (he : ∀ whole, isTrue a X.env whole = (do let v ← whole; standAt a.pos; holding [v] (truthy v))) : PT X a (tTs cf gl F XR W ia) := by
  refine PT.of (pt_truth ha he) fun σ H Q h => ?_
  obtain ⟨env, ps, R, h⟩ := h
  simp only [evT] at h
  refine ⟨env, ps, R, h.bind.imp fun x e1 h v1 H1 R1 => ?_⟩
  obtain ⟨k, hk, h⟩ := h.op1
  exact ⟨k, R1.tru hK hk, h H1 R1.drop⟩
theorem t_and1 (ha : PT X a (tTs cf gl F XR W ia)) : PW X (.BoolOp .And [a] pos) (tTs cf gl F XR W ia) := pw_and1 ha
theorem t_or1 (ha : PT X a (tTs cf gl F XR W ia)) : PW X (.BoolOp .Or [a] pos) (tTs cf gl F XR W ia) := pw_or1 ha
theorem bind_assoc {α β γ : Type} (m : R α) (f : α → Env → R β) (g : β → Env → R γ) : (m.bind f).bind g = m.bind fun a e => (f a e).bind g := by cases m <;> rfl
theorem Out.unbind {α β : Type} {σ : L2.St} {ps : Ps} {Q : β → Env → Prop} {m : R α} {f : α → Env → R β} (h : Out F XR W σ ps (fun a e => Out F XR W σ ps Q (f a e)) m) : Out F XR W σ ps Q (m.bind f) := by
  cases m with
  | ok a e => exact h
  | ex x e => exact h
  | bad => exact h
theorem t_and (ha : PT X a (tTs cf gl F XR W ia)) (hb : PW X (.BoolOp .And (b :: rest) pos) (tTs cf gl F XR W ib)) : PW X (.BoolOp .And (a :: b :: rest) pos) (tTs cf gl F XR W (.and_ ia ib)) := by
  refine PW.of (pw_and ha hb) fun σ H Q h => ?_
  obtain ⟨env, ps, RR, h⟩ := h
  simp only [evT, ev, bind_assoc] at h
  refine ⟨env, ps, RR, Out.unbind (h.bind.imp fun x e1 h => ?_)⟩
  obtain ⟨k, hk, h⟩ := h.op
  rw [hk]
  intro H' R'
  cases k with
  | true =>
    rw [if_pos rfl] at h ⊢
    exact ⟨e1, ps, R', h⟩
  | false =>
    rw [if_neg Bool.false_ne_true] at h ⊢
    obtain ⟨k2, hk2, h2⟩ := Out.op1 (show Out F XR W σ ps _ (R.op e1 (truth x)) from h)
    rw [hk] at hk2
    cases hk2
    exact h2 H' R'
theorem t_or (ha : PT X a (tTs cf gl F XR W ia)) (hb : PW X (.BoolOp .Or (b :: rest) pos) (tTs cf gl F XR W ib)) : PW X (.BoolOp .Or (a :: b :: rest) pos) (tTs cf gl F XR W (.or_ ia ib)) := by
  refine PW.of (pw_or ha hb) fun σ H Q h => ?_
  obtain ⟨env, ps, RR, h⟩ := h
  simp only [evT, ev, bind_assoc] at h
  refine ⟨env, ps, RR, Out.unbind (h.bind.imp fun x e1 h => ?_)⟩
  obtain ⟨k, hk, h⟩ := h.op
  rw [hk]
  intro H' R'
  cases k with
  | false =>
    rw [if_neg Bool.false_ne_true] at h ⊢
    exact ⟨e1, ps, R', h⟩
  | true =>
    rw [if_pos rfl] at h ⊢
    obtain ⟨k2, hk2, h2⟩ := Out.op1 (show Out F XR W σ ps _ (R.op e1 (truth x)) from h)
    rw [hk] at hk2
    cases hk2
    exact h2 H' R'
theorem t_not (ha : PT X a (tTs cf gl F XR W ia)) : PT X (.UnaryOp .Not a pos) (tTs cf gl F XR W (.not_ ia)) := by
  refine PT.of (pt_not ha) fun σ H Q h => ?_
  obtain ⟨env, ps, RR, h⟩ := h
  simp only [evT, ev, bind_assoc] at h
  refine ⟨env, ps, RR, Out.unbind (h.bind.imp fun x e1 h => ?_)⟩
  obtain ⟨k, hk, h⟩ := h.op
  rw [hk]
  exact h
/-- values that are True or False -/
def Bv (cf : CallF) (gl : Str → Option D) (ie : IE) : Prop := ∀ env d e, ev cf gl ie env = .ok d e → ∃ k, d = .bl k
theorem tTs_ev {σ : L2.St} {H : Hp} {Q : Bool → Hp → Prop} (hb : Bv cf gl ia) (h : tTs cf gl F XR W ia σ H Q) : tEv cf gl F XR W ia σ H (fun v H' => ∃ k, v = .bl k ∧ Q k H') := by
  obtain ⟨env, ps, R, h⟩ := h
  simp only [evT] at h
  refine ⟨env, ps, R, ?_⟩
  cases q : ev cf gl ia env with
  | ok x e1 =>
    rw [q] at h
    obtain ⟨k, rfl⟩ := hb _ _ _ q
    intro v H' R'
    exact ⟨k, R'.is_bl, h H' R'.drop⟩
  | ex x e1 => rw [q] at h; exact h
  | bad => rw [q] at h; exact h
theorem op_bl {e e1 : Env} {o : Option Bool} {d : D} (h : (R.op e (o.map D.bl)) = .ok d e1) : ∃ k, d = .bl k := by
  cases o with
  | none => cases h
  | some k => cases h; exact ⟨k, rfl⟩
theorem bind_ok {α β : Type} {m : R α} {f : α → Env → R β} {b : β} {e : Env} (h : m.bind f = .ok b e) : ∃ a e1, m = .ok a e1 ∧ f a e1 = .ok b e := by
  cases m with
  | ok a e1 => exact ⟨a, e1, rfl, h⟩
  | ex x e1 => cases h
  | bad => cases h
theorem op_ok {α : Type} {e e1 : Env} {o : Option α} {d : α} (h : (R.op e o) = .ok d e1) : o = some d ∧ e1 = e := by
  cases o with
  | none => cases h
  | some k => cases h; exact ⟨rfl, rfl⟩
theorem bv_cmp {op : CmpOp} : Bv cf gl (.cmp op ia ib) := fun env d e h => by
  simp only [ev] at h
  obtain ⟨_, _, _, h⟩ := bind_ok h
  obtain ⟨_, _, _, h⟩ := bind_ok h
  exact op_bl h
theorem bv_cmpR {op : CmpOp} {i : Nat} : Bv cf gl (.cmpR op ia i) := fun env d e h => by
  simp only [ev] at h
  obtain ⟨_, _, _, h⟩ := bind_ok h
  obtain ⟨h, _⟩ := op_ok h
  obtain ⟨_, _, h⟩ := Option.bind_eq_some_iff.mp h
  obtain ⟨k, _, rfl⟩ := Option.map_eq_some_iff.mp h
  exact ⟨k, rfl⟩
theorem bv_cmpL {op : CmpOp} {i : Nat} : Bv cf gl (.cmpL op i ib) := fun env d e h => by
  simp only [ev] at h
  split at h
  · obtain ⟨_, _, _, h⟩ := bind_ok h
    obtain ⟨h, _⟩ := op_ok h
    obtain ⟨_, _, h⟩ := Option.bind_eq_some_iff.mp h
    obtain ⟨k, _, rfl⟩ := Option.map_eq_some_iff.mp h
    exact ⟨k, rfl⟩
  · cases h
theorem bv_chn {op op' : CmpOp} : Bv cf gl (.chn op op' ia ib ic) := fun env d e h => by
  simp only [ev] at h
  obtain ⟨_, _, _, h⟩ := bind_ok h
  obtain ⟨_, _, _, h⟩ := bind_ok h
  obtain ⟨k, _, _, h⟩ := bind_ok h
  split at h
  · obtain ⟨_, _, _, h⟩ := bind_ok h
    exact op_bl h
  · cases h
    exact ⟨_, rfl⟩
/-- a comparison, any form, as a value's reading -/
theorem w_cmp (hK : F.K = X.K) {op : CmpOp} : ∀ σ H Q, tEv cf gl F XR W (.cmp op ia ib) σ H Q → tOp (rCmp X.K op) (tEv cf gl F XR W ia) (tEv cf gl F XR W ib) σ H Q := fun σ H Q h => by
  obtain ⟨env, ps, R, h⟩ := h
  simp only [ev] at h
  refine ⟨env, ps, R, h.bind.imp fun x e1 h v1 H1 R1 => ?_⟩
  refine ⟨e1, _, R1, h.bind.more.imp fun y e2 h v2 H2 R2 => ?_⟩
  obtain ⟨d, hd, q⟩ := h.op1
  obtain ⟨k, hk, rfl⟩ := Option.map_eq_some_iff.mp hd
  obtain ⟨A, Bs, RA, r2, r1⟩ := (R2.frz.swap.frz.swap).two (frz_frz y) (frz_frz x)
  rw [hK] at r1 r2
  exact ⟨_, _, _, _, k, r1, r2, hk, q _ _ (RA.rel.bl k)⟩
theorem t_cmp (hK : F.K = X.K) (hu : X.A.units + 65 < cLine) {op : CmpOp} (ha : PE X a (tEv cf gl F XR W ia)) (hb : PE X b (tEv cf gl F XR W ib)) (hm : behindInMarks op b = false) : PT X (.Compare a [op] [b] pos) (tTs cf gl F XR W (.cmp op ia ib)) :=
  PT.of (pt_cmpR (op_cmp hu op) ha hb hm) fun σ H Q h => w_cmp hK σ H _ (tTs_ev bv_cmp h)
theorem w_cmpR (hK : F.K = X.K) {op : CmpOp} {i : Nat} : ∀ σ H Q, tEv cf gl F XR W (.cmpR op ia i) σ H Q → tOp (rCmp X.K op) (tEv cf gl F XR W ia) (tVar i) σ H Q := fun σ H Q h => by
  obtain ⟨env, ps, R, h⟩ := h
  simp only [ev] at h
  refine ⟨env, ps, R, h.bind.imp fun x e1 h v1 H1 R1 => ?_⟩
  obtain ⟨d, hd, q⟩ := h.op1
  obtain ⟨y, hy, hd⟩ := Option.bind_eq_some_iff.mp hd
  obtain ⟨k, hk, rfl⟩ := Option.map_eq_some_iff.mp hd
  obtain ⟨v2, hv2, r2⟩ := R1.viewAt hy
  obtain ⟨A, Bs, RA, r1⟩ := R1.frz.one' (frz_frz x)
  rw [hK] at r1 r2
  exact ⟨v2, hv2, _, _, _, _, k, r1, r2, hk, q _ _ (RA.rel.bl k)⟩
theorem t_cmpR (hK : F.K = X.K) (hu : X.A.units + 65 < cLine) {op : CmpOp} {i : Nat} {x : Str} {p2 : Pos} (ha : PE X a (tEv cf gl F XR W ia)) (hN : X.N[i]? = some x) (hv : Vis X.env.scope x) (hd : (x == ("__debug__" : Str)) = false) (hcd : (x == ("__classdict__" : Str)) = false) (hm : behindInMarks op (.Name x p2) = false) :
    PT X (.Compare a [op] [.Name x p2] pos) (tTs cf gl F XR W (.cmpR op ia i)) :=
  PT.of (pt_cmpR (op_cmp hu op) ha (pe_var hN hv hd hcd) hm) fun σ H Q h => w_cmpR hK σ H _ (tTs_ev bv_cmpR h)
theorem w_cmpL (hK : F.K = X.K) {op : CmpOp} {i : Nat} : ∀ σ H Q, tEv cf gl F XR W (.cmpL op i ib) σ H Q → tOp (rCmp X.K op) (tVar i) (tEv cf gl F XR W ib) σ H Q := fun σ H Q h => by
  obtain ⟨env, ps, R, h⟩ := h
  simp only [ev] at h
  split at h
  · rename_i hh
    obtain ⟨v0, hv0⟩ := R.has hh
    refine ⟨v0, hv0, env, ps, R, h.bind.imp fun y e1 h v1 H1 R1 => ?_⟩
    obtain ⟨d, hd, q⟩ := h.op1
    obtain ⟨z, hz, hd⟩ := Option.bind_eq_some_iff.mp hd
    obtain ⟨k, hk, rfl⟩ := Option.map_eq_some_iff.mp hd
    obtain ⟨v2, hv2, r2⟩ := R1.viewAt hz
    rw [hv0] at hv2
    cases hv2
    obtain ⟨A, Bs, RA, r1⟩ := R1.frz.one' (frz_frz y)
    rw [hK] at r1 r2
    exact ⟨_, _, _, _, k, r2, r1, hk, q _ _ (RA.rel.bl k)⟩
  · exact h.elim
theorem t_cmpL (hK : F.K = X.K) (hu : X.A.units + 65 < cLine) {op : CmpOp} {i : Nat} {x : Str} {p2 : Pos} (hb : PE X b (tEv cf gl F XR W ib)) (hN : X.N[i]? = some x) (hv : Vis X.env.scope x) (hd : (x == ("__debug__" : Str)) = false) (hcd : (x == ("__classdict__" : Str)) = false) (hm : behindInMarks op b = false) :
    PT X (.Compare (.Name x p2) [op] [b] pos) (tTs cf gl F XR W (.cmpL op i ib)) :=
  PT.of (pt_cmpR (op_cmp hu op) (pe_var hN hv hd hcd) hb hm) fun σ H Q h => w_cmpL hK σ H _ (tTs_ev bv_cmpL h)
theorem w_chn (hK : F.K = X.K) {op op' : CmpOp} : ∀ σ H Q, tEv cf gl F XR W (.chn op op' ia ib ic) σ H Q → tChain (rCmp X.K op) (rCmp X.K op') (tEv cf gl F XR W ia) (tEv cf gl F XR W ib) (tEv cf gl F XR W ic) σ H Q := fun σ H Q h => by
  obtain ⟨env, ps, R, h⟩ := h
  simp only [ev] at h
  refine ⟨env, ps, R, h.bind.imp fun x e1 h v1 H1 R1 => ?_⟩
  refine ⟨e1, _, R1, h.bind.more.imp fun y e2 h v2 H2 R2 => ?_⟩
  obtain ⟨k, hk, h⟩ := h.op
  have R3 := R2.frz.swap.frz.swap
  obtain ⟨A, Bs, RA, r2, r1⟩ := R3.two (frz_frz y) (frz_frz x)
  rw [hK] at r1 r2
  refine ⟨_, _, _, _, k, r1, r2, hk, k, rfl, ?_⟩
  cases k with
  | true =>
    rw [if_pos rfl] at h ⊢
    refine ⟨e2, _, R3.one, h.bind.more.imp fun z e3 h v3 H3 R4 => ?_⟩
    obtain ⟨d, hd, q⟩ := h.op1
    obtain ⟨k2, hk2, rfl⟩ := Option.map_eq_some_iff.mp hd
    obtain ⟨A, Bs, RA, r2, r1⟩ := R4.frz.two (frz_frz z) (frz_frz y)
    rw [hK] at r1 r2
    exact ⟨_, _, _, _, k2, r1, r2, hk2, q _ _ (RA.rel.bl k2)⟩
  | false =>
    rw [if_neg Bool.false_ne_true] at h ⊢
    exact h _ _ (RA.rel.bl false)
theorem e_chn (hK : F.K = X.K) (hu : X.A.units + 65 < cLine) {op op' : CmpOp} (ha : PE X a (tEv cf gl F XR W ia)) (hb : PE X b (tEv cf gl F XR W ib)) (hc : PE X c (tEv cf gl F XR W ic)) (hm : lastMarks [op, op'] [b, c] = false) :
    PE X (.Compare a [op, op'] [b, c] pos) (tEv cf gl F XR W (.chn op op' ia ib ic)) := PE.of (pe_chain (op_cmp hu op) (op_cmp hu op') ha hb hc hm) (w_chn hK)
theorem t_chn (hK : F.K = X.K) (hu : X.A.units + 65 < cLine) {op op' : CmpOp} (ha : PE X a (tEv cf gl F XR W ia)) (hb : PE X b (tEv cf gl F XR W ib)) (hc : PE X c (tEv cf gl F XR W ic)) (hm : lastMarks [op, op'] [b, c] = false) :
    PT X (.Compare a [op, op'] [b, c] pos) (tTs cf gl F XR W (.chn op op' ia ib ic)) := PT.of (pt_chain (op_cmp hu op) (op_cmp hu op') ha hb hc hm) fun σ H Q h => w_chn hK σ H _ (tTs_ev bv_chn h)
theorem e_ite (hc : PT X c (tTs cf gl F XR W ic)) (ha : PE X a (tEv cf gl F XR W ia)) (hb : PE X b (tEv cf gl F XR W ib)) : PE X (.IfExp c a b pos) (tEv cf gl F XR W (.ite ic ia ib)) := by
  refine PE.of (pe_ifExp hc ha hb) fun σ H Q h => ?_
  obtain ⟨env, ps, RR, h⟩ := h
  simp only [ev] at h
  refine ⟨env, ps, RR, Out.unbind (h.bind.imp fun x e1 h => ?_)⟩
  obtain ⟨k, hk, h⟩ := h.op
  rw [hk]
  intro H' R'
  cases k with
  | true => rw [if_pos rfl] at h ⊢; exact ⟨e1, ps, R', h⟩
  | false => rw [if_neg Bool.false_ne_true] at h ⊢; exact ⟨e1, ps, R', h⟩
end
end PD

set_option Elab.async false
set_option linter.all false
set_option maxRecDepth 100000
namespace PD
open PySem PySem.Spec PyProof.Rows L2
section
variable {F : Fr} {H : Hp} {σ : L2.St} {e : Env} {ps : Ps} {v : V} {d : D}
theorem RelA.swapB {A Bs : List Addr} {l1 l2 : Ps} (R : RelA F A Bs H σ e (l1 ++ (l2 ++ ps))) : ∃ Bs', RelA F A Bs' H σ e (l2 ++ (l1 ++ ps)) := by
  have q := R.pend
  rw [List.map_append, List.map_append, List.map_append, List.map_append] at q
  obtain ⟨B1, B2, e1, q1, q2⟩ := Owns.split (by simp) q
  obtain ⟨B3, B4, e2, q3, q4⟩ := Owns.split (by simp) q2
  subst e1 e2
  refine ⟨B3 ++ (B1 ++ B4), R.re (Sub.of ?_) R.slots ?_ R.pins⟩
  · exact List.Perm.append_left A (List.perm_append_comm_assoc B3 B1 B4)
  · rw [List.map_append, List.map_append, List.map_append, List.map_append]
    exact q3.append (q1.append q4)
theorem Rel.swapB {l1 l2 : Ps} (R : Rel F H σ e (l1 ++ (l2 ++ ps))) : Rel F H σ e (l2 ++ (l1 ++ ps)) := by
  obtain ⟨A, Bs, R⟩ := R
  obtain ⟨Bs', R'⟩ := R.swapB
  exact ⟨A, Bs', R'⟩
theorem Rel.mid {l : Ps} {p : V × D} (R : Rel F H σ e (l ++ p :: ps)) : Rel F H σ e (p :: (l ++ ps)) := Rel.swapB (l1 := l) (l2 := [p]) R
theorem Rel.drops : ∀ {l : Ps}, Rel F H σ e (l ++ ps) → Rel F H σ e ps
  | [], R => R
  | _ :: l, R => Rel.drops (l := l) R.drop
theorem zps_append : ∀ {vs ws : List V} {ds es : List D}, vs.length = ds.length → zps (vs ++ ws) (ds ++ es) = zps vs ds ++ zps ws es
  | [], _, [], _, _ => rfl
  | [], _, _ :: _, _, l => by simp at l
  | _ :: _, _, [], _, l => by simp at l
  | v :: vs, ws, d :: ds, es, l => by
    show (v, d) :: zps (vs ++ ws) (ds ++ es) = (v, d) :: (zps vs ds ++ zps ws es)
    rw [zps_append (by simpa using l)]
/-- by-value items of a by-value thing are pending -/
theorem RelA.pushs {A Bs : List Addr} : ∀ {vs : List V} {ds : List D}, RelA F A Bs H σ e ps → Reps F.K H (Oc F (A ++ Bs)) vs ds → RelA F A Bs H σ e (zps vs ds ++ ps)
  | _, _, R, .nil => R
  | _, _, R, .cons h r => (RelA.pushs R r).push h
theorem Rel.openT {ds : List D} (R : Rel F H σ e ((v, .tup ds) :: ps)) : ∃ a xs, v = .ref a ∧ SqT F.K H a xs ∧ xs.length = ds.length ∧ Rel F H σ e (zps xs ds ++ ((v, .tup ds) :: ps)) := by
  obtain ⟨A, Bs, R, r⟩ := R.rep rfl
  cases r with
  | tup h1 h2 => exact ⟨_, _, rfl, sqT_of h1, h2.length, A, Bs, R.pushs h2⟩
theorem Rel.openL {ds : List D} (R : Rel F H σ e ((v, .lst ds) :: ps)) : ∃ a xs, v = .ref a ∧ SqL F.K H a xs ∧ xs.length = ds.length ∧ Rel F H σ e (zps xs ds ++ ((v, .lst ds) :: ps)) := by
  obtain ⟨A, Bs, R, r⟩ := R.rep rfl
  cases r with
  | lst h1 h2 => exact ⟨_, _, rfl, sqL_of h1, h2.length, A, Bs, R.pushs h2⟩
theorem Rel.frzs : ∀ {vs : List V} {ds : List D} {l : Ps}, vs.length = ds.length → Rel F H σ e (l ++ (zps vs ds ++ ps)) → Rel F H σ e (l ++ (zps vs (D.frzs ds) ++ ps))
  | [], [], _, _, R => R
  | [], _ :: _, _, l, _ => by simp at l
  | _ :: _, [], _, l, _ => by simp at l
  | v :: vs, d :: ds, l, hl, R => by
    have R1 : Rel F H σ e (l ++ ((v, d) :: (zps vs ds ++ ps))) := R
    have R2 : Rel F H σ e ((v, d.frz) :: (l ++ (zps vs ds ++ ps))) := R1.mid.frz
    have R3 : Rel F H σ e ((l ++ [(v, d.frz)]) ++ (zps vs ds ++ ps)) := by
      have := Rel.swapB (l1 := [(v, d.frz)]) (l2 := l) (ps := zps vs ds ++ ps) R2
      rw [List.append_assoc]
      exact this
    have R4 := Rel.frzs (l := l ++ [(v, d.frz)]) (by simpa using hl) R3
    rw [List.append_assoc] at R4
    exact R4
end
section
variable {X : Cx} {cf : CallF} {gl : Str → Option D} {F : Fr} {XR : XRT} {W : WX} {a b : Expr} {es : List Expr} {ia ib ias : IE} {pos p : Pos}
theorem a_nil : PA X [] (tEvs cf gl F XR W .nil) := by
  refine PA.of pa_nil fun σ H Q h => ?_
  obtain ⟨env, ps, RR, h⟩ := h
  simp only [evs] at h
  exact h [] H rfl RR
theorem a_cons (ha : PE X a (tEv cf gl F XR W ia)) (hr : PA X es (tEvs cf gl F XR W ias)) (hs : starEach (a :: es) X.env = (false, eval a X.env) :: starEach es X.env) : PA X (a :: es) (tEvs cf gl F XR W (.cons ia ias)) := by
  refine PA.of (pa_cons ha hr hs) fun σ H Q h => ?_
  obtain ⟨env, ps, RR, h⟩ := h
  simp only [evs] at h
  refine ⟨env, ps, RR, h.bind.imp fun x e1 h v1 H1 R1 => ?_⟩
  refine ⟨e1, _, R1, h.bind.more.imp fun xs e2 h vs H2 l R2 => ?_⟩
  exact h (v1 :: vs) H2 (congrArg Nat.succ l) R2.mid
theorem a_star (hK : F.K = X.K) (ha : PE X a (tEv cf gl F XR W ia)) (hr : PA X es (tEvs cf gl F XR W ias)) (hs : starEach (.Starred a p :: es) X.env = (true, eval a X.env) :: starEach es X.env) : PA X (.Starred a p :: es) (tEvs cf gl F XR W (.star ia ias)) := by
  refine PA.of (StX.pa_star ha hr hs) fun σ H Q h => ?_
  obtain ⟨env, ps, RR, h⟩ := h
  simp only [evs] at h
  refine ⟨env, ps, RR, h.bind.imp fun x e1 h v1 H1 R1 => ?_⟩
  have R1 := R1.frz
  split at h
  · rename_i ys hy
    have key : ∀ (a : Addr) (xs : List V), v1 = .ref a → (SqT F.K H1 a xs ∨ SqL F.K H1 a xs) → xs.length = ys.length → Rel F H1 σ e1 (zps xs ys ++ ((v1, x.frz) :: ps)) →
        ∃ p xs, v1 = V.ref p ∧ (SqT X.K H1 p xs ∨ SqL X.K H1 p xs) ∧ tEvs cf gl F XR W ias σ H1 fun ys H2 => Q (xs ++ ys) H2 := fun a xs e1' hq hl R2 => by
      refine ⟨a, xs, e1', by rw [← hK]; exact hq, e1, zps xs ys ++ ps, (Rel.mid R2).drop, (h.bind.mores _).imp fun ds e2 h vs H2 l R3 => ?_⟩
      refine h (xs ++ vs) H2 (by rw [List.length_append, List.length_append, hl, l]) ?_
      rw [zps_append hl, List.append_assoc]
      exact R3.swapB
    unfold itemsOf at hy
    split at hy
    · rename_i zs hz
      cases hy
      rw [hz] at R1 key
      obtain ⟨a, xs, e, q, l, R2⟩ := R1.openL
      exact key a xs e (.inr q) l R2
    · rename_i zs hz
      cases hy
      rw [hz] at R1 key
      obtain ⟨a, xs, e, q, l, R2⟩ := R1.openT
      exact key a xs e (.inl q) l R2
    · cases hy
  · exact h.elim
theorem e_tup {k : Nat} (h : PA X es (tEvs cf gl F XR W ias)) : PE X (.Tuple es k pos) (tEv cf gl F XR W (.tup ias)) := by
  refine PE.of (pe_tup h) fun σ H Q h => ?_
  obtain ⟨env, ps, RR, h⟩ := h
  simp only [ev] at h
  refine ⟨env, ps, RR, h.bind.imp fun ds e1 h vs H1 l R1 => ?_⟩
  split at h
  · rename_i hz
    refine ⟨by rw [line_eq, l]; exact hz, fun p hp => ?_⟩
    exact h _ _ (R1.newT l hp)
  · exact h.elim
theorem e_lst (h : PA X es (tEvs cf gl F XR W ias)) : PE X (.List es pos) (tEv cf gl F XR W (.lst ias)) := by
  refine PE.of (pe_lst h) fun σ H Q h => ?_
  obtain ⟨env, ps, RR, h⟩ := h
  simp only [ev] at h
  refine ⟨env, ps, RR, h.bind.imp fun ds e1 h vs H1 l R1 => ?_⟩
  split at h
  · rename_i hz
    refine ⟨by rw [line_eq, l]; exact hz, fun p hp => ?_⟩
    exact h _ _ (R1.newL l hp)
  · exact h.elim

theorem atI_reps {K : PySem.W.Frag} {H : Hp} {O : Addr → Prop} {vs : List V} {ds : List D} (r : Reps K H O vs ds) {i : Int} {d : D} (h : atI ds i = some d) : ∃ v, atI vs i = some v ∧ Rep K H O v d := by
  unfold atI at h ⊢
  rw [r.length]
  obtain ⟨j, hj, hd⟩ := Option.bind_eq_some_iff.mp h
  obtain ⟨v, hv, q⟩ := r.get' hd
  exact ⟨v, by rw [hj]; exact hv, q⟩
theorem rIx_of {K : PySem.W.Frag} {H : Hp} {O : Addr → Prop} {x : V} {d1 d : D} {i : Int} {Q : VK} (r : Rep K H O x d1) (h : subD d1 (.int i) = some d) (k : ∀ w, Rep K H O w d → Q w H) : rIx K x (.int i) H Q := by
  unfold subD at h
  split at h
  · rename_i xs j hj
    cases hj
    cases r with
    | tup h1 h2 =>
      obtain ⟨w, hw, rw'⟩ := atI_reps h2 h
      exact .inr (.inl ⟨_, _, _, w, rfl, rfl, sqT_of h1, hw, k w rw'⟩)
  · rename_i xs j hj
    cases hj
    cases r with
    | lst h1 h2 =>
      obtain ⟨w, hw, rw'⟩ := atI_reps h2 h
      exact .inl ⟨_, _, _, w, rfl, rfl, sqL_of h1, hw, k w rw'⟩
  · rename_i xs j hj
    cases hj
    split at h
    · rename_i hl
      obtain ⟨cc, hc, rfl⟩ := Option.map_eq_some_iff.mp h
      cases r
      exact .inr (.inr ⟨_, _, cc, rfl, rfl, by rw [line_eq]; exact hl, hc, k _ (.str _)⟩)
    · cases h
  · cases h
theorem subD_int {d1 d2 d : D} (h : subD d1 d2 = some d) : ∃ i, d2 = .int i := by
  cases d2 with
  | int i => exact ⟨i, rfl⟩
  | _ => cases d1 <;> cases h
theorem e_sub (hK : F.K = X.K) (ha : PE X a (tEv cf gl F XR W ia)) (hb : PE X b (tEv cf gl F XR W ib)) (hs : PlainIx b) : PE X (.Subscript a b pos) (tEv cf gl F XR W (.sub ia ib)) := by
  refine PE.of (pe_ix ix_seq ha hb hs) fun σ H Q h => ?_
  obtain ⟨env, ps, RR, h⟩ := h
  simp only [ev] at h
  refine ⟨env, ps, RR, h.bind.imp fun x e1 h v1 H1 R1 => ?_⟩
  refine ⟨e1, _, R1, h.bind.more.imp fun y e2 h v2 H2 R2 => ?_⟩
  obtain ⟨d, hd, q⟩ := h.op1
  obtain ⟨i, rfl⟩ := subD_int hd
  have := R2.is_int
  subst this
  obtain ⟨A, Bs, RA, r1⟩ := (R2.drop.frz).one' (frz_frz x)
  rw [← hK]
  exact rIx_of r1 hd fun w rw' => q w H2 (RA.push rw').rel
theorem e_subB (hK : F.K = X.K) {i : Nat} {x : Str} {p2 : Pos} (hN : X.N[i]? = some x) (hv : Vis X.env.scope x) (hd : (x == ("__debug__" : Str)) = false) (hcd : (x == ("__classdict__" : Str)) = false) (hb : PE X b (tEv cf gl F XR W ib)) (hs : PlainIx b) :
    PE X (.Subscript (.Name x p2) b pos) (tEv cf gl F XR W (.subB i ib)) := by
  refine PE.of (pe_ix ix_seq (pe_var hN hv hd hcd) hb hs) fun σ H Q h => ?_
  obtain ⟨env, ps, RR, h⟩ := h
  simp only [ev] at h
  split at h
  · rename_i hh
    obtain ⟨v0, hv0⟩ := RR.has hh
    refine ⟨v0, hv0, env, ps, RR, h.bind.imp fun y e1 h v1 H1 R1 => ?_⟩
    rw [← hK]
    split at h
    · rename_i pn xs hx
      split at h
      · rename_i hp
        obtain ⟨d, hd, q⟩ := h.op1
        obtain ⟨j, rfl⟩ := subD_int hd
        have := R1.is_int
        subst this
        obtain ⟨A, Bs, RA⟩ := R1.drop
        obtain ⟨As, B, v, pp, hv2, ho, s⟩ := RA.slots.take hx (fun z => nomatch z)
        rw [hv0] at hv2
        cases hv2
        cases ho with
        | val r => cases r
        | @own a vs _ As _ h1 h2 =>
          obtain ⟨eA, rs⟩ := h2.plain hp
          obtain ⟨w, hw, rw'⟩ := atI_reps rs (show atI xs j = some d from hd)
          exact .inl ⟨_, _, _, w, rfl, rfl, .of h1, hw, q w H1 (RA.push rw').rel⟩
      · exact h.elim
    · exact h.elim
    · rename_i dd hne1 hne2 hx
      obtain ⟨d, hd, q⟩ := h.op1
      obtain ⟨j, rfl⟩ := subD_int hd
      have := R1.is_int
      subst this
      obtain ⟨A, Bs, RA⟩ := R1.drop
      obtain ⟨As, B, v, pp, hv2, ho, s⟩ := RA.slots.take hx hne2
      rw [hv0] at hv2
      cases hv2
      cases ho with
      | val r => exact rIx_of r hd fun w rw' => q w H1 (RA.push rw').rel
      | own h1 h2 => exact (hne1 _ _ rfl).elim
    · exact h.elim
  · exact h.elim

theorem cutV_reps {K : PySem.W.Frag} {H : Hp} {O : Addr → Prop} {vs : List V} {ds : List D} (r : Reps K H O vs ds) (lo hi : Option Int) : Reps K H O (cutV vs lo hi) (cutD ds lo hi) := by
  unfold cutV cutD
  rw [r.length]
  exact (r.drop _).take _
theorem sl_any : SlR X (fun x lo hi H Q => rSlL X.K x lo hi H Q ∨ rSlA X.K x lo hi H Q) := SlR.or sl_list sl_tupA
/-- its reading: a bound, pending things stay -/
def tPt (cf : CallF) (gl : Str → Option D) (F : Fr) (XR : XRT) (W : WX) (ie : IE) : TO := fun σ H Q => ∃ env ps, Rel F H σ env ps ∧ Out F XR W σ ps (fun d e => ∃ o, partD d = some o ∧ ∀ H', Rel F H' σ e ps → Q o H') (ev cf gl ie env)
theorem PO.of {o : Option Expr} {t t' : TO} (h : PO X o t) (w : ∀ σ H Q, t' σ H Q → t σ H Q) : PO X o t' := ⟨fun pins s σ H Q I q => h.run pins s σ H Q I (w σ H Q q)⟩
theorem p_no : PO X none (tPt cf gl F XR W .no) := by
  refine PO.of po_none fun σ H Q h => ?_
  obtain ⟨env, ps, RR, h⟩ := h
  simp only [ev] at h
  obtain ⟨o, ho, q⟩ := h
  cases ho
  exact q H RR
theorem p_yes (ha : PE X a (tEv cf gl F XR W ia)) : PO X (some a) (tPt cf gl F XR W ia) := by
  refine PO.of (po_some ha) fun σ H Q h => ?_
  obtain ⟨env, ps, RR, h⟩ := h
  refine ⟨env, ps, RR, h.imp fun d e1 h v H1 R1 => ?_⟩
  obtain ⟨o, ho, q⟩ := h
  cases d with
  | int i =>
    cases ho
    exact ⟨i, R1.is_int, q H1 R1.drop⟩
  | hid =>
    obtain ⟨A, Bs, RA⟩ := R1
    have z := RA.pend
    simp only [List.map_cons] at z
    cases z with
    | cons h1 _ => exact h1.nohid.elim
  | _ => cases ho
theorem e_slc (hK : F.K = X.K) {lo hi : Option Expr} {ilo ihi : IE} {p2 : Pos} (ha : PE X a (tEv cf gl F XR W ia)) (hl : PO X lo (tPt cf gl F XR W ilo)) (hh : PO X hi (tPt cf gl F XR W ihi)) : PE X (.Subscript a (.Slice lo hi none p2) pos) (tEv cf gl F XR W (.slc ia ilo ihi)) := by
  refine PE.of (pe_slice sl_any ha hl hh) fun σ H Q h => ?_
  obtain ⟨env, ps, RR, h⟩ := h
  simp only [ev] at h
  refine ⟨env, ps, RR, h.bind.imp fun x e1 h v1 H1 R1 => ?_⟩
  refine ⟨e1, _, R1.frz, h.bind.more.imp fun l e2 h => ?_⟩
  obtain ⟨lo2, hlo, h⟩ := h.op
  refine ⟨lo2, hlo, fun H2 R2 => ?_⟩
  refine ⟨e2, _, R2, h.bind.more.imp fun u e3 h => ?_⟩
  obtain ⟨hi2, hhi, h⟩ := h.op
  obtain ⟨d, hd, q⟩ := h.op1
  refine ⟨hi2, hhi, fun H3 R3 => ?_⟩
  obtain ⟨A, Bs, RA, r1⟩ := R3.one' (frz_frz x)
  rw [← hK]
  cases hf : x.frz with
  | lst xs =>
    rw [hf] at hd r1
    cases hd
    cases r1 with
    | lst h1 h2 => exact .inl ⟨_, _, rfl, sqL_of h1, fun p hp => q _ _ (RA.newLr (cutV_reps h2 _ _) hp)⟩
  | tup xs =>
    rw [hf] at hd r1
    cases hd
    cases r1 with
    | @tup a us _ h1 h2 =>
      refine .inr ⟨_, _, rfl, sqT_of h1, fun z => ?_, fun z p hp => q _ _ (RA.newTr (cutV_reps h2 _ _) hp)⟩
      have e0 : cutD xs lo2 hi2 = xs := by
        unfold cutD
        rw [← h2.length, z.1, z.2, List.drop_zero, Nat.sub_zero, h2.length, List.take_length]
      rw [e0] at q
      exact q _ _ (RA.push (.tup h1 h2)).rel
  | _ => rw [hf] at hd; cases hd
end
end PD

set_option Elab.async false
set_option linter.all false
set_option maxRecDepth 100000
namespace PD
open PySem PySem.Spec PyProof.Rows L2

/-- to be looked at: a list of by-value things, owned or not; else by value -/
inductive RepV (K : PySem.W.Frag) (H : Hp) (O : Addr → Prop) : V → D → Prop
  | val {v : V} {d : D} : Rep K H O v d → RepV K H O v d
  | lst {a : Addr} {xs : List V} {ds : List D} : SqL K H a xs → Reps K H O xs ds → RepV K H O (.ref a) (.lst ds)
inductive RepVs (K : PySem.W.Frag) (H : Hp) (O : Addr → Prop) : List V → List D → Prop
  | nil : RepVs K H O [] []
  | cons {v : V} {d : D} {vs : List V} {ds : List D} : RepV K H O v d → RepVs K H O vs ds → RepVs K H O (v :: vs) (d :: ds)
section
variable {K : PySem.W.Frag} {H : Hp} {O : Addr → Prop} {v : V} {d : D}
theorem RepV.list {ds : List D} (h : RepV K H O v (.lst ds)) : ∃ a xs, v = .ref a ∧ SqL K H a xs ∧ Reps K H O xs ds := by
  cases h with
  | val r => cases r with | lst h1 h2 => exact ⟨_, _, rfl, sqL_of h1, h2⟩
  | lst h1 h2 => exact ⟨_, _, rfl, h1, h2⟩
theorem RepV.tuple {ds : List D} (h : RepV K H O v (.tup ds)) : ∃ a xs, v = .ref a ∧ SqT K H a xs ∧ Reps K H O xs ds ∧ Rep K H O v (.tup ds) := by
  cases h with
  | val r => cases r with | tup h1 h2 => exact ⟨_, _, rfl, sqT_of h1, h2, .tup h1 h2⟩
theorem RepV.int {i : Int} (h : RepV K H O v (.int i)) : v = .int i := by cases h with | val r => cases r; rfl
theorem RepV.bl {i : Bool} (h : RepV K H O v (.bl i)) : v = .bl i := by cases h with | val r => cases r; rfl
theorem RepV.str {i : Str} (h : RepV K H O v (.str i)) : v = .str i := by cases h with | val r => cases r; rfl
theorem RepV.dp (h : RepV K H O v d) : Dp K H v d.py := by
  cases h with
  | val r => exact r.dp
  | lst h1 h2 => exact .lst h1 h2.dp
theorem RepVs.one (h : RepVs K H O vs [d]) : ∃ v, vs = [v] ∧ RepV K H O v d := by
  cases h with
  | cons h1 h2 => cases h2; exact ⟨_, rfl, h1⟩
theorem RepVs.two {d' : D} (h : RepVs K H O vs [d, d']) : ∃ v w, vs = [v, w] ∧ RepV K H O v d ∧ RepV K H O w d' := by
  cases h with
  | cons h1 h2 => cases h2 with | cons h2 h3 => cases h3; exact ⟨_, _, rfl, h1, h2⟩
theorem boolsOf_reps : ∀ {vs : List V} {ds : List D}, Reps K H O vs ds → ∀ {ns : List Bool}, boolsOf ds = some ns → vs = ns.map V.bl
  | _, _, .nil, ns, e => by cases e; rfl
  | _, d :: ds, .cons h r, ns, e => by
    cases h with
    | bl i =>
      simp only [boolsOf] at e
      cases q : boolsOf ds with
      | none => rw [q] at e; cases e
      | some ms =>
        rw [q] at e
        cases e
        rw [boolsOf_reps r q]
        rfl
    | _ => cases e
end
mutual
theorem py_noDict : ∀ d : D, d.py.hasDict = false
  | .non => by simp only [D.py, PyData.hasDict]
  | .bl _ => by simp only [D.py, PyData.hasDict]
  | .int _ => by simp only [D.py, PyData.hasDict]
  | .str _ => by simp only [D.py, PyData.hasDict]
  | .hid => by simp only [D.py, PyData.hasDict]
  | .tup ds => by simp only [D.py, PyData.hasDict]; exact pys_noDict ds
  | .lst ds => by simp only [D.py, PyData.hasDict]; exact pys_noDict ds
  | .own _ ds => by simp only [D.py, PyData.hasDict]; exact pys_noDict ds
theorem pys_noDict : ∀ ds : List D, PyData.hasDictAll (D.pys ds) = false
  | [] => by simp only [D.pys, PyData.hasDictAll]
  | d :: ds => by simp only [D.pys, PyData.hasDictAll]; rw [py_noDict d, pys_noDict ds]; rfl
end

/-- what a built-in asks of its arguments -/
def rBi (F : Fr) (b : BI) : List V → Hp → VK → Prop := fun vs H Q => ∃ (σ : L2.St) (env : Env) (ps : Ps) (A Bs : List Addr) (ds : List D) (d : D), RelA F A Bs H σ env ps ∧ RepVs F.K H (Oc F (A ++ Bs)) vs ds ∧ biD b ds = some d ∧ ∀ v H', Rel F H' σ env ((v, d) :: ps) → Q v H'
section
variable {X : Cx} {F : Fr}
theorem cr_repr (hg : X.A.guards = some []) (hu : X.A.units + 65 < cLine) : CallR X (.builtin "repr") (fun vs H Q => ∃ v d, vs = [v] ∧ Dp X.K H v d ∧ d.showable = true ∧ d.hasDict = false ∧ d.depth ≤ 60 ∧ d.shown.length ≤ sizeLine ∧ Q (.str d.shown) H) := by
  intro pins s σ H xs us Q I r h
  obtain ⟨v, d, rfl, hd, h1, h2, h3, h4, q⟩ := h
  obtain ⟨u, rfl, ru⟩ := vals1 r
  cases d with
  | none => cases hd; cases ru; exact PySem.P.repr_of_none ⟨.str _, H, I.tok _, ⟨_, rfl⟩, by simpa only [PyData.shown] using q⟩
  | bool b => cases hd; cases ru; exact PySem.P.repr_of_bool ⟨.str _, H, I.tok _, ⟨_, rfl⟩, by simpa only [PyData.shown] using q⟩
  | int i =>
    cases hd
    obtain ⟨t, rfl⟩ := ru
    exact PySem.P.repr_of_int (by simpa [PyData.showable] using h1) ⟨.str _, H, I.tok _, ⟨_, rfl⟩, by simpa only [PyData.shown] using q⟩
  | str x =>
    cases hd
    obtain ⟨t, rfl⟩ := ru
    exact PySem.P.repr_of_str ⟨.str _, H, I.tok _, ⟨_, rfl⟩, by simpa only [PyData.shown] using q⟩ (by simpa only [PyData.shown] using h4)
  | dict kvs => cases hd
  | list ds =>
    obtain ⟨as, r1⟩ := Dp.reads I _ v u hd ru
    cases hd with
    | lst hs ha =>
      cases ru
      exact repr_of_reads' r1 h1 (fun z => by rw [h2] at z; cases z) hg (by omega) (fun _ _ e => e) (fun h' t tk hk => ⟨.str _, H, I.kept hk, ⟨_, rfl⟩, q⟩) h4
  | tuple ds =>
    obtain ⟨as, r1⟩ := Dp.reads I _ v u hd ru
    cases hd with
    | tup hs ha =>
      cases ru
      exact repr_of_reads' r1 h1 (fun z => by rw [h2] at z; cases z) hg (by omega) (fun _ _ e => e) (fun h' t tk hk => ⟨.str _, H, I.kept hk, ⟨_, rfl⟩, q⟩) h4

/-- the value that a built-in's name stands for, and that it keeps its word -/
def BiOk (X : Cx) (F : Fr) (b : BI) (f : Value) : Prop := CallR X f (rBi F b)
theorem bi1 {b : BI} {ds : List D} {d : D} (h : biD b ds = some d) (h0 : biD b [] = none := by rfl) (h2 : ∀ x y zs, biD b (x :: y :: zs) = none := by intros; rfl) : ∃ d0, ds = [d0] := by
  cases ds with
  | nil => rw [h0] at h; cases h
  | cons x ds =>
    cases ds with
    | nil => exact ⟨x, rfl⟩
    | cons y zs => rw [h2] at h; cases h
theorem bi2 {b : BI} {ds : List D} {d : D} (h : biD b ds = some d) (h0 : biD b [] = none := by rfl) (h1 : ∀ x, biD b [x] = none := by intros; rfl) (h3 : ∀ x y z zs, biD b (x :: y :: z :: zs) = none := by intros; rfl) : ∃ d0 d1, ds = [d0, d1] := by
  cases ds with
  | nil => rw [h0] at h; cases h
  | cons x ds =>
    cases ds with
    | nil => rw [h1] at h; cases h
    | cons y zs =>
      cases zs with
      | nil => exact ⟨x, y, rfl⟩
      | cons z zs => rw [h3] at h; cases h
theorem bi_len (hK : F.K = X.K) : BiOk X F .len (.builtin "len") := by
  intro pins s σ0 H xs us Q I r h
  obtain ⟨σ, env, ps, A, Bs, ds, d, R, rs, hd, q⟩ := h
  obtain ⟨d0, rfl⟩ := bi1 hd (h2 := by intro x y zs; cases x <;> rfl)
  obtain ⟨v, rfl, r0⟩ := rs.one
  cases d0 with
  | lst ys =>
    cases hd
    obtain ⟨a, ws, rfl, h1, h2⟩ := r0.list
    rw [hK] at h1
    exact call_len pins s σ0 H _ us Q I r ⟨_, ws.length, rfl, .inl ⟨ws, h1, rfl⟩, by rw [h2.length]; exact q _ _ (R.rel.int _)⟩
  | tup ys =>
    cases hd
    obtain ⟨a, ws, rfl, h1, h2, _⟩ := r0.tuple
    rw [hK] at h1
    exact call_len pins s σ0 H _ us Q I r ⟨_, ws.length, rfl, .inr ⟨ws, h1, rfl⟩, by rw [h2.length]; exact q _ _ (R.rel.int _)⟩
  | str x =>
    simp only [biD] at hd
    split at hd
    · rename_i hl
      cases hd
      have := r0.str
      subst this
      exact call_len pins s σ0 H _ us Q I r ⟨_, x.length, rfl, ⟨by rw [line_eq]; exact hl, rfl⟩, q _ _ (R.rel.int _)⟩
    · cases hd
  | _ => cases hd
theorem bi_abs (hK : F.K = X.K) : BiOk X F .abs (.builtin "abs") := by
  intro pins s σ0 H xs us Q I r h
  obtain ⟨σ, env, ps, A, Bs, ds, d, R, rs, hd, q⟩ := h
  obtain ⟨d0, rfl⟩ := bi1 hd (h2 := by intro x y zs; cases x <;> rfl)
  obtain ⟨v, rfl, r0⟩ := rs.one
  cases d0 with
  | int i =>
    cases hd
    have := r0.int
    subst this
    exact call_abs pins s σ0 H _ us Q I r ⟨i, rfl, q _ _ (R.rel.int _)⟩
  | _ => cases hd
theorem bi_int (hK : F.K = X.K) : BiOk X F .int (.type "int") := by
  intro pins s σ0 H xs us Q I r h
  obtain ⟨σ, env, ps, A, Bs, ds, d, R, rs, hd, q⟩ := h
  obtain ⟨d0, rfl⟩ := bi1 hd (h2 := by intro x y zs; cases x <;> rfl)
  obtain ⟨v, rfl, r0⟩ := rs.one
  cases d0 with
  | int i =>
    cases hd
    have := r0.int
    subst this
    exact call_int1 pins s σ0 H _ us Q I r (.inl ⟨i, rfl, q _ _ (R.rel.int _)⟩)
  | bl i =>
    cases hd
    have := r0.bl
    subst this
    exact call_int1 pins s σ0 H _ us Q I r (.inr ⟨i, rfl, q _ _ (R.rel.int _)⟩)
  | _ => cases hd
theorem bi_all (hK : F.K = X.K) (hc : X.calm = true) : BiOk X F .all (.builtin "all") := by
  intro pins s σ0 H xs us Q I r h
  obtain ⟨σ, env, ps, A, Bs, ds, d, R, rs, hd, q⟩ := h
  obtain ⟨d0, rfl⟩ := bi1 hd (h2 := by intro x y zs; cases x <;> rfl)
  obtain ⟨v, rfl, r0⟩ := rs.one
  cases d0 with
  | lst ys =>
    obtain ⟨bs, hb, rfl⟩ := Option.map_eq_some_iff.mp hd
    obtain ⟨a, ws, rfl, h1, h2⟩ := r0.list
    rw [hK] at h1
    have := boolsOf_reps h2 hb
    subst this
    exact cr_all hc pins s σ0 H _ us Q I r ⟨_, bs, rfl, h1, q _ _ (R.rel.bl _)⟩
  | _ => cases hd
theorem bi_any (hK : F.K = X.K) (hc : X.calm = true) : BiOk X F .any (.builtin "any") := by
  intro pins s σ0 H xs us Q I r h
  obtain ⟨σ, env, ps, A, Bs, ds, d, R, rs, hd, q⟩ := h
  obtain ⟨d0, rfl⟩ := bi1 hd (h2 := by intro x y zs; cases x <;> rfl)
  obtain ⟨v, rfl, r0⟩ := rs.one
  cases d0 with
  | lst ys =>
    obtain ⟨bs, hb, rfl⟩ := Option.map_eq_some_iff.mp hd
    obtain ⟨a, ws, rfl, h1, h2⟩ := r0.list
    rw [hK] at h1
    have := boolsOf_reps h2 hb
    subst this
    exact cr_any hc pins s σ0 H _ us Q I r ⟨_, bs, rfl, h1, q _ _ (R.rel.bl _)⟩
  | _ => cases hd
theorem bi_tuple (hK : F.K = X.K) : BiOk X F .tuple (.type "tuple") := by
  intro pins s σ0 H xs us Q I r h
  obtain ⟨σ, env, ps, A, Bs, ds, d, R, rs, hd, q⟩ := h
  obtain ⟨d0, rfl⟩ := bi1 hd (h2 := by intro x y zs; cases x <;> rfl)
  obtain ⟨v, rfl, r0⟩ := rs.one
  cases d0 with
  | lst ys =>
    cases hd
    obtain ⟨a, ws, rfl, h1, h2⟩ := r0.list
    rw [hK] at h1
    exact call_tuple_of pins s σ0 H _ us Q I r ⟨_, ws, rfl, .inl ⟨h1, fun l hl => q _ _ (R.newTr h2 hl)⟩⟩
  | tup ys =>
    cases hd
    obtain ⟨a, ws, rfl, h1, h2, h3⟩ := r0.tuple
    rw [hK] at h1
    exact call_tuple_of pins s σ0 H _ us Q I r ⟨_, ws, rfl, .inr ⟨h1, q _ _ (R.push h3).rel⟩⟩
  | _ => cases hd
theorem bi_list (hK : F.K = X.K) : BiOk X F .list (.type "list") := by
  intro pins s σ0 H xs us Q I r h
  obtain ⟨σ, env, ps, A, Bs, ds, d, R, rs, hd, q⟩ := h
  obtain ⟨d0, rfl⟩ := bi1 hd (h2 := by intro x y zs; cases x <;> rfl)
  obtain ⟨v, rfl, r0⟩ := rs.one
  cases d0 with
  | lst ys =>
    cases hd
    obtain ⟨a, ws, rfl, h1, h2⟩ := r0.list
    rw [hK] at h1
    exact call_list_of pins s σ0 H _ us Q I r ⟨_, ws, rfl, .inl h1, fun l hl => q _ _ (R.newLr h2 hl)⟩
  | tup ys =>
    cases hd
    obtain ⟨a, ws, rfl, h1, h2, h3⟩ := r0.tuple
    rw [hK] at h1
    exact call_list_of pins s σ0 H _ us Q I r ⟨_, ws, rfl, .inr h1, fun l hl => q _ _ (R.newLr h2 hl)⟩
  | _ => cases hd
theorem bi_sum (hK : F.K = X.K) (hc : X.calm = true) : BiOk X F .sum (.builtin "sum") := by
  intro pins s σ0 H xs us Q I r h
  obtain ⟨σ, env, ps, A, Bs, ds, d, R, rs, hd, q⟩ := h
  obtain ⟨d0, rfl⟩ := bi1 hd (h2 := by intro x y zs; cases x <;> rfl)
  obtain ⟨v, rfl, r0⟩ := rs.one
  cases d0 with
  | lst ys =>
    obtain ⟨ns, hn, rfl⟩ := Option.map_eq_some_iff.mp hd
    obtain ⟨a, ws, rfl, h1, h2⟩ := r0.list
    rw [hK] at h1
    have := intsOf_reps h2 hn
    subst this
    exact cr_sum hc pins s σ0 H _ us Q I r ⟨_, ns, rfl, h1, q _ _ (R.rel.int _)⟩
  | _ => cases hd
theorem bi_repr (hK : F.K = X.K) (hg : X.A.guards = some []) (hu : X.A.units + 65 < cLine) : BiOk X F .repr (.builtin "repr") := by
  intro pins s σ0 H xs us Q I r h
  obtain ⟨σ, env, ps, A, Bs, ds, d, R, rs, hd, q⟩ := h
  obtain ⟨d0, rfl⟩ := bi1 hd (h2 := by intro x y zs; cases x <;> rfl)
  obtain ⟨v, rfl, r0⟩ := rs.one
  have hd' : (if d0.py.showable = true ∧ d0.py.depth ≤ 60 ∧ d0.py.shown.length ≤ line then some (D.str d0.py.shown) else none) = some d := by
    cases d0 <;> exact hd
  split at hd'
  · rename_i hcond
    cases hd'
    have h1 := r0.dp
    rw [hK] at h1
    exact cr_repr hg hu pins s σ0 H _ us Q I r ⟨v, _, rfl, h1, hcond.1, py_noDict d0, hcond.2.1, by rw [line_eq]; exact hcond.2.2, q _ _ (R.rel.str _)⟩
  · cases hd'
theorem bi_gcd (hK : F.K = X.K) : BiOk X F .gcd (.builtin "math.gcd") := by
  intro pins s σ0 H xs us Q I r h
  obtain ⟨σ, env, ps, A, Bs, ds, d, R, rs, hd, q⟩ := h
  obtain ⟨d0, d1, rfl⟩ := bi2 hd (h1 := by intro x; cases x <;> rfl) (h3 := by intro x y z zs; cases x <;> cases y <;> rfl)
  obtain ⟨v, w, rfl, r0, r1⟩ := rs.two
  cases d0 with
  | int i =>
    cases d1 with
    | int j =>
      cases hd
      have e1 := r0.int
      have e2 := r1.int
      subst e1 e2
      exact cr_gcd pins s σ0 H _ us Q I r ⟨i, j, rfl, q _ _ (R.rel.int _)⟩
    | _ => cases hd
  | _ => cases hd
theorem bi_max2 (hK : F.K = X.K) (hc : X.calm = true) : BiOk X F .max2 (.builtin "max") := by
  intro pins s σ0 H xs us Q I r h
  obtain ⟨σ, env, ps, A, Bs, ds, d, R, rs, hd, q⟩ := h
  obtain ⟨d0, d1, rfl⟩ := bi2 hd (h1 := by intro x; cases x <;> rfl) (h3 := by intro x y z zs; cases x <;> cases y <;> rfl)
  obtain ⟨v, w, rfl, r0, r1⟩ := rs.two
  cases d0 with
  | int i =>
    cases d1 with
    | int j =>
      cases hd
      have e1 := r0.int
      have e2 := r1.int
      subst e1 e2
      exact call_max2 hc pins s σ0 H _ us Q I r ⟨i, j, rfl, q _ _ (R.rel.int _)⟩
    | _ => cases hd
  | _ => cases hd
theorem bi_min2 (hK : F.K = X.K) (hc : X.calm = true) : BiOk X F .min2 (.builtin "min") := by
  intro pins s σ0 H xs us Q I r h
  obtain ⟨σ, env, ps, A, Bs, ds, d, R, rs, hd, q⟩ := h
  obtain ⟨d0, d1, rfl⟩ := bi2 hd (h1 := by intro x; cases x <;> rfl) (h3 := by intro x y z zs; cases x <;> cases y <;> rfl)
  obtain ⟨v, w, rfl, r0, r1⟩ := rs.two
  cases d0 with
  | int i =>
    cases d1 with
    | int j =>
      cases hd
      have e1 := r0.int
      have e2 := r1.int
      subst e1 e2
      exact call_min2 hc pins s σ0 H _ us Q I r ⟨i, j, rfl, q _ _ (R.rel.int _)⟩
    | _ => cases hd
  | _ => cases hd
end
end PD

set_option Elab.async false
set_option linter.all false
set_option maxRecDepth 100000
namespace PD
open PySem PySem.Spec PyProof.Rows L2
theorem Rel.reps {F : Fr} {H : Hp} {σ : L2.St} {e : Env} {ps : Ps} {vs : List V} {ds : List D} (R : Rel F H σ e (zps vs ds ++ ps)) (l : vs.length = ds.length) : ∃ A Bs, RelA F A Bs H σ e ps ∧ Reps F.K H (Oc F (A ++ Bs)) vs (D.frzs ds) := by
  obtain ⟨A, Bs, R⟩ := R
  obtain ⟨B1, B2, eB, q1, q2⟩ := R.split l
  subst eB
  have sp : Sub (A ++ B2) (A ++ (B1 ++ B2)) := Sub.mid _ _ _
  have sub : ∀ a ∈ A ++ B2, a ∈ A ++ (B1 ++ B2) := fun a ha => sp.subset ha
  have hn : ∀ a ∈ B1, ¬ Oc F (A ++ B2) a := fun a ha z => by
    rcases z with z | z
    · exact (R.own a (List.mem_append_right _ (List.mem_append_left _ ha))).1 z
    · have nd := R.nd
      rw [← List.append_assoc] at nd
      have p1 : (A ++ B1 ++ B2).Perm (B1 ++ (A ++ B2)) := (List.perm_append_comm.append_right B2).trans (by rw [List.append_assoc])
      exact (List.nodup_append.mp (p1.nodup_iff.mp nd)).2.2 a ha a z rfl
  exact ⟨A, B2, R.re sp R.slots q2 R.pins, q1.frz (oc_sub sub) hn⟩
theorem Reps.vs {K : PySem.W.Frag} {H : Hp} {O : Addr → Prop} : ∀ {vs : List V} {ds : List D}, Reps K H O vs ds → RepVs K H O vs ds
  | _, _, .nil => .nil
  | _, _, .cons h r => .cons (.val h) (Reps.vs r)
theorem Rel.viewP {F : Fr} {H : Hp} {σ : L2.St} {e : Env} {ps : Ps} {i : Nat} {d : D} (R : Rel F H σ e ps) (h : viewP i e = some d) : ∃ v A Bs, σ[i]? = some (some v) ∧ RelA F A Bs H σ e ps ∧ RepV F.K H (Oc F (A ++ Bs)) v d := by
  obtain ⟨A, Bs, R⟩ := R
  unfold PD.viewP at h
  split at h
  · cases h
  · rename_i pn xs hx
    split at h
    · rename_i hp
      cases h
      obtain ⟨As, B, v, pp, hv2, ho, s⟩ := R.slots.take hx (fun z => nomatch z)
      cases ho with
      | val r => cases r
      | own h1 h2 =>
        obtain ⟨_, rs⟩ := h2.plain hp
        exact ⟨_, A, Bs, hv2, R, .lst (.of h1) rs⟩
    · cases h
  · rename_i dd hne1 hne2 hx
    cases h
    obtain ⟨As, B, v, pp, hv2, ho, s⟩ := R.slots.take hx hne1
    cases ho with
    | val r => exact ⟨_, A, Bs, hv2, R, .val r⟩
    | own h1 h2 => exact (hne2 _ _ rfl).elim
  · cases h
section
variable {X : Cx} {cf : CallF} {gl : Str → Option D} {F : Fr} {XR : XRT} {W : WX} {a b : Expr} {es : List Expr} {ia ib ias : IE} {pos p : Pos} {x : Str} {bi : BI} {id : String}
theorem w_callB : ∀ σ H Q, tEv cf gl F XR W (.callB bi ias) σ H Q → tCB (rBi F bi) (tEvs cf gl F XR W ias) σ H Q := fun σ H Q h => by
  obtain ⟨env, ps, RR, h⟩ := h
  simp only [ev] at h
  refine ⟨env, ps, RR, h.bind.imp fun ds e1 h vs H1 l R1 => ?_⟩
  obtain ⟨d, hd, q⟩ := h.op1
  obtain ⟨A, Bs, RA, rs⟩ := R1.reps l
  exact ⟨σ, e1, ps, A, Bs, _, d, RA, rs.vs, hd, q⟩
theorem e_callB (hb : BiOk X F bi (.builtin id)) (hg : Gl X x) (hm : X.mg x = none) (hv : bootBuiltins x = some (.builtin id)) (ha : PA X (a :: es) (tEvs cf gl F XR W ias)) (hn : x ≠ "__name__") (hdb : (x == ("__debug__" : Str)) = false)
    (he : starEach (a :: es) X.env = (false, eval a X.env) :: starEach es X.env) (hpl : (backTo pos (starEach es X.env)).any (·.1) = false) : PE X (.Call (.Name x p) (a :: es) [] pos) (tEv cf gl F XR W (.callB bi ias)) :=
  PE.of (pe_callB hb hg hm hv ha hn hdb he hpl) w_callB
theorem e_callTy (hb : BiOk X F bi (.type id)) (hg : Gl X x) (hm : X.mg x = none) (hv : bootBuiltins x = some (.type id)) (ha : PA X (a :: es) (tEvs cf gl F XR W ias)) (hn : x ≠ "__name__") (hdb : (x == ("__debug__" : Str)) = false)
    (he : starEach (a :: es) X.env = (false, eval a X.env) :: starEach es X.env) (hpl : (backTo pos (starEach es X.env)).any (·.1) = false) : PE X (.Call (.Name x p) (a :: es) [] pos) (tEv cf gl F XR W (.callB bi ias)) :=
  PE.of (pe_callTy hb hg hm hv ha hn hdb he hpl) w_callB
theorem e_callFn (hb : BiOk X F bi (.builtin id)) (hg : Gl X x) (hm : X.mg x = some (.builtin id)) (ha : PA X (a :: es) (tEvs cf gl F XR W ias)) (hdb : (x == ("__debug__" : Str)) = false)
    (he : starEach (a :: es) X.env = (false, eval a X.env) :: starEach es X.env) (hpl : (backTo pos (starEach es X.env)).any (·.1) = false) : PE X (.Call (.Name x p) (a :: es) [] pos) (tEv cf gl F XR W (.callB bi ias)) :=
  PE.of (pe_callBfun hb hg hm ha hdb he hpl) w_callB
/-- of a slot's own list, looked at -/
theorem w_callBB {i : Nat} : ∀ σ H Q, tEv cf gl F XR W (.callBB bi i) σ H Q → tCB (rBi F bi) (tCons (tVar i) tNil) σ H Q := fun σ H Q h => by
  obtain ⟨env, ps, RR, h⟩ := h
  simp only [ev] at h
  obtain ⟨d, hd, q⟩ := h.op1
  obtain ⟨y, hy, hd⟩ := Option.bind_eq_some_iff.mp hd
  obtain ⟨v, A, Bs, hv, RA, r⟩ := RR.viewP hy
  exact ⟨v, hv, σ, env, ps, A, Bs, [y], d, RA, .cons r .nil, hd, q⟩
theorem e_callBB {i : Nat} {y : Str} {p2 : Pos} (hb : BiOk X F bi (.builtin id)) (hg : Gl X x) (hm : X.mg x = none) (hv : bootBuiltins x = some (.builtin id)) (hn : x ≠ "__name__") (hdb : (x == ("__debug__" : Str)) = false)
    (hN : X.N[i]? = some y) (hvy : Vis X.env.scope y) (hd : (y == ("__debug__" : Str)) = false) (hcd : (y == ("__classdict__" : Str)) = false) : PE X (.Call (.Name x p) [.Name y p2] [] pos) (tEv cf gl F XR W (.callBB bi i)) :=
  PE.of (pe_callB hb hg hm hv (pa_cons (pe_var hN hvy hd hcd) pa_nil) hn hdb) w_callBB
theorem e_callBBTy {i : Nat} {y : Str} {p2 : Pos} (hb : BiOk X F bi (.type id)) (hg : Gl X x) (hm : X.mg x = none) (hv : bootBuiltins x = some (.type id)) (hn : x ≠ "__name__") (hdb : (x == ("__debug__" : Str)) = false)
    (hN : X.N[i]? = some y) (hvy : Vis X.env.scope y) (hd : (y == ("__debug__" : Str)) = false) (hcd : (y == ("__classdict__" : Str)) = false) : PE X (.Call (.Name x p) [.Name y p2] [] pos) (tEv cf gl F XR W (.callBB bi i)) :=
  PE.of (pe_callTy hb hg hm hv (pa_cons (pe_var hN hvy hd hcd) pa_nil) hn hdb) w_callBB

/-- a by-value thing's type -/
def tyD : D → String
  | .non => "NoneType" | .bl _ => "bool" | .int _ => "int" | .str _ => "str" | .tup _ => "tuple" | .lst _ => "list" | .own _ _ => "list" | .hid => "NoneType"
theorem ty_of {K : PySem.W.Frag} {H : Hp} {O : Addr → Prop} {v : V} {d : D} (r : Rep K H O v d) : TyX K H v (.type (tyD d)) := by
  cases r with
  | non => exact .base .non
  | bl b => exact .base (.bl b)
  | int i => exact .base (.int i)
  | str x => exact .base (.str x)
  | tup h _ =>
    rcases h with ⟨h | ⟨o, h⟩, _⟩ | ⟨o, its, n, h1, h2, _⟩
    · exact .base (.tup h)
    · exact .fTuple h
    · exact .kTuple h1 h2
  | lst h _ =>
    rcases h with ⟨h | ⟨o, h⟩, _⟩ | ⟨o, its, n, h1, h2, _⟩
    · exact .base (.lst h)
    · exact .base (.frz h)
    · exact .kList h1 h2
/-- which test a built-in of ours is -/
def isiT : BI → Option String
  | .isInt => some "int" | .isBool => some "bool" | .isTuple => some "tuple" | .isStr => some "str" | .isList => some "list"
  | _ => none
theorem kit_D {b : BI} {T : String} (h : isiT b = some T) : ∀ {d : D}, d.frz = d → d ≠ .hid → ∃ k, biD b [d] = some (.bl k) ∧ kitB (tyD d) T = some k := by
  intro d hf hh
  have hd : (∃ p xs, d = .own p xs) ∨ ¬ ∃ p xs, d = .own p xs := Classical.em _
  rcases hd with ⟨p, xs, rfl⟩ | hno
  · cases hf
  · cases b <;> cases h <;> cases d <;> first
      | exact absurd rfl hh
      | exact (hno ⟨_, _, rfl⟩).elim
      | exact ⟨true, rfl, by dsimp only [tyD]; decide +kernel⟩
      | exact ⟨false, rfl, by dsimp only [tyD]; decide +kernel⟩
theorem e_isi (hK : F.K = X.K) {T : Str} {Tn : String} {p2 : Pos} (hT : isiT bi = some Tn) (hg : Gl X "isinstance") (hm : X.mg "isinstance" = none) (hgT : Gl X T) (hmT : X.mg T = none) (hvT : bootBuiltins T = some (.type Tn)) (hnT : T ≠ "__name__") (hdT : (T == ("__debug__" : Str)) = false)
    (ha : PE X a (tEv cf gl F XR W ia)) (he : starEach [a, .Name T p2] X.env = (false, eval a X.env) :: starEach [.Name T p2] X.env) : PE X (.Call (.Name "isinstance" p) [a, .Name T p2] [] pos) (tEv cf gl F XR W (.isi bi ia)) := by
  refine PE.of (pe_callB call_isi hg hm (by decide +kernel) (pa_cons ha (pa_cons (pe_bltn (v := .ty Tn) hgT hmT hvT rfl hnT hdT) pa_nil) he) (by decide) (by decide) he) fun σ H Q h => ?_
  obtain ⟨env, ps, RR, h⟩ := h
  simp only [ev] at h
  refine ⟨env, ps, RR, h.bind.imp fun x e1 h v1 H1 R1 => ?_⟩
  obtain ⟨A, Bs, RA, r⟩ := R1.frz.one' (frz_frz x)
  have hh : x.frz ≠ .hid := fun z => by rw [z] at r; cases r
  obtain ⟨k, hk1, hk2⟩ := kit_D hT (frz_frz x) hh
  obtain ⟨d, hd, q⟩ := Out.op1 (show Out F XR W σ ps _ (R.op e1 (biD bi [x.frz])) from h)
  rw [hk1] at hd
  cases hd
  rw [← hK]
  exact ⟨_, _, _, _, k, rfl, .ty Tn, ty_of r, kit_ty hk2, q _ _ (RA.rel.bl k)⟩
end
end PD

set_option Elab.async false
set_option linter.all false
set_option maxRecDepth 100000
namespace PD
open PySem PySem.Spec PyProof.Rows L2

/-- but for these slots all are as they were -/
def Agree (l : List Nat) (σ σ' : L2.St) : Prop := σ'.length = σ.length ∧ ∀ j, j ∉ l → σ'[j]? = σ[j]?
theorem Agree.refl (l : List Nat) (σ : L2.St) : Agree l σ σ := ⟨rfl, fun _ _ => rfl⟩
theorem Agree.trans {l m : List Nat} {σ σ' σ'' : L2.St} (a : Agree l σ σ') (b : Agree m σ' σ'') : Agree (l ++ m) σ σ'' :=
  ⟨b.1.trans a.1, fun j hj => (b.2 j fun z => hj (List.mem_append_right _ z)).trans (a.2 j fun z => hj (List.mem_append_left _ z))⟩
theorem Agree.set {σ : L2.St} {i : Nat} {x : Option V} : Agree [i] σ (σ.set i x) :=
  ⟨by simp, fun j hj => List.getElem?_set_ne (fun z => hj (by simp [z]))⟩
def tG (F : Fr) (t : IT) : TG := fun v σ H Q => ∃ d env ps, Rel F H σ env ((v, d) :: ps) ∧ ∃ e', asg t d env = .ok () e' ∧ ∀ σ' H', Rel F H' σ' e' ps → Agree (itNames t) σ σ' → Q σ' H'
def tGs (F : Fr) (t : IT) : TGs := fun vs σ H Q => ∃ ds env ps, vs.length = ds.length ∧ Rel F H σ env (zps vs ds ++ ps) ∧ ∃ e', asgs t ds env = .ok () e' ∧ ∀ σ' H', Rel F H' σ' e' ps → Agree (itNames t) σ σ' → Q σ' H'
theorem PG.of {X : Cx} {e : Expr} {t t' : TG} (h : PG X e t) (w : ∀ v σ H Q, t' v σ H Q → t v σ H Q) : PG X e t' := ⟨fun pins s σ H v u Q I r q => h.run pins s σ H v u Q I r (w v σ H Q q)⟩
theorem PGs.of {X : Cx} {e : List Expr} {t t' : TGs} (h : PGs X e t) (w : ∀ v σ H Q, t' v σ H Q → t v σ H Q) : PGs X e t' := ⟨fun pins s σ H v u Q I r q => h.run pins s σ H v u Q I r (w v σ H Q q)⟩
section
variable {X : Cx} {F : Fr} {pos : Pos}
theorem g_nm {i : Nat} {x : Str} (hN : X.N.Nodup) (hi : X.N[i]? = some x) (hx : Loc X.env.scope x) (hf : X.fn x = true ∨ X.env.scope.names.lookup x = some .local) : PG X (.Name x pos) (tG F (.nm i)) := by
  refine PG.of (pg_name hN hi hx hf) fun v σ H Q h => ?_
  obtain ⟨d, env, ps, R, e', he, q⟩ := h
  simp only [asg] at he
  split at he
  · rename_i hfr
    cases he
    exact q _ _ (R.set hfr) .set
  · cases he
theorem g_nil : PGs X [] (tGs F .nil) := by
  refine PGs.of pgs_nil fun vs σ H Q h => ?_
  obtain ⟨ds, env, ps, l, R, e', he, q⟩ := h
  cases ds with
  | nil =>
    have : vs = [] := List.eq_nil_of_length_eq_zero l
    subst this
    simp only [asgs] at he
    cases he
    exact ⟨rfl, q σ H R (.refl _ _)⟩
  | cons d ds => simp only [asgs] at he; cases he
theorem g_cons {e : Expr} {es : List Expr} {t ts : IT} (h1 : PG X e (tG F t)) (h2 : PGs X es (tGs F ts)) (hs : (assignEach (e :: es) X.env).map (·.2) = assign e X.env :: (assignEach es X.env).map (·.2)) : PGs X (e :: es) (tGs F (.cons t ts)) := by
  refine PGs.of (pgs_cons h1 h2 hs) fun vs σ H Q h => ?_
  obtain ⟨ds, env, ps, l, R, e', he, q⟩ := h
  cases ds with
  | nil => simp only [asgs] at he; cases he
  | cons d ds =>
    cases vs with
    | nil => simp at l
    | cons v vs =>
      simp only [asgs] at he
      obtain ⟨_, e1, h3, h4⟩ := bind_ok he
      refine ⟨v, vs, rfl, d, env, _, R, e1, h3, fun σ1 H1 R1 a1 => ?_⟩
      exact ⟨ds, e1, ps, by simpa using l, R1, e', h4, fun σ2 H2 R2 a2 => q σ2 H2 R2 (a1.trans a2)⟩
theorem g_tup (hK : F.K = X.K) {es : List Expr} {k n : Nat} {ts : IT} (hc : X.calm = true) (h : PGs X es (tGs F ts)) (hn : (assignEach es X.env).length = n) (hl : ∀ ds env e', asgs ts ds env = .ok () e' → ds.length = n) (hst : (assignEach es X.env).findIdx? (·.1) = none) : PG X (.Tuple es k pos) (tG F (.tup ts)) := by
  refine PG.of (pg_tup hc h hn hst) fun v σ H Q h => ?_
  obtain ⟨d, env, ps, R, e', he, q⟩ := h
  cases d with
  | tup ds =>
    simp only [asg] at he
    obtain ⟨a, xs, rfl, hq, l, R2⟩ := R.openT
    refine ⟨a, xs, rfl, by rw [← hK]; exact hq, by rw [l]; exact hl _ _ _ he, ds, env, ps, l, R2.mid.drop, e', he, q⟩
  | _ => simp only [asg] at he; cases he
end
/-- how many a tuple's target wants -/
def itLen : IT → Nat
  | .cons _ ts => itLen ts + 1
  | _ => 0
theorem asgs_len : ∀ (ts : IT) (ds : List D) (env e' : Env), asgs ts ds env = .ok () e' → ds.length = itLen ts
  | .nil, [], _, _, _ => rfl
  | .nil, _ :: _, _, _, h => by simp only [asgs] at h; cases h
  | .cons t ts, [], _, _, h => by simp only [asgs] at h; cases h
  | .cons t ts, d :: ds, env, e', h => by
    simp only [asgs] at h
    obtain ⟨_, e1, _, h4⟩ := bind_ok h
    exact congrArg Nat.succ (asgs_len ts ds e1 e' h4)
  | .nm _, _, _, _, h => by simp only [asgs] at h; cases h
  | .tup _, _, _, _, h => by simp only [asgs] at h; cases h

/-- an iterator that yields these items, as long as what is pending stands -/
def WK (F : Fr) (J : It) (ds : List D) (pend : Ps) : Prop := ∀ H σ e ps, Rel F H σ e (pend ++ ps) → (∀ i d, ds[i]? = some d → J.go i H ∧ ∀ x H', J.yld i H x H' → Rel F H' σ e ((x, d) :: (pend ++ ps))) ∧ J.stop ds.length H
/-- an iterable's reading -/
def tIt (cf : CallF) (gl : Str → Option D) (F : Fr) (XR : XRT) (W : WX) (ie : IE) : TI := fun σ H Q => ∃ env ps, Rel F H σ env ps ∧ Out F XR W σ ps (fun ds e => ∀ J H' pend, WK F J ds pend → Rel F H' σ e (pend ++ ps) → Q J H') (evI cf gl ie env)
theorem PI.of {X : Cx} {tg e : Expr} {t t' : TI} (h : PI X tg e t) (w : ∀ σ H Q, t' σ H Q → t σ H Q) : PI X tg e t' := ⟨fun pins s σ H Q I q => h.run pins s σ H Q I (w σ H Q q)⟩
theorem zps_get {F : Fr} {H : Hp} {σ : L2.St} {e : Env} {ps : Ps} : ∀ {xs : List V} {ds : List D} {pre : Ps}, xs.length = ds.length → Rel F H σ e (pre ++ (zps xs ds ++ ps)) → ∀ {i : Nat} {x : V} {d : D}, xs[i]? = some x → ds[i]? = some d → Rel F H σ e ((x, d) :: (pre ++ ps))
  | [], _, _, _, _, i, _, _, hx, _ => by simp at hx
  | _ :: _, [], _, l, _, _, _, _, _, _ => by simp at l
  | x0 :: xs, d0 :: ds, pre, l, R, 0, x, d, hx, hd => by
    simp only [List.getElem?_cons_zero, Option.some.injEq] at hx hd
    subst hx hd
    have R1 : Rel F H σ e ((x0, d0) :: (pre ++ (zps xs ds ++ ps))) := Rel.mid R
    have R2 : Rel F H σ e (zps xs ds ++ (((x0, d0) :: pre) ++ ps)) := Rel.swapB (l1 := (x0, d0) :: pre) R1
    exact R2.drops
  | x0 :: xs, d0 :: ds, pre, l, R, i + 1, x, d, hx, hd => by
    simp only [List.getElem?_cons_succ] at hx hd
    have R1 : Rel F H σ e (pre ++ (zps xs ds ++ ps)) := by
      have R1 : Rel F H σ e ((x0, d0) :: (pre ++ (zps xs ds ++ ps))) := Rel.mid R
      exact R1.drop
    exact zps_get (by simpa using l) R1 hx hd
theorem wk_list {F : Fr} {a : Addr} {ds : List D} : WK F (Itl F.K a) ds [(.ref a, .lst ds)] := by
  intro H σ e ps R
  obtain ⟨a', xs, ea, hq, l, R2⟩ := R.openL
  cases ea
  refine ⟨fun i d hd => ?_, ⟨xs, hq, by omega⟩⟩
  have hi : i < xs.length := by rw [l]; exact at_lt hd
  refine ⟨⟨xs, xs[i], hq, by simp [hi]⟩, fun x H' y => ?_⟩
  obtain ⟨rfl, hy⟩ := y
  exact zps_get (pre := []) l R2 (hy xs hq) hd
theorem wk_tup {F : Fr} {a : Addr} {ds : List D} : WK F (Itt F.K a) ds [(.ref a, .tup ds)] := by
  intro H σ e ps R
  obtain ⟨a', xs, ea, hq, l, R2⟩ := R.openT
  cases ea
  refine ⟨fun i d hd => ?_, ⟨xs, hq, by omega⟩⟩
  have hi : i < xs.length := by rw [l]; exact at_lt hd
  refine ⟨⟨xs, xs[i], hq, by simp [hi]⟩, fun x H' y => ?_⟩
  obtain ⟨rfl, hy⟩ := y
  exact zps_get (pre := []) l R2 (hy xs hq) hd
theorem rangeD_len : ∀ (n : Nat) (lo : Int), (rangeD lo n).length = n
  | 0, _ => rfl
  | n + 1, lo => congrArg Nat.succ (rangeD_len n (lo + 1))
theorem rangeD_get : ∀ (n : Nat) (lo : Int) (i : Nat) (d : D), (rangeD lo n)[i]? = some d → d = .int (lo + i)
  | 0, _, _, _, h => by simp [rangeD] at h
  | n + 1, lo, 0, d, h => by
    simp only [rangeD, List.getElem?_cons_zero, Option.some.injEq] at h
    subst h
    simp
  | n + 1, lo, i + 1, d, h => by
    simp only [rangeD, List.getElem?_cons_succ] at h
    rw [rangeD_get n (lo + 1) i d h]
    congr 1
    omega
theorem wk_range {F : Fr} {lo : Int} {n : Nat} : WK F (Itr lo n) (rangeD lo n) [] := by
  intro H σ e ps R
  refine ⟨fun i d hd => ?_, by show n ≤ _; rw [rangeD_len]; exact Nat.le_refl _⟩
  have hi : i < n := by have := at_lt hd; rwa [rangeD_len] at this
  refine ⟨hi, fun x H' y => ?_⟩
  obtain ⟨rfl, rfl⟩ := y
  rw [rangeD_get n lo i d hd]
  exact R.int _
theorem enumD_len : ∀ (ds : List D) (k : Int), (enumD k ds).length = ds.length
  | [], _ => rfl
  | _ :: ds, k => congrArg Nat.succ (enumD_len ds (k + 1))
theorem enumD_get : ∀ (ds : List D) (k : Int) (i : Nat) (d : D), (enumD k ds)[i]? = some d → ∃ d0, ds[i]? = some d0 ∧ d = .tup [.int (k + i), d0]
  | [], _, _, _, h => by simp [enumD] at h
  | d0 :: ds, k, 0, d, h => by
    simp only [enumD, List.getElem?_cons_zero, Option.some.injEq] at h
    subst h
    exact ⟨d0, rfl, by simp⟩
  | d0 :: ds, k, i + 1, d, h => by
    simp only [enumD, List.getElem?_cons_succ] at h
    obtain ⟨d1, h1, rfl⟩ := enumD_get ds (k + 1) i d h
    refine ⟨d1, by simpa using h1, ?_⟩
    have : k + 1 + (i : Int) = k + ((i + 1 : Nat) : Int) := by omega
    rw [this]
/-- a new pair of by-value things -/
theorem Rel.pair {F : Fr} {H : Hp} {σ : L2.St} {e : Env} {ps : Ps} {v w : V} {d d' : D} {T : Addr} (R : Rel F H σ e ((v, d) :: (w, d') :: ps)) (h1 : d.frz = d) (h2 : d'.frz = d') (hT : H T = none) : Rel F (upd H T (.tup [v, w])) σ e ((.ref T, .tup [d, d']) :: ps) := by
  obtain ⟨A, Bs, RA, r1, r2⟩ := R.two h1 h2
  exact RA.newTr (.cons r1 (.cons r2 .nil)) hT
theorem frz_of {F : Fr} {H : Hp} {σ : L2.St} {e : Env} {ps : Ps} {ds : List D} {xs : List V} {b : Bool} {v : V} (R : Rel F H σ e ((v, if b then .tup ds else .lst ds) :: ps)) : ∀ (i : Nat) (d : D), ds[i]? = some d → d.frz = d := by
  intro i d hd
  obtain ⟨A, Bs, R, r⟩ := R.rep (by cases b <;> rfl)
  cases b with
  | true =>
    simp only [if_true] at r
    cases r with
    | tup _ h2 =>
      obtain ⟨_, _, r2⟩ := h2.get' hd
      exact r2.frz
  | false =>
    simp only [Bool.false_eq_true, if_false] at r
    cases r with
    | lst _ h2 =>
      obtain ⟨_, _, r2⟩ := h2.get' hd
      exact r2.frz
theorem wk_enumL {F : Fr} {a : Addr} {ds : List D} : WK F (Ite F.K a) (enumD 0 ds) [(.ref a, .lst ds)] := by
  intro H σ e ps R
  obtain ⟨a', xs, ea, hq, l, R2⟩ := R.openL
  cases ea
  refine ⟨fun i d hd => ?_, ⟨xs, hq, by rw [enumD_len]; omega⟩⟩
  obtain ⟨d0, h0, rfl⟩ := enumD_get ds 0 i d hd
  have hi : i < xs.length := by rw [l]; exact at_lt h0
  refine ⟨⟨xs, xs[i], hq, by simp [hi]⟩, fun x H' y => ?_⟩
  obtain ⟨T, x0, rfl, hT, rfl, hy⟩ := y
  have R3 := zps_get (pre := []) l R2 (hy xs hq) h0
  have e0 : (0 : Int) + (i : Int) = ((i : Nat) : Int) := by omega
  rw [e0]
  exact Rel.pair (R3.int (i : Nat)) rfl (frz_of (xs := xs) (b := false) (by simpa using R) i d0 h0) hT
theorem zipD_len : ∀ (xs ys : List D), (zipD xs ys).length = min xs.length ys.length
  | [], _ => by simp [zipD]
  | _ :: _, [] => by simp [zipD]
  | x :: xs, y :: ys => by
    show (zipD xs ys).length + 1 = _
    rw [zipD_len xs ys, List.length_cons, List.length_cons]
    omega
theorem zipD_get : ∀ (xs ys : List D) (i : Nat) (d : D), (zipD xs ys)[i]? = some d → ∃ x y, xs[i]? = some x ∧ ys[i]? = some y ∧ d = .tup [x, y]
  | [], _, _, _, h => by simp [zipD] at h
  | _ :: _, [], _, _, h => by simp [zipD] at h
  | x :: xs, y :: ys, 0, d, h => by
    simp only [zipD, List.getElem?_cons_zero, Option.some.injEq] at h
    exact ⟨x, y, rfl, rfl, h.symm⟩
  | x :: xs, y :: ys, i + 1, d, h => by
    simp only [zipD, List.getElem?_cons_succ] at h
    obtain ⟨a, b, h1, h2, h3⟩ := zipD_get xs ys i d h
    exact ⟨a, b, by simpa using h1, by simpa using h2, h3⟩
theorem wk_zipL {F : Fr} {a b : Addr} {xs ys : List D} : WK F (Itz F.K a b) (zipD xs ys) [(.ref b, .lst ys), (.ref a, .lst xs)] := by
  intro H σ e ps R
  obtain ⟨b', vs2, eb, hq2, l2, R2⟩ := R.openL
  cases eb
  obtain ⟨a', vs1, ea, hq1, l1, R3⟩ := (R.swap).openL
  cases ea
  refine ⟨fun i d hd => ?_, ⟨vs1, vs2, hq1, hq2, by rw [zipD_len]; omega⟩⟩
  obtain ⟨dx, dy, h1, h2, rfl⟩ := zipD_get xs ys i d hd
  have hi1 : i < vs1.length := by rw [l1]; exact at_lt h1
  have hi2 : i < vs2.length := by rw [l2]; exact at_lt h2
  refine ⟨⟨vs1, vs2, vs1[i], vs2[i], hq1, hq2, by simp [hi1], by simp [hi2]⟩, fun x H' y => ?_⟩
  obtain ⟨T, x0, y0, rfl, hT, rfl, hy1, hy2⟩ := y
  have R4 : Rel F H σ e ((y0, dy) :: ((.ref b, .lst ys) :: (.ref a, .lst xs) :: ps)) := zps_get (pre := []) l2 R2 (hy2 vs2 hq2) h2
  have f2 := frz_of (xs := vs2) (b := false) (by simpa using R) i dy h2
  have f1 := frz_of (xs := vs1) (b := false) (by simpa using R.swap) i dx h1
  -- both items are pending
  have R5 : Rel F H σ e ((.ref a, .lst xs) :: ((y0, dy) :: (.ref b, .lst ys) :: ps)) := Rel.mid (l := [(y0, dy), (.ref b, .lst ys)]) R4
  obtain ⟨a2, vs3, ea, hq3, l3, R6⟩ := R5.openL
  cases ea
  have R7 : Rel F H σ e ((x0, dx) :: ((.ref a, .lst xs) :: (y0, dy) :: (.ref b, .lst ys) :: ps)) := zps_get (pre := []) l3 R6 (hy1 vs3 hq3) h1
  have R8 : Rel F H σ e ((y0, dy) :: ((x0, dx) :: (.ref a, .lst xs) :: (.ref b, .lst ys) :: ps)) := Rel.mid (l := [(x0, dx), (.ref a, .lst xs)]) R7
  have R9 := Rel.pair R8.swap f1 f2 hT
  exact (Rel.mid (l := [(.ref T, .tup [dx, dy]), (.ref a, .lst xs)]) R9).swap
theorem wk_zipT {F : Fr} {a b : Addr} {xs ys : List D} : WK F (RZ.ItzT F.K a b) (zipD xs ys) [(.ref b, .tup ys), (.ref a, .tup xs)] := by
  intro H σ e ps R
  obtain ⟨b', vs2, eb, hq2, l2, R2⟩ := R.openT
  cases eb
  obtain ⟨a', vs1, ea, hq1, l1, R3⟩ := (R.swap).openT
  cases ea
  refine ⟨fun i d hd => ?_, ⟨vs1, vs2, hq1, hq2, by rw [zipD_len]; omega⟩⟩
  obtain ⟨dx, dy, h1, h2, rfl⟩ := zipD_get xs ys i d hd
  have hi1 : i < vs1.length := by rw [l1]; exact at_lt h1
  have hi2 : i < vs2.length := by rw [l2]; exact at_lt h2
  refine ⟨⟨vs1, vs2, vs1[i], vs2[i], hq1, hq2, by simp [hi1], by simp [hi2]⟩, fun x H' y => ?_⟩
  obtain ⟨T, x0, y0, rfl, hT, rfl, hy1, hy2⟩ := y
  have R4 : Rel F H σ e ((y0, dy) :: ((.ref b, .tup ys) :: (.ref a, .tup xs) :: ps)) := zps_get (pre := []) l2 R2 (hy2 vs2 hq2) h2
  have f2 := frz_of (xs := vs2) (b := true) (by simpa using R) i dy h2
  have f1 := frz_of (xs := vs1) (b := true) (by simpa using R.swap) i dx h1
  have R5 : Rel F H σ e ((.ref a, .tup xs) :: ((y0, dy) :: (.ref b, .tup ys) :: ps)) := Rel.mid (l := [(y0, dy), (.ref b, .tup ys)]) R4
  obtain ⟨a2, vs3, ea, hq3, l3, R6⟩ := R5.openT
  cases ea
  have R7 : Rel F H σ e ((x0, dx) :: ((.ref a, .tup xs) :: (y0, dy) :: (.ref b, .tup ys) :: ps)) := zps_get (pre := []) l3 R6 (hy1 vs3 hq3) h1
  have R8 : Rel F H σ e ((y0, dy) :: ((x0, dx) :: (.ref a, .tup xs) :: (.ref b, .tup ys) :: ps)) := Rel.mid (l := [(x0, dx), (.ref a, .tup xs)]) R7
  have R9 := Rel.pair R8.swap f1 f2 hT
  exact (Rel.mid (l := [(.ref T, .tup [dx, dy]), (.ref a, .tup xs)]) R9).swap
section
variable {X : Cx} {cf : CallF} {gl : Str → Option D} {F : Fr} {XR : XRT} {W : WX} {tg a b : Expr} {ia ib : IE} {pos p : Pos}
theorem pi_seq {l : Expr} {tl : TE} (hl : PE X l tl) : PI X tg l (fun σ H R => tl σ H fun x H1 => ∃ a, x = .ref a ∧ (((∃ xs, SqL X.K H1 a xs) ∧ R (Itl X.K a) H1) ∨ ((∃ xs, SqT X.K H1 a xs) ∧ R (Itt X.K a) H1))) := by
  refine ⟨fun pins s σ H R I h => ?_⟩
  refine thn (hl.run pins s σ H _ I h) fun v s1 ⟨x, H1, I1, r1, q1⟩ => ?_
  obtain ⟨a, e, q⟩ := q1
  subst e
  cases r1
  rcases q with ⟨⟨xs, hq⟩, q⟩ | ⟨⟨xs, hq⟩, q⟩
  · obtain ⟨its, rv, p, hz⟩ := I1.list hq
    refine wpAny_pyIter_list p.isList ?_
    refine ⟨s1.heap.objs.size, [s1.heap.objs.size], _, _, H1, rfl, I1.kept (t' := s1.toks) fun b o e => Heap.get?_push_of_some _ e, turn_list a _, ⟨_, Heap.get?_push_size _ rfl, rfl, rfl⟩, fun b hb => ?_, q⟩
    have e : b = s1.heap.objs.size := by simpa using hb
    subst e
    exact I1.fpOk (Nat.le_refl _) (I1.hok.fresh (Nat.le_refl _))
  · obtain ⟨its, rv, p, hz⟩ := I1.tuple hq
    refine wpAny_pyIter_tuple (show s1.heap.IsTuple a its.toArray from p) ?_
    refine ⟨s1.heap.objs.size, [s1.heap.objs.size], _, _, H1, rfl, I1.kept (t' := s1.toks) fun b o e => Heap.get?_push_of_some _ e, turn_tuple a _, ⟨_, Heap.get?_push_size _ rfl, rfl, rfl⟩, fun b hb => ?_, q⟩
    have e : b = s1.heap.objs.size := by simpa using hb
    subst e
    exact I1.fpOk (Nat.le_refl _) (I1.hok.fresh (Nat.le_refl _))
theorem i_seq (hK : F.K = X.K) (ha : PE X a (tEv cf gl F XR W ia)) : PI X tg a (tIt cf gl F XR W (.sE ia)) := by
  refine PI.of (pi_seq ha) fun σ H Q h => ?_
  obtain ⟨env, ps, RR, h⟩ := h
  simp only [evI] at h
  refine ⟨env, ps, RR, h.bind.imp fun x e1 h v1 H1 R1 => ?_⟩
  obtain ⟨ds, hd, q⟩ := h.op1
  have R2 := R1.frz
  unfold itemsOf at hd
  split at hd
  · rename_i xs hx
    cases hd
    rw [hx] at R2
    obtain ⟨a, vs, rfl, hq, l, _⟩ := R2.openL
    rw [← hK]
    exact ⟨a, rfl, .inl ⟨⟨vs, hq⟩, q _ _ _ wk_list R2⟩⟩
  · rename_i xs hx
    cases hd
    rw [hx] at R2
    obtain ⟨a, vs, rfl, hq, l, _⟩ := R2.openT
    rw [← hK]
    exact ⟨a, rfl, .inr ⟨⟨vs, hq⟩, q _ _ _ wk_tup R2⟩⟩
  · cases hd
theorem small62_of {i : Int} (h : small62 i = true) : -(2 ^ 62) ≤ i ∧ i < 2 ^ 62 := by
  unfold small62 at h
  rw [Bool.and_eq_true] at h
  exact ⟨of_decide_eq_true h.1, of_decide_eq_true h.2⟩
theorem i_rng1 (hg : Gl X "range") (hm : X.mg "range" = none) (ha : PE X a (tEv cf gl F XR W ia)) (hs : starEach [a] X.env = [(false, eval a X.env)]) : PI X tg (.Call (.Name "range" p) [a] [] pos) (tIt cf gl F XR W (.sR1 ia)) := by
  refine PI.of (pi_range1 hg hm (pa_cons ha pa_nil hs) hs) fun σ H Q h => ?_
  obtain ⟨env, ps, RR, h⟩ := h
  simp only [evI] at h
  refine ⟨env, ps, RR, h.bind.imp fun x e1 h v1 H1 R1 => ?_⟩
  split at h
  · split at h
    · rename_i j hj
      have := R1.is_int
      subst this
      obtain ⟨h1, h2⟩ := small62_of hj
      exact ⟨j, rfl, h1, h2, h _ _ _ wk_range R1.drop⟩
    · exact h.elim
  · exact h.elim
theorem i_rng2 (hg : Gl X "range") (hm : X.mg "range" = none) (ha : PE X a (tEv cf gl F XR W ia)) (hb : PE X b (tEv cf gl F XR W ib)) (hs : starEach [a, b] X.env = [(false, eval a X.env), (false, eval b X.env)]) (hs2 : starEach [b] X.env = [(false, eval b X.env)]) : PI X tg (.Call (.Name "range" p) [a, b] [] pos) (tIt cf gl F XR W (.sR2 ia ib)) := by
  refine PI.of (pi_range2 hg hm (pa_cons ha (pa_cons hb pa_nil hs2) (by rw [hs, hs2])) hs hs2) fun σ H Q h => ?_
  obtain ⟨env, ps, RR, h⟩ := h
  simp only [evI] at h
  refine ⟨env, ps, RR, h.bind.imp fun x e1 h v1 H1 R1 => ?_⟩
  refine ⟨e1, _, R1, h.bind.more.imp fun y e2 h v2 H2 R2 => ?_⟩
  cases x with
  | int i =>
   cases y with
   | int j =>
    simp only [] at h
    split at h
    · rename_i hij
      have := R2.is_int
      subst this
      have := R2.drop.is_int
      subst this
      rw [Bool.and_eq_true] at hij
      obtain ⟨h1, h2⟩ := small62_of hij.1
      obtain ⟨h3, h4⟩ := small62_of hij.2
      exact ⟨i, j, rfl, ⟨h1, h2, h3, h4⟩, h _ _ _ wk_range R2.drop.drop⟩
    · exact h.elim
   | _ => exact h.elim
  | _ => exact h.elim
theorem i_zip (hK : F.K = X.K) {elts : List Expr} {kk : Nat} {tpos : Pos} (hg : Gl X "zip") (hm : X.mg "zip" = none) (ha : PE X a (tEv cf gl F XR W ia)) (hb : PE X b (tEv cf gl F XR W ib)) (hs : starEach [a, b] X.env = [(false, eval a X.env), (false, eval b X.env)]) (hs2 : starEach [b] X.env = [(false, eval b X.env)]) : PI X (.Tuple elts kk tpos) (.Call (.Name "zip" p) [a, b] [] pos) (tIt cf gl F XR W (.sZp ia ib)) := by
  refine PI.of (RZ.pi_zipA hg hm (pa_cons ha (pa_cons hb pa_nil hs2) (by rw [hs, hs2])) (by rw [hs, hs2]) (by rw [hs2]; rfl)) fun σ H Q h => ?_
  obtain ⟨env, ps, RR, h⟩ := h
  simp only [evI] at h
  refine ⟨env, ps, RR, h.bind.imp fun x e1 h v1 H1 R1 => ?_⟩
  refine ⟨e1, _, R1.frz, h.bind.more.imp fun y e2 h v2 H2 R2 => ?_⟩
  have R2 := R2.frz
  rw [← hK]
  split at h
  · rename_i xs ys hx hy
    rw [hx, hy] at R2
    obtain ⟨b2, vs2, rfl, hq2, l2, _⟩ := R2.openL
    obtain ⟨a2, vs1, rfl, hq1, l1, _⟩ := (R2.swap).openL
    exact ⟨a2, b2, vs1, vs2, rfl, .inl ⟨hq1, hq2, h _ _ _ wk_zipL R2⟩⟩
  · rename_i xs ys hx hy
    rw [hx, hy] at R2
    obtain ⟨b2, vs2, rfl, hq2, l2, _⟩ := R2.openT
    obtain ⟨a2, vs1, rfl, hq1, l1, _⟩ := (R2.swap).openT
    exact ⟨a2, b2, vs1, vs2, rfl, .inr ⟨hq1, hq2, h _ _ _ wk_zipT R2⟩⟩
  · exact h.elim
end
end PD

set_option Elab.async false
set_option linter.all false
set_option maxRecDepth 100000
namespace PD
open PySem PySem.Spec PyProof.Rows L2

section
variable {F : Fr} {H : Hp} {σ : L2.St} {e : Env} {ps : Ps}
/-- a pending list gets a pending item -/
theorem Rel.appP {D0 : Addr} {y : V} {d : D} {acc : List D} (R : Rel F H σ e ((y, d) :: (.ref D0, .own false acc) :: ps)) :
    ∃ vs, H D0 = some (.lst vs) ∧ vs.length = acc.length ∧ Rel F (upd H D0 (.lst (vs ++ [y]))) σ e ((.ref D0, .own false (acc ++ [d])) :: ps) := by
  obtain ⟨A, Bs, R⟩ := R
  have q := R.pend
  simp only [List.map_cons] at q
  cases q with
  | @cons Cs B2 _ _ _ _ h1 q =>
    cases q with
    | @cons Ds B3 _ _ _ _ h2 h3 =>
      cases h2 with
      | val r => cases r
      | @own a vs _ As _ ha hx =>
        refine ⟨vs, ha, hx.length, ?_⟩
        have nd := R.nd
        -- all: A ++ (Cs ++ (D0 :: As ++ B3))
        have pall : (A ++ (Cs ++ (D0 :: As ++ B3))).Perm (D0 :: (A ++ (Cs ++ (As ++ B3)))) := by
          have h4 : (Cs ++ (D0 :: (As ++ B3))).Perm (D0 :: (Cs ++ (As ++ B3))) := List.perm_middle
          exact (List.Perm.append_left A h4).trans List.perm_middle
        have nd2 := pall.nodup_iff.mp nd
        have na : D0 ∉ A ++ (Cs ++ (As ++ B3)) := (List.nodup_cons.mp nd2).1
        have oa : Oc F (A ++ (Cs ++ (D0 :: As ++ B3))) D0 := .inr (pall.mem_iff.mpr List.mem_cons_self)
        have hne : ∀ b ∈ A ++ (Cs ++ (As ++ B3)), upd H D0 (.lst (vs ++ [y])) b = H b := fun b hb => upd_ne fun z => na (z ▸ hb)
        have pnew : (A ++ ((D0 :: (As ++ (Cs ++ []))) ++ B3)).Perm (A ++ (Cs ++ (D0 :: As ++ B3))) := by
          refine List.Perm.append_left A ?_
          rw [List.append_nil]
          have h5 : (As ++ Cs).Perm (Cs ++ As) := List.perm_append_comm
          have h6 : (D0 :: (As ++ Cs) ++ B3).Perm (D0 :: (Cs ++ As) ++ B3) := (List.Perm.cons D0 h5).append_right B3
          refine h6.trans ?_
          show (D0 :: ((Cs ++ As) ++ B3)).Perm _
          rw [List.append_assoc]
          exact List.perm_middle.symm
        have eqm : ∀ c, Oc F (A ++ ((D0 :: (As ++ (Cs ++ []))) ++ B3)) c → Oc F (A ++ (Cs ++ (D0 :: As ++ B3))) c ∨ H c = none := fun c z => .inl (z.imp id fun q => pnew.mem_iff.mp q)
        refine ⟨A, (D0 :: (As ++ (Cs ++ []))) ++ B3, R.slots.mono (keep_upd oa) eqm fun b hb => hne b (List.mem_append_left _ hb), ?_, pnew.nodup_iff.mpr nd, fun b hb => R.own b (pnew.mem_iff.mp hb), fun b o h1' h2' => ?_, R.trkU, R.bt, R.pins⟩
        · refine Owns.cons (.own upd_same ?_) (h3.mono (keep_upd oa) eqm fun b hb => hne b (List.mem_append_right _ (List.mem_append_right _ (List.mem_append_right _ hb))))
          refine Owns.append (hx.mono (keep_upd oa) eqm fun b hb => hne b (List.mem_append_right _ (List.mem_append_right _ (List.mem_append_left _ hb)))) ?_
          exact Owns.cons (h1.mono (keep_upd oa) eqm fun b hb => hne b (List.mem_append_right _ (List.mem_append_left _ hb))) .nil
        · have hba : b ≠ D0 := fun z => by
            subst z
            rcases (R.own b (pall.mem_iff.mpr List.mem_cons_self)).2 with q | q
            · exact h2' q
            · rw [q] at h1'; cases h1'
          rw [upd_ne hba]
          exact R.keep b o h1' h2'
theorem calm_cons {v : Nat} {vs : List Nat} (h : calmAt e (v :: vs) = true) : (e[v]? = some none ∨ ∃ d, e[v]? = some (some d) ∧ pinned d = false ∧ d.frz = d) ∧ v ∉ vs ∧ calmAt e vs = true := by
  unfold calmAt at h
  rw [Bool.and_eq_true, Bool.and_eq_true] at h
  obtain ⟨h1, h2, h3⟩ := h
  refine ⟨?_, by simpa using h2, h3⟩
  split at h1
  · cases h1
  · cases h1
  · rename_i o hne1 hne2 ho
    cases o with
    | none => exact .inl ho
    | some d =>
      refine .inr ⟨d, ho, ?_, ?_⟩
      · cases d with
        | own p ds => exact (hne1 _ _ rfl).elim
        | hid => exact (hne2 rfl).elim
        | _ => rfl
      · cases d with
        | own p ds => exact (hne1 _ _ rfl).elim
        | _ => rfl
  · cases h1
theorem wipe_get {v : Nat} : ∀ {vs : List Nat}, v ∉ vs → (wipe σ vs)[v]? = σ[v]?
  | [], _ => rfl
  | w :: vs, h => by
    unfold wipe
    rw [List.getElem?_set_ne (fun z => h (by simp [z])), wipe_get (fun z => h (List.mem_cons_of_mem _ z))]
theorem wipeE_get {v : Nat} : ∀ {vs : List Nat}, v ∉ vs → (wipeE e vs)[v]? = e[v]?
  | [], _ => rfl
  | w :: vs, h => by
    unfold wipeE
    rw [List.getElem?_set_ne (fun z => h (by simp [z])), wipeE_get (fun z => h (List.mem_cons_of_mem _ z))]
theorem wipeE_len : ∀ {vs : List Nat}, (wipeE e vs).length = e.length
  | [] => rfl
  | w :: vs => by unfold wipeE; rw [List.length_set, wipeE_len]
/-- the slots of a comprehension's own names forgotten, and how they come back -/
theorem Rel.wipes : ∀ {vs : List Nat} {ps : Ps}, Rel F H σ e ps → calmAt e vs = true →
    ∃ pend : Ps, Rel F H (wipe σ vs) (wipeE e vs) (pend ++ ps) ∧
      ∀ H' e' ps', Rel F H' (wipe σ vs) e' (pend ++ ps') → (∀ v ∈ vs, e'[v]? = some none) → Rel F H' σ (backE e e' vs) ps'
  | [], ps, R, _ => ⟨[], R, fun H' e' ps' R' _ => R'⟩
  | v :: vs, ps, R, hc => by
    obtain ⟨h1, hv, h2⟩ := calm_cons hc
    obtain ⟨pend, R1, back⟩ := Rel.wipes (vs := vs) R h2
    have ge : (wipeE e vs)[v]? = e[v]? := wipeE_get hv
    have gs : (wipe σ vs)[v]? = σ[v]? := wipe_get hv
    rcases h1 with h1 | ⟨d, h1, hp, hf⟩
    · have hfr : freeAt v (wipeE e vs) = true := by unfold freeAt; rw [ge, h1]
      refine ⟨pend, R1.forget hfr none, fun H' e' ps' R' hn => ?_⟩
      have h3 : e'[v]? = some none := hn v List.mem_cons_self
      have R2 : Rel F H' (wipe σ vs) e' (pend ++ ps') := by
        cases q : (wipe σ vs)[v]? with
        | none =>
          have : (wipe σ (v :: vs)) = wipe σ vs := by
            show (wipe σ vs).set v none = _
            exact List.set_eq_of_length_le (by rw [List.getElem?_eq_none_iff] at q; exact q)
          rw [this] at R'
          exact R'
        | some x =>
          have := R'.forget (i := v) (by unfold freeAt; rw [h3]) x
          rw [set_same h3] at this
          have e2 : (wipe σ (v :: vs)).set v x = wipe σ vs := by
            show ((wipe σ vs).set v none).set v x = _
            rw [set_set, set_same q]
          rw [e2] at this
          exact this
      have R3 := back H' e' ps' R2 fun w hw => hn w (List.mem_cons_of_mem _ hw)
      have e3 : backE e e' (v :: vs) = backE e e' vs := by
        show backE e (e'.set v (e[v]?.getD none)) vs = _
        rw [h1]
        show backE e (e'.set v none) vs = _
        rw [set_same h3]
      rw [e3]
      exact R3
    · have h1' : (wipeE e vs)[v]? = some (some d) := ge.trans h1
      obtain ⟨w, hw, R2⟩ := R1.take h1' hp
      have hfr : freeAt v ((wipeE e vs).set v none) = true := by unfold freeAt; rw [set_at h1']
      have R3 := R2.forget hfr none
      rw [set_set] at R3
      refine ⟨(w, d) :: pend, R3, fun H' e' ps' R' hn => ?_⟩
      have h3 : e'[v]? = some none := hn v List.mem_cons_self
      have R4 : Rel F H' ((wipe σ (v :: vs)).set v (some w)) (e'.set v (some d)) (pend ++ ps') := Rel.put (ps := pend ++ ps') R' h3
      have e2 : (wipe σ (v :: vs)).set v (some w) = wipe σ vs := by
        show ((wipe σ vs).set v none).set v (some w) = _
        rw [set_set, set_same hw]
      rw [e2] at R4
      have R5 := back H' _ ps' R4 fun x hx => by
        have hne : x ≠ v := fun z => hv (z ▸ hx)
        rw [List.getElem?_set_ne (Ne.symm hne)]
        exact hn x (List.mem_cons_of_mem _ hx)
      have e3 : backE e e' (v :: vs) = backE e (e'.set v (some d)) vs := by
        show backE e (e'.set v (e[v]?.getD none)) vs = _
        rw [h1]
        rfl
      rw [e3]
      exact R5
/-- what the block's turn left of its own names is forgotten -/
theorem Rel.wipeAll : ∀ {vs : List Nat} {σ : L2.St} {e : Env}, Rel F H σ e ps → (∀ v ∈ vs, freeAt v e = true) → Rel F H (wipe σ vs) (wipeE e vs) ps
  | [], _, _, R, _ => R
  | v :: vs, σ, e, R, hf => by
    have R1 := Rel.wipeAll (vs := vs) R fun w hw => hf w (List.mem_cons_of_mem _ hw)
    have h1 := hf v List.mem_cons_self
    have : freeAt v (wipeE e vs) = true := by
      by_cases hv : v ∈ vs
      · have : ∀ {us : List Nat}, v ∈ us → v < e.length → freeAt v (wipeE e us) = true := by
          intro us
          induction us with
          | nil => intro h; cases h
          | cons w us ih =>
            intro h hl
            unfold wipeE
            by_cases hw : w = v
            · subst hw
              unfold freeAt
              rw [List.getElem?_set_self (by rw [wipeE_len]; exact hl)]
            · unfold freeAt
              rw [List.getElem?_set_ne hw]
              have := ih ((List.mem_cons.mp h).resolve_left fun z => hw z.symm) hl
              unfold freeAt at this
              exact this
        refine this hv ?_
        unfold freeAt at h1
        cases q : e[v]? with
        | none => rw [q] at h1; cases h1
        | some o => exact at_lt q
      · unfold freeAt
        rw [wipeE_get hv]
        unfold freeAt at h1
        exact h1
    exact R1.forget this none
theorem wipeR_ok {vs : List Nat} {e1 : Env} (h : wipeR e vs = .ok () e1) : (∀ v ∈ vs, freeAt v e = true) ∧ e1 = wipeE e vs := by
  unfold wipeR at h
  split at h
  · rename_i ha
    cases h
    exact ⟨fun v hv => List.all_eq_true.mp ha v hv, rfl⟩
  · cases h
theorem wipeE_none : ∀ {vs : List Nat}, (∀ v ∈ vs, v < e.length) → ∀ v ∈ vs, (wipeE e vs)[v]? = some none
  | [], _, v, h => by cases h
  | w :: vs, hl, v, h => by
    unfold wipeE
    by_cases hw : w = v
    · subst hw
      rw [List.getElem?_set_self (by rw [wipeE_len]; exact hl w List.mem_cons_self)]
    · rw [List.getElem?_set_ne hw]
      exact wipeE_none (fun x hx => hl x (List.mem_cons_of_mem _ hx)) v ((List.mem_cons.mp h).resolve_left fun z => hw z.symm)
theorem wipe_wipe : ∀ (vs : List Nat), wipe (wipe σ vs) vs = wipe σ vs := fun vs => by
  apply List.ext_getElem?
  intro j
  by_cases hj : j ∈ vs
  · have key : ∀ (us : List Nat) (τ τ' : L2.St), τ.length = τ'.length → j ∈ us → (wipe τ us)[j]? = (wipe τ' us)[j]? := by
      intro us
      induction us with
      | nil => intro _ _ _ h; cases h
      | cons w us ih =>
        intro τ τ' hl h
        unfold wipe
        by_cases hw : w = j
        · subst hw
          by_cases hlt : w < τ.length
          · rw [List.getElem?_set_self (by rw [wipe_length]; exact hlt), List.getElem?_set_self (by rw [wipe_length, ← hl]; exact hlt)]
          · rw [List.getElem?_eq_none (by rw [List.length_set, wipe_length]; omega), List.getElem?_eq_none (by rw [List.length_set, wipe_length]; omega)]
        · rw [List.getElem?_set_ne hw, List.getElem?_set_ne hw]
          exact ih τ τ' hl ((List.mem_cons.mp h).resolve_left fun z => hw z.symm)
    exact key vs _ _ (wipe_length σ vs) hj
  · rw [wipe_get hj]
theorem wipe_agree {l vs : List Nat} {σ' : L2.St} (a : Agree l (wipe σ vs) σ') (hs : ∀ i ∈ l, i ∈ vs) : wipe σ' vs = wipe σ vs := by
  apply List.ext_getElem?
  intro j
  by_cases hj : j ∈ vs
  · have key : ∀ (us : List Nat) (τ τ' : L2.St), τ.length = τ'.length → j ∈ us → (wipe τ us)[j]? = (wipe τ' us)[j]? := by
      intro us
      induction us with
      | nil => intro _ _ _ h; cases h
      | cons w us ih =>
        intro τ τ' hl h
        unfold wipe
        by_cases hw : w = j
        · subst hw
          by_cases hlt : w < τ.length
          · rw [List.getElem?_set_self (by rw [wipe_length]; exact hlt), List.getElem?_set_self (by rw [wipe_length, ← hl]; exact hlt)]
          · rw [List.getElem?_eq_none (by rw [List.length_set, wipe_length]; omega), List.getElem?_eq_none (by rw [List.length_set, wipe_length]; omega)]
        · rw [List.getElem?_set_ne hw, List.getElem?_set_ne hw]
          exact ih τ τ' hl ((List.mem_cons.mp h).resolve_left fun z => hw z.symm)
    exact key vs _ _ (by rw [a.1, wipe_length]) hj
  · rw [wipe_get hj, a.2 j (fun z => hj (hs j z)), wipe_get hj]
end
theorem noex_ok {α : Type} {m : R α} {a : α} {e : Env} (h : m.noex = .ok a e) : m = .ok a e := by
  cases m with
  | ok b f => exact h
  | ex x f => cases h
  | bad => cases h
theorem bad_bind {α β : Type} {m : R α} {f : α → Env → R β} (h : m = .bad) : m.bind f = .bad := by rw [h]; rfl
abbrev Wf : WX := fun _ _ _ _ => False
theorem PTs.of {X : Cx} {l : List Expr} {t t' : TT} (h : PTs X l t) (w : ∀ σ H Q, t' σ H Q → t σ H Q) : PTs X l t' := ⟨fun pins s σ H Q I q => h.run pins s σ H Q I (w σ H Q q)⟩
section
variable {X : Cx} {cf : CallF} {gl : Str → Option D} {F : Fr} {XR : XRT} {W : WX} {ielt isrc icond : IE} {t : IT} {vs : List Nat}
theorem pts_yes : PTs X [] (tTs cf gl F XR W .yes) := by
  refine PTs.of pts_nil fun σ H Q h => ?_
  obtain ⟨env, ps, RR, h⟩ := h
  exact h H RR
/-- a comprehension's turn -/
abbrev compF (cf : CallF) (gl : Str → Option D) (t : IT) (icond ielt : IE) : D → Env → R (List D) := fun d e => ((asg t d e).bind fun _ e => (ev cf gl icond e).bind fun x e => (R.op e (truth x)).bind fun k e => if k then (ev cf gl ielt e).bind fun x e => .ok [x] e else .ok [] e).noex
/-- the loop of a comprehension: from the items of the iterator to the new list -/
theorem w_loop {σ : L2.St} {H1 : Hp} {J : It} {ds : List D} {pend : Ps} {env env' : Env} {ps : Ps} {xs : List D} {D0 : Addr} {Qd : Hp → Prop}
    (wk : WK F J ds pend) (ht : ∀ i ∈ itNames t, i ∈ vs) (hv : ∀ v ∈ vs, v < env.length) (R0 : Rel F (upd H1 D0 (.lst [])) (wipe σ vs) (wipeE env vs) ((.ref D0, .own false []) :: (pend ++ ps)))
    (hr : compL (compF cf gl t icond ielt) vs ds (wipeE env vs) = .ok xs env') (hl : xs.length ≤ line)
    (hq : ∀ H', Rel F H' (wipe σ vs) env' ((.ref D0, .own false xs) :: (pend ++ ps)) → (∀ v ∈ vs, env'[v]? = some none) → Qd H') :
    ∃ Wi : Nat → Nat → Hp → Prop, (∃ m, Wi 0 m (upd H1 D0 (.lst []))) ∧ ∀ i m H, Wi i m H →
      (J.stop i H ∧ Qd H) ∨ (J.go i H ∧ ∃ Nx : Hp → Prop, (∀ H', Nx H' → ∃ m', m' < m ∧ Wi (i + 1) m' H') ∧ ∀ x H', J.yld i H x H' → tG F t x (wipe σ vs) H' fun σ2 H2 => wipe σ2 vs = wipe σ vs ∧ tTs cf gl F XR Wf icond σ2 H2 fun b H3 =>
        if b = true then tEv cf gl F XR Wf ielt σ2 H3 fun y H4 => ∃ acc, H4 D0 = some (.lst acc) ∧ acc.length < sizeLine ∧ Nx (upd H4 D0 (.lst (acc ++ [y]))) else Nx H3) := by
  refine ⟨fun i m H => m = ds.length - i ∧ i ≤ ds.length ∧ ∃ (e : Env) (acc ys : List D), Rel F H (wipe σ vs) e ((.ref D0, .own false acc) :: (pend ++ ps)) ∧ (∀ v ∈ vs, e[v]? = some none) ∧ compL (compF cf gl t icond ielt) vs (ds.drop i) e = .ok ys env' ∧ acc ++ ys = xs,
    ⟨ds.length, rfl, Nat.zero_le _, _, [], xs, R0, wipeE_none hv, hr, rfl⟩, ?_⟩
  rintro i m H ⟨rfl, hi, e, acc, ys, RR, hn, hc, hx⟩
  have wkH := wk H (wipe σ vs) e ((.ref D0, .own false acc) :: ps) (Rel.swapB (l1 := [(.ref D0, .own false acc)]) (l2 := pend) RR)
  by_cases hlt : i < ds.length
  · right
    have hd : ds[i]? = some ds[i] := List.getElem?_eq_getElem hlt
    have hdr : ds.drop i = ds[i] :: ds.drop (i + 1) := List.drop_eq_getElem_cons hlt
    rw [hdr] at hc
    simp only [compL] at hc
    obtain ⟨zs, e1, h1, hc⟩ := bind_ok hc
    obtain ⟨_, e2, h2, hc⟩ := bind_ok hc
    obtain ⟨ys', e3, h3, hc⟩ := bind_ok hc
    cases hc
    obtain ⟨hfr, rfl⟩ := wipeR_ok h2
    have h1 := noex_ok h1
    obtain ⟨_, e4, h4, h1⟩ := bind_ok h1
    obtain ⟨k, e5, h5, h1⟩ := bind_ok h1
    obtain ⟨b, e6, h6, h1⟩ := bind_ok h1
    obtain ⟨hb, e65⟩ := op_ok h6
    subst e65
    obtain ⟨hgo, hy⟩ := wkH.1 i _ hd
    refine ⟨hgo, fun H' => ∃ m', m' < ds.length - i ∧ (m' = ds.length - (i + 1) ∧ i + 1 ≤ ds.length ∧ ∃ (e : Env) (acc ys : List D), Rel F H' (wipe σ vs) e ((.ref D0, .own false acc) :: (pend ++ ps)) ∧ (∀ v ∈ vs, e[v]? = some none) ∧ compL (compF cf gl t icond ielt) vs (ds.drop (i + 1)) e = .ok ys env' ∧ acc ++ ys = xs), fun H' h => h, fun x H' hyl => ?_⟩
    have R1 := hy x H' hyl
    have R1' : Rel F H' (wipe σ vs) e ((x, ds[i]) :: ((.ref D0, .own false acc) :: (pend ++ ps))) := by
      have z := Rel.swapB (l1 := (x, ds[i]) :: pend) (l2 := [(.ref D0, .own false acc)]) (ps := ps) R1
      exact Rel.swap z
    refine ⟨_, e, _, R1', e4, h4, fun σ2 H2 R2 ag => ⟨wipe_agree ag ht, ?_⟩⟩
    have hws : wipe σ2 vs = wipe σ vs := wipe_agree ag ht
    refine ⟨e4, _, R2, ?_⟩
    have hevT : evT cf gl icond e4 = .ok b e6 := by
      simp only [evT]
      rw [h5]
      show R.op e6 (truth k) = _
      rw [hb]
      rfl
    rw [hevT]
    intro H3 R3
    have hlen : ∀ v ∈ vs, v < e1.length := fun v hvv => by
      have := hfr v hvv
      unfold freeAt at this
      cases q : e1[v]? with
      | none => rw [q] at this; cases this
      | some o => exact at_lt q
    cases b with
    | true =>
      rw [if_pos rfl] at h1 ⊢
      obtain ⟨y, e7, h7, h1⟩ := bind_ok h1
      cases h1
      refine ⟨e6, _, R3, ?_⟩
      rw [h7]
      intro v H4 R4
      obtain ⟨us, hD, hul, R5⟩ := R4.appP
      refine ⟨us, hD, ?_, _, by omega, rfl, by omega, _, acc ++ [y], ys', ?_, wipeE_none hlen, h3, by rw [← hx]; simp⟩
      · have : (acc ++ ([y] ++ ys')).length = xs.length := by rw [hx]
        rw [line_eq, hul]
        simp only [List.length_append, List.length_singleton] at this
        omega
      · have R6 := R5.wipeAll hfr
        rw [hws] at R6
        exact R6
    | false =>
      rw [if_neg Bool.false_ne_true] at h1 ⊢
      cases h1
      refine ⟨_, by omega, rfl, by omega, _, acc, ys', ?_, wipeE_none hlen, h3, by rw [← hx]; rfl⟩
      have R6 := R3.wipeAll hfr
      rw [hws] at R6
      exact R6
  · left
    have e0 : i = ds.length := by omega
    subst e0
    rw [List.drop_length] at hc
    simp only [compL] at hc
    cases hc
    rw [List.append_nil] at hx
    subst hx
    exact ⟨wkH.2, hq H RR hn⟩
theorem w_comp (ht : ∀ i ∈ itNames t, i ∈ vs) : ∀ σ H Q, tEv cf gl F XR W (.comp ielt t isrc icond vs) σ H Q → tLc (tIt cf gl F XR W isrc) (tG F t) (tTs cf gl F XR Wf icond) (tEv cf gl F XR Wf ielt) vs σ H Q := fun σ H Q h => by
  obtain ⟨env, ps, RR, h⟩ := h
  simp only [ev] at h
  refine ⟨env, ps, RR, h.bind.imp fun ds e1 h J H1 pend wk R1 => ?_⟩
  intro D0 hD
  split at h
  · rename_i hcalm
    cases hr : compL (compF cf gl t icond ielt) vs ds (wipeE e1 vs) with
    | ok xs e2 =>
      have h2 := h
      rw [ok_bind hr] at h2
      split at h2
      · rename_i hl
        obtain ⟨pendS, R2, back⟩ := R1.wipes hcalm
        have R3 : Rel F (upd H1 D0 (.lst [])) (wipe σ vs) (wipeE e1 vs) ((.ref D0, .own false []) :: (pendS ++ (pend ++ ps))) := Rel.newL (vs := []) (ds := []) R2 rfl hD
        have R4 : Rel F (upd H1 D0 (.lst [])) (wipe σ vs) (wipeE e1 vs) ((.ref D0, .own false []) :: (pend ++ (pendS ++ ps))) := by
          have z := Rel.swapB (l1 := (.ref D0, .own false []) :: pendS) (l2 := pend) (ps := ps) R3
          exact Rel.mid (l := pend) z
        have hv : ∀ v ∈ vs, v < e1.length := by
          have key : ∀ us : List Nat, calmAt e1 us = true → ∀ v ∈ us, v < e1.length := by
            intro us
            induction us with
            | nil => intro _ v hv; cases hv
            | cons u us ih =>
              intro hc v hv
              obtain ⟨h1, _, h3⟩ := calm_cons hc
              rcases List.mem_cons.mp hv with z | z
              · subst z
                rcases h1 with h1 | ⟨d, h1, _⟩ <;> exact at_lt h1
              · exact ih h3 v z
          exact key vs hcalm
        refine w_loop (pend := pend) (ps := pendS ++ ps) wk ht hv R4 hr hl fun H' R5 hn => ?_
        have R6 : Rel F H' (wipe σ vs) e2 (pendS ++ ((.ref D0, .own false xs) :: ps)) := by
          have z : Rel F H' (wipe σ vs) e2 (pend ++ ((.ref D0, .own false xs) :: (pendS ++ ps))) := Rel.swapB (l1 := [(.ref D0, .own false xs)]) (l2 := pend) R5
          have z2 := z.drops
          exact Rel.swapB (l1 := [(.ref D0, .own false xs)]) (l2 := pendS) z2
        exact h2 _ H' (back H' e2 _ R6 hn)
      · exact h2.elim
    | ex x e2 =>
      exfalso
      -- the turns raise nothing
      have key : ∀ (us : List D) (e : Env) (x : EX) (e2 : Env), compL (compF cf gl t icond ielt) vs us e ≠ .ex x e2 := by
        intro us
        induction us with
        | nil => intro e x e2 z; cases z
        | cons u us ih =>
          intro e x e2 z
          simp only [compL] at z
          cases q1 : compF cf gl t icond ielt u e with
          | ok zs e3 =>
            rw [q1] at z
            have z : ((wipeR e3 vs).bind fun _ e1 => (compL (compF cf gl t icond ielt) vs us e1).bind fun ys e2 => R.ok (zs ++ ys) e2) = .ex x e2 := z
            unfold wipeR at z
            split at z
            · have z : ((compL (compF cf gl t icond ielt) vs us (wipeE e3 vs)).bind fun ys e2 => R.ok (zs ++ ys) e2) = .ex x e2 := z
              cases q2 : compL (compF cf gl t icond ielt) vs us (wipeE e3 vs) with
              | ok ys e4 => rw [q2] at z; cases z
              | ex x' e4 => exact ih _ _ _ q2
              | bad => rw [q2] at z; cases z
            · cases z
          | ex x' e3 =>
            have : (compF cf gl t icond ielt u e) = .ex x' e3 := q1
            unfold compF R.noex at this
            split at this <;> cases this
          | bad => rw [q1] at z; cases z
      exact key _ _ _ _ hr
    | bad =>
      rw [bad_bind hr] at h
      exact h.elim
  · exact h.elim
end
end PD

set_option Elab.async false
set_option linter.all false
set_option maxRecDepth 100000
namespace PD
open PySem PySem.Spec PyProof.Rows L2

section
variable {F : Fr} {A Bs : List Addr} {H : Hp} {σ : L2.St} {e : Env} {ps : Ps} {i : Nat}
/-- the frame while slot i's list (at As, the object v) is hidden -/
def Fr.hid (F : Fr) (H : Hp) (i : Nat) (v : V) (As C : List Addr) : Fr := { F with H0 := H, ins := C, B := fun b => F.B b ∨ b ∈ As, pins := (i, v) :: F.pins }
/-- a slot's list is hidden; what comes behind may bring it back -/
theorem Rel.hide (R : Rel F H σ e ps) {pn : Bool} {xs : List D} (h : e[i]? = some (some (.own pn xs))) :
    ∃ (a : Addr) (vs : List V) (As C : List Addr), σ[i]? = some (some (.ref a)) ∧ H a = some (.lst vs) ∧ vs.length = xs.length ∧ (plains xs = true → As = [] ∧ Reps F.K H (Oc (F.hid H i (.ref a) (a :: As) C) C) vs xs) ∧ a ∉ C ∧
      Rel (F.hid H i (.ref a) (a :: As) C) H σ (e.set i (some .hid)) ps ∧
      ∀ H2 σ2 e2 ps2, Rel (F.hid H i (.ref a) (a :: As) C) H2 σ2 e2 ps2 → e2[i]? = some (some .hid) → Rel F H2 σ2 (e2.set i (some (.own pn xs))) ps2 := by
  obtain ⟨A, Bs, R⟩ := R
  obtain ⟨As', B, v, p, hv, ho, s⟩ := R.slots.take h (fun z => nomatch z)
  cases ho with
  | val r => cases r
  | @own a vs _ As _ ha hx =>
    have pall : (A ++ Bs).Perm ((a :: As) ++ (B ++ Bs)) := (p.append_right Bs).trans (by rw [List.append_assoc])
    have nd1 : ((a :: As) ++ (B ++ Bs)).Nodup := pall.nodup_iff.mp R.nd
    have dis : ∀ b ∈ a :: As, b ∉ B ++ Bs := fun b hb z => (List.nodup_append.mp nd1).2.2 b hb b z rfl
    have mA : ∀ b, b ∈ A ++ Bs ↔ b ∈ a :: As ∨ b ∈ B ++ Bs := fun b => by rw [pall.mem_iff, List.mem_append]
    have oeq : ∀ b, Oc (F.hid H i (.ref a) (a :: As) (B ++ Bs)) (B ++ Bs) b ↔ Oc F (A ++ Bs) b := fun b => by
      unfold Oc Fr.hid
      rw [mA]
      constructor
      · rintro ((q | q) | q)
        · exact .inl q
        · exact .inr (.inl q)
        · exact .inr (.inr q)
      · rintro (q | q | q)
        · exact .inl (.inl q)
        · exact .inl (.inr q)
        · exact .inr q
    have s2 := s.hide (set_at h) hv
    rw [set_set] at s2
    refine ⟨a, vs, As, B ++ Bs, hv, ha, hx.length, fun hp => ?_, dis a List.mem_cons_self, ⟨B, Bs, ?_⟩, ?_⟩
    · obtain ⟨e1, rs⟩ := hx.plain hp
      exact ⟨e1, rs.mono k_same fun b z => .inl ((oeq b).mp z)⟩
    · refine ⟨s2.o fun b z => (oeq b).mp z, R.pend.o fun b z => (oeq b).mp z, (List.nodup_append.mp nd1).2.1, fun b hb => ⟨?_, .inl hb⟩, fun b o h1 _ => h1, fun b hb => hb, fun b hb => ?_, fun q hq => ?_⟩
      · rintro (z | z)
        · exact (R.own b ((mA b).mpr (.inr hb))).1 z
        · exact dis b z hb
      · rcases hb with hb | hb
        · exact R.trk b (R.bt b hb)
        · obtain ⟨ys, hy⟩ := R.there b ((mA b).mpr (.inl hb))
          show H b ≠ none
          rw [hy]
          exact fun z => nomatch z
      · rcases List.mem_cons.mp hq with hq | hq
        · subst hq
          exact ⟨hv, .hid, set_at h, rfl⟩
        · obtain ⟨h1, d, h2, h3⟩ := R.pins q hq
          by_cases ne : i = q.1
          · exact ⟨h1, .hid, by rw [← ne]; exact set_at h, rfl⟩
          · exact ⟨h1, d, by rw [List.getElem?_set_ne ne]; exact h2, h3⟩
    · rintro H2 σ2 e2 ps2 ⟨A2, Bs2, R2⟩ hh
      have hv2 : σ2[i]? = some (some (.ref a)) := (R2.pins (i, .ref a) List.mem_cons_self).1
      have own2 : ∀ b ∈ A2 ++ Bs2, ¬ F.B b ∧ b ∉ a :: As ∧ (b ∈ B ++ Bs ∨ H b = none) := fun b hb => by
        obtain ⟨h1, h2⟩ := R2.own b hb
        exact ⟨fun z => h1 (.inl z), fun z => h1 (.inr z), h2⟩
      -- all addresses behind
      have key : ∀ (A3 : List Addr), A3.Perm ((a :: As) ++ A2) → ∀ b, Oc F (A3 ++ Bs2) b ↔ Oc (F.hid H i (.ref a) (a :: As) (B ++ Bs)) (A2 ++ Bs2) b := fun A3 p3 b => by
        unfold Oc Fr.hid
        rw [List.mem_append, p3.mem_iff, List.mem_append, List.mem_append]
        constructor
        · rintro (q | (q | q) | q)
          · exact .inl (.inl q)
          · exact .inl (.inr q)
          · exact .inr (.inl q)
          · exact .inr (.inr q)
        · rintro ((q | q) | q | q)
          · exact .inl q
          · exact .inr (.inl (.inl q))
          · exact .inr (.inl (.inr q))
          · exact .inr (.inr q)
      have hown : Own F.K H2 (Oc (F.hid H i (.ref a) (a :: As) (B ++ Bs)) (A2 ++ Bs2)) (a :: As) (.ref a) (.own pn xs) := by
        have o1 : Own F.K H (Oc F (A ++ Bs)) (a :: As) (.ref a) (.own pn xs) := .own ha hx
        refine o1.mono (fun b o h1 h2 => R2.keep b o h1 fun z => h2 (.inr ((mA b).mpr (.inr z)))) (fun b z => ?_) fun b hb => ?_
        · rcases z with (z | z) | z
          · exact .inl (.inl z)
          · exact .inl (.inr ((mA b).mpr (.inl z)))
          · rcases (own2 b z).2.2 with q | q
            · exact .inl (.inr ((mA b).mpr (.inr q)))
            · exact .inr q
        · obtain ⟨ys, hy⟩ := R.there b ((mA b).mpr (.inl hb))
          show H2 b = H b
          rw [hy]
          exact R2.keep b _ hy (dis b hb)
      obtain ⟨A3, p3, s3⟩ := R2.slots.unhid hh hv2 hown
      have nd3 : (A3 ++ Bs2).Nodup := by
        have p4 : (A3 ++ Bs2).Perm ((a :: As) ++ (A2 ++ Bs2)) := (p3.append_right Bs2).trans (by rw [List.append_assoc])
        refine p4.nodup_iff.mpr (List.nodup_append.mpr ⟨(List.nodup_append.mp nd1).1, R2.nd, fun b hb c hc z => ?_⟩)
        subst z
        exact (own2 b hc).2.1 hb
      refine ⟨A3, Bs2, s3.o fun b z => (key A3 p3 b).mp z, R2.pend.o fun b z => (key A3 p3 b).mp z, nd3, fun b hb => ?_, fun b o h1 h2 => ?_, fun b hb => R2.trk b (R.trk b hb), R.bt, fun q hq => ?_⟩
      · have hb' : b ∈ a :: As ∨ b ∈ A2 ++ Bs2 := by
          rw [List.mem_append, p3.mem_iff, List.mem_append] at hb
          rcases hb with (hb | hb) | hb
          · exact .inl hb
          · exact .inr (List.mem_append_left _ hb)
          · exact .inr (List.mem_append_right _ hb)
        rcases hb' with hb | hb
        · exact R.own b ((mA b).mpr (.inl hb))
        · obtain ⟨h1, _, h3⟩ := own2 b hb
          refine ⟨h1, ?_⟩
          rcases h3 with h3 | h3
          · exact (R.own b ((mA b).mpr (.inr h3))).2
          · exact .inr (R.h0 h3)
      · refine R2.keep b o (R.keep b o h1 h2) fun z => ?_
        rcases (R.own b ((mA b).mpr (.inr z))).2 with q | q
        · exact h2 q
        · rw [q] at h1; cases h1
      · obtain ⟨h1, d, h2, h3⟩ := R2.pins q (List.mem_cons_of_mem _ hq)
        by_cases ne : i = q.1
        · refine ⟨h1, .own pn xs, by rw [← ne]; exact set_at hh, ?_⟩
          obtain ⟨_, d', h2', h3'⟩ := R.pins q hq
          rw [← ne, h] at h2'
          cases h2'
          exact h3'
        · exact ⟨h1, d, by rw [List.getElem?_set_ne ne]; exact h2, h3⟩
end
/-- a walk over a hidden list -/
theorem wk_hid {F : Fr} {H0 : Hp} {i : Nat} {a : Addr} {As C : List Addr} {vs : List V} {ds : List D} (ha : H0 a = some (.lst vs)) (hr : Reps F.K H0 (Oc (F.hid H0 i (.ref a) (a :: As) C) C) vs ds) (hc : a ∉ C) : WK (F.hid H0 i (.ref a) (a :: As) C) (Itl F.K a) ds [] := by
  intro H σ e ps R
  obtain ⟨A, Bs, R⟩ := R
  have h1 : H a = some (.lst vs) := R.keep a _ ha hc
  have l := hr.length
  refine ⟨fun j d hd => ?_, ⟨vs, .inl (.inl h1), by omega⟩⟩
  have hj : j < vs.length := by rw [l]; exact at_lt hd
  refine ⟨⟨vs, vs[j], .inl (.inl h1), by simp [hj]⟩, fun x H' y => ?_⟩
  obtain ⟨rfl, hy⟩ := y
  obtain ⟨d', hd', r⟩ := hr.get (hy vs (.inl (.inl h1)))
  rw [hd] at hd'
  cases hd'
  refine ⟨A, Bs, R.push (r.mono (fun b o h2 h3 => R.keep b o h2 fun z => h3 (.inr z)) fun b z => ?_)⟩
  rcases z with z | z
  · exact .inl (.inl z)
  · rcases (R.own b z).2 with q | q
    · exact .inl (.inr q)
    · exact .inr q
end PD

set_option Elab.async false
set_option linter.all false
set_option maxRecDepth 100000
namespace PD
open PySem PySem.Spec PyProof.Rows L2

section
variable {X : Cx} {ι : Type}
theorem PE.any {P : ι → Prop} {e : Expr} {t : ι → TE} (h : ∀ F, P F → PE X e (t F)) : PE X e (fun σ H Q => ∃ F, P F ∧ t F σ H Q) := ⟨fun pins s σ H Q I ⟨F, p, q⟩ => (h F p).run pins s σ H Q I q⟩
theorem PT.any {P : ι → Prop} {e : Expr} {t : ι → TT} (h : ∀ F, P F → PT X e (t F)) : PT X e (fun σ H Q => ∃ F, P F ∧ t F σ H Q) := ⟨fun pins s σ H Q I ⟨F, p, q⟩ => (h F p).run pins s σ H Q I q⟩
theorem PTs.any {P : ι → Prop} {e : List Expr} {t : ι → TT} (h : ∀ F, P F → PTs X e (t F)) : PTs X e (fun σ H Q => ∃ F, P F ∧ t F σ H Q) := ⟨fun pins s σ H Q I ⟨F, p, q⟩ => (h F p).run pins s σ H Q I q⟩
theorem PG.any {P : ι → Prop} {e : Expr} {t : ι → TG} (h : ∀ F, P F → PG X e (t F)) : PG X e (fun v σ H Q => ∃ F, P F ∧ t F v σ H Q) := ⟨fun pins s σ H v u Q I r ⟨F, p, q⟩ => (h F p).run pins s σ H v u Q I r q⟩
theorem PSs.any {P : ι → Prop} {e : List Stmt} {t : ι → TS} (h : ∀ F, P F → PSs X e (t F)) : PSs X e (fun D σ H => ∃ F, P F ∧ t F D σ H) := ⟨fun pins s σ H D I ⟨F, p, q⟩ => (h F p).run pins s σ H D I q⟩
end
section
variable {X : Cx} {cf : CallF} {gl : Str → Option D} {F : Fr} {XR : XRT} {W : WX} {ielt icond : IE} {t : IT} {vs : List Nat} {i : Nat}
theorem tG.imp {v : V} {σ : L2.St} {H : Hp} {Q Q' : L2.St → Hp → Prop} (h : tG F t v σ H Q) (k : ∀ σ H, Q σ H → Q' σ H) : tG F t v σ H Q' := by
  obtain ⟨d, env, ps, R, e', he, q⟩ := h
  exact ⟨d, env, ps, R, e', he, fun σ' H' R' a => k _ _ (q σ' H' R' a)⟩
theorem tTs.imp {σ : L2.St} {H : Hp} {Q Q' : Bool → Hp → Prop} (h : tTs cf gl F XR W icond σ H Q) (k : ∀ b H, Q b H → Q' b H) : tTs cf gl F XR W icond σ H Q' := by
  obtain ⟨env, ps, R, h⟩ := h
  exact ⟨env, ps, R, h.imp fun b e h H' R' => k _ _ (h H' R')⟩
/-- the slot's list, walked -/
theorem i_slot {x : Str} {tg : Expr} {pos : Pos} (hN : X.N[i]? = some x) (hv : Vis X.env.scope x) (hd : (x == ("__debug__" : Str)) = false) (hcd : (x == ("__classdict__" : Str)) = false) :
    PI X tg (.Name x pos) (fun σ H Q => ∃ a xs, σ[i]? = some (some (.ref a)) ∧ SqL X.K H a xs ∧ Q (Itl X.K a) H) := by
  refine PI.of (pi_seq (pe_var hN hv hd hcd)) fun σ H Q h => ?_
  obtain ⟨a, xs, h1, h2, q⟩ := h
  exact ⟨.ref a, h1, a, rfl, .inl ⟨⟨xs, h2⟩, q⟩⟩
theorem backE_get {e0 : Env} {j : Nat} : ∀ {vs : List Nat} {e : Env}, j ∉ vs → (backE e0 e vs)[j]? = e[j]?
  | [], _, _ => rfl
  | v :: vs, e, h => by
    show (backE e0 (e.set v (e0[v]?.getD none)) vs)[j]? = _
    rw [backE_get (fun z => h (List.mem_cons_of_mem _ z)), List.getElem?_set_ne (fun z => h (by simp [z]))]
theorem backE_set {e0 : Env} {j : Nat} {x y : Option D} : ∀ {vs : List Nat} {e : Env}, j ∉ vs → (backE (e0.set j x) e vs).set j y = backE e0 (e.set j y) vs
  | [], _, _ => rfl
  | v :: vs, e, h => by
    have hv : j ≠ v := fun z => h (by simp [z])
    show (backE (e0.set j x) (e.set v ((e0.set j x)[v]?.getD none)) vs).set j y = backE e0 ((e.set j y).set v (e0[v]?.getD none)) vs
    rw [backE_set (fun z => h (List.mem_cons_of_mem _ z)), List.getElem?_set_ne hv]
    congr 1
    exact List.set_comm _ _ (Ne.symm hv)
theorem compL_noex {t : IT} : ∀ (us : List D) (e : Env) (x : EX) (e2 : Env), compL (compF cf gl t icond ielt) vs us e ≠ .ex x e2 := by
  intro us
  induction us with
  | nil => intro e x e2 z; cases z
  | cons u us ih =>
    intro e x e2 z
    simp only [compL] at z
    cases q1 : compF cf gl t icond ielt u e with
    | ok zs e3 =>
      rw [q1] at z
      have z : ((wipeR e3 vs).bind fun _ e1 => (compL (compF cf gl t icond ielt) vs us e1).bind fun ys e2 => R.ok (zs ++ ys) e2) = .ex x e2 := z
      unfold wipeR at z
      split at z
      · have z : ((compL (compF cf gl t icond ielt) vs us (wipeE e3 vs)).bind fun ys e2 => R.ok (zs ++ ys) e2) = .ex x e2 := z
        cases q2 : compL (compF cf gl t icond ielt) vs us (wipeE e3 vs) with
        | ok ys e4 => rw [q2] at z; cases z
        | ex x' e4 => exact ih _ _ _ q2
        | bad => rw [q2] at z; cases z
      · cases z
    | ex x' e3 =>
      have : (compF cf gl t icond ielt u e) = .ex x' e3 := q1
      unfold compF R.noex at this
      split at this <;> cases this
    | bad => rw [q1] at z; cases z
theorem calm_nothid {e : Env} : ∀ {vs : List Nat}, calmAt e vs = true → e[i]? = some (some .hid) → i ∉ vs
  | [], _, _ => fun h => by cases h
  | v :: vs, hc, hi => fun h => by
    obtain ⟨h1, _, h3⟩ := calm_cons hc
    rcases List.mem_cons.mp h with z | z
    · subst z
      rcases h1 with h1 | ⟨d, h1, h2, _⟩
      · rw [hi] at h1; cases h1
      · rw [hi] at h1; cases h1; cases h2
    · exact calm_nothid h3 hi z
abbrev OfK (K : PySem.W.Frag) : Fr → Prop := fun F => F.K = K
theorem w_compB {K : PySem.W.Frag} (hK : F.K = K) (ht : ∀ i ∈ itNames t, i ∈ vs) : ∀ σ H Q, tEv cf gl F XR W (.compB ielt t i icond vs) σ H Q →
    tLc (fun σ H Q => ∃ a xs, σ[i]? = some (some (.ref a)) ∧ SqL K H a xs ∧ Q (Itl K a) H) (fun v σ H Q => ∃ F, OfK K F ∧ tG F t v σ H Q) (fun σ H Q => ∃ F, OfK K F ∧ tTs cf gl F XR Wf icond σ H Q) (fun σ H Q => ∃ F, OfK K F ∧ tEv cf gl F XR Wf ielt σ H Q) vs σ H Q := fun σ H Q h => by
  subst hK
  obtain ⟨env, ps, RR, h⟩ := h
  simp only [ev] at h
  split at h
  · rename_i p ds hi
    split at h
    · rename_i hpc
      rw [Bool.and_eq_true] at hpc
      obtain ⟨hpl, hcalm⟩ := hpc
      obtain ⟨a, us, As, C, hσ, ha, hl, hr, hac, R1, back⟩ := RR.hide hi
      obtain ⟨eAs, hrs⟩ := hr hpl
      subst eAs
      refine ⟨a, us, hσ, .inl (.inl ha), ?_⟩
      have wk : WK (F.hid H i (.ref a) [a] C) (Itl F.K a) ds [] := wk_hid ha hrs hac
      generalize hF : F.hid H i (.ref a) [a] C = F' at R1 wk back
      have hFK : F'.K = F.K := by rw [← hF]; rfl
      intro D0 hD
      cases hc : compL (compF cf gl t icond ielt) vs ds (wipeE (env.set i (some .hid)) vs) with
      | ok xs e2 =>
        have h2 := h
        change Out F XR W σ ps _ ((hideR i (.own p ds) (compL (compF cf gl t icond ielt) vs ds (wipeE (env.set i (some .hid)) vs))).bind _) at h2
        rw [hc] at h2
        simp only [hideR] at h2
        split at h2
        · rename_i h2i
          rw [ok_bind rfl] at h2
          split at h2
          · rename_i hlx
            obtain ⟨pendS, R2, backS⟩ := R1.wipes hcalm
            have R3 : Rel F' (upd H D0 (.lst [])) (wipe σ vs) (wipeE (env.set i (some .hid)) vs) ((.ref D0, .own false []) :: (pendS ++ ps)) := Rel.newL (vs := []) (ds := []) R2 rfl hD
            have hv : ∀ v ∈ vs, v < (env.set i (some .hid)).length := by
              have key : ∀ us : List Nat, calmAt (env.set i (some .hid)) us = true → ∀ v ∈ us, v < (env.set i (some .hid)).length := by
                intro us
                induction us with
                | nil => intro _ v hv; cases hv
                | cons u us ih =>
                  intro hc v hv
                  obtain ⟨h1, _, h3⟩ := calm_cons hc
                  rcases List.mem_cons.mp hv with z | z
                  · subst z
                    rcases h1 with h1 | ⟨d, h1, _⟩ <;> exact at_lt h1
                  · exact ih h3 v z
              exact key vs hcalm
            have key := w_loop (cf := cf) (gl := gl) (XR := XR) (σ := σ) (H1 := H) (pend := []) (ps := pendS ++ ps) (Qd := fun H => Q (.ref D0) H) wk ht hv R3 hc hlx fun H' R5 hn => by
              have R6 : Rel F' H' (wipe σ vs) e2 (pendS ++ ((.ref D0, .own false xs) :: ps)) := Rel.swapB (l1 := [(.ref D0, .own false xs)]) (l2 := pendS) (ps := ps) R5
              have R7 := backS H' e2 _ R6 hn
              have hni : i ∉ vs := calm_nothid hcalm (set_at hi)
              have h3 : (backE (env.set i (some .hid)) e2 vs)[i]? = some (some .hid) := by
                rw [backE_get hni]
                exact h2i
              have R8 := back H' σ _ _ R7 h3
              have e9 : (backE (env.set i (some .hid)) e2 vs).set i (some (.own p ds)) = backE env (e2.set i (some (.own p ds))) vs := backE_set hni
              rw [e9] at R8
              exact h2 _ H' R8
            obtain ⟨Wi, w0, w⟩ := key
            refine ⟨Wi, w0, fun j m H hw => ?_⟩
            rcases w j m H hw with ⟨h1, h2⟩ | ⟨h1, Nx, h2, h3⟩
            · exact .inl ⟨h1, h2⟩
            · refine .inr ⟨h1, Nx, h2, fun x H' y => ⟨F', hFK, (h3 x H' y).imp fun σ2 H2 ⟨q1, q2⟩ => ⟨q1, F', hFK, q2.imp fun b H3 q3 => ?_⟩⟩⟩
              cases b with
              | true =>
                rw [if_pos rfl] at q3 ⊢
                exact ⟨F', hFK, q3⟩
              | false =>
                rw [if_neg Bool.false_ne_true] at q3 ⊢
                exact q3
          · exact h2.elim
        · exact h2.elim
      | ex x e2 => exact (compL_noex _ _ _ _ hc).elim
      | bad => 
        change Out F XR W σ ps _ ((hideR i (.own p ds) (compL (compF cf gl t icond ielt) vs ds (wipeE (env.set i (some .hid)) vs))).bind _) at h
        rw [hc] at h
        exact h.elim
    · exact h.elim
  · exact h.elim
end
end PD

set_option Elab.async false
set_option linter.all false
set_option maxRecDepth 100000
namespace PD
open PySem PySem.Spec PyProof.Rows L2

/-- a def's promise, asked for where no repr is under way -/
structure FnG (P : Program) (w : World) (K : PySem.W.Frag) (mg : Str → Option Value) (base : Heap) (k : Nat) (f : Addr) (fd : FuncData) (ps : List Str) (sp : Sp) : Prop where
  len : ∀ vs H Q E, sp vs H Q E → vs.length = ps.length
  run : ∀ (A : Around) (outer : List PySem.Env) (s : Shared) (H : Hp) (args : Args) (us : List Value) (vs : List V) (Q : VK) (E : XK), Room k A → A.guards = some [] → Env0 P w K mg base A outer s H → BindsTo s fd args (ps.zip us) → Vals vs us → sp vs H Q E →
    codeAny (model P w) A (.call (.ref f) args) (CR (L2.CX P w) outer P w H s Q E) s
theorem guards_deeper {A : Around} {env : PySem.Env} (h : A.guards = some []) : (A.deeper env).guards = some [] := h
theorem fnG_of {P : Program} {w : World} {K : PySem.W.Frag} {mg : Str → Option Value} {base : Heap} {k : Nat} {f : Addr} {name qual : Str} {params : Arguments} {body : List Stmt} {scope : Scope} {dV kV doc pm cdv ct oc : Value} {an od : Option Addr}
    {osl : Array (Option Value)} {N ps : List Str} {sp : Sp} (lk : K.lookup f = some ⟨oc, od, .func (PySem.W.fnOf name qual params body scope dV kV doc pm an cdv ct), osl⟩) (hcd : PySem.W.codeIn K cdv qual = true) (S : FnScope N ps scope)
    (len : ∀ vs H Q E, sp vs H Q E → vs.length = ps.length)
    (hbody : ∀ (A : Around) (outer : List PySem.Env) (s : Shared) (H : Hp) (vs : List V) (Q : VK) (E : XK), Room k (A.deeper (envOfC qual scope s.heap.objs.size f cdv)) → A.guards = some [] → sp vs H Q E →
      ∃ t, PSs (cxOf (L2.CX P w) P w K mg base N qual scope f cdv A outer s H E) body t ∧ t { nx := fun _ H' => Q .non H', rt := Q } (start N vs) H) :
    FnG P w K mg base (k + 1) f (PySem.W.fnOf name qual params body scope dV kV doc pm an cdv ct) ps sp := by
  refine ⟨len, fun A outer s H args us vs Q E hr hgd e0 hb r hsp => ?_⟩
  have hl := len _ _ _ _ hsp
  have KX : K.In s.heap := e0.mod.kin.keeps fun b o e => (e0.bs b o e).1
  have lim : s.heap.NoLimit := e0.mod.nolimit.keeps fun b o e => (e0.bs b o e).1
  have hkind : ∀ y ∈ ps.zip us, scope.names.lookup y.1 = some .local ∨ (scope.names.lookup y.1 = some .cell ∧ ((cellsFrom (s.heap.objs.size + 1) scope.names []).lookup y.1).isSome = true) := fun ⟨n, v⟩ hy =>
    (S.par n (List.of_mem_zip hy).1).imp id fun q => ⟨q, PySem.W.cellsFrom_some _ _ _ (.inl q)⟩
  refine codeAny_call_function hr.depth (KX _ _ lk) rfl S.co S.gen rfl (PySem.W.codeRec_of KX hcd) (hb _ _ _ _ ?_)
  refine wpAny_newFunctionEnv_cells S.kind hkind fun env he s1 x => ?_
  subst he
  refine ⟨lim.keeps x.toInCall.keep, codeAny_func ?_⟩
  obtain ⟨t, ht, hq⟩ := hbody A outer s H vs Q E (hr.deeper _) hgd hsp
  refine wpAny_mono (ht.run [] s1 (start N vs) H _ (inv_start S hr.hd e0 hl r x) hq) (fun fl s' hs => ?_) fun e s' hs => hs
  match fl, hs with
  | .ret u, ⟨v, σ', H', J, rv, q⟩ => exact ⟨v, H', J.os, J.bare, J.base, J.hok, rv, q⟩
  | .next, ⟨σ', H', J, q⟩ => exact ⟨V.non, H', J.os, J.bare, J.base, J.hok, rfl, q⟩
  | .brk, ⟨_, _, _, q⟩ => exact q.elim
  | .cont, ⟨_, _, _, q⟩ => exact q.elim

section
variable {X : Cx} {k : Nat} {f : Addr} {fd : FuncData} {ps : List Str} {sp : Sp} {W : WX} {x : Str} {p pos : Pos} {e : Expr} {es : List Expr} {t : TA}
/-- the reading of a call -/
def tCallG (sp : Sp) (W : WX) (t : TA) : TE := fun σ H Q => t σ H fun vs H1 => sp vs H1 Q fun cls d H' => W cls d σ H'
theorem pe_callG (F : FnG X.prog X.w X.K X.mg X.base k f fd ps sp) (hr : Room k X.A) (hgd : X.A.guards = some []) (hg : Gl X x) (hm : X.mg x = some (.ref f)) (hk : PySem.W.keepIn X.K (.ref f) = true) (hb : Binds X.K fd ps []) (tk : Takes X W)
    (ha : PA X (e :: es) t) (hdb : (x == ("__debug__" : Str)) = false) (he : starEach (e :: es) X.env = (false, eval e X.env) :: starEach es X.env) (hpl : (backTo pos (starEach es X.env)).any (·.1) = false) :
    PE X (.Call (.Name x p) (e :: es) [] pos) (tCallG sp W t) := by
  refine ⟨fun pins s σ H Q I h => ?_⟩
  refine wpAny_Call_Name_kw (ld_glob I hg hm ?_ hdb)
  refine PySem.W.callWith_K (h₀ := X.base) I.ok.mod.kin hk (thn (ha.run pos pins s σ H _ I h) fun us s1 ⟨vs, H1, I1, r, q⟩ => ⟨I1.kIn, ?_⟩) he hpl
  have hl : us.length = ps.length := by rw [← r.length]; exact F.len _ _ _ _ q
  have b := hb s1 us I1.kIn (by rw [List.append_nil]; exact hl)
  rw [List.append_nil] at b
  refine wpAny_call (codeAny_mono (F.run X.A X.stack s1 H1 ⟨us, []⟩ us vs Q _ hr hgd I1.env0 b r q) fun r s' hq => ?_)
  match r, hq with
  | .error e, hq => exact passAt tk σ pins H1 s1 e s' I1 hq
  | .ok (.ret u), hq => exact I1.after hq
end

/-- n slots; the arguments' data ds -/
def env0 (n : Nat) (ds : List D) : Env := ds.map some ++ List.replicate (n - ds.length) none
def st0 (n : Nat) (vs : List V) : L2.St := vs.map some ++ List.replicate (n - vs.length) none
def spOf (K : PySem.W.Frag) (XR : XRT) (n : Nat) (rc : List D → RC) : Sp := fun vs H Q E => ∃ (F : Fr) (ds : List D), F.K = K ∧ F.H0 = H ∧ vs.length = ds.length ∧ Rel F H (st0 n vs) (env0 n ds) [] ∧ match rc ds with
  | .ok d none => ∀ v σ' e' H', Rel F H' σ' e' [(v, d)] → Q v H'
  | .ok d (some o) => ∀ v σ' e' H', Rel F H' σ' e' [(v, d)] → e'[0]? = some (some o) → Q v H'
  | .ex x none => ∀ cls dd σ' e' H', Rel F H' σ' e' [] → XR x cls dd H' → E cls dd H'
  | .ex x (some o) => ∀ cls dd σ' e' H', Rel F H' σ' e' [] → e'[0]? = some (some o) → XR x cls dd H' → E cls dd H'
  | .bad => False
theorem env0_len {n : Nat} {ds : List D} (h : ds.length ≤ n) : (env0 n ds).length = n := by
  unfold env0
  rw [List.length_append, List.length_map, List.length_replicate]
  omega

section
variable {F : Fr} {H H' : Hp} {σ σ' : L2.St} {e e' : Env} {ps : Ps} {v : V} {d : D}
theorem slots_none {K : PySem.W.Frag} {O : Addr → Prop} : ∀ n : Nat, Slots K H O [] (List.replicate n none) (List.replicate n none)
  | 0 => .nil
  | n + 1 => .no (slots_none n)
theorem slots_reps {K : PySem.W.Frag} {O : Addr → Prop} {σ : L2.St} {e : Env} {A : List Addr} (hs : Slots K H O A σ e) : ∀ {vs : List V} {ds : List D}, Reps K H O vs ds → Slots K H O A (vs.map some ++ σ) (ds.map some ++ e)
  | _, _, .nil => hs
  | _, _, .cons h r => .yes (As := []) (.val h) (slots_reps hs r)
/-- the callee's frame: it owns nothing at its entry -/
def Fr.call (F : Fr) (H : Hp) (A : List Addr) : Fr := ⟨F.K, H, [], Oc F A, []⟩
theorem RelA.entry {A Bs : List Addr} {vs : List V} {ds : List D} (RR : RelA F A Bs H σ e ps) (r : Reps F.K H (Oc F (A ++ Bs)) vs ds) (n : Nat) : Rel (F.call H (A ++ Bs)) H (st0 n vs) (env0 n ds) [] := by
  refine ⟨[], [], ?_, .nil, List.nodup_nil, fun a ha => (List.not_mem_nil ha).elim, fun a o h _ => h, fun a h => h, fun a ha => ?_, fun p hp => (List.not_mem_nil hp).elim⟩
  · have r2 : Reps F.K H (Oc (F.call H (A ++ Bs)) []) vs ds := r.mono k_same fun a z => by
      rcases z with z | z
      · exact .inl z
      · exact (List.not_mem_nil z).elim
    have := slots_reps (slots_none (K := F.K) (H := H) (O := Oc (F.call H (A ++ Bs)) []) (n - vs.length)) r2
    rw [show st0 n vs = vs.map some ++ List.replicate (n - vs.length) none from rfl, show env0 n ds = ds.map some ++ List.replicate (n - vs.length) none by unfold env0; rw [r.length]]
    exact this
  · rcases ha with z | z
    · exact RR.trk a (RR.bt a z)
    · obtain ⟨xs, q⟩ := RR.there a z
      show H a ≠ none
      rw [q]
      exact fun z => nomatch z
/-- behind a call -/
theorem RelA.resume {A Bs : List Addr} (RR : RelA F A Bs H σ e ps) (R2 : Rel (F.call H (A ++ Bs)) H' σ' e' [(v, d)]) : Rel F H' σ e ((v, d) :: ps) := by
  obtain ⟨A2, B2, R2⟩ := R2
  have q := R2.pend
  simp only [List.map_cons, List.map_nil] at q
  cases q with
  | @cons Cs B3 _ _ _ _ h1 r =>
    cases r
    have h1 : Own F.K H' (Oc (F.call H (A ++ Bs)) (A2 ++ (Cs ++ []))) Cs v d := h1
    rw [List.append_nil] at h1
    have R2' : RelA (F.call H (A ++ Bs)) A2 (Cs ++ []) H' σ' e' [(v, d)] := R2
    have oth : ∀ c ∈ Cs, c ∉ A ++ Bs ∧ ¬ F.B c ∧ H c = none := fun c hc => by
      obtain ⟨h2, h3⟩ := R2.own c (List.mem_append_right _ (List.mem_append_left _ hc))
      refine ⟨fun z => h2 (.inr z), fun z => h2 (.inl z), ?_⟩
      rcases h3 with h3 | h3
      · exact (List.not_mem_nil h3).elim
      · exact h3
    have hmem : ∀ b, b ∈ A ++ (Cs ++ Bs) ↔ b ∈ Cs ∨ b ∈ A ++ Bs := fun b => by
      simp only [List.mem_append]
      constructor
      · rintro (h | h | h)
        · exact .inr (.inl h)
        · exact .inl h
        · exact .inr (.inr h)
      · rintro (h | h | h)
        · exact .inr (.inl h)
        · exact .inl h
        · exact .inr (.inr h)
    have ho : ∀ b, Oc F (A ++ (Cs ++ Bs)) b → Oc F (A ++ Bs) b ∨ H b = none := fun b z => by
      rcases z with z | z
      · exact .inl (.inl z)
      · rcases (hmem b).mp z with z | z
        · exact .inr (oth b z).2.2
        · exact .inl (.inr z)
    have kp : ∀ b o, H b = some o → H' b = some o := fun b o h => R2.keep b o h List.not_mem_nil
    have same : ∀ b ∈ A ++ Bs, H' b = H b := fun b hb => by
      obtain ⟨xs, q⟩ := RR.there b hb
      rw [q]
      exact kp b _ q
    refine ⟨A, Cs ++ Bs, RR.slots.mono (fun b o h _ => kp b o h) ho fun b hb => same b (List.mem_append_left _ hb), ?_, ?_, fun b hb => ?_, fun b o h1 h2 => kp b o (RR.keep b o h1 h2), fun b hb => R2.trk b (RR.trk b hb), RR.bt, RR.pins⟩
    · refine Owns.cons (h1.o fun b z => ?_) (RR.pend.mono (fun b o h _ => kp b o h) ho fun b hb => same b (List.mem_append_right _ hb))
      rcases z with z | z
      · exact .inl (.inl z)
      · rcases (hmem b).mp z with z | z
        · exact .inr (List.mem_append_right _ z)
        · exact .inl (.inr z)
    · have p1 : (A ++ (Cs ++ Bs)).Perm (Cs ++ (A ++ Bs)) := List.perm_append_comm_assoc A Cs Bs
      refine p1.nodup_iff.mpr (List.nodup_append.mpr ⟨?_, RR.nd, fun a ha b hb z => (oth a ha).1 (z ▸ hb)⟩)
      have nd2 := (List.nodup_append.mp R2.nd).2.1
      rw [List.append_nil] at nd2
      exact nd2
    · rcases (hmem b).mp hb with z | z
      · exact ⟨(oth b z).2.1, .inr (RR.h0 (oth b z).2.2)⟩
      · exact RR.own b z
theorem RelA.resume0 {A Bs : List Addr} (RR : RelA F A Bs H σ e ps) (R2 : Rel (F.call H (A ++ Bs)) H' σ' e' []) : Rel F H' σ e ps := (RR.resume R2.non).drop
end
section
variable {X : Cx} {cf : CallF} {gl : Str → Option D} {F : Fr} {XR : XRT} {W : WX} {k : Nat} {a f : Addr} {fd : FuncData} {pn : List Str} {n i : Nat} {x : Str} {p pos : Pos} {e : Expr} {es : List Expr} {as : IE}
theorem w_callF (hK : F.K = X.K) : ∀ σ H Q, tEv cf gl F XR W (.callF i as) σ H Q → tCallG (spOf X.K XR n (cf i)) W (tEvs cf gl F XR W as) σ H Q := fun σ H Q h => by
  obtain ⟨env, ps, RR, h⟩ := h
  simp only [ev] at h
  refine ⟨env, ps, RR, h.bind.imp fun ds e1 h vs H1 l R1 => ?_⟩
  obtain ⟨A, Bs, RA, r⟩ := R1.reps l
  refine ⟨F.call H1 (A ++ Bs), D.frzs ds, hK, rfl, r.length, RA.entry r n, ?_⟩
  cases hc : cf i (D.frzs ds) with
  | ok d o =>
    rw [hc] at h
    cases o with
    | none => exact fun v σ' e' H' R2 => h v H' (RA.resume R2)
    | some o => exact h.elim
  | ex x o =>
    rw [hc] at h
    cases o with
    | none => exact fun cls dd σ' e' H' R2 xr => h cls dd H' (RA.resume0 R2) xr
    | some o => exact h.elim
  | bad =>
    rw [hc] at h
    exact h.elim
theorem e_callF (hK : F.K = X.K) (FF : FnG X.prog X.w X.K X.mg X.base k f fd pn (spOf X.K XR n (cf i))) (hr : Room k X.A) (hgd : X.A.guards = some []) (hg : Gl X x) (hm : X.mg x = some (.ref f)) (hk : PySem.W.keepIn X.K (.ref f) = true) (hb : Binds X.K fd pn []) (tk : Takes X W)
    (ha : PA X (e :: es) (tEvs cf gl F XR W as)) (hdb : (x == ("__debug__" : Str)) = false) (he : starEach (e :: es) X.env = (false, eval e X.env) :: starEach es X.env) (hpl : (backTo pos (starEach es X.env)).any (·.1) = false) :
    PE X (.Call (.Name x p) (e :: es) [] pos) (tEv cf gl F XR W (.callF i as)) := PE.of (pe_callG FF hr hgd hg hm hk hb tk ha hdb he hpl) (w_callF hK)
end

section
variable {F : Fr} {H H' : Hp} {σ σ' : L2.St} {e e' : Env} {ps : Ps} {v : V} {d : D} {i : Nat}
/-- the callee's frame: it owns the list at As -/
def Fr.callIO (F : Fr) (H : Hp) (a : Addr) (As C : List Addr) : Fr := ⟨F.K, H, a :: As, Oc F C, [(0, .ref a)]⟩
theorem Rel.lend {vs : List V} {ds : List D} (RR : Rel F H σ e (zps vs ds ++ ps)) (l : vs.length = ds.length) {p : Bool} {xs : List D} (h : e[i]? = some (some (.own p xs))) (n : Nat) :
    ∃ (a : Addr) (As C : List Addr), σ[i]? = some (some (.ref a)) ∧ Rel (F.callIO H a As C) H (st0 n (.ref a :: vs)) (env0 n (.own true xs :: D.frzs ds)) [] ∧
      ∀ H' σ' e' (ps' : Ps) (xs' : List D) (q : Bool), Rel (F.callIO H a As C) H' σ' e' ps' → e'[0]? = some (some (.own q xs')) → Rel F H' σ (e.set i (some (.own p xs'))) (ps' ++ ps) := by
  obtain ⟨A, Bs, RA, r⟩ := RR.reps l
  obtain ⟨As', B, v, pp, hv, ho, s⟩ := RA.slots.take h (fun z => nomatch z)
  cases ho with
  | val r => cases r
  | @own a us _ As _ ha hx =>
    have pall : (A ++ Bs).Perm ((a :: As) ++ (B ++ Bs)) := (pp.append_right Bs).trans (by rw [List.append_assoc])
    have nd1 : ((a :: As) ++ (B ++ Bs)).Nodup := pall.nodup_iff.mp RA.nd
    have dis : ∀ b ∈ a :: As, b ∉ B ++ Bs := fun b hb z => (List.nodup_append.mp nd1).2.2 b hb b z rfl
    have mA : ∀ b, b ∈ A ++ Bs ↔ b ∈ a :: As ∨ b ∈ B ++ Bs := fun b => by rw [pall.mem_iff, List.mem_append]
    have ndB : (B ++ Bs).Nodup := (List.nodup_append.mp nd1).2.1
    have oeq : ∀ b, Oc (F.callIO H a As (B ++ Bs)) ((a :: As) ++ []) b ↔ Oc F (A ++ Bs) b := fun b => by
      unfold Oc Fr.callIO
      rw [mA, List.append_nil]
      unfold Oc
      constructor
      · rintro ((q | q) | q)
        · exact .inl q
        · exact .inr (.inr q)
        · exact .inr (.inl q)
      · rintro (q | q | q)
        · exact .inl (.inl q)
        · exact .inr q
        · exact .inl (.inr q)
    refine ⟨a, As, B ++ Bs, hv, ⟨a :: As, [], ?_⟩, ?_⟩
    · have o1 : Own F.K H (Oc (F.callIO H a As (B ++ Bs)) ((a :: As) ++ [])) (a :: As) (.ref a) (.own true xs) := .own ha (hx.o fun b z => (oeq b).mp z)
      have r2 : Reps F.K H (Oc (F.callIO H a As (B ++ Bs)) ((a :: As) ++ [])) vs (D.frzs ds) := r.mono k_same fun b z => .inl ((oeq b).mp z)
      have s2 := Slots.yes o1 (slots_reps (slots_none (K := F.K) (H := H) (O := Oc (F.callIO H a As (B ++ Bs)) ((a :: As) ++ [])) (n - (vs.length + 1))) r2)
      have s2 := (show ((a :: As) ++ []) = a :: As from List.append_nil _) ▸ s2
      refine ⟨?_, .nil, by rw [List.append_nil]; exact (List.nodup_append.mp nd1).1, fun b hb => ?_, fun b o h _ => h, fun b h => h, fun b hb => ?_, fun q hq => ?_⟩
      · have e1 : st0 n (.ref a :: vs) = some (.ref a) :: (vs.map some ++ List.replicate (n - (vs.length + 1)) none) := rfl
        have e2 : env0 n (.own true xs :: D.frzs ds) = some (.own true xs) :: ((D.frzs ds).map some ++ List.replicate (n - (vs.length + 1)) none) := by
          unfold env0
          rw [List.length_cons, ← r.length]
          rfl
        rw [e1, e2]
        have e3 : (a :: As) ++ ([] : List Addr) = a :: As := List.append_nil _
        simp only [e3] at s2 ⊢
        exact s2
      · rw [List.append_nil] at hb
        refine ⟨?_, .inl hb⟩
        rintro (z | z)
        · exact (RA.own b ((mA b).mpr (.inl hb))).1 z
        · exact dis b hb z
      · show H b ≠ none
        rcases hb with z | z
        · exact RA.trk b (RA.bt b z)
        · obtain ⟨ys, q⟩ := RA.there b ((mA b).mpr (.inr z))
          rw [q]
          exact fun z => nomatch z
      · have : q = (0, .ref a) := List.mem_singleton.mp hq
        subst this
        exact ⟨rfl, .own true xs, rfl, rfl⟩
    · rintro H' σ' e' ps' xs' q ⟨A2, B2, R2⟩ h0
      obtain ⟨Ds', B3, v0, pp2, hv0, ho2, s2⟩ := R2.slots.take h0 (fun z => nomatch z)
      have hpin := (R2.pins (0, .ref a) List.mem_cons_self).1
      have hpin : σ'[0]? = some (some (.ref a)) := hpin
      rw [hpin] at hv0
      cases hv0
      have oth : ∀ c ∈ A2 ++ B2, c ∉ B ++ Bs ∧ ¬ F.B c ∧ (c ∈ a :: As ∨ H c = none) := fun c hc => by
        obtain ⟨h2, h3⟩ := R2.own c hc
        exact ⟨fun z => h2 (.inr z), fun z => h2 (.inl z), h3⟩
      have subD : ∀ c ∈ Ds' ++ B2, c ∈ A2 ++ B2 := fun c hc => by
        rcases List.mem_append.mp hc with z | z
        · exact List.mem_append_left _ (pp2.mem_iff.mpr (List.mem_append_left _ z))
        · exact List.mem_append_right _ z
      have ndD : (Ds' ++ B2).Nodup := by
        have p3 : (A2 ++ B2).Perm ((Ds' ++ B2) ++ B3) := by
          refine (pp2.append_right B2).trans ?_
          rw [List.append_assoc, List.append_assoc]
          exact List.Perm.append_left Ds' List.perm_append_comm
        exact (List.nodup_append.mp (p3.nodup_iff.mp R2.nd)).1
      -- the new owned
      have hmem : ∀ b, b ∈ (Ds' ++ B) ++ (B2 ++ Bs) ↔ b ∈ Ds' ++ B2 ∨ b ∈ B ++ Bs := fun b => by
        simp only [List.mem_append]
        constructor
        · rintro ((h | h) | h | h)
          · exact .inl (.inl h)
          · exact .inr (.inl h)
          · exact .inl (.inr h)
          · exact .inr (.inr h)
        · rintro ((h | h) | h | h)
          · exact .inl (.inl h)
          · exact .inr (.inl h)
          · exact .inl (.inr h)
          · exact .inr (.inr h)
      have ho : ∀ b, Oc F ((Ds' ++ B) ++ (B2 ++ Bs)) b → Oc F (A ++ Bs) b ∨ H b = none := fun b z => by
        rcases z with z | z
        · exact .inl (.inl z)
        · rcases (hmem b).mp z with z | z
          · rcases (oth b (subD b z)).2.2 with q | q
            · exact .inl (.inr ((mA b).mpr (.inl q)))
            · exact .inr q
          · exact .inl (.inr ((mA b).mpr (.inr z)))
      have kp : ∀ b o, H b = some o → b ∉ a :: As → H' b = some o := fun b o h h2 => R2.keep b o h h2
      have kpO : ∀ b o, H b = some o → ¬ Oc F (A ++ Bs) b → H' b = some o := fun b o h h2 => kp b o h fun z => h2 (.inr ((mA b).mpr (.inl z)))
      have same : ∀ b ∈ B ++ Bs, H' b = H b := fun b hb => by
        obtain ⟨ys, q⟩ := RA.there b ((mA b).mpr (.inr hb))
        rw [q]
        exact kp b _ q fun z => dis b z hb
      have o2s : ∀ b, Oc F ((Ds' ++ B) ++ (B2 ++ Bs)) b → Oc (F.callIO H a As (B ++ Bs)) (A2 ++ B2) b := fun b z => by
        rcases z with z | z
        · exact .inl (.inl z)
        · rcases (hmem b).mp z with z | z
          · exact .inr (subD b z)
          · exact .inl (.inr z)
      have hown : Own F.K H' (Oc F ((Ds' ++ B) ++ (B2 ++ Bs))) Ds' (.ref a) (.own p xs') := by
        cases ho2 with
        | val r => cases r
        | own h1 h2 => exact .own h1 (h2.o o2s)
      have s3 : Slots F.K H' (Oc F ((Ds' ++ B) ++ (B2 ++ Bs))) B σ (e.set i none) := s.mono kpO ho fun b hb => same b (List.mem_append_left _ hb)
      obtain ⟨A4, p4, s4⟩ := s3.put (i := i) (set_at h) hown
      rw [set_set, set_same hv] at s4
      have p5 : (A4 ++ (B2 ++ Bs)).Perm ((Ds' ++ B) ++ (B2 ++ Bs)) := p4.append_right _
      have eq5 : ∀ b, Oc F (A4 ++ (B2 ++ Bs)) b → Oc F ((Ds' ++ B) ++ (B2 ++ Bs)) b := fun b z => z.imp id fun q => p5.mem_iff.mp q
      refine ⟨A4, B2 ++ Bs, s4.o eq5, ?_, p5.nodup_iff.mpr ?_, fun b hb => ?_, fun b o h1 h2 => ?_, fun b hb => R2.trk b (RA.trk b hb), RA.bt, fun w hw => ?_⟩
      · rw [List.map_append, List.map_append]
        exact ((R2.pend.o o2s).append (RA.pend.mono kpO ho fun b hb => same b (List.mem_append_right _ hb))).o eq5
      · have p6 : ((Ds' ++ B) ++ (B2 ++ Bs)).Perm ((Ds' ++ B2) ++ (B ++ Bs)) := by
          rw [List.append_assoc, List.append_assoc]
          exact List.Perm.append_left Ds' (List.perm_append_comm_assoc B B2 Bs)
        exact p6.nodup_iff.mpr (List.nodup_append.mpr ⟨ndD, ndB, fun x hx y hy z => (oth x (subD x hx)).1 (z ▸ hy)⟩)
      · rcases (hmem b).mp (p5.mem_iff.mp hb) with z | z
        · obtain ⟨h2, h3, h4⟩ := oth b (subD b z)
          refine ⟨h3, ?_⟩
          rcases h4 with h4 | h4
          · exact (RA.own b ((mA b).mpr (.inl h4))).2
          · exact .inr (RA.h0 h4)
        · exact RA.own b ((mA b).mpr (.inr z))
      · refine kp b o (RA.keep b o h1 h2) fun z => ?_
        rcases (RA.own b ((mA b).mpr (.inl z))).2 with q | q
        · exact h2 q
        · rw [q] at h1; cases h1
      · obtain ⟨h1, d, h2, h3⟩ := RA.pins w hw
        by_cases ne : i = w.1
        · subst ne
          rw [h] at h2
          cases h2
          exact ⟨h1, _, set_at h, h3⟩
        · exact ⟨h1, d, by rw [List.getElem?_set_ne ne]; exact h2, h3⟩
end
section
variable {X : Cx} {cf : CallF} {gl : Str → Option D} {F : Fr} {XR : XRT} {W : WX} {k : Nat} {a f : Addr} {fd : FuncData} {pn : List Str} {n i j : Nat} {x y : Str} {p p2 pos : Pos} {e : Expr} {es : List Expr} {as : IE}
theorem frzs_len : ∀ ds : List D, (D.frzs ds).length = ds.length
  | [] => rfl
  | _ :: ds => congrArg Nat.succ (frzs_len ds)
theorem w_callIO (hK : F.K = X.K) : ∀ σ H Q, tEv cf gl F XR W (.callIO j i as) σ H Q → tCallG (spOf X.K XR n (cf j)) W (tCons (tVar i) (tEvs cf gl F XR W as)) σ H Q := fun σ H Q h => by
  obtain ⟨env, ps, RR, h⟩ := h
  simp only [ev] at h
  split at h
  · rename_i hh
    obtain ⟨v0, hv0⟩ := RR.has hh
    refine ⟨v0, hv0, env, ps, RR, h.bind.imp fun ds e1 h vs H1 l R1 => ?_⟩
    split at h
    · rename_i q xs hi
      obtain ⟨a, As, C, hσ, hent, back⟩ := R1.lend l hi n
      rw [hv0] at hσ
      cases hσ
      refine ⟨F.callIO H1 a As C, .own true xs :: D.frzs ds, hK, rfl, ?_, hent, ?_⟩
      · have : (D.frzs ds).length = ds.length := by
          exact frzs_len ds
        rw [List.length_cons, List.length_cons, this, l]
      · cases hc : cf j (.own true xs :: D.frzs ds) with
        | ok d o =>
          rw [hc] at h
          cases o with
          | none => exact h.elim
          | some o =>
            cases o with
            | own q2 ys => exact fun v σ' e' H' R2 h0 => h v H' (back H' σ' e' _ _ _ R2 h0)
            | _ => exact h.elim
        | ex x o =>
          rw [hc] at h
          cases o with
          | none => exact h.elim
          | some o =>
            cases o with
            | own q2 ys => exact fun cls dd σ' e' H' R2 h0 xr => h cls dd H' (back H' σ' e' _ _ _ R2 h0) xr
            | _ => exact h.elim
        | bad =>
          rw [hc] at h
          exact h.elim
    · exact h.elim
  · exact h.elim
theorem e_callIO (hK : F.K = X.K) (FF : FnG X.prog X.w X.K X.mg X.base k f fd pn (spOf X.K XR n (cf j))) (hr : Room k X.A) (hgd : X.A.guards = some []) (hg : Gl X x) (hm : X.mg x = some (.ref f)) (hk : PySem.W.keepIn X.K (.ref f) = true) (hb : Binds X.K fd pn []) (tk : Takes X W)
    (hN : X.N[i]? = some y) (hvy : Vis X.env.scope y) (hd : (y == ("__debug__" : Str)) = false) (hcd : (y == ("__classdict__" : Str)) = false)
    (ha : PA X es (tEvs cf gl F XR W as)) (hdb : (x == ("__debug__" : Str)) = false) (he : starEach (.Name y p2 :: es) X.env = (false, eval (.Name y p2) X.env) :: starEach es X.env) (hpl : (backTo pos (starEach es X.env)).any (·.1) = false) :
    PE X (.Call (.Name x p) (.Name y p2 :: es) [] pos) (tEv cf gl F XR W (.callIO j i as)) := PE.of (pe_callG FF hr hgd hg hm hk hb tk (pa_cons (pe_var hN hvy hd hcd) ha he) hdb he hpl) (w_callIO hK)
end
end PD

set_option Elab.async false
set_option linter.all false
set_option maxRecDepth 100000
namespace PD
open PySem PySem.Spec PyProof.Rows L2

/-- what a statement's outcome asks -/
def OutS (F : Fr) (XR : XRT) (W : WX) (ps : Ps) (E : Ends) : R Fl → Prop
  | .ok .nx e => ∀ σ' H', Rel F H' σ' e ps → E.nx σ' H'
  | .ok (.rt d) e => ∀ v σ' H', Rel F H' σ' e ((v, d) :: ps) → E.rt v H'
  | .ok .bk e => ∀ σ' H', Rel F H' σ' e ps → E.bk σ' H'
  | .ok .ct e => ∀ σ' H', Rel F H' σ' e ps → E.ct σ' H'
  | .ex x e => ∀ cls dd σ' H', Rel F H' σ' e ps → XR x cls dd H' → W cls dd σ' H'
  | .bad => False
/-- a statement's reading -/
def tSt (cf : CallF) (gl : Str → Option D) (F : Fr) (XR : XRT) (W : WX) (is : IS) : TS := fun E σ H => ∃ env ps, Rel F H σ env ps ∧ OutS F XR W ps E (evS cf gl is env)
section
variable {F : Fr} {XR : XRT} {W : WX} {ps : Ps} {E E' : Ends}
theorem OutS.more {m : R Fl} {p : V × D} (h : OutS F XR W ps E m) : OutS F XR W (p :: ps) E m := by
  cases m with
  | ok fl e =>
    cases fl with
    | nx => exact fun σ' H' R => h σ' H' R.drop
    | rt d => exact fun v σ' H' R => h v σ' H' R.one
    | bk => exact fun σ' H' R => h σ' H' R.drop
    | ct => exact fun σ' H' R => h σ' H' R.drop
  | ex x e => exact fun cls dd σ' H' R => h cls dd σ' H' R.drop
  | bad => exact h
theorem OutS.mores {m : R Fl} (h : OutS F XR W ps E m) : ∀ l : Ps, OutS F XR W (l ++ ps) E m
  | [] => h
  | _ :: l => (OutS.mores h l).more
/-- an expression ahead -/
theorem OutS.bind {α : Type} {m : R α} {f : α → Env → R Fl} {σ : L2.St} (h : OutS F XR W ps E (m.bind f)) : Out F XR W σ ps (fun a e => OutS F XR W ps E (f a e)) m := by
  cases m with
  | ok a e => exact h
  | ex x e => exact fun cls dd H' R => h cls dd σ H' R
  | bad => exact h
theorem Out.impR {α : Type} {σ : L2.St} {Q Q' : α → Env → Prop} {m : R α} (h : Out F XR W σ ps Q m) (k : ∀ a e, Q a e → Q' a e) : Out F XR W σ ps Q' m := h.imp k
end
section
variable {X : Cx} {cf : CallF} {gl : Str → Option D} {F : Fr} {XR : XRT} {W : WX} {a b : Expr} {ia ib ic : IE} {sa sb : IS} {t : IT} {pos : Pos} {st : Stmt} {rest body : List Stmt}
theorem s_skip : PSs X [] (tSt cf gl F XR W .skip) := by
  refine PSs.of pss_nil fun E σ H h => ?_
  obtain ⟨env, ps, RR, h⟩ := h
  exact h σ H RR
theorem s_pass : PS X (.Pass pos) (tSt cf gl F XR W .skip) := by
  refine PS.of ps_pass fun E σ H h => ?_
  obtain ⟨env, ps, RR, h⟩ := h
  exact h σ H RR
theorem s_stop : PS X st (tSt cf gl F XR W .stop) := by
  refine PS.of ps_never fun E σ H h => ?_
  obtain ⟨env, ps, RR, h⟩ := h
  exact h
theorem s_one (h1 : PS X st (tSt cf gl F XR W sa)) : PSs X [st] (tSt cf gl F XR W sa) := pss_one h1
theorem s_seq (h1 : PS X st (tSt cf gl F XR W sa)) (h2 : PSs X rest (tSt cf gl F XR W sb)) : PSs X (st :: rest) (tSt cf gl F XR W (.seq sa sb)) := by
  refine PSs.of (pss_cons h1 h2) fun E σ H h => ?_
  obtain ⟨env, ps, RR, h⟩ := h
  simp only [evS] at h
  refine ⟨env, ps, RR, ?_⟩
  cases q : evS cf gl sa env with
  | ok fl e =>
    rw [q] at h
    cases fl with
    | nx => exact fun σ' H' R1 => ⟨e, ps, R1, h⟩
    | rt d => exact h
    | bk => exact h
    | ct => exact h
  | ex x e => rw [q] at h; exact h
  | bad => rw [q] at h; exact h
theorem s_brk : PS X (.Break pos) (tSt cf gl F XR W .brk) := by
  refine PS.of ps_break fun E σ H h => ?_
  obtain ⟨env, ps, RR, h⟩ := h
  exact h σ H RR
theorem s_cont : PS X (.Continue pos) (tSt cf gl F XR W .cont) := by
  refine PS.of ps_continue fun E σ H h => ?_
  obtain ⟨env, ps, RR, h⟩ := h
  exact h σ H RR
theorem s_retN : PS X (.Return none pos) (tSt cf gl F XR W .retN) := by
  refine PS.of ps_retN fun E σ H h => ?_
  obtain ⟨env, ps, RR, h⟩ := h
  exact h .non σ H RR.non
theorem s_ret (ha : PE X a (tEv cf gl F XR W ia)) : PS X (.Return (some a) pos) (tSt cf gl F XR W (.ret ia)) := by
  refine PS.of (ps_ret ha) fun E σ H h => ?_
  obtain ⟨env, ps, RR, h⟩ := h
  simp only [evS] at h
  exact ⟨env, ps, RR, (OutS.bind h).imp fun x e h v H' R1 => h v σ H' R1⟩
theorem s_retS {i : Nat} {x : Str} {p : Pos} (hN : X.N[i]? = some x) (hv : Vis X.env.scope x) (hd : (x == ("__debug__" : Str)) = false) (hcd : (x == ("__classdict__" : Str)) = false) : PS X (.Return (some (.Name x p)) pos) (tSt cf gl F XR W (.retS i)) := by
  refine PS.of (ps_ret (pe_var hN hv hd hcd)) fun E σ H h => ?_
  obtain ⟨env, ps, RR, h⟩ := h
  simp only [evS] at h
  split at h
  · rename_i d hd
    split at h
    · exact h.elim
    · rename_i hp
      obtain ⟨v, hv, R1⟩ := RR.take hd (by simpa using hp)
      exact ⟨v, hv, h v σ H R1⟩
  · exact h.elim
theorem swapsNo {e : Expr} {t : Option Expr} {l : Nat} {env : PySem.Env} (h : (match e with | .ListComp .. => false | .SetComp .. => false | .DictComp .. => false | _ => true) = true) : swapsWith e t l env = pure false := by
  cases e <;> first | rfl | cases h
theorem s_exp (ha : PE X a (tEv cf gl F XR W ia)) (hs : swapsWith a none pos.line X.env = pure false) : PS X (.Expr a pos) (tSt cf gl F XR W (.exp ia)) := by
  refine PS.of (ps_expr ha hs) fun E σ H h => ?_
  obtain ⟨env, ps, RR, h⟩ := h
  simp only [evS] at h
  exact ⟨env, ps, RR, (OutS.bind h).imp fun x e h v H' R1 => h σ H' R1.drop⟩
theorem s_if (hc : PT X a (tTs cf gl F XR W ia)) (h1 : PSs X rest (tSt cf gl F XR W sa)) (h2 : PSs X body (tSt cf gl F XR W sb)) : PS X (.If a rest body pos) (tSt cf gl F XR W (.ife ia sa sb)) := by
  refine PS.of (ps_if hc h1 h2) fun E σ H h => ?_
  obtain ⟨env, ps, RR, h⟩ := h
  simp only [evS] at h
  refine ⟨env, ps, RR, (OutS.bind h).imp fun k e h H' R1 => ?_⟩
  cases k with
  | true =>
    rw [if_pos rfl] at h ⊢
    exact ⟨e, ps, R1, h⟩
  | false =>
    rw [if_neg Bool.false_ne_true] at h ⊢
    exact ⟨e, ps, R1, h⟩
theorem asg_noex : ∀ t : IT, (∀ (d : D) (e e' : Env) (y : EX), asg t d e ≠ .ex y e') ∧ (∀ (ds : List D) (e e' : Env) (y : EX), asgs t ds e ≠ .ex y e') := by
  intro t
  induction t with
  | nm i =>
    refine ⟨fun d e e' y z => ?_, fun ds e e' y z => ?_⟩
    · simp only [asg] at z
      split at z <;> cases z
    · cases ds <;> simp only [asgs] at z <;> cases z
  | tup ts ih =>
    refine ⟨fun d e e' y z => ?_, fun ds e e' y z => ?_⟩
    · cases d <;> simp only [asg] at z <;> first | exact ih.2 _ _ _ _ z | cases z
    · cases ds <;> simp only [asgs] at z <;> cases z
  | nil =>
    refine ⟨fun d e e' y z => ?_, fun ds e e' y z => ?_⟩
    · cases d <;> simp only [asg] at z <;> cases z
    · cases ds <;> simp only [asgs] at z <;> cases z
  | cons t ts ih1 ih2 =>
    refine ⟨fun d e e' y z => ?_, fun ds e e' y z => ?_⟩
    · cases d <;> simp only [asg] at z <;> cases z
    · cases ds with
      | nil => simp only [asgs] at z; cases z
      | cons d ds =>
        simp only [asgs] at z
        cases q : asg t d e with
        | ok u e2 => rw [q] at z; exact ih2.2 _ _ _ _ z
        | ex y2 e2 => exact ih1.1 _ _ _ _ q
        | bad => rw [q] at z; cases z
theorem w_asgN {i : Nat} : ∀ E σ H, tSt cf gl F XR W (.asg (.nm i) ia) E σ H → tAsg (tEv cf gl F XR W ia) (gName i) E σ H := fun E σ H h => by
  obtain ⟨env, ps, RR, h⟩ := h
  simp only [evS] at h
  refine ⟨env, ps, RR, (OutS.bind h).imp fun x e h v H' R1 => ?_⟩
  simp only [asg] at h
  split at h
  · rename_i hfr
    exact h _ _ (R1.set hfr)
  · exact h.elim
theorem s_asgN {i : Nat} {x : Str} {p : Pos} (hN : X.N.Nodup) (hi : X.N[i]? = some x) (hx : Loc X.env.scope x) (hf : X.fn x = true ∨ X.env.scope.names.lookup x = some .local) (ha : PE X a (tEv cf gl F XR W ia)) (hs : swapsWith a (some (.Name x p)) pos.line X.env = pure false) :
    PS X (.Assign [.Name x p] a pos) (tSt cf gl F XR W (.asg (.nm i) ia)) := PS.of (ps_set hN hi hx ha hs hf) w_asgN
theorem s_asgT {es : List Expr} {k : Nat} {p : Pos} {ts : IT} (ha : PE X a (tEv cf gl F XR W ia)) (hg : PG X (.Tuple es k p) (tG F (.tup ts))) (hw : swappedStores [.Tuple es k p] a X.env = pure none) (hs : swapsWithSole [.Tuple es k p] a pos.line X.env = pure false) :
    PS X (.Assign [.Tuple es k p] a pos) (tSt cf gl F XR W (.asg (.tup ts) ia)) := by
  refine PS.of (ps_asg ha hg hs hw) fun E σ H h => ?_
  obtain ⟨env, ps, RR, h⟩ := h
  simp only [evS] at h
  refine ⟨env, ps, RR, (OutS.bind h).imp fun x e h v H' R1 => ?_⟩
  cases q : asg (.tup ts) x.frz e with
  | ok u e' =>
    have h : OutS F XR W ps E ((asg (.tup ts) x.frz e).bind fun _ e => .ok .nx e) := h
    rw [q] at h
    exact ⟨x.frz, e, ps, R1.frz, e', q, fun σ' H'' R2 _ => h σ' H'' R2⟩
  | ex y e' =>
    exfalso
    exact (asg_noex (.tup ts)).1 _ _ _ _ q
  | bad =>
    have h : OutS F XR W ps E ((asg (.tup ts) x.frz e).bind fun _ e => .ok .nx e) := h
    rw [q] at h
    exact h.elim
theorem s_par {i j : Nat} {x y : Str} {px py pt pos : Pos} {kt k2 : Nat} {pt2 : Pos} (hc : X.calm = true) (hN : X.N.Nodup) (hi : X.N[i]? = some x) (hj : X.N[j]? = some y) (hij : i ≠ j) (hx : X.env.scope.names.lookup x = some .local) (hy : X.env.scope.names.lookup y = some .local)
    (ha : PE X a (tEv cf gl F XR W ia)) (hb : PE X b (tEv cf gl F XR W ib)) (hs1 : starEach [a, b] X.env = [(false, eval a X.env), (false, eval b X.env)]) (hs2 : starEach [b] X.env = [(false, eval b X.env)])
    (hw : swappedStores [.Tuple [.Name x px, .Name y py] kt pt] (.Tuple [a, b] k2 pt2) X.env = pure (some [x, y])) : PS X (.Assign [.Tuple [.Name x px, .Name y py] kt pt] (.Tuple [a, b] k2 pt2) pos) (tSt cf gl F XR W (.par i j ia ib)) := by
  refine PS.of (ps_par hc hN hi hj hij hx hy (pa_cons ha (pa_cons hb pa_nil hs2) (by rw [hs1, hs2])) hw rfl) fun E σ H h => ?_
  obtain ⟨env, ps, RR, h⟩ := h
  simp only [evS] at h
  refine ⟨env, ps, RR, (OutS.bind h).imp fun d e1 h v H1 R1 => ⟨e1, _, R1, (OutS.bind h).more.imp fun d2 e2 h w H2 R2 => ⟨v, w, rfl, ?_⟩⟩⟩
  split at h
  · rename_i hf
    rw [Bool.and_eq_true] at hf
    have R3 := R2.swap.set hf.1
    have hf2 : freeAt j (e2.set i (some d)) = true := by
      have := hf.2
      unfold freeAt at this ⊢
      rw [List.getElem?_set_ne hij]
      exact this
    exact h _ _ (R3.set hf2)
  · exact h.elim
theorem s_par3 {c : Expr} {i j l : Nat} {x y z : Str} {px py pz pt pos : Pos} {kt k2 : Nat} {pt2 : Pos} (hc : X.calm = true) (hN : X.N.Nodup) (hi : X.N[i]? = some x) (hj : X.N[j]? = some y) (hl : X.N[l]? = some z) (hij : i ≠ j) (hil : i ≠ l) (hjl : j ≠ l)
    (hx : X.env.scope.names.lookup x = some .local) (hy : X.env.scope.names.lookup y = some .local) (hz : X.env.scope.names.lookup z = some .local)
    (ha : PE X a (tEv cf gl F XR W ia)) (hb : PE X b (tEv cf gl F XR W ib)) (hcc : PE X c (tEv cf gl F XR W ic)) (hs1 : starEach [a, b, c] X.env = [(false, eval a X.env), (false, eval b X.env), (false, eval c X.env)]) (hs2 : starEach [b, c] X.env = [(false, eval b X.env), (false, eval c X.env)]) (hs3 : starEach [c] X.env = [(false, eval c X.env)])
    (hw : swappedStores [.Tuple [.Name x px, .Name y py, .Name z pz] kt pt] (.Tuple [a, b, c] k2 pt2) X.env = pure (some [x, y, z])) : PS X (.Assign [.Tuple [.Name x px, .Name y py, .Name z pz] kt pt] (.Tuple [a, b, c] k2 pt2) pos) (tSt cf gl F XR W (.par3 i j l ia ib ic)) := by
  refine PS.of (ps_par3 hc hN hi hj hl hij hil hjl hx hy hz (pa_cons ha (pa_cons hb (pa_cons hcc pa_nil hs3) (by rw [hs2, hs3])) (by rw [hs1, hs2])) hw rfl) fun E σ H h => ?_
  obtain ⟨env, ps, RR, h⟩ := h
  simp only [evS] at h
  refine ⟨env, ps, RR, (OutS.bind h).imp fun d e1 h v H1 R1 => ⟨e1, _, R1, (OutS.bind h).more.imp fun d2 e2 h w H2 R2 => ⟨e2, _, R2, (OutS.bind h).more.more.imp fun d3 e3 h u H3 R3 => ⟨v, w, u, rfl, ?_⟩⟩⟩⟩
  split at h
  · rename_i hf
    rw [Bool.and_eq_true, Bool.and_eq_true] at hf
    have R4 : Rel F H3 σ e3 ((v, d) :: (w, d2) :: (u, d3) :: ps) := Rel.mid (l := [(w, d2), (u, d3)]) (Rel.mid (l := [(u, d3)]) R3 |> fun R => by
      have : Rel F H3 σ e3 ((w, d2) :: (u, d3) :: (v, d) :: ps) := R
      exact this)
    have R5 := R4.set hf.1
    have keep : ∀ {m n : Nat} {q : Option D} {e : Env}, m ≠ n → freeAt n e = true → freeAt n (e.set m q) = true := fun {m n q e} hmn hfr => by
      unfold freeAt at hfr ⊢
      rw [List.getElem?_set_ne hmn]
      exact hfr
    have R6 := R5.set (keep hij hf.2.1)
    exact h _ _ (R6.set (keep hjl (keep hil hf.2.2)))
  · exact h.elim
end
end PD

set_option Elab.async false
set_option linter.all false
set_option maxRecDepth 100000
namespace PD
open PySem PySem.Spec PyProof.Rows L2

section
variable {F : Fr} {H : Hp} {σ : L2.St} {e : Env} {ps : Ps} {i : Nat} {x : V} {d : D} {p : Bool} {xs : List D}
/-- the pending items are put in at a place, nothing is dropped -/
theorem Rel.insAt {us : List V} {ds : List D} (RR : Rel F H σ e (zps us ds ++ ps)) (l : us.length = ds.length) (h : e[i]? = some (some (.own p xs))) (n : Nat) :
    ∃ a vs, σ[i]? = some (some (.ref a)) ∧ H a = some (.lst vs) ∧ vs.length = xs.length ∧ Rel F (upd H a (.lst (vs.take n ++ us ++ vs.drop n))) σ (e.set i (some (.own p (xs.take n ++ ds ++ xs.drop n)))) ps := by
  obtain ⟨a, vs, As, A0, Bs, O, hσ, ha, hx, hp, k⟩ := RR.mut h
  rw [List.map_append, List.map_append, zps_fst l, zps_snd l] at hp
  obtain ⟨C, B2, e1, q1, q2⟩ := Owns.split l hp
  have hl := hx.length
  have hx2 : Owns F.K H O As (vs.take n ++ vs.drop n) (xs.take n ++ xs.drop n) := by rw [List.take_append_drop, List.take_append_drop]; exact hx
  obtain ⟨A1, A2, e2, q3, q4⟩ := Owns.split (by rw [List.length_take, List.length_take, hl]) hx2
  subst e1 e2
  refine ⟨a, vs, hσ, ha, hl, k _ _ (A1 ++ C ++ A2) B2 ps ((q3.append q1).append q4) q2 (Sub.of ?_)⟩
  have h1 : (A1 ++ C ++ A2 ++ B2).Perm (A1 ++ (A2 ++ C) ++ B2) := by
    rw [List.append_assoc A1 C A2]
    exact (List.Perm.append_left A1 List.perm_append_comm).append_right B2
  refine h1.trans ?_
  rw [← List.append_assoc, List.append_assoc]
theorem Rel.app (RR : Rel F H σ e ((x, d) :: ps)) (h : e[i]? = some (some (.own p xs))) :
    ∃ a vs, σ[i]? = some (some (.ref a)) ∧ H a = some (.lst vs) ∧ vs.length = xs.length ∧ Rel F (upd H a (.lst (vs ++ [x]))) σ (e.set i (some (.own p (xs ++ [d])))) ps := by
  obtain ⟨a, vs, h1, h2, h3, h4⟩ := Rel.insAt (us := [x]) (ds := [d]) RR rfl h xs.length
  refine ⟨a, vs, h1, h2, h3, ?_⟩
  rw [List.take_length, List.drop_length, List.append_nil, ← h3, List.take_length, List.drop_length, List.append_nil] at h4
  exact h4
/-- an item is stored over -/
theorem Rel.setAt (RR : Rel F H σ e ((x, d) :: ps)) (h : e[i]? = some (some (.own p xs))) {j : Nat} (hj : j < xs.length) :
    ∃ a vs, σ[i]? = some (some (.ref a)) ∧ H a = some (.lst vs) ∧ vs.length = xs.length ∧ Rel F (upd H a (.lst (vs.set j x))) σ (e.set i (some (.own p (xs.set j d)))) ps := by
  obtain ⟨a, vs, As, A0, Bs, O, hσ, ha, hx, hp, k⟩ := RR.mut h
  simp only [List.map_cons] at hp
  cases hp with
  | @cons C B2 _ _ _ _ q1 q2 =>
    have hl := hx.length
    have hjv : j < vs.length := by omega
    have hx2 : Owns F.K H O As (vs.take j ++ (vs[j] :: vs.drop (j + 1))) (xs.take j ++ (xs[j] :: xs.drop (j + 1))) := by
      rw [← List.drop_eq_getElem_cons hj, ← List.drop_eq_getElem_cons hjv, List.take_append_drop, List.take_append_drop]
      exact hx
    obtain ⟨A1, A2, e2, q3, q4⟩ := Owns.split (by rw [List.length_take, List.length_take, hl]) hx2
    cases q4 with
    | @cons D0 A3 _ _ _ _ q5 q6 =>
      subst e2
      refine ⟨a, vs, hσ, ha, hl, ?_⟩
      have t1 : vs.set j x = vs.take j ++ x :: vs.drop (j + 1) := by rw [List.set_eq_take_append_cons_drop, if_pos hjv]
      have t2 : xs.set j d = xs.take j ++ d :: xs.drop (j + 1) := by rw [List.set_eq_take_append_cons_drop, if_pos hj]
      rw [t1, t2]
      refine k _ _ (A1 ++ (C ++ A3)) B2 ps (q3.append (.cons q1 q6)) q2 ⟨D0, ?_⟩
      have h1 : (A1 ++ (C ++ A3) ++ B2 ++ D0).Perm (D0 ++ (A1 ++ (C ++ A3) ++ B2)) := List.perm_append_comm
      refine h1.trans ?_
      have h2 : (D0 ++ (A1 ++ (C ++ A3) ++ B2)).Perm (A1 ++ (D0 ++ ((C ++ A3) ++ B2))) := by
        rw [List.append_assoc A1]
        exact List.perm_append_comm_assoc D0 A1 _
      refine h2.trans ?_
      rw [List.append_assoc A1 (D0 ++ A3)]
      refine List.Perm.append_left A1 ?_
      rw [List.append_assoc D0]
      refine List.Perm.append_left D0 ?_
      rw [List.append_assoc C]
      exact List.perm_append_comm_assoc C A3 B2
/-- a pending list's items, the list itself dropped -/
theorem Rel.spill {v : V} {q : Bool} {ys : List D} (RR : Rel F H σ e ((v, .own q ys) :: ps)) : ∃ b zs, v = .ref b ∧ H b = some (.lst zs) ∧ zs.length = ys.length ∧ Rel F H σ e (zps zs ys ++ ps) := by
  obtain ⟨A, Bs, RA⟩ := RR
  have hp := RA.pend
  simp only [List.map_cons] at hp
  cases hp with
  | @cons C B2 _ _ _ _ q1 q2 =>
    cases q1 with
    | val r => cases r
    | @own b zs _ Cs _ h1 h2 =>
      refine ⟨b, zs, rfl, h1, h2.length, A, Cs ++ B2, RA.re ⟨[b], ?_⟩ RA.slots ?_ RA.pins⟩
      · have h3 : (A ++ (Cs ++ B2) ++ [b]).Perm (A ++ ([b] ++ (Cs ++ B2))) := by
          rw [List.append_assoc]
          exact List.Perm.append_left A List.perm_append_comm
        exact h3
      · rw [List.map_append, List.map_append, zps_fst h2.length, zps_snd h2.length]
        exact h2.append q2
end
section
variable {X : Cx} {cf : CallF} {gl : Str → Option D} {F : Fr} {XR : XRT} {W : WX} {a b : Expr} {ia ib ic : IE} {sa sb : IS} {t : IT} {pos apos cpos p2 : Pos} {st : Stmt} {rest body : List Stmt} {i : Nat} {y : Str}
theorem Rel.isOwn {H : Hp} {σ : L2.St} {e : Env} {ps : Ps} (R : Rel F H σ e ps) (h : ownAt i e = true) : ∃ a vs, σ[i]? = some (some (.ref a)) ∧ H a = some (.lst vs) := by
  unfold ownAt at h
  split at h
  · rename_i q xs hq
    obtain ⟨a, vs, _, _, _, _, h1, h2, _⟩ := R.mut hq
    exact ⟨a, vs, h1, h2⟩
  · cases h
theorem ref_eq {σ : L2.St} {a a' : Addr} (h1 : σ[i]? = some (some (.ref a))) (h2 : σ[i]? = some (some (.ref a'))) : a' = a := by
  rw [h1] at h2
  cases h2
  rfl
theorem s_app (hN : X.N[i]? = some y) (hv : Vis X.env.scope y) (hd : (y == ("__debug__" : Str)) = false) (hcd : (y == ("__classdict__" : Str)) = false) (ha : PE X a (tEv cf gl F XR W ia))
    (hfew : ((backTo cpos (starEach [a] X.env)).all (fun x => !x.1) && (backToKw cpos (keywordEach [] X.env)).all (fun x => x.1.isSome) && decide (([a] : List Expr).length + ([] : List Keyword).length + (if ([] : List Keyword).isEmpty then 0 else 1) < 30)) = true)
    (hline : (apos.endLine == cpos.line) = true) (hs : starEach [a] X.env = [(false, eval a X.env)]) : PS X (.Expr (.Call (.Attribute (.Name y p2) "append" apos) [a] [] cpos) pos) (tSt cf gl F XR W (.app i ia)) := by
  refine PS.of (ps_expr (pe_bm PySem.F.plainAttrs_list PySem.F.slot_list_append PySem.F.type_list_append mt_append (pe_var hN hv hd hcd) (pa_cons ha pa_nil hs) rfl hfew hline hs rfl) rfl) fun E σ H h => ?_
  obtain ⟨env, ps, RR, h⟩ := h
  simp only [evS] at h
  split at h
  · rename_i ho
    obtain ⟨l, vs, h1, h2⟩ := RR.isOwn ho
    refine ⟨.ref l, h1, .inl ⟨rfl, vs, .inl (.inl h2)⟩, env, ps, RR, (OutS.bind h).imp fun x e h v H' R1 => ?_⟩
    split at h
    · rename_i q xs hq
      split at h
      · rename_i hlt
        obtain ⟨l2, us, h3, h4, h5, R2⟩ := R1.app hq
        have := ref_eq h1 h3
        subst this
        exact ⟨l2, us, v, rfl, rfl, h4, by rw [line_eq]; omega, h _ _ R2⟩
      · exact h.elim
    · exact h.elim
  · exact h.elim
theorem s_ext (hN : X.N[i]? = some y) (hv : Vis X.env.scope y) (hd : (y == ("__debug__" : Str)) = false) (hcd : (y == ("__classdict__" : Str)) = false) (ha : PE X a (tEv cf gl F XR W ia))
    (hfew : ((backTo cpos (starEach [a] X.env)).all (fun x => !x.1) && (backToKw cpos (keywordEach [] X.env)).all (fun x => x.1.isSome) && decide (([a] : List Expr).length + ([] : List Keyword).length + (if ([] : List Keyword).isEmpty then 0 else 1) < 30)) = true)
    (hline : (apos.endLine == cpos.line) = true) (hs : starEach [a] X.env = [(false, eval a X.env)]) : PS X (.Expr (.Call (.Attribute (.Name y p2) "extend" apos) [a] [] cpos) pos) (tSt cf gl F XR W (.ext i ia)) := by
  refine PS.of (ps_expr (pe_bm PySem.F.plainAttrs_list PySem.F.slot_list_extend PySem.F.type_list_extend mt_extend (pe_var hN hv hd hcd) (pa_cons ha pa_nil hs) rfl hfew hline hs rfl) rfl) fun E σ H h => ?_
  obtain ⟨env, ps, RR, h⟩ := h
  simp only [evS] at h
  split at h
  · rename_i ho
    obtain ⟨l, vs, h1, h2⟩ := RR.isOwn ho
    refine ⟨.ref l, h1, .inl ⟨rfl, vs, .inl (.inl h2)⟩, env, ps, RR, (OutS.bind h).imp fun x e h v H' R1 => ?_⟩
    split at h
    · rename_i q ys p xs hq
      split at h
      · rename_i hlt
        obtain ⟨bb, zs, rfl, hb, hl, R2⟩ := R1.spill
        have R3 : Rel F H' σ e (zps zs (D.frzs ys) ++ ps) := Rel.frzs (l := []) hl R2
        obtain ⟨l2, us, h3, h4, h5, R4⟩ := Rel.insAt (us := zs) (ds := D.frzs ys) R3 (by rw [frzs_len]; exact hl) hq xs.length
        have := ref_eq h1 h3
        subst this
        rw [List.take_length, List.drop_length, List.append_nil, ← h5, List.take_length, List.drop_length, List.append_nil] at R4
        exact ⟨l2, bb, us, zs, rfl, rfl, h4, hb, by rw [line_eq]; omega, h _ _ R4⟩
      · exact h.elim
    · exact h.elim
  · exact h.elim
theorem s_ins (hN : X.N[i]? = some y) (hv : Vis X.env.scope y) (hd : (y == ("__debug__" : Str)) = false) (hcd : (y == ("__classdict__" : Str)) = false) (ha : PE X a (tEv cf gl F XR W ia)) (hb : PE X b (tEv cf gl F XR W ib))
    (hfew : ((backTo cpos (starEach [a, b] X.env)).all (fun x => !x.1) && (backToKw cpos (keywordEach [] X.env)).all (fun x => x.1.isSome) && decide (([a, b] : List Expr).length + ([] : List Keyword).length + (if ([] : List Keyword).isEmpty then 0 else 1) < 30)) = true)
    (hline : (apos.endLine == cpos.line) = true) (hs : starEach [a, b] X.env = (false, eval a X.env) :: starEach [b] X.env) (hs2 : starEach [b] X.env = [(false, eval b X.env)]) (hpl : (backTo cpos (starEach [b] X.env)).any (·.1) = false) : PS X (.Expr (.Call (.Attribute (.Name y p2) "insert" apos) [a, b] [] cpos) pos) (tSt cf gl F XR W (.ins i ia ib)) := by
  refine PS.of (ps_expr (pe_bm PySem.F.plainAttrs_list PySem.F.slot_list_insert PySem.F.type_list_insert mt_insert (pe_var hN hv hd hcd) (pa_cons ha (pa_cons hb pa_nil hs2) hs) rfl hfew hline hs hpl) rfl) fun E σ H h => ?_
  obtain ⟨env, ps, RR, h⟩ := h
  simp only [evS] at h
  split at h
  · rename_i ho
    obtain ⟨l, vs, h1, h2⟩ := RR.isOwn ho
    refine ⟨.ref l, h1, .inl ⟨rfl, vs, .inl (.inl h2)⟩, env, ps, RR, (OutS.bind h).imp fun k e1 h v1 H1 R1 => ?_⟩
    refine ⟨e1, _, R1, (OutS.bind h).more.imp fun x e h v H' R2 => ?_⟩
    split at h
    · rename_i n q xs hq _
      split at h
      · rename_i hlt
        have := R2.drop.is_int
        subst this
        obtain ⟨l2, us, h3, h4, h5, R4⟩ := Rel.insAt (us := [v]) (ds := [x]) R2.one rfl hq n.toNat
        have := ref_eq h1 h3
        subst this
        refine ⟨l2, us, n, v, rfl, rfl, h4, by rw [line_eq]; omega, hlt.1, ?_, h _ _ R4⟩
        have := hlt.2.1
        have := hlt.2.2
        have e1 : line = 16777216 := rfl
        have e2 : (2 : Int) ^ 63 = 9223372036854775808 := by decide
        omega
      · exact h.elim
    · exact h.elim
  · exact h.elim
theorem s_set (hN : X.N[i]? = some y) (hv : Vis X.env.scope y) (hd : (y == ("__debug__" : Str)) = false) (hcd : (y == ("__classdict__" : Str)) = false) (ha : PE X a (tEv cf gl F XR W ia)) (hb : PE X b (tEv cf gl F XR W ib))
    (hs : swapsWith a (some (.Subscript (.Name y p2) b apos)) pos.line X.env = pure false)
    (hg : ∀ v, assign (.Subscript (.Name y p2) b apos) X.env v = (do
      let ov ← holding [v] (eval (.Name y p2) X.env)
      let iv ← holding [v, ov] (eval b X.env)
      standAt apos
      holding [v, ov, iv] (setItem ov iv v)
      release [v, ov, iv] [])) : PS X (.Assign [.Subscript (.Name y p2) b apos] a pos) (tSt cf gl F XR W (.set i ib ia)) := by
  refine PS.of (ps_asg ha (pg_sub (pe_var hN hv hd hcd) hb set_list hg) (by exact hs) (by cases a <;> rfl) rfl) fun E σ H h => ?_
  obtain ⟨env, ps, RR, h⟩ := h
  simp only [evS] at h
  refine ⟨env, ps, RR, (OutS.bind h).imp fun x e1 h v H1 R1 => ?_⟩
  split at h
  · rename_i hh
    obtain ⟨v0, hv0⟩ := R1.has hh
    refine ⟨v0, hv0, e1, _, R1, (OutS.bind h).more.imp fun k e2 h v2 H2 R2 => ?_⟩
    split at h
    · rename_i n q xs hq
      split at h
      · rename_i j hj
        have := R2.is_int
        subst this
        have hjx : j < xs.length := (ixN_seq hj).2.1
        obtain ⟨l2, us, h3, h4, h5, R4⟩ := R2.drop.setAt hq hjx
        rw [hv0] at h3
        cases h3
        exact ⟨l2, us, n, j, rfl, rfl, h4, by rw [h5]; exact hj, h _ _ R4⟩
      · exact h.elim
    · exact h.elim
  · exact h.elim
theorem s_augAdd (hN : X.N.Nodup) (hi : X.N[i]? = some y) (hx : Loc X.env.scope y) (hf : X.fn y = true ∨ X.env.scope.names.lookup y = some .local) (ha : PE X a (tEv cf gl F XR W ia)) : PS X (.AugAssign (.Name y p2) .Add a pos) (tSt cf gl F XR W (.aug .Add i ia)) := by
  refine PS.of (ps_aug hN hi hx ha iop_add hf) fun E σ H h => ?_
  obtain ⟨env, ps, RR, h⟩ := h
  simp only [evS] at h
  split at h
  · rename_i hh
    obtain ⟨v0, hv0⟩ := RR.has hh
    refine ⟨v0, hv0, env, ps, RR, (OutS.bind h).imp fun x e1 h v H1 R1 => ?_⟩
    split at h
    · rename_i m n _ hq
      have := R1.is_int
      subst this
      obtain ⟨w, hw, r⟩ := R1.view hq (fun z => nomatch z)
      rw [hv0] at hw
      cases hw
      cases r
      refine ⟨m, n, rfl, rfl, h _ _ (Rel.set (R1.drop.int _) ?_)⟩
      unfold freeAt
      rw [hq]
      rfl
    · rename_i hc _
      cases hc
    · exact h.elim
  · exact h.elim
theorem s_augSub (hN : X.N.Nodup) (hi : X.N[i]? = some y) (hx : Loc X.env.scope y) (hf : X.fn y = true ∨ X.env.scope.names.lookup y = some .local) (ha : PE X a (tEv cf gl F XR W ia)) : PS X (.AugAssign (.Name y p2) .Sub a pos) (tSt cf gl F XR W (.aug .Sub i ia)) := by
  refine PS.of (ps_aug hN hi hx ha iop_sub hf) fun E σ H h => ?_
  obtain ⟨env, ps, RR, h⟩ := h
  simp only [evS] at h
  split at h
  · rename_i hh
    obtain ⟨v0, hv0⟩ := RR.has hh
    refine ⟨v0, hv0, env, ps, RR, (OutS.bind h).imp fun x e1 h v H1 R1 => ?_⟩
    split at h
    · rename_i hc _
      cases hc
    · rename_i m n _ hq
      have := R1.is_int
      subst this
      obtain ⟨w, hw, r⟩ := R1.view hq (fun z => nomatch z)
      rw [hv0] at hw
      cases hw
      cases r
      refine ⟨m, n, rfl, rfl, h _ _ (Rel.set (R1.drop.int _) ?_)⟩
      unfold freeAt
      rw [hq]
      rfl
    · exact h.elim
  · exact h.elim
theorem w_forL {σ : L2.St} {H1 : Hp} {J : It} {ds : List D} {pend ps : Ps} {env : Env} {E : Ends} {K : PySem.W.Frag} (hK : F.K = K) (wk : WK F J ds pend) (R0 : Rel F H1 σ env (pend ++ ps))
    (hr : OutS F XR W (pend ++ ps) E (forL (fun d e => (asg t d e).bind fun _ e => evS cf gl sa e) ds env)) :
    ∃ Wi : Nat → Nat → L2.St → Hp → Prop, (∃ m, Wi 0 m σ H1) ∧ ∀ i m σ H, Wi i m σ H → (J.stop i H ∧ E.nx σ H) ∨ (J.go i H ∧ ∃ N : L2.St → Hp → Prop, (∀ σ' H', N σ' H' → ∃ m', m' < m ∧ Wi (i + 1) m' σ' H') ∧
      ∀ x H', J.yld i H x H' → (∃ F, OfK K F ∧ tG F t x σ H' fun σ2 H2 => ∃ F, OfK K F ∧ tSt cf gl F XR W sa { E with nx := N, ct := N, bk := E.nx } σ2 H2)) := by
  refine ⟨fun i m σ H => m = ds.length - i ∧ i ≤ ds.length ∧ ∃ e, Rel F H σ e (pend ++ ps) ∧ OutS F XR W (pend ++ ps) E (forL (fun d e => (asg t d e).bind fun _ e => evS cf gl sa e) (ds.drop i) e), ⟨ds.length, rfl, Nat.zero_le _, env, R0, hr⟩, ?_⟩
  rintro i m σ H ⟨rfl, hi, e, RR, hc⟩
  have wkH := wk H σ e ps RR
  by_cases hlt : i < ds.length
  · right
    have hd : ds[i]? = some ds[i] := List.getElem?_eq_getElem hlt
    rw [List.drop_eq_getElem_cons hlt] at hc
    simp only [forL] at hc
    obtain ⟨hgo, hy⟩ := wkH.1 i _ hd
    refine ⟨hgo, fun σ' H' => ∃ m', m' < ds.length - i ∧ (m' = ds.length - (i + 1) ∧ i + 1 ≤ ds.length ∧ ∃ e, Rel F H' σ' e (pend ++ ps) ∧ OutS F XR W (pend ++ ps) E (forL (fun d e => (asg t d e).bind fun _ e => evS cf gl sa e) (ds.drop (i + 1)) e)), fun σ' H' h => h, fun x H' hyl => ?_⟩
    have R1 := hy x H' hyl
    refine ⟨F, hK, _, e, _, R1, ?_⟩
    cases q : asg t ds[i] e with
    | ok u e' =>
      refine ⟨e', rfl, fun σ2 H2 R2 _ => ⟨F, hK, e', _, R2, ?_⟩⟩
      rw [q] at hc
      have hc : OutS F XR W (pend ++ ps) E ((evS cf gl sa e').bind fun fl e1 => match fl with
        | .nx => forL (fun d e => (asg t d e).bind fun _ e => evS cf gl sa e) (ds.drop (i + 1)) e1
        | .ct => forL (fun d e => (asg t d e).bind fun _ e => evS cf gl sa e) (ds.drop (i + 1)) e1
        | .bk => .ok .nx e1
        | .rt v => .ok (.rt v) e1) := hc
      cases q2 : evS cf gl sa e' with
      | ok fl e1 =>
        rw [q2] at hc
        cases fl with
        | nx => exact fun σ' H3 R3 => ⟨_, by omega, rfl, by omega, e1, R3, hc⟩
        | ct => exact fun σ' H3 R3 => ⟨_, by omega, rfl, by omega, e1, R3, hc⟩
        | bk => exact hc
        | rt d => exact hc
      | ex x e1 => rw [q2] at hc; exact hc
      | bad => rw [q2] at hc; exact hc.elim
    | ex y e' =>
      exfalso
      exact (asg_noex t).1 _ _ _ _ q
    | bad => rw [q] at hc; exact hc.elim
  · left
    have e0 : i = ds.length := by omega
    subst e0
    rw [List.drop_length] at hc
    exact ⟨wkH.2, hc σ H RR⟩
theorem s_for {tg iter : Expr} {isrc : IE} (hK : F.K = X.K) (hp : PassesOwn (model X.prog X.w) X.A X.env X.xe) (hc : X.calm = true) (hi : PI X tg iter (tIt cf gl F XR W isrc)) (hg : ∀ F, OfK X.K F → PG X tg (tG F t)) (hb : ∀ F, OfK X.K F → PSs X body (tSt cf gl F XR W sa))
    (hs : ∀ x, foldedSetIterable iter X.env x = pure x) : PS X (.For tg iter body [] pos) (tSt cf gl F XR W (.for_ t isrc sa)) := by
  refine PS.of (ps_for hp hc hi (PG.any hg) (PSs.any hb) hs) fun E σ H h => ?_
  obtain ⟨env, ps, RR, h⟩ := h
  simp only [evS] at h
  exact ⟨env, ps, RR, (OutS.bind h).imp fun ds e1 h J H1 pend wk R1 => w_forL hK wk R1 (h.mores pend)⟩
theorem hideR_out {F' : Fr} {v : D} {E : Ends} {ps : Ps} {r : R Fl} (back : ∀ H2 σ2 e2 ps2, Rel F' H2 σ2 e2 ps2 → e2[i]? = some (some .hid) → Rel F H2 σ2 (e2.set i (some v)) ps2) (h : OutS F XR W ps E (hideR i v r)) : OutS F' XR W ps E r := by
  cases r with
  | ok fl e =>
    simp only [hideR] at h
    split at h
    · rename_i hh
      cases fl with
      | nx => exact fun σ' H' R => h σ' H' (back _ _ _ _ R hh)
      | rt d => exact fun w σ' H' R => h w σ' H' (back _ _ _ _ R hh)
      | bk => exact fun σ' H' R => h σ' H' (back _ _ _ _ R hh)
      | ct => exact fun σ' H' R => h σ' H' (back _ _ _ _ R hh)
    · exact h.elim
  | ex x e =>
    simp only [hideR] at h
    split at h
    · rename_i hh
      exact fun cls dd σ' H' R => h cls dd σ' H' (back _ _ _ _ R hh)
    · exact h.elim
  | bad => exact h
theorem s_forB {tg : Expr} (hK : F.K = X.K) (hp : PassesOwn (model X.prog X.w) X.A X.env X.xe) (hc : X.calm = true) (hN : X.N[i]? = some y) (hv : Vis X.env.scope y) (hd : (y == ("__debug__" : Str)) = false) (hcd : (y == ("__classdict__" : Str)) = false) (hg : ∀ F, OfK X.K F → PG X tg (tG F t)) (hb : ∀ F, OfK X.K F → PSs X body (tSt cf gl F XR W sa)) :
    PS X (.For tg (.Name y p2) body [] pos) (tSt cf gl F XR W (.forB t i sa)) := by
  refine PS.of (ps_for hp hc (i_slot hN hv hd hcd) (PG.any hg) (PSs.any hb) (fun _ => rfl)) fun E σ H h => ?_
  obtain ⟨env, ps, RR, h⟩ := h
  simp only [evS] at h
  split at h
  · rename_i q ds hq
    split at h
    · rename_i hpl
      obtain ⟨a, us, As, C, hσ, ha, hl, hr, hac, R1, back⟩ := RR.hide hq
      obtain ⟨eAs, hrs⟩ := hr hpl
      subst eAs
      rw [← hK]
      refine ⟨a, us, hσ, .inl (.inl ha), ?_⟩
      have wk : WK (F.hid H i (.ref a) [a] C) (Itl F.K a) ds [] := wk_hid ha hrs hac
      exact w_forL (F := F.hid H i (.ref a) [a] C) (pend := []) rfl wk R1 (hideR_out back h)
    · exact h.elim
  · exact h.elim
theorem s_while (hp : PassesOwn (model X.prog X.w) X.A X.env X.xe) (ha : PT X a (tTs cf gl F XR W ia)) (hb : PSs X body (tSt cf gl F XR W sa)) : PS X (.While a body [] pos) (tSt cf gl F XR W (.whl ia sa)) := by
  refine PS.of (ps_while hp ha hb) fun E σ H h => ?_
  obtain ⟨env, ps, RR, h⟩ := h
  simp only [evS] at h
  refine ⟨fun n σ H => ∃ e, Rel F H σ e ps ∧ OutS F XR W ps E (whlL (evT cf gl ia) (evS cf gl sa) n e), ⟨_, env, RR, h⟩, ?_⟩
  rintro n σ H ⟨e, RR, h⟩
  cases n with
  | zero => exact h.elim
  | succ n =>
    simp only [whlL] at h
    refine ⟨e, ps, RR, (OutS.bind h).imp fun k e1 h H1 R1 => ?_⟩
    cases k with
    | true =>
      rw [if_pos rfl] at h ⊢
      refine ⟨fun σ' H' => ∃ m', m' < n + 1 ∧ ∃ e, Rel F H' σ' e ps ∧ OutS F XR W ps E (whlL (evT cf gl ia) (evS cf gl sa) m' e), fun σ' H' h => h, e1, ps, R1, ?_⟩
      cases q2 : evS cf gl sa e1 with
      | ok fl e2 =>
        rw [q2] at h
        cases fl with
        | nx => exact fun σ' H3 R3 => ⟨n, by omega, e2, R3, h⟩
        | ct => exact fun σ' H3 R3 => ⟨n, by omega, e2, R3, h⟩
        | bk => exact h
        | rt d => exact h
      | ex x e1 => rw [q2] at h; exact h
      | bad => rw [q2] at h; exact h.elim
    | false =>
      rw [if_neg Bool.false_ne_true] at h ⊢
      exact h _ _ R1
end
end PD

set_option Elab.async false
set_option linter.all false
set_option maxRecDepth 100000
set_option maxHeartbeats 1000000
namespace PD
open PySem PySem.Spec PyProof.Rows L2
open AutoSeq1 (wpAny_loadPart')

theorem meets_enum_newT (l : Addr) (items : Array Value) (n : Nat) (dct : Option Addr) (sl : Array (Option Value)) :
    Meets (Builtin.«enumerate.__new__» ⟨[.type "enumerate", .ref l], []⟩) (fun _ R s => s.heap.get? l = some { cls := .type "tuple", dict := dct, data := .seq items n, slots := sl } ∧
      R (.ok (.ret (.ref (s.heap.push { cls := .type "tuple_iterator", data := .fields #[.ref l, .int 0 0] }).objs.size)))
        { s with heap := (s.heap.push { cls := .type "tuple_iterator", data := .fields #[.ref l, .int 0 0] }).push { cls := .type "enumerate", data := .fields #[.none, .bool false, .ref s.heap.objs.size, rawInt 0, .none, .none] } }) :=
  .of_wp fun prog w A R s h => by
    obtain ⟨hp, g, d, tk, os⟩ := s; obtain ⟨hl, h⟩ := h
    have hsub := sub_enumerate
    have hL : Heap.IsTuple (Shared.heap ⟨hp, g, d, tk, os⟩) l items := ⟨_, hl, rfl, n, rfl⟩
    wp_walk using wpAny_loadPart' hl
    refine wpAny_stack_any fun st => wpAny_pure ?_
    split
    · rename_i c _ _ _ _ _
      cases (c == Value.type "enumerate")
      · wp_walk using wpAny_loadPart' hl, wpAny_pyIter_tuple hL
        exact ⟨_, rfl, h⟩
      · wp_walk using wpAny_loadPart' hl, wpAny_pyIter_tuple hL
        exact ⟨_, rfl, h⟩
    · wp_walk using wpAny_loadPart' hl, wpAny_pyIter_tuple hL
      exact ⟨_, rfl, h⟩
section
variable {prog : Program} {w : World} {A : Around} {E : Value → Shared → Prop} {s : Shared}
theorem call_enum_tuple {l : Addr} {items : Array Value} {Q : Value → Shared → Prop} (hL : s.heap.IsTuple l items)
    (h : ∀ h', IsEnum h' (s.heap.objs.size + 1) s.heap.objs.size 0 .none → h'.IsTupleIter s.heap.objs.size l 0 → h'.objs.size = s.heap.objs.size + 2 →
      (∀ b o, s.heap.get? b = some o → h'.get? b = some o) → Q (.ref (s.heap.objs.size + 1)) { s with heap := h' }) :
    wpAny (model prog w) A (call (.type "enumerate") [.ref l]) Q E s := by
  obtain ⟨⟨c, dct, dt, sl⟩, hl, hc, n, hd⟩ := hL
  replace hc : c = .type "tuple" := hc
  replace hd : dt = .seq items n := hd
  subst hc hd
  refine callType_new PySem.F.called_enumerate (by decide) (PySem.F.typeCall_enumerate_1 _) (PySem.F.newCall_enumerate_1 _) (fun obj => PySem.F.args_object_init_2 obj _) PySem.F.entry_enumerate_new
    (meets_enum_newT l items n dct sl) ⟨hl, ?_⟩
  have hz : (s.heap.push { cls := .type "tuple_iterator", data := .fields #[.ref l, .int 0 0] }).objs.size = s.heap.objs.size + 1 := Heap.size_push ..
  show _ ∧ _
  rw [hz]
  have he : IsEnum ((s.heap.push { cls := .type "tuple_iterator", data := .fields #[.ref l, .int 0 0] }).push
      { cls := .type "enumerate", data := .fields #[.none, .bool false, .ref s.heap.objs.size, rawInt 0, .none, .none] }) (s.heap.objs.size + 1) s.heap.objs.size 0 .none := by
    have := Heap.get?_push_size (s.heap.push { cls := .type "tuple_iterator", data := .fields #[.ref l, .int 0 0] })
      (o := { cls := .type "enumerate", data := .fields #[.none, .bool false, .ref s.heap.objs.size, rawInt 0, .none, .none] }) rfl
    rw [hz] at this; exact this
  refine ⟨⟨_, he, rfl⟩, h _ he ⟨_, Heap.get?_push_of_some _ (Heap.get?_push_size _ rfl), rfl, rfl⟩ (by rw [Heap.size_push, hz]) fun b o x => Heap.get?_push_of_some _ (Heap.get?_push_of_some _ x)⟩
end
/-- enumerate(tuple) -/
def IteT (K : PySem.W.Frag) (a : Addr) : It :=
  ⟨fun i H => ∃ (xs : List V) (x : V), SqT K H a xs ∧ xs[i]? = some x, fun i H v H' => ∃ T x, v = .ref T ∧ H T = none ∧ H' = upd H T (.tup [.int (i : Nat), x]) ∧ ∀ xs, SqT K H a xs → xs[i]? = some x, fun i H => ∃ xs : List V, SqT K H a xs ∧ xs.length ≤ i⟩
theorem turn_enumT {P : Program} {w : World} {K : PySem.W.Frag} {elts : List Expr} {kk : Nat} {tpos : Pos} (a e it : Addr) :
    Turn P w K (.Tuple elts kk tpos) (IteT K a) [e, it] e (fun i h => (∃ old, IsEnum h e it ((i : Nat) : Int) old) ∧ h.IsTupleIter it a i ∧ e ≠ it) where
  mem := by simp
  obj := fun i h st b hb => by
    obtain ⟨⟨old, he⟩, ⟨o, ho, hc, hd⟩, _⟩ := st
    have e' : b = e ∨ b = it := by simpa using hb
    rcases e' with z | z
    · rw [z]; exact ⟨_, he, fun v q => nomatch q⟩
    · rw [z]; exact ⟨o, ho, fun v q => by rw [hd] at q; cases q⟩
  keep := fun i h h' st k => let ⟨⟨old, he⟩, hi, hne⟩ := st; ⟨⟨old, k e (by simp) _ he⟩, hi.at fun o q => k it (by simp) o q, hne⟩
  item := by
    intro X hP hw hK hc i pins s σ H E I hf st hg
    subst hP hw hK
    obtain ⟨⟨old, he⟩, hit, hne⟩ := st
    obtain ⟨xs, x, hq, hx⟩ := hg
    obtain ⟨its, rv, p, hz⟩ := I.tuple hq
    obtain ⟨u, hu, ru⟩ := rv.get hx
    have hel : e < s.heap.objs.size := Heap.lt_size he
    have hil : it < s.heap.objs.size := by obtain ⟨_, q, _⟩ := hit; exact Heap.lt_size q
    have pt : s.heap.IsTuple a its.toArray := p
    have hai : a ≠ it := by
      rintro rfl
      obtain ⟨o, ho, hc1, _⟩ := hit
      obtain ⟨o2, ho2, hc2, _⟩ := pt
      rw [ho] at ho2
      cases ho2
      rw [hc1] at hc2
      injection hc2 with q
      exact absurd q (by decide)
    have hea : e ≠ a := by
      rintro rfl
      obtain ⟨o2, ho2, hc2, _⟩ := pt
      rw [he] at ho2
      cases ho2
      injection hc2 with q
      exact absurd q (by decide)
    have hiz : i < its.toArray.size := by
      have := (List.getElem?_eq_some_iff.mp hu).1
      simpa using this
    refine wpAny_pyNext_enum_itemD (Draws.tuple (show X.A.in1.handled = none from I.ok.hd hc) it a hai its.toArray) he ⟨hit, pt⟩ hiz hne (by simp [hne, hea]) fun y h' tk hy ho hst' hT hsz hk => ?_
    have hyu : y = u := by
      rw [List.getElem?_toArray, hu] at hy
      cases hy
      rfl
    subst hyu
    refine ⟨_, rfl, wpAny_letOwnedTupleGo_enum (s := { s with heap := h', toks := tk + 1 }) ho fun h'' he' sb => ?_⟩
    have hT2 : h''.get? s.heap.objs.size = some { cls := .type "tuple", data := .seq #[.int i tk, y] } := (sb.2 _ (Nat.ne_of_gt hel)).trans hT
    have new : ObjOk X.prog X.w (upd H s.heap.objs.size (.tup [.int (i : Nat), x])) h'' s.heap.objs.size (.tup [.int (i : Nat), x]) :=
      ⟨by show 2 ≤ sizeLine; decide, [.int i tk, y], .cons ⟨_, rfl⟩ (.cons ru .nil), ⟨_, hT2, rfl, _, rfl⟩⟩
    have I1 : Inv X pins σ (upd H s.heap.objs.size (.tup [.int (i : Nat), x])) { s with heap := h'', toks := tk + 1 } :=
      I.turnedNew (ch := [e, it]) (fun b ob hb q => (sb.2 b (fun z => hb (by simp [z]))).trans (hk b ob (fun z => hb (by simp [z])) (fun z => hb (by simp [z])) q)) hf (Nat.le_refl _) new
    refine ⟨.ref s.heap.objs.size, _, I1, rfl, ⟨_, x, rfl, I.hok.fresh (Nat.le_refl _), rfl, fun ys hy => by rw [I.tuple_inj hy hq]; exact hx⟩, ⟨⟨y, ?_⟩, hst'.1.at fun o q => (sb.2 it (Ne.symm hne)).trans q, hne⟩, fun b hb => ?_⟩
    · have e1 : ((i + 1 : Nat) : Int) = (i : Int) + 1 := by omega
      rw [e1]; exact he'
    · have hb' : b < s.heap.objs.size := by
        have e' : b = e ∨ b = it := by simpa using hb
        rcases e' with z | z
        · rw [z]; exact hel
        · rw [z]; exact hil
      rw [upd_ne (Nat.ne_of_lt hb')]
      exact (hf b hb).1
  done := by
    intro X hP hw hK hc i pins s σ H E I hf st hg
    subst hP hw hK
    obtain ⟨⟨old, he⟩, hit, hne⟩ := st
    obtain ⟨xs, hq, hx⟩ := hg
    obtain ⟨its, rv, p, hz⟩ := I.tuple hq
    obtain ⟨f0, f1, f2, f3, f4, f5⟩ := hf it (by simp)
    have hl := rv.length
    have pt : s.heap.IsTuple a its.toArray := p
    have hT : s.TypeIs (.ref e) "enumerate" := ⟨_, he, rfl⟩
    unfold pyNext
    refine wpAny_bind (wpAny_attempt (wpAny_callSpecial?_slot (name := Str.ofString "__next__") hT PySem.F.slot_enumerate_next
      (wpAny_call_entry PySem.F.slot_enumerate_next hT PySem.F.entry_enumerate_next ?_ (PySem.F.args_enumerate_next_1 _))))
    show wpAny _ _ (field (.ref e) 2 >>= _) _ _ _
    refine wpAny_bind (wpAny_field he rfl (x := .ref it) rfl ?_)
    refine wpAny_bind (wpAny_nextOf_tuple_end (show X.A.in1.handled = none from I.ok.hd hc) hit pt (by simp; omega) fun h' x eb hx' => ?_)
    obtain ⟨o, ho, hcc⟩ := hx'
    refine wpAny_bind (wpAny_isInstance (T := "StopIteration") (b := true) ⟨o, ho, hcc⟩ isSubtype_stop ?_)
    exact wpAny_pure ⟨rfl, I.turned (t' := s.toks) (fun b o hb q => eb b o hb q) f0 f1 f3 f4 f5⟩
  self := fun A i s Q E st h => let ⟨⟨_, he⟩, _⟩ := st; wpAny_pyIter_enum he h
/-- enumerate(..) of a list or a tuple -/
def iEnumA (K : PySem.W.Frag) (ta : TA) : TI := fun σ H R => ta σ H fun vs H1 => ∃ a, vs = [.ref a] ∧ ((∃ xs, SqL K H1 a xs ∧ R (Ite K a) H1) ∨ ∃ xs, SqT K H1 a xs ∧ R (IteT K a) H1)
theorem pi_enumA {X : Cx} {e : Expr} {ta : TA} {p pos tpos : Pos} {elts : List Expr} {kk : Nat} (hg : Gl X "enumerate") (hm : X.mg "enumerate" = none) (ha : PA X [e] ta) (hs : starEach [e] X.env = [(false, eval e X.env)]) :
    PI X (.Tuple elts kk tpos) (.Call (.Name "enumerate" p) [e] [] pos) (iEnumA X.K ta) := by
  refine ⟨fun pins s σ H R I h => ?_⟩
  refine Call_ (ld_blt I hg hm boot_enumerate (PyProof.Rows.callWith_type1 (thn (ha.run pos pins s σ H _ I h) fun us s1 ⟨vs, H1, I1, r1, q1⟩ => ?_) hs rfl))
  obtain ⟨a, ex, q⟩ := q1
  subst ex
  cases r1 with
  | cons r rr =>
    cases rr
    cases r
    have hle : ∀ b, b ∈ [s1.heap.objs.size + 1, s1.heap.objs.size] → s1.heap.objs.size ≤ b := fun b hb => by
      have e' : b = s1.heap.objs.size + 1 ∨ b = s1.heap.objs.size := by simpa using hb
      rcases e' with z | z
      · rw [z]; exact Nat.le_add_right _ _
      · rw [z]; exact Nat.le_refl _
    rcases q with ⟨xs, hq, q⟩ | ⟨xs, hq, q⟩
    · obtain ⟨its, rv, p', hz⟩ := I1.list hq
      refine call_enumerate_list p'.isList fun h' he hit hsz hk => wpAny_pyIter_enum he ?_
      have I2 : Inv X pins σ H1 { s1 with heap := h' } := I1.kept (t' := s1.toks) hk
      exact ⟨s1.heap.objs.size + 1, [s1.heap.objs.size + 1, s1.heap.objs.size], _, _, H1, rfl, I2, turn_enum a (s1.heap.objs.size + 1) s1.heap.objs.size, ⟨⟨.none, he⟩, hit, Nat.succ_ne_self _⟩, fun b hb => I1.fpOk (hle b hb) (I1.hok.fresh (hle b hb)), q⟩
    · obtain ⟨its, rv, p', hz⟩ := I1.tuple hq
      refine call_enum_tuple (show s1.heap.IsTuple a its.toArray from p') fun h' he hit hsz hk => wpAny_pyIter_enum he ?_
      have I2 : Inv X pins σ H1 { s1 with heap := h' } := I1.kept (t' := s1.toks) hk
      exact ⟨s1.heap.objs.size + 1, [s1.heap.objs.size + 1, s1.heap.objs.size], _, _, H1, rfl, I2, turn_enumT a (s1.heap.objs.size + 1) s1.heap.objs.size, ⟨⟨.none, he⟩, hit, Nat.succ_ne_self _⟩, fun b hb => I1.fpOk (hle b hb) (I1.hok.fresh (hle b hb)), q⟩
theorem wk_enumT {F : Fr} {a : Addr} {ds : List D} : WK F (IteT F.K a) (enumD 0 ds) [(.ref a, .tup ds)] := by
  intro H σ e ps R
  obtain ⟨a', xs, ea, hq, l, R2⟩ := R.openT
  cases ea
  refine ⟨fun i d hd => ?_, ⟨xs, hq, by rw [enumD_len]; omega⟩⟩
  obtain ⟨d0, h0, rfl⟩ := enumD_get ds 0 i d hd
  have hi : i < xs.length := by rw [l]; exact at_lt h0
  refine ⟨⟨xs, xs[i], hq, by simp [hi]⟩, fun x H' y => ?_⟩
  obtain ⟨T, x0, rfl, hT, rfl, hy⟩ := y
  have R3 := zps_get (pre := []) l R2 (hy xs hq) h0
  have e0 : (0 : Int) + (i : Int) = ((i : Nat) : Int) := by omega
  rw [e0]
  exact Rel.pair (R3.int (i : Nat)) rfl (frz_of (xs := xs) (b := true) (by simpa using R) i d0 h0) hT
section
variable {X : Cx} {cf : CallF} {gl : Str → Option D} {F : Fr} {XR : XRT} {W : WX} {a : Expr} {ia : IE} {pos p : Pos}
theorem i_enum (hK : F.K = X.K) {elts : List Expr} {kk : Nat} {tpos : Pos} (hg : Gl X "enumerate") (hm : X.mg "enumerate" = none) (ha : PE X a (tEv cf gl F XR W ia)) (hs : starEach [a] X.env = [(false, eval a X.env)]) : PI X (.Tuple elts kk tpos) (.Call (.Name "enumerate" p) [a] [] pos) (tIt cf gl F XR W (.sEn ia)) := by
  refine PI.of (pi_enumA hg hm (pa_cons ha pa_nil hs) hs) fun σ H Q h => ?_
  obtain ⟨env, ps, RR, h⟩ := h
  simp only [evI] at h
  refine ⟨env, ps, RR, h.bind.imp fun x e1 h v1 H1 R1 => ?_⟩
  obtain ⟨ds, hd, q⟩ := h.op1
  obtain ⟨xs, hd2, hd3⟩ := Option.map_eq_some_iff.mp hd
  subst hd3
  clear hd
  have R2 := R1.frz
  unfold itemsOf at hd2
  split at hd2
  · rename_i xs hx
    have := Option.some.inj hd2
    subst this
    rw [hx] at R2
    obtain ⟨b, vs, rfl, hq, l, _⟩ := R2.openL
    rw [← hK]
    exact ⟨b, rfl, .inl ⟨vs, hq, q _ _ _ wk_enumL R2⟩⟩
  · rename_i xs hx
    have := Option.some.inj hd2
    subst this
    rw [hx] at R2
    obtain ⟨b, vs, rfl, hq, l, _⟩ := R2.openT
    rw [← hK]
    exact ⟨b, rfl, .inr ⟨vs, hq, q _ _ _ wk_enumT R2⟩⟩
  · cases hd2
end
end PD

set_option Elab.async false
set_option linter.all false
set_option maxRecDepth 100000
set_option maxHeartbeats 1000000
namespace PD
open PySem PySem.Spec PyProof.Rows L2 HT
theorem adjust_rev (n : Nat) : Builtin.Slice.sliceAdjust none none (-1) (n : Int) = ((n : Int) - 1, -1) := by
  unfold Builtin.Slice.sliceAdjust
  have h1 : ((-1 : Int) < 0) := by decide
  simp only [h1, if_true]
theorem places_rev (n : Nat) : Builtin.Slice.slicePlaces ((n : Int) - 1) (-1) (-1) = n := by
  unfold Builtin.Slice.slicePlaces
  have h1 : ¬ ((-1 : Int) > 0) := by decide
  simp only [h1, if_false, Int.neg_neg, Int.ediv_one]
  split <;> omega
theorem pick_rev (xs : Array Value) : ((List.range xs.size).filterMap fun (k : Nat) => xs[(((xs.size : Int) - 1) + (k : Int) * (-1)).toNat]?).toArray = xs.toList.reverse.toArray := by
  have e : (fun (k : Nat) => xs[(((xs.size : Int) - 1) + (k : Int) * (-1)).toNat]?) = ((xs[·]?) ∘ fun k => xs.size - 1 - k) := by
    funext k
    have : (((xs.size : Int) - 1) + (k : Int) * (-1)).toNat = xs.size - 1 - k := by omega
    rw [this]
    rfl
  rw [e, ← List.filterMap_map, ← PySem.W.krv_sliceRange, ← PySem.W.krv_pick]
  unfold slicePick
  rw [PySem.W.krv_bounds]
section
variable {prog : Program} {w : World} {A : Around} {E : Value → Shared → Prop} {s : Shared}
theorem sliceApplied_rev {sl : Addr} {t : Tok} {n : Nat} {Q : Int × Int × Nat → Shared → Prop} (hs : s.heap.IsSliceOf sl .none .none (.int (-1) t)) (h : Q ((n : Int) - 1, -1, n) s) : wpAny (model prog w) A (Builtin.Slice.sliceApplied (.ref sl) (pure (n : Int))) Q E s := by
  obtain ⟨os, hos, hcs, hds⟩ := id hs
  unfold Builtin.Slice.sliceApplied Builtin.Slice.sliceFields
  refine wpAny_bind (wpAny_bind (wpAny_field hos hds (x := .none) rfl (wpAny_bind (wpAny_field hos hds (x := .none) rfl (wpAny_bind (wpAny_field hos hds (x := .int (-1) t) rfl (wpAny_pure ?_)))))))
  refine wpAny_bind (slicePart_int ?_)
  show wpAny _ _ (if ((-1 : Int) == 0) = true then _ else _) _ _ s
  rw [if_neg (by decide)]
  refine wpAny_bind (slicePart_none (wpAny_bind (slicePart_none (wpAny_bind (wpAny_pure ?_)))))
  show wpAny _ _ (match Builtin.Slice.sliceAdjust none none (-1) (n : Int) with | (lo, hi) => pure (lo, (-1 : Int), Builtin.Slice.slicePlaces lo hi (-1))) _ _ s
  rw [adjust_rev n]
  show wpAny _ _ (pure ((n : Int) - 1, (-1 : Int), Builtin.Slice.slicePlaces ((n : Int) - 1) (-1) (-1))) _ _ s
  rw [places_rev]
  exact wpAny_pure h
theorem getItem_tuple_rev {t sl : Addr} {items : Array Value} {tk : Tok} {Q : Value → Shared → Prop} (ht : IsTup s.heap t items) (hs : s.heap.IsSliceOf sl .none .none (.int (-1) tk))
    (h : Q (.ref s.heap.objs.size) { s with heap := s.heap.push { cls := .type "tuple", data := .seq items.toList.reverse.toArray } })
    (hsz : items.size ≤ sizeLine) : wpAny (model prog w) A (getItem (.ref t) (.ref sl)) Q E s := by
  have htake : sizeOk (.seq items.toList.reverse.toArray) := by
    show items.toList.reverse.toArray.size ≤ sizeLine
    rw [List.size_toArray, List.length_reverse, Array.length_toList]
    exact hsz
  obtain ⟨os, hos, hcs, hds⟩ := id hs
  have hTs : s.TypeIs (.ref sl) "slice" := ⟨os, hos, hcs⟩
  unfold getItem
  try with_reducible refine wpAny_holding ?_
  first | refine wpAny_bind (wpAny_pure ?_) | skip
  refine wpAny_bind (wpAny_sequenceKey ht.typeIs (by decide) ?_)
  refine wpAny_bind (wpAny_callSpecial?_slot (name := Str.ofString "__getitem__") ht.typeIs PyProof.Rows.slot_tuple_getitem
    (wpAny_call_entry PyProof.Rows.slot_tuple_getitem ht.typeIs entry_tuple_getitem ?_ (args_tuple_getitem _ _)))
  show wpAny _ _ (Builtin.Tuple.tupleItemsOf (.ref t) >>= _) _ _ s
  refine wpAny_bind (tupleItemsOf_ ht ?_)
  refine wpAny_bind (wpAny_typeOf hTs ?_)
  rw [if_pos (by decide)]
  refine wpAny_bind (sliceApplied_rev hs ?_)
  have hno : ¬ ((((items.size : Int) - 1) == 0 && (-1 : Int) == 1 && items.size == items.size) = true) := by
    intro q
    rw [Bool.and_eq_true, Bool.and_eq_true] at q
    exact absurd q.1.2 (by decide)
  show wpAny _ _ (if (((items.size : Int) - 1) == 0 && (-1 : Int) == 1 && items.size == items.size) = true then _ else _) _ _ s
  rw [if_neg hno, pick_rev]
  first
    | exact wpAny_bind (m := Builtin.Tuple.tupleExact _) (wpAny_newObj_type (wpAny_pure ⟨_, rfl, wpAny_pure h⟩) htake)
    | exact wpAny_bind (m := Builtin.Tuple.tupleExact _) (wpAny_newObj_type (wpAny_bind (wpAny_pure (wpAny_pure ⟨_, rfl, wpAny_pure h⟩))) htake)
    | exact wpAny_bind (wpAny_bind (m := Builtin.Tuple.tupleExact _) (wpAny_newObj_type (wpAny_pure (wpAny_pure ⟨_, rfl, wpAny_pure h⟩)) htake))
    | exact wpAny_bind (wpAny_bind (m := Builtin.Tuple.tupleExact _) (wpAny_newObj_type (wpAny_pure ⟨_, rfl, wpAny_pure h⟩) htake))
end
/-- x[::-1] of a list or a tuple -/
def tRevA (K : PySem.W.Frag) (te : TE) : TE := fun σ H Q => te σ H fun x H1 => ∃ a xs, x = .ref a ∧ ((SqL K H1 a xs ∧ ∀ p, H1 p = none → Q (.ref p) (upd H1 p (.lst xs.reverse))) ∨ (SqT K H1 a xs ∧ ∀ p, H1 p = none → Q (.ref p) (upd H1 p (.tup xs.reverse))))
theorem pe_revA {X : Cx} {e : Expr} {te : TE} {k : Nat} {p1 p2 p3 pos : Pos} (he : PE X e te) : PE X (.Subscript e (.Slice none none (some (.UnaryOp .USub (.Constant (.int 1) k p1) p2)) p3) pos) (tRevA X.K te) := by
  refine ⟨fun pins s σ H Q I h => ?_⟩
  refine Subscript_ (thn (he.run pins s σ H _ I h) fun v s1 ⟨x, H1, I1, r1, q1⟩ => ?_)
  obtain ⟨a, xs, ex, hq⟩ := q1
  subst ex
  cases r1
  have hst : PO X (some (.UnaryOp .USub (.Constant (.int 1) k p1) p2)) (tPart (tUn (rU fun i => .int (-i)) (tC (.int 1)))) := po_some (pe_un un_neg pe_int)
  refine wpAny_Slice (thn (po_none.run pins s1 σ H1 (fun o H2 => o = none ∧ H2 = H1) I1 ⟨rfl, rfl⟩) fun vl s2 ⟨l, H2, I2, pl, el, e2⟩ => ?_)
  subst el e2
  refine thn (po_none.run pins s2 σ H2 (fun o H3 => o = none ∧ H3 = H2) I2 ⟨rfl, rfl⟩) fun vu s3 ⟨u, H3, I3, pu, eu, e3⟩ => ?_
  subst eu e3
  refine thn (hst.run pins s3 σ H3 (fun o H4 => o = some (-1) ∧ H4 = H3) I3 ⟨1, rfl, -1, rfl, rfl, rfl⟩) fun vs s4 ⟨o, H4, I4, ps, eo, e4⟩ => ?_
  subst eo e4
  have I5 : Inv X pins σ H4 { s4 with heap := s4.heap.push { cls := .type "slice", data := .fields #[vl, vu, vs] } } := I4.kept (t' := s4.toks) fun b ob q => Heap.get?_push_of_some _ q
  rcases hq with ⟨hx, q⟩ | ⟨hx, q⟩
  · obtain ⟨its, r, ht, hz⟩ := I5.list hx
    have hlen := r.length
    show wpAny (model X.prog X.w) X.A (subscriptTail e (.Slice none none (some (.UnaryOp .USub (.Constant (.int 1) k p1) p2)) p3) (.ref a) (.ref s4.heap.objs.size)) (EP X pins σ Q) X.xe { s4 with heap := s4.heap.push { cls := .type "slice", data := .fields #[vl, vu, vs] } }
    refine tail_any (ops := [.ref a, .ref s4.heap.objs.size]) ht.isList.typeIs (PySem.slot_list_getitem.lookup) ?_ (by with_unfolding_all rfl)
    refine wpAny_getItem_list_slice ht.isList (Heap.IsSliceOf.new _ vl vu vs) pl pu ps (by decide) ?_ (by rw [List.size_toArray]; omega)
    rw [PySem.W.krv_pick]
    refine ⟨.ref _, _, I5.laid (t' := s4.toks) (o := .lst xs.reverse) (fun b ob q => Heap.get?_push_of_some _ q) (Nat.le_refl _) ?_, rfl, q _ (I5.hok.fresh (Nat.le_refl _))⟩
    exact ⟨by rw [List.length_reverse]; exact hz, _, 0, r.reverse, Heap.get?_push_size _ rfl⟩
  · obtain ⟨its, r, ht, hz⟩ := I5.tuple hx
    have hlen := r.length
    show wpAny (model X.prog X.w) X.A (subscriptTail e (.Slice none none (some (.UnaryOp .USub (.Constant (.int 1) k p1) p2)) p3) (.ref a) (.ref s4.heap.objs.size)) (EP X pins σ Q) X.xe { s4 with heap := s4.heap.push { cls := .type "slice", data := .fields #[vl, vu, vs] } }
    refine tail_any (ops := [.ref a, .ref s4.heap.objs.size]) ht.typeIs (PyProof.Rows.slot_tuple_getitem.lookup) ?_ (by with_unfolding_all rfl)
    cases pl
    cases pu
    cases ps
    refine getItem_tuple_rev ht (Heap.IsSliceOf.new _ _ _ _) ?_ (by rw [List.size_toArray]; omega)
    refine ⟨.ref _, _, I5.laid (t' := s4.toks) (o := .tup xs.reverse) (fun b ob q => Heap.get?_push_of_some _ q) (Nat.le_refl _) ?_, rfl, q _ (I5.hok.fresh (Nat.le_refl _))⟩
    exact ⟨by rw [List.length_reverse]; exact hz, _, r.reverse, ⟨_, Heap.get?_push_size _ rfl, rfl, _, rfl⟩⟩
section
variable {X : Cx} {cf : CallF} {gl : Str → Option D} {F : Fr} {XR : XRT} {W : WX} {a : Expr} {ia : IE} {pos p1 p2 p3 : Pos} {k : Nat}
theorem e_rev (hK : F.K = X.K) (ha : PE X a (tEv cf gl F XR W ia)) : PE X (.Subscript a (.Slice none none (some (.UnaryOp .USub (.Constant (.int 1) k p1) p2)) p3) pos) (tEv cf gl F XR W (.rev ia)) := by
  refine PE.of (pe_revA ha) fun σ H Q h => ?_
  obtain ⟨env, ps, RR, h⟩ := h
  simp only [ev] at h
  refine ⟨env, ps, RR, h.bind.imp fun x e1 h v1 H1 R1 => ?_⟩
  obtain ⟨A, Bs, RA, r⟩ := R1.frz.one' (frz_frz x)
  rw [← hK]
  split at h
  · rename_i xs hx
    rw [hx] at r
    cases r with
    | lst h1 h2 => exact ⟨_, _, rfl, .inl ⟨sqL_of h1, fun p hp => h _ _ (RA.newLr h2.reverse hp)⟩⟩
  · rename_i xs hx
    rw [hx] at r
    cases r with
    | tup h1 h2 => exact ⟨_, _, rfl, .inr ⟨sqT_of h1, fun p hp => h _ _ (RA.newTr h2.reverse hp)⟩⟩
  · exact h.elim
end
end PD

set_option Elab.async false
set_option linter.all false
set_option maxRecDepth 100000
set_option maxHeartbeats 1000000
namespace PD
open PySem PySem.Spec PyProof.Rows L2
section
variable {prog : Program} {w : World} {A : Around} {E : Value → Shared → Prop} {s : Shared}
theorem add_lists {l b : Addr} {its its2 : List Value} {Q : Value → Shared → Prop} (hl : s.heap.IsList l its.toArray) (hb : s.heap.IsList b its2.toArray) (hz : its.length + its2.length ≤ sizeLine)
    (h : Q (.ref s.heap.objs.size) { s with heap := s.heap.push { cls := .type "list", data := .seq (its ++ its2).toArray } }) : wpAny (model prog w) A (binaryOp .Add (.ref l) (.ref b)) Q E s := by
  obtain ⟨⟨cls, dd, data, sl⟩, ho, hc, n, hd⟩ := hl
  obtain ⟨⟨cls2, dd2, data2, sl2⟩, ho2, hc2, n2, hd2⟩ := hb
  simp only at hc hd hc2 hd2
  subst hc hd hc2 hd2
  refine concat_meets ⟨_, ho, rfl⟩ ⟨_, ho2, rfl⟩ noFill_list_add seq_list_add PySem.F.slot_list_add PySem.F.entry_list_add (PySem.F.args_list_add_2 _ _) (list_addW l b its.toArray its2.toArray n n2 dd dd2 sl sl2 (by simp only [List.size_toArray]; omega)) ⟨ho, ho2, ?_⟩
  have ea : its.toArray ++ its2.toArray = (its ++ its2).toArray := by simp
  rw [ea]
  exact h
theorem sum_lists_loop {R : Result → Shared → Prop} {I l S : Addr} {vs : Array Value} {h0 : Heap} (hh : A.handled = none) (hIS : I ≠ S) (n1 : h0.objs.size ≤ I) (n2 : h0.objs.size ≤ S) (hl : h0.IsList l vs) :
    ∀ (k i : Nat) (s : Shared) (t : Addr) (acc : List Value) (c : Nat) (ys : List (List Value)), vs.size - i = k → i ≤ vs.size → s.heap.IsListIter I l i → (∀ b o, h0.get? b = some o → s.heap.get? b = some o) → h0.objs.size ≤ s.heap.objs.size →
    s.heap.get? S = some { cls := .type "list", dict := none, data := .seq #[.ref t] c, slots := #[] } →
    s.heap.IsList t acc.toArray → t ≠ S → t ≠ I → ys.length = k → (∀ (j : Nat) (y : List Value), ys[j]? = some y → ∃ b, vs[i + j]? = some (.ref b) ∧ h0.IsList b y.toArray) → acc.length + ys.flatten.length ≤ sizeLine →
    (∀ h' tk p, (∀ b o, h0.get? b = some o → h'.get? b = some o) → (0 < k → h0.objs.size ≤ p ∧ h'.get? p = some { cls := .type "list", data := .seq (acc ++ ys.flatten).toArray }) → (k = 0 → p = t ∧ ∀ o, t ≠ I → s.heap.get? t = some o → h'.get? t = some o) → R (.ok (.ret (.ref p))) { s with heap := h', toks := tk }) →
    codeAny (model prog w) A (.builtin "sum.loop" ⟨[.ref I, .ref S, rawInt 2, rawInt 0], []⟩) R s := by
  intro k
  induction k with
  | zero =>
    intro i s t acc c ys hk hi hit hold hn hS ht htS htI hyl hys hsz hR
    have hin : i = vs.size := by omega
    subst hin
    refine codeAny_builtin PySem.F.entry_sum_loop ?_
    rw [Around.under_plainId PySem.F.plain_sum_loop _]
    show wpAny _ A.in1 (seqItems? (.ref S) >>= _) _ _ s
    refine wpAny_bind (wpAny_seqItems hS rfl ?_)
    show wpAny _ A.in1 (tryCatch (pyNext (.ref I)) _ >>= _) _ _ s
    refine wpAny_bind (wpAny_tryCatch (wpAny_pyNext_list_end (show A.in1.handled = none from hh) hit (hl.at fun o e => hold _ o e) (by simp) fun h' eb => ?_))
    exact wpAny_pure (hR h' s.toks t (fun b o e => eb b o (fun z => by
      have := Heap.lt_size e
      rw [z] at this
      exact absurd this (Nat.not_lt.mpr n1)) (hold b o e)) (fun h => absurd h (Nat.lt_irrefl _)) (fun _ => ⟨rfl, fun o hne e => eb t o hne e⟩))
  | succ k ih =>
    intro i s t acc c ys hk hi hit hold hn hS ht htS htI hyl hys hsz hR
    have hlt : i < vs.size := by omega
    cases ys with
    | nil => simp at hyl
    | cons y ys =>
      obtain ⟨b, hb, hby⟩ := hys 0 y rfl
      rw [Nat.add_zero] at hb
      have bI : ∀ {a : Addr} {o : Obj}, h0.get? a = some o → a ≠ I := fun {a o} e z => by
        have := Heap.lt_size e
        rw [z] at this
        exact absurd this (Nat.not_lt.mpr n1)
      have bS : ∀ {a : Addr} {o : Obj}, h0.get? a = some o → a ≠ S := fun {a o} e z => by
        have := Heap.lt_size e
        rw [z] at this
        exact absurd this (Nat.not_lt.mpr n2)
      refine codeAny_builtin PySem.F.entry_sum_loop ?_
      rw [Around.under_plainId PySem.F.plain_sum_loop _]
      show wpAny _ A.in1 (seqItems? (.ref S) >>= _) _ _ s
      refine wpAny_bind (wpAny_seqItems hS rfl ?_)
      show wpAny _ A.in1 (tryCatch (pyNext (.ref I)) _ >>= _) _ _ s
      refine wpAny_bind (wpAny_tryCatch (wpAny_pyNext_list_item hit (hl.at fun o e => hold _ o e) hb fun h1 hit1 sb1 => ?_))
      have old1 : ∀ a o, h0.get? a = some o → h1.get? a = some o := fun a o e => (sb1.2 a (bI e)).trans (hold a o e)
      have hS1 : h1.get? S = _ := (sb1.2 S (Ne.symm hIS)).trans hS
      have ht1 : h1.IsList t acc.toArray := ht.at fun o e => (sb1.2 t htI).trans e
      have hb1 : h1.IsList b y.toArray := hby.at fun o e => old1 b o e
      have hfl : (y :: ys).flatten.length = y.length + ys.flatten.length := by rw [List.flatten_cons, List.length_append]
      rw [hfl] at hsz
      show wpAny _ A.in1 ((holding [Value.ref b] (binaryOp .Add (.ref t) (.ref b))).attempt >>= _) _ _ _
      refine wpAny_bind (wpAny_attempt (wpAny_holding (add_lists (s := { s with heap := h1 }) ht1 hb1 (by omega) ?_)))
      have hS3 := Heap.get?_push_of_some (h := h1) { cls := .type "list", data := .seq (acc ++ y).toArray } hS1
      have hp := Heap.get?_push_size h1 (o := { cls := .type "list", data := .seq (acc ++ y).toArray }) rfl
      have hz3 : (h1.push { cls := .type "list", data := .seq (acc ++ y).toArray }).objs.size = h1.objs.size + 1 := Heap.size_push ..
      have hSlt : S < h1.objs.size := Heap.lt_size hS1
      have hIlt : I < h1.objs.size := by obtain ⟨o, ho, _⟩ := hit1; exact Heap.lt_size ho
      have old3 : ∀ a o, h1.get? a = some o → (h1.push { cls := .type "list", data := .seq (acc ++ y).toArray }).get? a = some o := fun a o e => Heap.get?_push_of_some _ e
      show wpAny _ A.in1 (updateSeq S (fun _ => #[.ref h1.objs.size]) >>= _) _ _ { s with heap := h1.push { cls := .type "list", data := .seq (acc ++ y).toArray } }
      generalize hG : h1.push { cls := .type "list", data := .seq (acc ++ y).toArray } = G at hS3 hp hz3 old3
      have hpS : h1.objs.size ≠ S := Nat.ne_of_gt hSlt
      have hpI : h1.objs.size ≠ I := Nat.ne_of_gt hIlt
      refine wpAny_bind (wpAny_updateSeq (s := { s with heap := G }) hS3 rfl ?_)
      have hS₂ := Heap.get?_update_self (Obj.mapSeq fun _ => #[Value.ref h1.objs.size]) hS3 rfl
      have keepU : ∀ a o, a ≠ S → G.get? a = some o → (G.update S (Obj.mapSeq fun _ => #[Value.ref h1.objs.size])).get? a = some o := fun a o hne e => (Heap.get?_update_other _ _ (Ne.symm hne)).trans e
      refine wpAny_bind (wpAny_letGo ?_)
      refine wpAny_bind (wpAny_updateSeq (s := { s with heap := G.update S (Obj.mapSeq fun _ => #[Value.ref h1.objs.size]) }) hS₂ rfl (wpAny_pure ⟨plainId_quiet PySem.F.plain_sum_loop _, ?_⟩))
      have hS4 : ((G.update S (Obj.mapSeq fun _ => #[Value.ref h1.objs.size])).update S (Obj.mapSeq fun _ => #[Value.ref h1.objs.size])).get? S = some { cls := .type "list", dict := none, data := .seq #[.ref h1.objs.size] c, slots := #[] } := Heap.get?_update_self (Obj.mapSeq fun _ => #[Value.ref h1.objs.size]) hS₂ rfl
      have keepU2 : ∀ a o, a ≠ S → G.get? a = some o → ((G.update S (Obj.mapSeq fun _ => #[Value.ref h1.objs.size])).update S (Obj.mapSeq fun _ => #[Value.ref h1.objs.size])).get? a = some o := fun a o hne e => (Heap.get?_update_other _ _ (Ne.symm hne)).trans (keepU a o hne e)
      have hzU : ((G.update S (Obj.mapSeq fun _ => #[Value.ref h1.objs.size])).update S (Obj.mapSeq fun _ => #[Value.ref h1.objs.size])).objs.size = G.objs.size := by
        rw [Heap.size_update, Heap.size_update]
      generalize ((G.update S (Obj.mapSeq fun _ => #[Value.ref h1.objs.size])).update S (Obj.mapSeq fun _ => #[Value.ref h1.objs.size])) = G2 at hS4 keepU2 hzU
      have hz1 : h1.objs.size = s.heap.objs.size := sb1.1
      refine ih (i + 1) { s with heap := G2 } h1.objs.size (acc ++ y) c ys (by omega) hlt (hit1.at fun o e => keepU2 _ _ hIS (old3 _ _ e)) (fun a o e => keepU2 a o (bS e) (old3 _ _ (old1 a o e))) (by show h0.objs.size ≤ G2.objs.size; rw [hzU, hz3, hz1]; omega) hS4 ⟨_, keepU2 _ _ hpS hp, rfl, _, rfl⟩ hpS hpI (by simpa using hyl) (fun j z hj => ?_) (by rw [List.length_append]; omega) fun h' tk p hold' hpos hzero => ?_
      · obtain ⟨b2, e1, e2⟩ := hys (j + 1) z (by simpa using hj)
        exact ⟨b2, by rw [show i + 1 + j = i + (j + 1) by omega]; exact e1, e2⟩
      · refine hR h' tk p hold' (fun _ => ?_) (fun h => absurd h (Nat.succ_ne_zero _))
        rw [List.flatten_cons, ← List.append_assoc]
        by_cases hk0 : 0 < k
        · exact hpos hk0
        · have hk1 : k = 0 := by omega
          obtain ⟨e1, e2⟩ := hzero hk1
          have : ys = [] := List.eq_nil_of_length_eq_zero (by rw [← hk1]; simpa using hyl)
          subst this
          subst e1
          rw [List.flatten_nil, List.append_nil]
          exact ⟨by omega, e2 _ hpI (keepU2 _ _ hpS hp)⟩
theorem call_sum_lists {l e : Addr} {vs : Array Value} {ys : List (List Value)} {Q : Value → Shared → Prop} (hh : A.handled = none) (hl : s.heap.IsList l vs) (he : s.heap.IsList e ([] : List Value).toArray) (hn : 0 < vs.size) (hyl : ys.length = vs.size)
    (hys : ∀ (j : Nat) (y : List Value), ys[j]? = some y → ∃ b, vs[j]? = some (.ref b) ∧ s.heap.IsList b y.toArray) (hz : ys.flatten.length ≤ sizeLine)
    (h : ∀ h' tk p, (∀ b o, s.heap.get? b = some o → h'.get? b = some o) → s.heap.objs.size ≤ p → h'.get? p = some { cls := .type "list", data := .seq ys.flatten.toArray } → Q (.ref p) { s with heap := h', toks := tk }) :
    wpAny (model prog w) A (call (.builtin "sum") [.ref l, .ref e]) Q E s := by
  refine call_function_tree PySem.F.kind_sum PySem.F.plain_sum PySem.F.entry_sum (by unfold argsOk; kernel_rfl) ?_
  unfold Builtin.«sum»
  simp only [List.length_cons, List.length_nil]
  rw [if_neg (by decide)]
  refine wpAny_bind (wpAny_of_eq (show Builtin.Builtins.bindParams "sum" ["start"] 0 ⟨[.ref e], []⟩ = pure [some (.ref e)] from rfl) ?_)
  refine wpAny_bind (wpAny_pyIter_list hl ?_)
  refine wpAny_bind (wpAny_pure ?_)
  have hk1 : ∀ b o, s.heap.get? b = some o → (s.heap.push { cls := .type "list_iterator", data := .fields #[.ref l, .int 0 0] }).get? b = some o := fun b o x => Heap.get?_push_of_some _ x
  have he1 := (he.at fun o x => hk1 _ o x : (s.heap.push { cls := .type "list_iterator", data := .fields #[.ref l, .int 0 0] }).IsList e ([] : List Value).toArray)
  have hit1 := Heap.get?_push_size s.heap (o := { cls := .type "list_iterator", data := .fields #[.ref l, .int 0 0] }) rfl
  have hz1 : (s.heap.push { cls := .type "list_iterator", data := .fields #[.ref l, .int 0 0] }).objs.size = s.heap.objs.size + 1 := Heap.size_push ..
  generalize s.heap.push { cls := .type "list_iterator", data := .fields #[.ref l, .int 0 0] } = h1 at hk1 he1 hit1 hz1
  have hT : ({ s with heap := h1 } : Shared).TypeIs (.ref e) "list" := by obtain ⟨o, ho, hc, _⟩ := he1; exact ⟨o, ho, hc⟩
  simp only [List.forIn_cons, List.forIn_nil]
  refine wpAny_bind (wpAny_bind (wpAny_bind (wpAny_isInstance (T := "list") (b := false) hT PySem.F.sub_list_str ?_)))
  simp only [Bool.false_eq_true, if_false]
  refine wpAny_pure (wpAny_bind (wpAny_bind (wpAny_isInstance (T := "list") (b := false) hT PySem.F.sub_list_bytes ?_)))
  simp only [Bool.false_eq_true, if_false]
  refine wpAny_pure (wpAny_bind (wpAny_bind (wpAny_isInstance (T := "list") (b := false) hT PySem.F.sub_list_bytearray ?_)))
  simp only [Bool.false_eq_true, if_false]
  refine wpAny_pure (wpAny_pure ?_)
  refine wpAny_bind (wpAny_newObj_type ?_)
  have hS := Heap.get?_push_size h1 (o := { cls := .type "list", data := .seq #[Value.ref e] }) rfl
  have hk2 : ∀ b o, h1.get? b = some o → (h1.push { cls := .type "list", data := .seq #[Value.ref e] }).get? b = some o := fun b o x => Heap.get?_push_of_some _ x
  have hz2 : (h1.push { cls := .type "list", data := .seq #[Value.ref e] }).objs.size = h1.objs.size + 1 := Heap.size_push ..
  have hel : e < s.heap.objs.size := by obtain ⟨o, ho, _⟩ := he; exact Heap.lt_size ho
  refine wpAny_pure ⟨plainId_quiet PySem.F.plain_sum_loop _, sum_lists_loop (I := s.heap.objs.size) (S := h1.objs.size) (h0 := s.heap) (l := l) (vs := vs) (A := A) hh (by rw [hz1]; exact Nat.ne_of_lt (Nat.lt_succ_self _)) (Nat.le_refl _) (by rw [hz1]; omega) hl vs.size 0 { s with heap := h1.push { cls := .type "list", data := .seq #[Value.ref e] } } e [] 0 ys rfl (Nat.zero_le _) ⟨_, hk2 _ _ hit1, rfl, rfl⟩ (fun b o x => hk2 b o (hk1 b o x)) (by show _ ≤ (h1.push _).objs.size; rw [hz2, hz1]; omega) hS (he1.at fun o x => hk2 _ o x) (Nat.ne_of_lt (by rw [hz1]; exact Nat.lt_succ_of_lt hel)) (Nat.ne_of_lt hel) hyl (fun j y hj => ?_) (by simpa using hz) fun h' tk p hold hpos _ => ?_⟩
  · obtain ⟨b, e1, e2⟩ := hys j y hj
    exact ⟨b, by rw [Nat.zero_add]; exact e1, e2⟩
  · obtain ⟨e1, e2⟩ := hpos hn
    rw [List.nil_append] at e2
    exact h h' tk p hold e1 e2
end
/-- sum(lists, []) -/
def rSumL (K : PySem.W.Frag) : List V → Hp → VK → Prop := fun vs H Q => ∃ (a e : Addr) (xs : List V) (yss : List (List V)), vs = [.ref a, .ref e] ∧ SqL K H a xs ∧ SqL K H e [] ∧ 0 < xs.length ∧ yss.length = xs.length ∧ (∀ (j : Nat) (y : List V), yss[j]? = some y → ∃ b, xs[j]? = some (.ref b) ∧ SqL K H b y) ∧ yss.flatten.length ≤ sizeLine ∧
  ∀ p, H p = none → Q (.ref p) (upd H p (.lst yss.flatten))
theorem valsss {X : Cx} {pins : List (Addr × Obj)} {s : Shared} {σ : L2.St} {H : Hp} (I : Inv X pins σ H s) : ∀ {xs : List V} {us : List Value} {yss : List (List V)}, Vals xs us → yss.length = xs.length → (∀ (j : Nat) (y : List V), yss[j]? = some y → ∃ b, xs[j]? = some (.ref b) ∧ SqL X.K H b y) →
    ∃ zss : List (List Value), zss.length = us.length ∧ Vals yss.flatten zss.flatten ∧ ∀ (j : Nat) (y : List Value), zss[j]? = some y → ∃ b, us[j]? = some (.ref b) ∧ s.heap.IsList b y.toArray
  | _, _, [], .nil, _, _ => ⟨[], rfl, .nil, fun j y h => by simp at h⟩
  | _, _, _ :: _, .nil, l, _ => by simp at l
  | _, _, [], .cons _ _, l, _ => by simp at l
  | _, _, y :: yss, .cons r rr, l, h => by
    obtain ⟨zss, h1, h2, h3⟩ := valsss I rr (by simpa using l) fun j z hj => by
      obtain ⟨b, e1, e2⟩ := h (j + 1) z (by simpa using hj)
      exact ⟨b, by simpa using e1, e2⟩
    obtain ⟨b, e1, e2⟩ := h 0 y rfl
    simp only [List.getElem?_cons_zero, Option.some.injEq] at e1
    subst e1
    cases r
    obtain ⟨its, rv, pl, _⟩ := I.list e2
    refine ⟨its :: zss, congrArg Nat.succ h1, ?_, fun j z hj => ?_⟩
    · rw [List.flatten_cons, List.flatten_cons]
      exact rv.append h2
    · cases j with
      | zero =>
        simp only [List.getElem?_cons_zero, Option.some.injEq] at hj
        subst hj
        exact ⟨b, rfl, pl.isList⟩
      | succ j =>
        obtain ⟨b2, e3, e4⟩ := h3 j z (by simpa using hj)
        exact ⟨b2, by simpa using e3, e4⟩
theorem cr_sumL {X : Cx} (hc : X.calm = true) : CallR X (.builtin "sum") (rSumL X.K) := by
  intro pins s σ H vs us Q I r h
  obtain ⟨a, e, xs, yss, rfl, ha, he, hn, hl, hy, hz, q⟩ := h
  obtain ⟨its, rv, pl, _⟩ := I.list ha
  obtain ⟨its2, rv2, pl2, _⟩ := I.list he
  cases rv2
  cases r with
  | cons r1 r =>
    cases r with
    | cons r2 r =>
      cases r
      cases r1
      cases r2
      obtain ⟨zss, h1, h2, h3⟩ := valsss I rv hl hy
      have hlen := rv.length
      refine call_sum_lists (I.ok.hd hc) pl.isList pl2.isList (by rw [List.size_toArray]; omega) (by rw [List.size_toArray]; exact h1) (fun j y hj => ?_) (by rw [← h2.length]; exact hz) fun h' tk p hk hp hpo => ?_
      · obtain ⟨b, e1, e2⟩ := h3 j y hj
        exact ⟨b, by rw [List.getElem?_toArray]; exact e1, e2⟩
      · exact ⟨.ref p, _, I.laid (t' := tk) (o := .lst yss.flatten) hk hp ⟨hz, _, 0, h2, hpo⟩, rfl, q p (I.hok.fresh hp)⟩
end PD

set_option Elab.async false
set_option linter.all false
set_option maxRecDepth 100000
namespace PD
open PySem PySem.Spec PyProof.Rows L2
theorem listsOf_reps {K : PySem.W.Frag} {H : Hp} {O : Addr → Prop} : ∀ {us : List V} {ds : List D}, Reps K H O us ds → ∀ {xss : List (List D)}, listsOf ds = some xss →
    ∃ yss : List (List V), yss.length = us.length ∧ (∀ (j : Nat) (y : List V), yss[j]? = some y → ∃ b, us[j]? = some (.ref b) ∧ SqL K H b y) ∧ Reps K H O yss.flatten xss.flatten ∧ (xss ≠ [] → 0 < us.length)
  | _, _, .nil, xss, h => by
    simp only [listsOf] at h
    cases h
    exact ⟨[], rfl, fun j y h => by simp at h, .nil, fun h => absurd rfl h⟩
  | _, _, .cons (d := d) h0 r, xss, h => by
    cases h0 with
    | @lst a0 ws0 ds0 h1 h2 =>
      simp only [listsOf] at h
      cases q : listsOf _ with
      | none => rw [q] at h; cases h
      | some zss =>
        rw [q] at h
        cases h
        obtain ⟨yss, e1, e2, e3, _⟩ := listsOf_reps r q
        refine ⟨ws0 :: yss, congrArg Nat.succ e1, fun j y hj => ?_, ?_, fun _ => Nat.succ_pos _⟩
        · cases j with
          | zero =>
            simp only [List.getElem?_cons_zero, Option.some.injEq] at hj
            subst hj
            exact ⟨_, rfl, sqL_of h1⟩
          | succ j =>
            obtain ⟨b, e4, e5⟩ := e2 j y (by simpa using hj)
            exact ⟨b, by simpa using e4, e5⟩
        · show Reps K H O (ws0 :: yss).flatten (ds0 :: zss).flatten
          rw [List.flatten_cons, List.flatten_cons]
          exact h2.append e3
    | _ => simp only [listsOf] at h; cases h
section
variable {X : Cx} {F : Fr}
theorem bi_sumL (hK : F.K = X.K) (hc : X.calm = true) : BiOk X F .sumL (.builtin "sum") := by
  intro pins s σ0 H xs us Q I r h
  obtain ⟨σ, env, ps, A, Bs, ds, d, R, rs, hd, q⟩ := h
  have h2 : ∃ ws, ds = [.lst ws, .lst []] := by
    cases ds with
    | nil => cases hd
    | cons a t =>
      cases t with
      | nil => cases a <;> cases hd
      | cons b t =>
        cases t with
        | nil =>
          cases a with
          | lst ws =>
            cases b with
            | lst zs =>
              cases zs with
              | nil => exact ⟨ws, rfl⟩
              | cons _ _ => cases hd
            | _ => cases hd
          | _ => cases hd
        | cons _ _ => cases a <;> (try cases hd) <;> cases b <;> (try cases hd) <;> (rename_i zs; cases zs <;> cases hd)
  obtain ⟨ws, rfl⟩ := h2
  obtain ⟨v, w, rfl, r0, r1⟩ := rs.two
  obtain ⟨a, zs, rfl, h1, h2⟩ := r0.list
  obtain ⟨e, z0, rfl, h3, h4⟩ := r1.list
  have : z0 = [] := List.eq_nil_of_length_eq_zero h4.length
  subst this
  have hd : ((listsOf ws).bind fun xss => if xss ≠ [] ∧ xss.flatten.length ≤ line then some (D.own false xss.flatten) else none) = some d := hd
  obtain ⟨xss, e1, e2⟩ := Option.bind_eq_some_iff.mp hd
  split at e2
  · rename_i hcond
    cases e2
    obtain ⟨yss, q1, q2, q3, q4⟩ := listsOf_reps h2 e1
    rw [hK] at h1 h3
    refine cr_sumL hc pins s σ0 H _ us Q I r ⟨a, e, zs, yss, rfl, h1, h3, q4 hcond.1, q1, fun j y hj => ?_, by rw [q3.length, line_eq]; exact hcond.2, fun p hp => q _ _ (R.newLr q3 hp)⟩
    obtain ⟨b, e3, e4⟩ := q2 j y hj
    rw [hK] at e4
    exact ⟨b, e3, e4⟩
  · cases e2
end
/-- how a built-in of ours is named -/
inductive BK where
  | fn (id : String) | ty (id : String) | gl (id : String)
def biNm : BI → Option (Str × BK)
  | .len => some ("len", .fn "len") | .abs => some ("abs", .fn "abs") | .all => some ("all", .fn "all") | .any => some ("any", .fn "any") | .sum => some ("sum", .fn "sum") | .sumL => some ("sum", .fn "sum")
  | .repr => some ("repr", .fn "repr") | .max2 => some ("max", .fn "max") | .min2 => some ("min", .fn "min")
  | .int => some ("int", .ty "int") | .tuple => some ("tuple", .ty "tuple") | .list => some ("list", .ty "list")
  | .gcd => some ("gcd", .gl "math.gcd")
  | _ => none
def bkV : BK → Value
  | .fn id => .builtin id | .ty id => .type id | .gl id => .builtin id
theorem bi_ok {X : Cx} {F : Fr} (hK : F.K = X.K) (hc : X.calm = true) (hg : X.A.guards = some []) (hu : X.A.units + 65 < cLine) {b : BI} {x : Str} {k : BK} (h : biNm b = some (x, k)) : BiOk X F b (bkV k) := by
  cases b <;> cases h
  · exact bi_len hK
  · exact bi_abs hK
  · exact bi_int hK
  · exact bi_all hK hc
  · exact bi_any hK hc
  · exact bi_tuple hK
  · exact bi_list hK
  · exact bi_sum hK hc
  · exact bi_sumL hK hc
  · exact bi_repr hK hg hu
  · exact bi_gcd hK
  · exact bi_max2 hK hc
  · exact bi_min2 hK hc
theorem bi_boot {b : BI} {x : Str} {k : BK} (h : biNm b = some (x, k)) : match k with
    | .fn id => bootBuiltins x = some (.builtin id) ∧ x ≠ "__name__" ∧ (x == ("__debug__" : Str)) = false
    | .ty id => bootBuiltins x = some (.type id) ∧ x ≠ "__name__" ∧ (x == ("__debug__" : Str)) = false
    | .gl _ => (x == ("__debug__" : Str)) = false := by
  cases b <;> cases h <;> first
    | exact ⟨by decide +kernel, by decide +kernel, by decide +kernel⟩
    | exact (by decide +kernel)
end PD

set_option Elab.async false
set_option linter.all false
set_option maxRecDepth 100000
namespace PD
open PySem PySem.Spec PyProof.Rows L2

/-- a block of the text: its slots' names, its scope, the names that its frame stores itself -/
structure Ck where
  N : List Str
  sc : Scope
  fn : Str → Bool
/-- the text's defs by their numbers, its constants, the built-in names that it leaves alone -/
structure Tb where
  fs : List Str
  gs : List (Str × D)
  bl : List Str
  gcd : Bool
def Tb.gl (T : Tb) : Str → Option D := fun x => T.gs.lookup x
abbrev Ck.blk (c : Ck) (scope : Scope) : Ck := ⟨c.N, relS scope c.sc, fun x => scope.names.lookup x == some .cell⟩
def visB (sc : Scope) (x : Str) : Bool := match sc.names.lookup x with
  | some .local => true | some .cell => true | some .free => true | _ => false
def locB (sc : Scope) (x : Str) : Bool := match sc.names.lookup x with
  | some .local => true | some .cell => true | _ => false
def lclB (sc : Scope) (x : Str) : Bool := match sc.names.lookup x with
  | some .local => true | _ => false
def glB (sc : Scope) (x : Str) : Bool := match sc.names.lookup x with
  | some .globalImplicit => true | _ => false
def nmB (c : Ck) (i : Nat) (x : Str) : Bool := decide (c.N[i]? = some x) && (visB c.sc x && (!(x == ("__debug__" : Str)) && !(x == ("__classdict__" : Str))))
def tgB (c : Ck) (i : Nat) (x : Str) : Bool := decide (c.N[i]? = some x) && (locB c.sc x && (c.fn x || lclB c.sc x))
def noStar : Expr → Bool
  | .Starred .. => false
  | _ => true
def noSet : Expr → Bool
  | .Set .. => false
  | _ => true
def plT : Expr → Bool
  | .IfExp .. => false
  | _ => true
def plIx : Expr → Bool
  | .Slice .. => false
  | _ => true
def isTup : Expr → Bool
  | .Tuple .. => true
  | _ => false
mutual
def chG : IT → Ck → Expr → Bool
  | .nm i, c, e => match e with
    | .Name x _ => tgB c i x
    | _ => false
  | .tup ts, c, e => match e with
    | .Tuple es _ _ => decide (es.length = itLen ts) && chGs ts c es
    | _ => false
  | _, _, _ => false
termination_by structural t => t
def chGs : IT → Ck → List Expr → Bool
  | .nil, _, es => match es with
    | [] => true
    | _ => false
  | .cons t ts, c, es => match es with
    | e :: es => noStar e && (chG t c e && chGs ts c es)
    | [] => false
  | _, _, _ => false
termination_by structural t => t
end
def isYes : IE → Bool
  | .yes => true
  | _ => false
def isNo : IE → Bool
  | .no => true
  | _ => false
section
variable (T : Tb)
/-- a global name of the text's that is a built-in's -/
def blB (c : Ck) (x : Str) : Bool := glB c.sc x && decide (x ∈ T.bl)
def ownOf (N : List Str) (vs : List Nat) : List (Str × Nat) := vs.map fun v => ((N[v]?).getD ⟨#[]⟩, v)
def bkB (c : Ck) (x : Str) : Option (Str × BK) → Bool
  | some (y, .fn _) => decide (x = y) && blB T c x
  | some (y, .ty _) => decide (x = y) && blB T c x
  | some (y, .gl _) => decide (x = y) && (glB c.sc x && T.gcd)
  | none => false
def bkF (c : Ck) (x : Str) : Option (Str × BK) → Bool
  | some (y, .fn _) => decide (x = y) && blB T c x
  | some (y, .ty _) => decide (x = y) && blB T c x
  | _ => false
mutual
def chE : IE → Ck → Expr → Bool
  | .lc i, c, e => match e with
    | .Name x _ => nmB c i x
    | _ => false
  | .gl x, c, e => match e with
    | .Name y _ => decide (x = y) && (glB c.sc x && (!(x == ("__debug__" : Str)) && (T.gl x).isSome))
    | _ => false
  | .cst d, _, e => match e, d with
    | .Constant (.int j) _ _, .int i => decide (i = j)
    | .Constant (.bool j) _ _, .bl i => decide (i = j)
    | .Constant .none _ _, .non => true
    | .Constant (.str j) _ _, .str i => decide (i = j)
    | _, _ => false
  | .bin op a b, c, e => match e with
    | .BinOp l op' r _ => decide (op = op') && (chE a c l && chE b c r)
    | _ => false
  | .neg a, c, e => match e with
    | .UnaryOp .USub x _ => chE a c x
    | _ => false
  | .cmp op a b, c, e => match e with
    | .Compare l [op'] [r] _ => decide (op = op') && (chE a c l && (chE b c r && !behindInMarks op r))
    | _ => false
  | .cmpR op a i, c, e => match e with
    | .Compare l [op'] [.Name x p] _ => decide (op = op') && (chE a c l && (nmB c i x && !behindInMarks op (.Name x p)))
    | _ => false
  | .cmpL op i b, c, e => match e with
    | .Compare (.Name x _) [op'] [r] _ => decide (op = op') && (chE b c r && (nmB c i x && !behindInMarks op r))
    | _ => false
  | .chn op op2 a b d, c, e => match e with
    | .Compare l [op', op2'] [m, r] _ => decide (op = op') && (decide (op2 = op2') && (chE a c l && (chE b c m && (chE d c r && !lastMarks [op, op2] [m, r]))))
    | _ => false
  | .and_ a b, c, e => match e with
    | .BoolOp .And [x, y] _ => plT x && (plT y && (chE a c x && chE b c y))
    | .BoolOp .And (x :: y :: z :: r) p => plT x && (chE a c x && chE b c (.BoolOp .And (y :: z :: r) p))
    | _ => false
  | .or_ a b, c, e => match e with
    | .BoolOp .Or [x, y] _ => plT x && (plT y && (chE a c x && chE b c y))
    | .BoolOp .Or (x :: y :: z :: r) p => plT x && (chE a c x && chE b c (.BoolOp .Or (y :: z :: r) p))
    | _ => false
  | .not_ a, c, e => match e with
    | .UnaryOp .Not x _ => plT x && chE a c x
    | _ => false
  | .ite q a b, c, e => match e with
    | .IfExp t x y _ => plT t && (chE q c t && (chE a c x && chE b c y))
    | _ => false
  | .tup as, c, e => match e with
    | .Tuple es _ _ => chA as c es
    | _ => false
  | .lst as, c, e => match e with
    | .List es _ => chA as c es
    | _ => false
  | .sub a i, c, e => match e with
    | .Subscript o ix _ => plIx ix && (chE a c o && chE i c ix)
    | _ => false
  | .subB s i, c, e => match e with
    | .Subscript (.Name x _) ix _ => plIx ix && (nmB c s x && chE i c ix)
    | _ => false
  | .slc a lo hi, c, e => match e with
    | .Subscript o (.Slice l h none _) _ => chE a c o && ((match l with | none => isNo lo | some x => chE lo c x) && (match h with | none => isNo hi | some x => chE hi c x))
    | _ => false
  | .rev a, c, e => match e with
    | .Subscript o (.Slice none none (some (.UnaryOp .USub (.Constant (.int 1) _ _) _)) _) _ => chE a c o
    | _ => false
  | .comp elt t src cond vs, c, e => match e with
    | .ListComp el [⟨tg, it, ifs, 0⟩] scope _ => noSet it && (blkC c.N c.sc scope (ownOf c.N vs) && ((itNames t).all (fun i => vs.contains i) && (chI src c tg it && (chG t (c.blk scope) tg && ((match ifs with | [] => isYes cond | [x] => plT x && chE cond (c.blk scope) x | _ => false) && chE elt (c.blk scope) el)))))
    | _ => false
  | .compB elt t i cond vs, c, e => match e with
    | .ListComp el [⟨tg, .Name x _, ifs, 0⟩] scope _ => blkC c.N c.sc scope (ownOf c.N vs) && ((itNames t).all (fun i => vs.contains i) && (nmB c i x && (chG t (c.blk scope) tg && ((match ifs with | [] => isYes cond | [x] => plT x && chE cond (c.blk scope) x | _ => false) && chE elt (c.blk scope) el))))
    | _ => false
  | .callF f as, c, e => match e with
    | .Call (.Name x _) (a :: es) [] _ => decide (T.fs[f]? = some x) && (glB c.sc x && (!(x == ("__debug__" : Str)) && ((a :: es).all noStar && chA as c (a :: es))))
    | _ => false
  | .callIO f i as, c, e => match e with
    | .Call (.Name x _) (.Name y _ :: es) [] _ => decide (T.fs[f]? = some x) && (glB c.sc x && (!(x == ("__debug__" : Str)) && (nmB c i y && (es.all noStar && chA as c es))))
    | _ => false
  | .callB b as, c, e => match e with
    | .Call (.Name x _) (a :: es) [] _ => bkB T c x (biNm b) && ((a :: es).all noStar && chA as c (a :: es))
    | _ => false
  | .isi b a, c, e => match e with
    | .Call (.Name x _) [o, .Name y _] [] _ => decide (x = ("isinstance" : Str)) && (decide ((isiT b).map Str.ofString = some y) && (blB T c x && (blB T c y && (noStar o && chE a c o))))
    | _ => false
  | .callBB b i, c, e => match e with
    | .Call (.Name x _) [.Name y _] [] _ => bkF T c x (biNm b) && nmB c i y
    | _ => false
  | _, _, _ => false
termination_by structural a => a
def chA : IE → Ck → List Expr → Bool
  | .nil, _, es => match es with
    | [] => true
    | _ => false
  | .cons a as, c, es => match es with
    | e :: es => noStar e && (chE a c e && chA as c es)
    | [] => false
  | .star a as, c, es => match es with
    | .Starred e _ :: es => chE a c e && chA as c es
    | _ => false
  | _, _, _ => false
termination_by structural a => a
def chI : IE → Ck → Expr → Expr → Bool
  | .sE a, c, _, e => chE a c e
  | .sR1 a, c, _, e => match e with
    | .Call (.Name x _) [y] [] _ => decide (x = ("range" : Str)) && (blB T c x && (noStar y && chE a c y))
    | _ => false
  | .sR2 a b, c, _, e => match e with
    | .Call (.Name x _) [y, z] [] _ => decide (x = ("range" : Str)) && (blB T c x && (noStar y && (noStar z && (chE a c y && chE b c z))))
    | _ => false
  | .sEn a, c, t, e => match e with
    | .Call (.Name x _) [y] [] _ => decide (x = ("enumerate" : Str)) && (isTup t && (blB T c x && (noStar y && chE a c y)))
    | _ => false
  | .sZp a b, c, t, e => match e with
    | .Call (.Name x _) [y, z] [] _ => decide (x = ("zip" : Str)) && (isTup t && (blB T c x && (noStar y && (noStar z && (chE a c y && chE b c z)))))
    | _ => false
  | _, _, _, _ => false
termination_by structural a => a
end
end
end PD

set_option Elab.async false
set_option linter.all false
set_option maxRecDepth 100000
namespace PD
open PySem PySem.Spec PyProof.Rows L2

/-- a context of ours for a block of the text -/
structure Gd (K : PySem.W.Frag) (mg : Str → Option Value) (P : Program) (w : World) (base : Heap) (k : Nat) (X : Cx) (c : Ck) : Prop where
  hN : X.N = c.N
  nd : c.N.Nodup
  sc : X.env.scope = c.sc
  fn : X.fn = c.fn
  calm : X.calm = true
  K : X.K = K
  mg : X.mg = mg
  prog : X.prog = P
  w : X.w = w
  base : X.base = base
  room : Room k X.A
  gd : X.A.guards = some []
/-- what the module's names hold -/
structure Facts (T : Tb) (cf : CallF) (XR : XRT) (K : PySem.W.Frag) (mg : Str → Option Value) (P : Program) (w : World) (base : Heap) (k : Nat) : Prop where
  fs : ∀ i x, T.fs[i]? = some x → ∃ f fd pn n, FnG P w K mg base k f fd pn (spOf K XR n (cf i)) ∧ mg x = some (.ref f) ∧ PySem.W.keepIn K (.ref f) = true ∧ Binds K fd pn []
  gs : ∀ x d, T.gl x = some d → ∃ u v, mg x = some u ∧ RelV v u ∧ ∀ H O, Rep K H O v d
  bl : ∀ x ∈ T.bl, mg x = none
  gcd : T.gcd = true → mg "gcd" = some (.builtin "math.gcd")

theorem visB_ok {sc : Scope} {x : Str} (h : visB sc x = true) : Vis sc x := by
  unfold visB at h
  split at h
  · rename_i q; exact .inl q
  · rename_i q; exact .inr (.inl q)
  · rename_i q; exact .inr (.inr q)
  · cases h
theorem locB_ok {sc : Scope} {x : Str} (h : locB sc x = true) : Loc sc x := by
  unfold locB at h
  split at h
  · rename_i q; exact .inl q
  · rename_i q; exact .inr q
  · cases h
theorem lclB_ok {sc : Scope} {x : Str} (h : lclB sc x = true) : sc.names.lookup x = some .local := by
  unfold lclB at h
  split at h
  · rename_i q; exact q
  · cases h
theorem glB_ok {sc : Scope} {x : Str} (h : glB sc x = true) : sc.names.lookup x = some .globalImplicit := by
  unfold glB at h
  split at h
  · rename_i q; exact q
  · cases h
theorem star_no {e : Expr} {es : List Expr} {env : PySem.Env} (h : noStar e = true) : starEach (e :: es) env = (false, eval e env) :: starEach es env := by
  cases e <;> first | rfl | cases h
theorem star_any {env : PySem.Env} {pos : Pos} : ∀ {es : List Expr}, es.all noStar = true → (backTo pos (starEach es env)).any (·.1) = false
  | [], _ => rfl
  | e :: es, h => by
    rw [List.all_cons, Bool.and_eq_true] at h
    rw [star_no h.1]
    show (false || (backTo pos (starEach es env)).any (·.1)) = false
    rw [star_any h.2]
    rfl
theorem asg_no {e : Expr} {es : List Expr} {env : PySem.Env} (h : noStar e = true) : assignEach (e :: es) env = (false, assign e env) :: assignEach es env := by
  cases e <;> first | rfl | cases h
theorem fold_no {e : Expr} {env : PySem.Env} (h : noSet e = true) : ∀ x, foldedSetIterable e env x = pure x := by
  intro x
  cases e <;> first | rfl | cases h
theorem ix_no {e : Expr} (h : plIx e = true) : PlainIx e := by
  intro o i
  cases e <;> first | rfl | cases h
section
variable {K : PySem.W.Frag} {mg : Str → Option Value} {P : Program} {w : World} {base : Heap} {k : Nat} {X : Cx} {c : Ck} {T : Tb} {cf : CallF} {XR : XRT} {W : WX} {F : Fr}
theorem Gd.name (G : Gd K mg P w base k X c) {i : Nat} {x : Str} (h : nmB c i x = true) : X.N[i]? = some x ∧ Vis X.env.scope x ∧ (x == ("__debug__" : Str)) = false ∧ (x == ("__classdict__" : Str)) = false := by
  unfold nmB at h
  simp only [Bool.and_eq_true, decide_eq_true_eq, Bool.not_eq_true'] at h
  exact ⟨by rw [G.hN]; exact h.1, by rw [G.sc]; exact visB_ok h.2.1, h.2.2.1, h.2.2.2⟩
theorem Gd.gl (G : Gd K mg P w base k X c) {x : Str} (h : glB c.sc x = true) : Gl X x := by
  show X.env.scope.names.lookup x = _
  rw [G.sc]
  exact glB_ok h
theorem Gd.blt (G : Gd K mg P w base k X c) (FF : Facts T cf XR K mg P w base k) {x : Str} (h : blB T c x = true) : Gl X x ∧ X.mg x = none := by
  unfold blB at h
  rw [Bool.and_eq_true, decide_eq_true_eq] at h
  exact ⟨G.gl h.1, by rw [G.mg]; exact FF.bl x h.2⟩
theorem Gd.tg (G : Gd K mg P w base k X c) {i : Nat} {x : Str} (h : tgB c i x = true) : X.N.Nodup ∧ X.N[i]? = some x ∧ Loc X.env.scope x ∧ (X.fn x = true ∨ X.env.scope.names.lookup x = some .local) := by
  unfold tgB at h
  simp only [Bool.and_eq_true, decide_eq_true_eq, Bool.or_eq_true] at h
  exact ⟨by rw [G.hN]; exact G.nd, by rw [G.hN]; exact h.1, by rw [G.sc]; exact locB_ok h.2.1, by rw [G.fn, G.sc]; exact h.2.2.imp id lclB_ok⟩
theorem Gd.units (G : Gd K mg P w base k X c) : X.A.units + 65 < cLine := by have := G.room.un; omega
theorem Gd.blk (G : Gd K mg P w base k X c) (s : Shared) (H : Hp) (scope : Scope) (C : Addr) (cl : List (Str × Addr)) (fp : List Addr) : Gd K mg P w base k (X.blk s H scope (compEnvC scope cl C X.env) fp) (c.blk scope) :=
  ⟨G.hN, G.nd, by show relabel scope X.env = relS scope c.sc; rw [← G.sc]; rfl, rfl, G.calm, G.K, G.mg, G.prog, G.w, G.base, G.room, G.gd⟩
theorem takesF (X : Cx) : Takes X Wf := takes0

theorem chGs_len : ∀ {ts : IT} {c : Ck} {es : List Expr} {env : PySem.Env}, chGs ts c es = true → (assignEach es env).findIdx? (·.1) = none ∧ (assignEach es env).length = es.length
  | .nil, c, es, env, h => by
    simp only [chGs] at h
    split at h
    · exact ⟨rfl, rfl⟩
    · cases h
  | .cons t ts, c, es, env, h => by
    simp only [chGs] at h
    split at h
    · rename_i e es
      rw [Bool.and_eq_true, Bool.and_eq_true] at h
      obtain ⟨h1, h2⟩ := chGs_len (env := env) h.2.2
      rw [asg_no h.1]
      exact ⟨by rw [List.findIdx?_cons, if_neg (by simp), h1]; rfl, congrArg Nat.succ h2⟩
    · cases h
  | .nm _, _, _, _, h => (Bool.false_ne_true h).elim
  | .tup _, _, _, _, h => (Bool.false_ne_true h).elim
theorem ch_tg (G : Gd K mg P w base k X c) (hF : F.K = K) : ∀ t : IT, (∀ e, chG t c e = true → PG X e (tG F t)) ∧ (∀ es, chGs t c es = true → PGs X es (tGs F t)) := by
  intro t
  induction t with
  | nm i =>
    refine ⟨fun e h => ?_, fun es h => (Bool.false_ne_true h).elim⟩
    simp only [chG] at h
    split at h
    · obtain ⟨h1, h2, h3, h4⟩ := G.tg h
      exact g_nm h1 h2 h3 h4
    · cases h
  | tup ts ih =>
    refine ⟨fun e h => ?_, fun es h => (Bool.false_ne_true h).elim⟩
    simp only [chG] at h
    split at h
    · rename_i es kk pos
      rw [Bool.and_eq_true, decide_eq_true_eq] at h
      obtain ⟨h1, h2⟩ := chGs_len (env := X.env) h.2
      refine g_tup (by rw [hF, G.K]) G.calm (ih.2 es h.2) (n := es.length) h2 (fun ds env e' q => ?_) h1
      rw [h.1]
      exact asgs_len ts ds env e' q
    · cases h
  | nil =>
    refine ⟨fun e h => (Bool.false_ne_true h).elim, fun es h => ?_⟩
    simp only [chGs] at h
    split at h
    · exact g_nil
    · cases h
  | cons t ts ih1 ih2 =>
    refine ⟨fun e h => (Bool.false_ne_true h).elim, fun es h => ?_⟩
    simp only [chGs] at h
    split at h
    · rename_i e es
      rw [Bool.and_eq_true, Bool.and_eq_true] at h
      exact g_cons (ih1.1 e h.2.1) (ih2.2 es h.2.2) (by rw [asg_no h.1]; rfl)
    · cases h
end
theorem ownOf_snd {N : List Str} {vs : List Nat} : (ownOf N vs).map (·.2) = vs := by
  unfold ownOf
  rw [List.map_map]
  show vs.map (fun v => v) = vs
  exact List.map_id' vs
/-- an expression that is no test of its own kind -/
theorem pe3 {X : Cx} {cf : CallF} {gl : Str → Option D} {F : Fr} {XR : XRT} {W : WX} {ie : IE} {e : Expr} (hK : F.K = X.K) (h : PE X e (tEv cf gl F XR W ie)) (he : plT e = true → ∀ whole, isTrue e X.env whole = (do let v ← whole; standAt e.pos; holding [v] (truthy v))) (hb : ∀ op vs p, e ≠ .BoolOp op vs p) :
    PE X e (tEv cf gl F XR W ie) ∧ (plT e = true → PT X e (tTs cf gl F XR W ie)) ∧ (∀ op vs p, e = .BoolOp op vs p → PW X e (tTs cf gl F XR W ie)) :=
  ⟨h, fun hp => t_plain hK h (he hp), fun op vs p q => (hb _ _ _ q).elim⟩
/-- .. a comparison, a not -/
theorem pe3t {X : Cx} {cf : CallF} {gl : Str → Option D} {F : Fr} {XR : XRT} {W : WX} {ie : IE} {e : Expr} (h : PE X e (tEv cf gl F XR W ie)) (ht : PT X e (tTs cf gl F XR W ie)) (hb : ∀ op vs p, e ≠ .BoolOp op vs p) :
    PE X e (tEv cf gl F XR W ie) ∧ (plT e = true → PT X e (tTs cf gl F XR W ie)) ∧ (∀ op vs p, e = .BoolOp op vs p → PW X e (tTs cf gl F XR W ie)) :=
  ⟨h, fun _ => ht, fun op vs p q => (hb _ _ _ q).elim⟩
/-- .. an and, an or -/
theorem pe3b {X : Cx} {cf : CallF} {gl : Str → Option D} {F : Fr} {XR : XRT} {W : WX} {ie : IE} {e : Expr} (h : PE X e (tEv cf gl F XR W ie)) (ht : PW X e (tTs cf gl F XR W ie)) :
    PE X e (tEv cf gl F XR W ie) ∧ (plT e = true → PT X e (tTs cf gl F XR W ie)) ∧ (∀ op vs p, e = .BoolOp op vs p → PW X e (tTs cf gl F XR W ie)) :=
  ⟨h, fun _ => ht.pt, fun op vs p q => ht⟩
section
variable {K : PySem.W.Frag} {mg : Str → Option Value} {P : Program} {w : World} {base : Heap} {k : Nat} {T : Tb} {cf : CallF} {XR : XRT}
/-- what is to be shown of a term -/
def OkE (K : PySem.W.Frag) (mg : Str → Option Value) (P : Program) (w : World) (base : Heap) (k : Nat) (T : Tb) (cf : CallF) (XR : XRT) (ie : IE) : Prop :=
  ∀ (X : Cx) (c : Ck) (W : WX) (F : Fr), Gd K mg P w base k X c → Takes X W → F.K = K →
    (∀ e, chE T ie c e = true → PE X e (tEv cf T.gl F XR W ie) ∧ (plT e = true → PT X e (tTs cf T.gl F XR W ie)) ∧ (∀ op vs p, e = .BoolOp op vs p → PW X e (tTs cf T.gl F XR W ie))) ∧
    (∀ es, chA T ie c es = true → PA X es (tEvs cf T.gl F XR W ie)) ∧
    (∀ tg e, noSet e = true → chI T ie c tg e = true → PI X tg e (tIt cf T.gl F XR W ie))
theorem isi_boot {b : BI} {n : String} (h : isiT b = some n) : bootBuiltins (Str.ofString n) = some (.type n) ∧ Str.ofString n ≠ "__name__" ∧ (Str.ofString n == ("__debug__" : Str)) = false := by
  cases b <;> cases h <;> exact ⟨by decide +kernel, by decide +kernel, by decide +kernel⟩
theorem ok_E (FF : Facts T cf XR K mg P w base k) : ∀ ie : IE, OkE K mg P w base k T cf XR ie := by
  intro ie
  induction ie with
  | lc i =>
    intro X c W F G tk hF
    have hK : F.K = X.K := hF.trans G.K.symm
    refine ⟨fun e h => ?_, fun es h => (Bool.false_ne_true h).elim, fun tg e _ h => (Bool.false_ne_true h).elim⟩
    simp only [chE] at h
    split at h
    · obtain ⟨h1, h2, h3, h4⟩ := G.name h
      exact pe3 hK (e_lc h1 h2 h3 h4) (fun _ _ => rfl) (fun _ _ _ q => nomatch q)
    · cases h
  | gl x =>
    intro X c W F G tk hF
    have hK : F.K = X.K := hF.trans G.K.symm
    have hu := G.units
    refine ⟨fun e h => ?_, fun es h => (Bool.false_ne_true h).elim, fun tg e _ h => (Bool.false_ne_true h).elim⟩
    simp only [chE] at h
    split at h
    · rename_i y p
      simp only [Bool.and_eq_true, decide_eq_true_eq, Bool.not_eq_true'] at h
      obtain ⟨rfl, h1, h2, h3⟩ := h
      obtain ⟨d, hd⟩ := Option.isSome_iff_exists.mp h3
      obtain ⟨u, v, q1, q2, q3⟩ := FF.gs _ _ hd
      exact pe3 hK (e_gl (G.gl h1) (by rw [G.mg]; exact q1) q2 hd (by rw [hF]; exact q3) h2) (fun _ _ => rfl) (fun _ _ _ q => nomatch q)
    · cases h
  | cst d =>
    intro X c W F G tk hF
    have hK : F.K = X.K := hF.trans G.K.symm
    have hu := G.units
    refine ⟨fun e h => ?_, fun es h => (Bool.false_ne_true h).elim, fun tg e _ h => (Bool.false_ne_true h).elim⟩
    simp only [chE] at h
    split at h
    · rw [decide_eq_true_eq] at h
      subst h
      exact pe3 hK e_int (fun _ _ => rfl) (fun _ _ _ q => nomatch q)
    · rw [decide_eq_true_eq] at h
      subst h
      exact pe3 hK e_bl (fun _ _ => rfl) (fun _ _ _ q => nomatch q)
    · exact pe3 hK e_non (fun _ _ => rfl) (fun _ _ _ q => nomatch q)
    · rw [decide_eq_true_eq] at h
      subst h
      exact pe3 hK e_str (fun _ _ => rfl) (fun _ _ _ q => nomatch q)
    · cases h
  | bin op a b iha ihb =>
    intro X c W F G tk hF
    have hK : F.K = X.K := hF.trans G.K.symm
    have hu := G.units
    refine ⟨fun e h => ?_, fun es h => (Bool.false_ne_true h).elim, fun tg e _ h => (Bool.false_ne_true h).elim⟩
    simp only [chE] at h
    split at h
    · simp only [Bool.and_eq_true, decide_eq_true_eq, Bool.not_eq_true'] at h
      obtain ⟨rfl, h1, h2⟩ := h
      exact pe3 hK (e_bin hK ((iha X c W F G tk hF).1 _ h1).1 ((ihb X c W F G tk hF).1 _ h2).1) (fun _ _ => rfl) (fun _ _ _ q => nomatch q)
    · cases h
  | neg a iha =>
    intro X c W F G tk hF
    have hK : F.K = X.K := hF.trans G.K.symm
    have hu := G.units
    refine ⟨fun e h => ?_, fun es h => (Bool.false_ne_true h).elim, fun tg e _ h => (Bool.false_ne_true h).elim⟩
    simp only [chE] at h
    split at h
    · exact pe3 hK (e_neg rfl ((iha X c W F G tk hF).1 _ h).1) (fun _ _ => rfl) (fun _ _ _ q => nomatch q)
    · cases h
  | cmp op a b iha ihb =>
    intro X c W F G tk hF
    have hK : F.K = X.K := hF.trans G.K.symm
    have hu := G.units
    refine ⟨fun e h => ?_, fun es h => (Bool.false_ne_true h).elim, fun tg e _ h => (Bool.false_ne_true h).elim⟩
    simp only [chE] at h
    split at h
    · simp only [Bool.and_eq_true, decide_eq_true_eq, Bool.not_eq_true'] at h
      obtain ⟨rfl, h1, h2, h3⟩ := h
      exact pe3t (e_cmp hK hu ((iha X c W F G tk hF).1 _ h1).1 ((ihb X c W F G tk hF).1 _ h2).1 h3) (t_cmp hK hu ((iha X c W F G tk hF).1 _ h1).1 ((ihb X c W F G tk hF).1 _ h2).1 h3) (fun _ _ _ q => nomatch q)
    · cases h
  | cmpR op a i iha =>
    intro X c W F G tk hF
    have hK : F.K = X.K := hF.trans G.K.symm
    have hu := G.units
    refine ⟨fun e h => ?_, fun es h => (Bool.false_ne_true h).elim, fun tg e _ h => (Bool.false_ne_true h).elim⟩
    simp only [chE] at h
    split at h
    · simp only [Bool.and_eq_true, decide_eq_true_eq, Bool.not_eq_true'] at h
      obtain ⟨rfl, h1, h2, h3⟩ := h
      obtain ⟨n1, n2, n3, n4⟩ := G.name h2
      exact pe3t (e_cmpR hK hu ((iha X c W F G tk hF).1 _ h1).1 n1 n2 n3 n4 h3) (t_cmpR hK hu ((iha X c W F G tk hF).1 _ h1).1 n1 n2 n3 n4 h3) (fun _ _ _ q => nomatch q)
    · cases h
  | cmpL op i b ihb =>
    intro X c W F G tk hF
    have hK : F.K = X.K := hF.trans G.K.symm
    have hu := G.units
    refine ⟨fun e h => ?_, fun es h => (Bool.false_ne_true h).elim, fun tg e _ h => (Bool.false_ne_true h).elim⟩
    simp only [chE] at h
    split at h
    · simp only [Bool.and_eq_true, decide_eq_true_eq, Bool.not_eq_true'] at h
      obtain ⟨rfl, h1, h2, h3⟩ := h
      obtain ⟨n1, n2, n3, n4⟩ := G.name h2
      exact pe3t (e_cmpL hK hu ((ihb X c W F G tk hF).1 _ h1).1 n1 n2 n3 n4 h3) (t_cmpL hK hu ((ihb X c W F G tk hF).1 _ h1).1 n1 n2 n3 n4 h3) (fun _ _ _ q => nomatch q)
    · cases h
  | chn op op2 a b d iha ihb ihd =>
    intro X c W F G tk hF
    have hK : F.K = X.K := hF.trans G.K.symm
    have hu := G.units
    refine ⟨fun e h => ?_, fun es h => (Bool.false_ne_true h).elim, fun tg e _ h => (Bool.false_ne_true h).elim⟩
    simp only [chE] at h
    split at h
    · simp only [Bool.and_eq_true, decide_eq_true_eq, Bool.not_eq_true'] at h
      obtain ⟨rfl, rfl, h1, h2, h3, h4⟩ := h
      exact pe3t (e_chn hK hu ((iha X c W F G tk hF).1 _ h1).1 ((ihb X c W F G tk hF).1 _ h2).1 ((ihd X c W F G tk hF).1 _ h3).1 h4) (t_chn hK hu ((iha X c W F G tk hF).1 _ h1).1 ((ihb X c W F G tk hF).1 _ h2).1 ((ihd X c W F G tk hF).1 _ h3).1 h4) (fun _ _ _ q => nomatch q)
    · cases h
  | and_ a b iha ihb =>
    intro X c W F G tk hF
    have hK : F.K = X.K := hF.trans G.K.symm
    have hu := G.units
    refine ⟨fun e h => ?_, fun es h => (Bool.false_ne_true h).elim, fun tg e _ h => (Bool.false_ne_true h).elim⟩
    simp only [chE] at h
    split at h
    · simp only [Bool.and_eq_true, decide_eq_true_eq, Bool.not_eq_true'] at h
      obtain ⟨p1, p2, h1, h2⟩ := h
      have qa := (iha X c W F G tk hF).1 _ h1
      have qb := (ihb X c W F G tk hF).1 _ h2
      exact pe3b (e_and hK qa.1 (e_one qb.1)) (t_and (qa.2.1 p1) (t_and1 (qb.2.1 p2)))
    · simp only [Bool.and_eq_true, decide_eq_true_eq, Bool.not_eq_true'] at h
      obtain ⟨p1, h1, h2⟩ := h
      have qa := (iha X c W F G tk hF).1 _ h1
      have qb := (ihb X c W F G tk hF).1 _ h2
      exact pe3b (e_and hK qa.1 qb.1) (t_and (qa.2.1 p1) (qb.2.2 _ _ _ rfl))
    · cases h
  | or_ a b iha ihb =>
    intro X c W F G tk hF
    have hK : F.K = X.K := hF.trans G.K.symm
    have hu := G.units
    refine ⟨fun e h => ?_, fun es h => (Bool.false_ne_true h).elim, fun tg e _ h => (Bool.false_ne_true h).elim⟩
    simp only [chE] at h
    split at h
    · simp only [Bool.and_eq_true, decide_eq_true_eq, Bool.not_eq_true'] at h
      obtain ⟨p1, p2, h1, h2⟩ := h
      have qa := (iha X c W F G tk hF).1 _ h1
      have qb := (ihb X c W F G tk hF).1 _ h2
      exact pe3b (e_or hK qa.1 (e_one qb.1)) (t_or (qa.2.1 p1) (t_or1 (qb.2.1 p2)))
    · simp only [Bool.and_eq_true, decide_eq_true_eq, Bool.not_eq_true'] at h
      obtain ⟨p1, h1, h2⟩ := h
      have qa := (iha X c W F G tk hF).1 _ h1
      have qb := (ihb X c W F G tk hF).1 _ h2
      exact pe3b (e_or hK qa.1 qb.1) (t_or (qa.2.1 p1) (qb.2.2 _ _ _ rfl))
    · cases h
  | not_ a iha =>
    intro X c W F G tk hF
    have hK : F.K = X.K := hF.trans G.K.symm
    have hu := G.units
    refine ⟨fun e h => ?_, fun es h => (Bool.false_ne_true h).elim, fun tg e _ h => (Bool.false_ne_true h).elim⟩
    simp only [chE] at h
    split at h
    · simp only [Bool.and_eq_true, decide_eq_true_eq, Bool.not_eq_true'] at h
      have qa := (iha X c W F G tk hF).1 _ h.2
      exact pe3t (e_not hK qa.1) (t_not (qa.2.1 h.1)) (fun _ _ _ q => nomatch q)
    · cases h
  | ite q a b ihq iha ihb =>
    intro X c W F G tk hF
    have hK : F.K = X.K := hF.trans G.K.symm
    have hu := G.units
    refine ⟨fun e h => ?_, fun es h => (Bool.false_ne_true h).elim, fun tg e _ h => (Bool.false_ne_true h).elim⟩
    simp only [chE] at h
    split at h
    · simp only [Bool.and_eq_true, decide_eq_true_eq, Bool.not_eq_true'] at h
      obtain ⟨p1, h1, h2, h3⟩ := h
      refine ⟨e_ite (((ihq X c W F G tk hF).1 _ h1).2.1 p1) ((iha X c W F G tk hF).1 _ h2).1 ((ihb X c W F G tk hF).1 _ h3).1, fun z => (Bool.false_ne_true z).elim, fun _ _ _ q => nomatch q⟩
    · cases h
  | tup as ih =>
    intro X c W F G tk hF
    have hK : F.K = X.K := hF.trans G.K.symm
    have hu := G.units
    refine ⟨fun e h => ?_, fun es h => (Bool.false_ne_true h).elim, fun tg e _ h => (Bool.false_ne_true h).elim⟩
    simp only [chE] at h
    split at h
    · exact pe3 hK (e_tup ((ih X c W F G tk hF).2.1 _ h)) (fun _ _ => rfl) (fun _ _ _ q => nomatch q)
    · cases h
  | lst as ih =>
    intro X c W F G tk hF
    have hK : F.K = X.K := hF.trans G.K.symm
    have hu := G.units
    refine ⟨fun e h => ?_, fun es h => (Bool.false_ne_true h).elim, fun tg e _ h => (Bool.false_ne_true h).elim⟩
    simp only [chE] at h
    split at h
    · exact pe3 hK (e_lst ((ih X c W F G tk hF).2.1 _ h)) (fun _ _ => rfl) (fun _ _ _ q => nomatch q)
    · cases h
  | sub a i iha ihi =>
    intro X c W F G tk hF
    have hK : F.K = X.K := hF.trans G.K.symm
    have hu := G.units
    refine ⟨fun e h => ?_, fun es h => (Bool.false_ne_true h).elim, fun tg e _ h => (Bool.false_ne_true h).elim⟩
    simp only [chE] at h
    split at h
    · simp only [Bool.and_eq_true, decide_eq_true_eq, Bool.not_eq_true'] at h
      obtain ⟨p1, h1, h2⟩ := h
      exact pe3 hK (e_sub hK ((iha X c W F G tk hF).1 _ h1).1 ((ihi X c W F G tk hF).1 _ h2).1 (ix_no p1)) (fun _ _ => rfl) (fun _ _ _ q => nomatch q)
    · cases h
  | subB s i ihi =>
    intro X c W F G tk hF
    have hK : F.K = X.K := hF.trans G.K.symm
    have hu := G.units
    refine ⟨fun e h => ?_, fun es h => (Bool.false_ne_true h).elim, fun tg e _ h => (Bool.false_ne_true h).elim⟩
    simp only [chE] at h
    split at h
    · simp only [Bool.and_eq_true, decide_eq_true_eq, Bool.not_eq_true'] at h
      obtain ⟨p1, h1, h2⟩ := h
      obtain ⟨n1, n2, n3, n4⟩ := G.name h1
      exact pe3 hK (e_subB hK n1 n2 n3 n4 ((ihi X c W F G tk hF).1 _ h2).1 (ix_no p1)) (fun _ _ => rfl) (fun _ _ _ q => nomatch q)
    · cases h
  | slc a lo hi iha ihl ihh =>
    intro X c W F G tk hF
    have hK : F.K = X.K := hF.trans G.K.symm
    have hu := G.units
    refine ⟨fun e h => ?_, fun es h => (Bool.false_ne_true h).elim, fun tg e _ h => (Bool.false_ne_true h).elim⟩
    simp only [chE] at h
    split at h
    · rename_i o l hh _ _
      simp only [Bool.and_eq_true, decide_eq_true_eq, Bool.not_eq_true'] at h
      obtain ⟨h1, h2, h3⟩ := h
      have part : ∀ (z : Option Expr) (iz : IE), OkE K mg P w base k T cf XR iz → (match z with | none => isNo iz | some x => chE T iz c x) = true → PO X z (tPt cf T.gl F XR W iz) := by
        intro z iz ih hz
        cases z with
        | none =>
          have hz : isNo iz = true := hz
          cases iz <;> first | exact p_no | cases hz
        | some x => exact p_yes ((ih X c W F G tk hF).1 _ hz).1
      exact pe3 hK (e_slc hK ((iha X c W F G tk hF).1 _ h1).1 (part l lo ihl h2) (part hh hi ihh h3)) (fun _ _ => rfl) (fun _ _ _ q => nomatch q)
    · cases h
  | rev a iha =>
    intro X c W F G tk hF
    have hK : F.K = X.K := hF.trans G.K.symm
    have hu := G.units
    refine ⟨fun e h => ?_, fun es h => (Bool.false_ne_true h).elim, fun tg e _ h => (Bool.false_ne_true h).elim⟩
    simp only [chE] at h
    split at h
    · exact pe3 hK (e_rev hK ((iha X c W F G tk hF).1 _ h).1) (fun _ _ => rfl) (fun _ _ _ q => nomatch q)
    · cases h
  | comp elt t src cond vs ihe ihs ihc =>
    intro X c W F G tk hF
    have hK : F.K = X.K := hF.trans G.K.symm
    have hu := G.units
    refine ⟨fun e h => ?_, fun es h => (Bool.false_ne_true h).elim, fun tg e _ h => (Bool.false_ne_true h).elim⟩
    simp only [chE] at h
    split at h
    · rename_i el tg it ifs scope pos
      simp only [Bool.and_eq_true, decide_eq_true_eq, Bool.not_eq_true'] at h
      obtain ⟨h1, h2, h3, h4, h5, h6, h7⟩ := h
      have hb : ∀ (s : Shared) (H : Hp) (C : Addr) (cl : List (Str × Addr)) (fp : List Addr), Gd K mg P w base k (X.blk s H scope (compEnvC scope cl C X.env) fp) (c.blk scope) := fun s H C cl fp => G.blk s H scope C cl fp
      have hin : ∀ i ∈ itNames t, i ∈ vs := fun i hi => by simpa using List.all_eq_true.mp h3 i hi
      refine pe3 hK (PE.of (pe_lc (own := ownOf c.N vs) (tt := tTs cf T.gl F XR Wf cond) G.calm (by rw [G.hN]; exact G.nd) ((ihs X c W F G tk hF).2.2 tg it h1 h4) (by rw [G.hN, G.sc]; exact blkOk_by h2)
        (fun s H C cl fp => (ch_tg (hb s H C cl fp) hF t).1 tg h5) (fun s H C cl fp => ?_) (fun s H C cl fp => ((ihe _ _ Wf F (hb s H C cl fp) (takesF _) hF).1 el h7).1) (fold_no h1)) (fun σ H Q q => ?_)) (fun _ _ => rfl) (fun _ _ _ q => nomatch q)
      · cases ifs with
        | nil =>
          have h6 : isYes cond = true := h6
          cases cond <;> first | exact pts_yes | cases h6
        | cons x r =>
          cases r with
          | nil =>
            have h6 : (plT x && chE T cond (c.blk scope) x) = true := h6
            rw [Bool.and_eq_true] at h6
            exact pts_one (((ihc _ _ Wf F (hb s H C cl fp) (takesF _) hF).1 x h6.2).2.1 h6.1)
          | cons _ _ => exact (Bool.false_ne_true h6).elim
      · rw [ownOf_snd]
        exact w_comp hin σ H Q q
    · cases h
  | compB elt t i cond vs ihe ihc =>
    intro X c W F G tk hF
    have hK : F.K = X.K := hF.trans G.K.symm
    have hu := G.units
    refine ⟨fun e h => ?_, fun es h => (Bool.false_ne_true h).elim, fun tg e _ h => (Bool.false_ne_true h).elim⟩
    simp only [chE] at h
    split at h
    · rename_i el tg x p ifs scope pos
      simp only [Bool.and_eq_true, decide_eq_true_eq, Bool.not_eq_true'] at h
      obtain ⟨h2, h3, h4, h5, h6, h7⟩ := h
      obtain ⟨n1, n2, n3, n4⟩ := G.name h4
      have hb : ∀ (s : Shared) (H : Hp) (C : Addr) (cl : List (Str × Addr)) (fp : List Addr), Gd K mg P w base k (X.blk s H scope (compEnvC scope cl C X.env) fp) (c.blk scope) := fun s H C cl fp => G.blk s H scope C cl fp
      have hin : ∀ i ∈ itNames t, i ∈ vs := fun i hi => by simpa using List.all_eq_true.mp h3 i hi
      refine pe3 hK (PE.of (pe_lc (own := ownOf c.N vs) (tt := fun σ H Q => ∃ F', OfK K F' ∧ tTs cf T.gl F' XR Wf cond σ H Q) G.calm (by rw [G.hN]; exact G.nd) (i_slot n1 n2 n3 n4) (by rw [G.hN, G.sc]; exact blkOk_by h2)
        (fun s H C cl fp => PG.any (P := OfK K) fun F' hF' => (ch_tg (hb s H C cl fp) hF' t).1 tg h5) (fun s H C cl fp => ?_) (fun s H C cl fp => PE.any (P := OfK K) fun F' hF' => ((ihe _ _ Wf F' (hb s H C cl fp) (takesF _) hF').1 el h7).1) (fun _ => rfl)) (fun σ H Q q => ?_)) (fun _ _ => rfl) (fun _ _ _ q => nomatch q)
      · refine PTs.any (P := OfK K) fun F' hF' => ?_
        cases ifs with
        | nil =>
          have h6 : isYes cond = true := h6
          cases cond <;> first | exact pts_yes | cases h6
        | cons x r =>
          cases r with
          | nil =>
            have h6 : (plT x && chE T cond (c.blk scope) x) = true := h6
            rw [Bool.and_eq_true] at h6
            exact pts_one (((ihc _ _ Wf F' (hb s H C cl fp) (takesF _) hF').1 x h6.2).2.1 h6.1)
          | cons _ _ => exact (Bool.false_ne_true h6).elim
      · rw [ownOf_snd, G.K]
        exact w_compB hF hin σ H Q q
    · cases h
  | callF f as ih =>
    intro X c W F G tk hF
    have hK : F.K = X.K := hF.trans G.K.symm
    have hu := G.units
    refine ⟨fun e h => ?_, fun es h => (Bool.false_ne_true h).elim, fun tg e _ h => (Bool.false_ne_true h).elim⟩
    simp only [chE] at h
    split at h
    · rename_i x p a es pos
      simp only [Bool.and_eq_true, decide_eq_true_eq, Bool.not_eq_true'] at h
      obtain ⟨h1, h2, h3, h4, h5⟩ := h
      obtain ⟨fa, fd, pn, n, q1, q2, q3, q4⟩ := FF.fs f x h1
      have h4' := h4
      rw [List.all_cons, Bool.and_eq_true] at h4'
      refine pe3 hK (e_callF (n := n) (f := fa) (fd := fd) (pn := pn) hK ?_ G.room G.gd (G.gl h2) (by rw [G.mg]; exact q2) (by rw [G.K]; exact q3) (by rw [G.K]; exact q4) tk ((ih X c W F G tk hF).2.1 _ h5) h3 (star_no h4'.1) (star_any h4'.2)) (fun _ _ => rfl) (fun _ _ _ q => nomatch q)
      rw [G.prog, G.w, G.K, G.mg, G.base]
      exact q1
    · cases h
  | callIO f i as ih =>
    intro X c W F G tk hF
    have hK : F.K = X.K := hF.trans G.K.symm
    have hu := G.units
    refine ⟨fun e h => ?_, fun es h => (Bool.false_ne_true h).elim, fun tg e _ h => (Bool.false_ne_true h).elim⟩
    simp only [chE] at h
    split at h
    · rename_i x p y p2 es pos
      simp only [Bool.and_eq_true, decide_eq_true_eq, Bool.not_eq_true'] at h
      obtain ⟨h1, h2, h3, h4, h5, h6⟩ := h
      obtain ⟨fa, fd, pn, n, q1, q2, q3, q4⟩ := FF.fs f x h1
      obtain ⟨n1, n2, n3, n4⟩ := G.name h4
      refine pe3 hK (e_callIO (n := n) (f := fa) (fd := fd) (pn := pn) hK ?_ G.room G.gd (G.gl h2) (by rw [G.mg]; exact q2) (by rw [G.K]; exact q3) (by rw [G.K]; exact q4) tk n1 n2 n3 n4 ((ih X c W F G tk hF).2.1 _ h6) h3 rfl (star_any h5)) (fun _ _ => rfl) (fun _ _ _ q => nomatch q)
      rw [G.prog, G.w, G.K, G.mg, G.base]
      exact q1
    · cases h
  | callB b as ih =>
    intro X c W F G tk hF
    have hK : F.K = X.K := hF.trans G.K.symm
    have hu := G.units
    refine ⟨fun e h => ?_, fun es h => (Bool.false_ne_true h).elim, fun tg e _ h => (Bool.false_ne_true h).elim⟩
    simp only [chE] at h
    split at h
    · rename_i x p a es pos
      simp only [Bool.and_eq_true, decide_eq_true_eq, Bool.not_eq_true'] at h
      obtain ⟨h1, h2, h3⟩ := h
      have h2' := h2
      rw [List.all_cons, Bool.and_eq_true] at h2'
      have ha := (ih X c W F G tk hF).2.1 _ h3
      refine pe3 hK ?_ (fun _ _ => rfl) (fun _ _ _ q => nomatch q)
      cases hb : biNm b with
      | none => rw [hb] at h1; exact (Bool.false_ne_true h1).elim
      | some yk =>
        obtain ⟨y, kk⟩ := yk
        have bo := bi_boot hb
        have bk := bi_ok hK G.calm G.gd hu hb
        rw [hb] at h1
        cases kk with
        | fn id =>
          simp only [bkB, Bool.and_eq_true, decide_eq_true_eq, Bool.not_eq_true'] at h1
          obtain ⟨rfl, h1⟩ := h1
          obtain ⟨g1, g2⟩ := G.blt FF h1
          exact e_callB bk g1 g2 bo.1 ha bo.2.1 bo.2.2 (star_no h2'.1) (star_any h2'.2)
        | ty id =>
          simp only [bkB, Bool.and_eq_true, decide_eq_true_eq, Bool.not_eq_true'] at h1
          obtain ⟨rfl, h1⟩ := h1
          obtain ⟨g1, g2⟩ := G.blt FF h1
          exact e_callTy bk g1 g2 bo.1 ha bo.2.1 bo.2.2 (star_no h2'.1) (star_any h2'.2)
        | gl id =>
          simp only [bkB, Bool.and_eq_true, decide_eq_true_eq, Bool.not_eq_true'] at h1
          obtain ⟨rfl, h1, h5⟩ := h1
          have e1 : x = ("gcd" : Str) ∧ id = "math.gcd" := by cases b <;> cases hb <;> exact ⟨rfl, rfl⟩
          obtain ⟨rfl, rfl⟩ := e1
          exact e_callFn bk (G.gl h1) (by rw [G.mg]; exact FF.gcd h5) ha bo (star_no h2'.1) (star_any h2'.2)
    · cases h
  | isi b a iha =>
    intro X c W F G tk hF
    have hK : F.K = X.K := hF.trans G.K.symm
    refine ⟨fun e h => ?_, fun es h => (Bool.false_ne_true h).elim, fun tg e _ h => (Bool.false_ne_true h).elim⟩
    simp only [chE] at h
    split at h
    · rename_i x p o y p2 pos
      simp only [Bool.and_eq_true, decide_eq_true_eq, Bool.not_eq_true'] at h
      obtain ⟨rfl, h1, h2, h3, h4, h5⟩ := h
      obtain ⟨n, hn, rfl⟩ := Option.map_eq_some_iff.mp h1
      obtain ⟨g1, g2⟩ := G.blt FF h2
      obtain ⟨g3, g4⟩ := G.blt FF h3
      obtain ⟨b1, b2, b3⟩ := isi_boot hn
      exact pe3 hK (e_isi hK hn g1 g2 g3 g4 b1 b2 b3 ((iha X c W F G tk hF).1 _ h5).1 (star_no h4)) (fun _ _ => rfl) (fun _ _ _ q => nomatch q)
    · cases h
  | callBB b i =>
    intro X c W F G tk hF
    have hK : F.K = X.K := hF.trans G.K.symm
    have hu := G.units
    refine ⟨fun e h => ?_, fun es h => (Bool.false_ne_true h).elim, fun tg e _ h => (Bool.false_ne_true h).elim⟩
    simp only [chE] at h
    split at h
    · rename_i x p y p2 pos
      simp only [Bool.and_eq_true, decide_eq_true_eq, Bool.not_eq_true'] at h
      obtain ⟨h1, h2⟩ := h
      obtain ⟨n1, n2, n3, n4⟩ := G.name h2
      refine pe3 hK ?_ (fun _ _ => rfl) (fun _ _ _ q => nomatch q)
      cases hb : biNm b with
      | none => rw [hb] at h1; exact (Bool.false_ne_true h1).elim
      | some yk =>
        obtain ⟨z, kk⟩ := yk
        have bo := bi_boot hb
        have bk := bi_ok hK G.calm G.gd hu hb
        rw [hb] at h1
        cases kk with
        | fn id =>
          simp only [bkF, Bool.and_eq_true, decide_eq_true_eq, Bool.not_eq_true'] at h1
          obtain ⟨rfl, h1⟩ := h1
          obtain ⟨g1, g2⟩ := G.blt FF h1
          exact e_callBB bk g1 g2 bo.1 bo.2.1 bo.2.2 n1 n2 n3 n4
        | ty id =>
          simp only [bkF, Bool.and_eq_true, decide_eq_true_eq, Bool.not_eq_true'] at h1
          obtain ⟨rfl, h1⟩ := h1
          obtain ⟨g1, g2⟩ := G.blt FF h1
          exact e_callBBTy bk g1 g2 bo.1 bo.2.1 bo.2.2 n1 n2 n3 n4
        | gl id => exact (Bool.false_ne_true h1).elim
    · cases h
  | nil =>
    intro X c W F G tk hF
    have hK : F.K = X.K := hF.trans G.K.symm
    refine ⟨fun e h => (Bool.false_ne_true h).elim, fun es h => ?_, fun tg e _ h => (Bool.false_ne_true h).elim⟩
    simp only [chA] at h
    split at h
    · exact a_nil
    · cases h
  | cons a as iha ihas =>
    intro X c W F G tk hF
    have hK : F.K = X.K := hF.trans G.K.symm
    refine ⟨fun e h => (Bool.false_ne_true h).elim, fun es h => ?_, fun tg e _ h => (Bool.false_ne_true h).elim⟩
    simp only [chA] at h
    split at h
    · simp only [Bool.and_eq_true, decide_eq_true_eq, Bool.not_eq_true'] at h
      exact a_cons ((iha X c W F G tk hF).1 _ h.2.1).1 ((ihas X c W F G tk hF).2.1 _ h.2.2) (star_no h.1)
    · cases h
  | star a as iha ihas =>
    intro X c W F G tk hF
    have hK : F.K = X.K := hF.trans G.K.symm
    refine ⟨fun e h => (Bool.false_ne_true h).elim, fun es h => ?_, fun tg e _ h => (Bool.false_ne_true h).elim⟩
    simp only [chA] at h
    split at h
    · simp only [Bool.and_eq_true, decide_eq_true_eq, Bool.not_eq_true'] at h
      exact a_star hK ((iha X c W F G tk hF).1 _ h.1).1 ((ihas X c W F G tk hF).2.1 _ h.2) rfl
    · cases h
  | sE a iha =>
    intro X c W F G tk hF
    have hK : F.K = X.K := hF.trans G.K.symm
    refine ⟨fun e h => (Bool.false_ne_true h).elim, fun es h => (Bool.false_ne_true h).elim, fun tg e hs h => ?_⟩
    exact i_seq hK ((iha X c W F G tk hF).1 _ h).1
  | sR1 a iha =>
    intro X c W F G tk hF
    have hK : F.K = X.K := hF.trans G.K.symm
    refine ⟨fun e h => (Bool.false_ne_true h).elim, fun es h => (Bool.false_ne_true h).elim, fun tg e hs h => ?_⟩
    simp only [chI] at h
    split at h
    · simp only [Bool.and_eq_true, decide_eq_true_eq, Bool.not_eq_true'] at h
      obtain ⟨rfl, h1, h2, h3⟩ := h
      obtain ⟨g1, g2⟩ := G.blt FF h1
      exact i_rng1 g1 g2 ((iha X c W F G tk hF).1 _ h3).1 (star_no h2)
    · cases h
  | sR2 a b iha ihb =>
    intro X c W F G tk hF
    have hK : F.K = X.K := hF.trans G.K.symm
    refine ⟨fun e h => (Bool.false_ne_true h).elim, fun es h => (Bool.false_ne_true h).elim, fun tg e hs h => ?_⟩
    simp only [chI] at h
    split at h
    · simp only [Bool.and_eq_true, decide_eq_true_eq, Bool.not_eq_true'] at h
      obtain ⟨rfl, h1, h2, h3, h4, h5⟩ := h
      obtain ⟨g1, g2⟩ := G.blt FF h1
      exact i_rng2 g1 g2 ((iha X c W F G tk hF).1 _ h4).1 ((ihb X c W F G tk hF).1 _ h5).1 (by rw [star_no h2, star_no h3]; rfl) (star_no h3)
    · cases h
  | sEn a iha =>
    intro X c W F G tk hF
    have hK : F.K = X.K := hF.trans G.K.symm
    refine ⟨fun e h => (Bool.false_ne_true h).elim, fun es h => (Bool.false_ne_true h).elim, fun tg e hs h => ?_⟩
    simp only [chI] at h
    split at h
    · simp only [Bool.and_eq_true, decide_eq_true_eq, Bool.not_eq_true'] at h
      obtain ⟨rfl, h0, h1, h2, h3⟩ := h
      obtain ⟨g1, g2⟩ := G.blt FF h1
      cases tg <;> first
        | exact i_enum hK g1 g2 ((iha X c W F G tk hF).1 _ h3).1 (star_no h2)
        | exact (Bool.false_ne_true h0).elim
    · cases h
  | sZp a b iha ihb =>
    intro X c W F G tk hF
    have hK : F.K = X.K := hF.trans G.K.symm
    refine ⟨fun e h => (Bool.false_ne_true h).elim, fun es h => (Bool.false_ne_true h).elim, fun tg e hs h => ?_⟩
    simp only [chI] at h
    split at h
    · simp only [Bool.and_eq_true, decide_eq_true_eq, Bool.not_eq_true'] at h
      obtain ⟨rfl, h0, h1, h2, h3, h4, h5⟩ := h
      obtain ⟨g1, g2⟩ := G.blt FF h1
      cases tg <;> first
        | exact i_zip hK g1 g2 ((iha X c W F G tk hF).1 _ h4).1 ((ihb X c W F G tk hF).1 _ h5).1 (by rw [star_no h2, star_no h3]; rfl) (star_no h3)
        | exact (Bool.false_ne_true h0).elim
    · cases h
  | no =>
    intro X c W F G tk hF
    have hK : F.K = X.K := hF.trans G.K.symm
    refine ⟨fun e h => (Bool.false_ne_true h).elim, fun es h => (Bool.false_ne_true h).elim, fun tg e _ h => (Bool.false_ne_true h).elim⟩
  | yes =>
    intro X c W F G tk hF
    have hK : F.K = X.K := hF.trans G.K.symm
    refine ⟨fun e h => (Bool.false_ne_true h).elim, fun es h => (Bool.false_ne_true h).elim, fun tg e _ h => (Bool.false_ne_true h).elim⟩
  | comp2 elt t src cond t1 src1 cond1 vs _ _ _ _ _ =>
    intro X c W F G tk hF
    have hK : F.K = X.K := hF.trans G.K.symm
    refine ⟨fun e h => (Bool.false_ne_true h).elim, fun es h => (Bool.false_ne_true h).elim, fun tg e _ h => (Bool.false_ne_true h).elim⟩
end
end PD

set_option Elab.async false
set_option linter.all false
set_option maxRecDepth 100000
namespace PD
open PySem PySem.Spec PyProof.Rows L2

def noLc : Expr → Bool
  | .ListComp .. => false | .SetComp .. => false | .DictComp .. => false
  | _ => true
def isNm : Expr → Bool
  | .Name .. => true
  | _ => false
/-- no exchange of stores: a tuple's targets -/
def swNone (es : List Expr) : Expr → Bool
  | .Tuple vs _ _ => !es.all isNm || vs.all (foldedForSure 8)
  | _ => true
/-- name = [..]: the names are exchanged -/
def swB (c : Ck) (x : Str) (p : Pos) : Expr → Bool
  | .ListComp _ _ scope pos => lclB c.sc x && ((p.line == pos.line) && !(scope.names.any fun (n, k) => n == x && (k == .local || k == .cell)))
  | _ => false
/-- .. or not, for sure -/
def swF (c : Ck) (x : Str) (p : Pos) : Expr → Bool
  | .ListComp _ _ scope pos => !lclB c.sc x || !(p.line == pos.line)
  | .SetComp .. => false | .DictComp .. => false
  | _ => true
def isComp : IE → Bool
  | .comp .. => true
  | .compB .. => true
  | _ => false
def parB (x y : Str) (px py : Pos) (a b : Expr) : Bool := noStar a && (noStar b && ((py.line == px.line) && (!decide (x = y) && (!([a, b].all (foldedForSure 8)) && !([a, b].all (constantsAlone 8))))))
def parB3 (x y z : Str) (px py pz : Pos) (a b d : Expr) : Bool := noStar a && (noStar b && (noStar d && ((py.line == px.line) && ((pz.line == px.line) && (!decide (x = y) && (!decide (x = z) && (!decide (y = z) && (!([a, b, d].all (foldedForSure 8)) && !([a, b, d].all (constantsAlone 8))))))))))
section
variable (T : Tb)
def chB : IS → Ck → List Stmt → Bool
  | .skip, _, ss => match ss with
    | [] => true
    | [.Pass _] => true
    | _ => false
  | .stop, _, ss => match ss with
    | [_] => true
    | _ => false
  | .seq a b, c, ss => match ss with
    | s :: t :: r => chB a c [s] && chB b c (t :: r)
    | _ => false
  | .asg (.nm i) a, c, ss => match ss with
    | [.Assign [.Name x p] e _] => tgB c i x && (chE T a c e && (swF c x p e || (isComp a && swB c x p e)))
    | _ => false
  | .asg (.tup ts) a, c, ss => match ss with
    | [.Assign [.Tuple es k p] e _] => chG (.tup ts) c (.Tuple es k p) && (chE T a c e && (noLc e && swNone es e))
    | _ => false
  | .par i j a b, c, ss => match ss with
    | [.Assign [.Tuple [.Name x px, .Name y py] _ _] (.Tuple [u, v] _ _) _] => decide (c.N[i]? = some x) && (decide (c.N[j]? = some y) && (lclB c.sc x && (lclB c.sc y && (parB x y px py u v && (chE T a c u && chE T b c v)))))
    | _ => false
  | .par3 i j l a b d, c, ss => match ss with
    | [.Assign [.Tuple [.Name x px, .Name y py, .Name z pz] _ _] (.Tuple [u, v, w] _ _) _] => decide (c.N[i]? = some x) && (decide (c.N[j]? = some y) && (decide (c.N[l]? = some z) && (lclB c.sc x && (lclB c.sc y && (lclB c.sc z && (parB3 x y z px py pz u v w && (chE T a c u && (chE T b c v && chE T d c w))))))))
    | _ => false
  | .aug op i a, c, ss => match ss with
    | [.AugAssign (.Name x _) op' e _] => decide (op = op') && ((decide (op = .Add) || decide (op = .Sub)) && (tgB c i x && chE T a c e))
    | _ => false
  | .ife q a b, c, ss => match ss with
    | [.If t th el _] => plT t && (chE T q c t && (chB a c th && chB b c el))
    | _ => false
  | .for_ t src body, c, ss => match ss with
    | [.For tg it bd [] _] => noSet it && (chI T src c tg it && (chG t c tg && chB body c bd))
    | _ => false
  | .forB t i body, c, ss => match ss with
    | [.For tg (.Name x _) bd [] _] => nmB c i x && (chG t c tg && chB body c bd)
    | _ => false
  | .whl q body, c, ss => match ss with
    | [.While t bd [] _] => plT t && (chE T q c t && chB body c bd)
    | _ => false
  | .ret a, c, ss => match ss with
    | [.Return (some e) _] => chE T a c e
    | _ => false
  | .retS i, c, ss => match ss with
    | [.Return (some (.Name x _)) _] => nmB c i x
    | _ => false
  | .retN, _, ss => match ss with
    | [.Return none _] => true
    | _ => false
  | .brk, _, ss => match ss with
    | [.Break _] => true
    | _ => false
  | .cont, _, ss => match ss with
    | [.Continue _] => true
    | _ => false
  | .exp a, c, ss => match ss with
    | [.Expr e _] => noLc e && chE T a c e
    | _ => false
  | .app i a, c, ss => match ss with
    | [.Expr (.Call (.Attribute (.Name y _) m apos) [x] [] cpos) _] => decide (m = ("append" : Str)) && (nmB c i y && (noStar x && (chE T a c x && (apos.endLine == cpos.line))))
    | _ => false
  | .ext i a, c, ss => match ss with
    | [.Expr (.Call (.Attribute (.Name y _) m apos) [x] [] cpos) _] => decide (m = ("extend" : Str)) && (nmB c i y && (noStar x && (chE T a c x && (apos.endLine == cpos.line))))
    | _ => false
  | .ins i k a, c, ss => match ss with
    | [.Expr (.Call (.Attribute (.Name y _) m apos) [z, x] [] cpos) _] => decide (m = ("insert" : Str)) && (nmB c i y && (noStar z && (noStar x && (chE T k c z && (chE T a c x && (apos.endLine == cpos.line))))))
    | _ => false
  | .set i k a, c, ss => match ss with
    | [.Assign [.Subscript (.Name y _) z _] e _] => nmB c i y && (plIx z && (noLc e && (chE T k c z && chE T a c e)))
    | _ => false
  | _, _, _ => false
termination_by structural a => a
end
/-- a block of statements of the text -/
structure GdS (K : PySem.W.Frag) (mg : Str → Option Value) (P : Program) (w : World) (base : Heap) (k : Nat) (X : Cx) (c : Ck) : Prop extends Gd K mg P w base k X c where
  pas : PassesOwn (model X.prog X.w) X.A X.env X.xe
  kind : X.env.scope.kind = .function
theorem blkKind {env : PySem.Env} (h : env.scope.kind = .function) : env.blockKind = .function := by unfold Env.blockKind; rw [h]; rfl
theorem swapsNo' {e : Expr} {t : Option Expr} {l : Nat} {env : PySem.Env} (h : noLc e = true) : swapsWith e t l env = pure false := by
  cases e <;> first | rfl | cases h
theorem swNone_ok {es : List Expr} {k : Nat} {p : Pos} {e : Expr} {env : PySem.Env} (h : swNone es e = true) : swappedStores [.Tuple es k p] e env = pure none := by
  cases e with
  | Tuple vs k2 p2 =>
    have h : (!es.all isNm || vs.all (foldedForSure 8)) = true := h
    unfold swappedStores
    simp only []
    split
    · rfl
    · split
      · rfl
      · rw [Bool.or_eq_true] at h
        rcases h with h | h
        · have hlt : ∀ (l : List Expr) (f : Expr → Option Str), (∀ e, isNm e = false → f e = none) → l.all isNm = false → (l.filterMap f).length ≠ l.length := by
            intro l f hf
            induction l with
            | nil => intro h; cases h
            | cons a l ih =>
              intro h q
              rw [List.all_cons, Bool.and_eq_false_iff] at h
              have hle := List.length_filterMap_le f l
              cases hfa : f a with
              | none =>
                rw [List.filterMap_cons_none hfa, List.length_cons] at q
                omega
              | some b =>
                rw [List.filterMap_cons_some hfa, List.length_cons, List.length_cons] at q
                rcases h with h | h
                · rw [hf a h] at hfa; cases hfa
                · exact ih h (by omega)
          have h2 : es.all isNm = false := by simpa using h
          rw [if_pos]
          · rw [Bool.or_eq_true]
            left
            have := hlt es (fun x => match x with
              | .Name id pos => if (env.kindOf id == some .local && pos.line == (es.head?.map (·.pos.line)).getD 0) = true then some id else none
              | _ => none) (fun e he => by cases e <;> first | rfl | cases he) h2
            exact bne_iff_ne.mpr this
        · split
          · rfl
          · first | rfl | (rw [if_pos h]; rfl)
  | _ => rfl

theorem par_ok {x y : Str} {px py pt : Pos} {kt k2 : Nat} {pt2 : Pos} {a b : Expr} {env : PySem.Env} (hk : env.blockKind = .function) (hx : env.kindOf x = some .local) (hy : env.kindOf y = some .local) (h : parB x y px py a b = true) :
    swappedStores [.Tuple [.Name x px, .Name y py] kt pt] (.Tuple [a, b] k2 pt2) env = pure (some [x, y]) := by
  unfold parB at h
  simp only [Bool.and_eq_true, decide_eq_false_iff_not, Bool.not_eq_true', beq_iff_eq] at h
  obtain ⟨h1, h2, h3, h4, h5, h6⟩ := h
  have s1 : ([a, b].any fun | .Starred .. => true | _ => false) = false := by
    cases a <;> cases h1 <;> cases b <;> first | rfl | cases h2
  have n1 : (y == x) = false := by
    rw [beq_eq_false_iff_ne]
    exact fun z => h4 z.symm
  have e1 : [x, y].eraseDups = [x, y] := by
    simp [List.eraseDups_cons, n1]
  unfold swappedStores
  simp only [hk, hx, hy, h3, s1, h5, h6, List.head?_cons, Option.map_some, Option.getD_some, List.filterMap_cons, List.filterMap_nil, List.length_cons, List.length_nil, Expr.pos, beq_self_eq_true, Bool.and_self, if_true, e1]
  rw [if_neg (by decide)]
  refine (if_neg ?_).trans ?_
  · exact fun q => Bool.false_ne_true (s1.symm.trans q)
  · rw [if_neg (by decide), if_neg (by decide), if_neg (by decide)]
theorem par3_ok {x y z : Str} {px py pz pt : Pos} {kt k2 : Nat} {pt2 : Pos} {a b d : Expr} {env : PySem.Env} (hk : env.blockKind = .function) (hx : env.kindOf x = some .local) (hy : env.kindOf y = some .local) (hz : env.kindOf z = some .local) (h : parB3 x y z px py pz a b d = true) :
    swappedStores [.Tuple [.Name x px, .Name y py, .Name z pz] kt pt] (.Tuple [a, b, d] k2 pt2) env = pure (some [x, y, z]) := by
  unfold parB3 at h
  simp only [Bool.and_eq_true, decide_eq_false_iff_not, Bool.not_eq_true', beq_iff_eq] at h
  obtain ⟨h1, h2, h3, h4, h5, h6, h7, h8, h9, h10⟩ := h
  have s1 : ([a, b, d].any fun | .Starred .. => true | _ => false) = false := by
    have q : ∀ (f : Expr → Bool), (∀ e, noStar e = true → f e = false) → [a, b, d].any f = false := fun f hf => by
      simp only [List.any_cons, List.any_nil, hf a h1, hf b h2, hf d h3, Bool.or_self]
    exact q _ fun e h => by cases e <;> first | rfl | cases h
  have n1 : (y == x) = false := by rw [beq_eq_false_iff_ne]; exact fun q => h6 q.symm
  have n2 : (z == x) = false := by rw [beq_eq_false_iff_ne]; exact fun q => h7 q.symm
  have n3 : (z == y) = false := by rw [beq_eq_false_iff_ne]; exact fun q => h8 q.symm
  have e1 : [x, y, z].eraseDups = [x, y, z] := by
    simp [List.eraseDups_cons, n1, n2, n3]
  unfold swappedStores
  simp only [hk, hx, hy, hz, h4, h5, s1, h9, h10, List.head?_cons, Option.map_some, Option.getD_some, List.filterMap_cons, List.filterMap_nil, List.length_cons, List.length_nil, Expr.pos, beq_self_eq_true, Bool.and_self, if_true, e1]
  rw [if_neg (by decide)]
  refine (if_neg ?_).trans ?_
  · exact fun q => Bool.false_ne_true (s1.symm.trans q)
  · rw [if_neg (by decide), if_neg (by decide), if_neg (by decide)]
theorem swF_ok {c : Ck} {x : Str} {p : Pos} {e : Expr} {l : Nat} {env : PySem.Env} (hs : env.scope = c.sc) (h : swF c x p e = true) : swapsWith e (some (.Name x p)) l env = pure false := by
  cases e with
  | ListComp el gs scope pos =>
    have h : (!lclB c.sc x || !(p.line == pos.line)) = true := h
    unfold swapsWith
    simp only [Expr.pos]
    have : (env.blockKind == ScopeKind.function && env.kindOf x == some NameKind.local && p.line == pos.line && !(scope.names.any fun (n, k) => n == x && (k == .local || k == .cell))) = false := by
      rw [Bool.or_eq_true] at h
      rcases h with h | h
      · have : (env.kindOf x == some NameKind.local) = false := by
          rw [beq_eq_false_iff_ne]
          intro q
          have q : env.scope.names.lookup x = some .local := q
          rw [hs] at q
          unfold lclB at h
          rw [q] at h
          cases h
        rw [this]
        simp
      · rw [Bool.not_eq_true'] at h
        rw [h]
        simp
    rw [this]
  | SetComp _ _ _ _ => cases h
  | DictComp _ _ _ _ _ => cases h
  | _ => rfl
end PD

set_option Elab.async false
set_option linter.all false
set_option maxRecDepth 100000
namespace PD
open PySem PySem.Spec PyProof.Rows L2
section
variable {K : PySem.W.Frag} {mg : Str → Option Value} {P : Program} {w : World} {base : Heap} {k : Nat} {T : Tb} {cf : CallF} {XR : XRT} {X : Cx} {c : Ck} {W : WX} {F : Fr}
theorem swB_ok {c : Ck} {x : Str} {p : Pos} {el : Expr} {gs : List Comprehension} {scope : Scope} {pos : Pos} {l : Nat} {env : PySem.Env} (hk : env.scope.kind = .function) (hs : env.scope = c.sc) (h : swB c x p (.ListComp el gs scope pos) = true) :
    env.scope.names.lookup x = some .local ∧ swapsWith (.ListComp el gs scope pos) (some (.Name x p)) l env = pure true := by
  have h : (lclB c.sc x && ((p.line == pos.line) && !(scope.names.any fun (n, k) => n == x && (k == .local || k == .cell)))) = true := h
  rw [Bool.and_eq_true, Bool.and_eq_true, Bool.not_eq_true'] at h
  have hl := lclB_ok h.1
  rw [← hs] at hl
  exact ⟨hl, sw_true hk hl h.2.1 h.2.2⟩
/-- name = [..] -/
theorem set_comp (FF : Facts T cf XR K mg P w base k) {i : Nat} {x : Str} {p spos : Pos} {e : Expr} (G : GdS K mg P w base k X c) (tk : Takes X W) (hF : F.K = K) (hi : X.N[i]? = some x) {ie : IE} (hc : isComp ie = true) (h : chE T ie c e = true) (hsw : swB c x p e = true) :
    PS X (.Assign [.Name x p] e spos) (tSt cf T.gl F XR W (.asg (.nm i) ie)) := by
  cases ie with
  | comp elt t src cond vs =>
    have ihe := ok_E FF elt
    have ihs := ok_E FF src
    have ihc := ok_E FF cond
    simp only [chE] at h
    split at h
    · rename_i el tg it ifs scope pos
      simp only [Bool.and_eq_true, decide_eq_true_eq, Bool.not_eq_true', beq_iff_eq] at h
      obtain ⟨h1, h2, h3, h4, h5, h6, h7⟩ := h
      obtain ⟨w1, w2⟩ := swB_ok (l := spos.line) G.kind G.sc hsw
      have hb : ∀ (s : Shared) (H : Hp) (C : Addr) (cl : List (Str × Addr)) (fp : List Addr), Gd K mg P w base k (X.blk s H scope (compEnvC scope cl C X.env) fp) (c.blk scope) := fun s H C cl fp => G.toGd.blk s H scope C cl fp
      have hin : ∀ i ∈ itNames t, i ∈ vs := fun i hi => by simpa using List.all_eq_true.mp h3 i hi
      refine PS.of (ps_setLc (own := ownOf c.N vs) (tt := tTs cf T.gl F XR Wf cond) G.calm (by rw [G.hN]; exact G.nd) hi w1 w2 ((ihs X c W F G.toGd tk hF).2.2 tg it h1 h4) (by rw [G.hN, G.sc]; exact blkOk_by h2)
        (fun s H C cl fp => (ch_tg (hb s H C cl fp) hF t).1 tg h5) (fun s H C cl fp => ?_) (fun s H C cl fp => ((ihe _ _ Wf F (hb s H C cl fp) (takesF _) hF).1 el h7).1) (fold_no h1)) (fun E σ H q => ?_)
      · cases ifs with
        | nil =>
          have h6 : isYes cond = true := h6
          cases cond <;> first | exact pts_yes | cases h6
        | cons x r =>
          cases r with
          | nil =>
            have h6 : (plT x && chE T cond (c.blk scope) x) = true := h6
            rw [Bool.and_eq_true] at h6
            exact pts_one (((ihc _ _ Wf F (hb s H C cl fp) (takesF _) hF).1 x h6.2).2.1 h6.1)
          | cons _ _ => exact (Bool.false_ne_true h6).elim
      · rw [ownOf_snd]
        exact w_comp hin σ H _ (w_asgN E σ H q)
    · cases h
  | compB elt t j cond vs =>
    have ihe := ok_E FF elt
    have ihc := ok_E FF cond
    simp only [chE] at h
    split at h
    · rename_i el tg y p2 ifs scope pos
      simp only [Bool.and_eq_true, decide_eq_true_eq, Bool.not_eq_true', beq_iff_eq] at h
      obtain ⟨h2, h3, h4, h5, h6, h7⟩ := h
      obtain ⟨n1, n2, n3, n4⟩ := G.toGd.name h4
      obtain ⟨w1, w2⟩ := swB_ok (l := spos.line) G.kind G.sc hsw
      have hb : ∀ (s : Shared) (H : Hp) (C : Addr) (cl : List (Str × Addr)) (fp : List Addr), Gd K mg P w base k (X.blk s H scope (compEnvC scope cl C X.env) fp) (c.blk scope) := fun s H C cl fp => G.toGd.blk s H scope C cl fp
      have hin : ∀ i ∈ itNames t, i ∈ vs := fun i hi => by simpa using List.all_eq_true.mp h3 i hi
      refine PS.of (ps_setLc (own := ownOf c.N vs) (tt := fun σ H Q => ∃ F', OfK K F' ∧ tTs cf T.gl F' XR Wf cond σ H Q) G.calm (by rw [G.hN]; exact G.nd) hi w1 w2 (i_slot n1 n2 n3 n4) (by rw [G.hN, G.sc]; exact blkOk_by h2)
        (fun s H C cl fp => PG.any (P := OfK K) fun F' hF' => (ch_tg (hb s H C cl fp) hF' t).1 tg h5) (fun s H C cl fp => ?_) (fun s H C cl fp => PE.any (P := OfK K) fun F' hF' => ((ihe _ _ Wf F' (hb s H C cl fp) (takesF _) hF').1 el h7).1) (fun _ => rfl)) (fun E σ H q => ?_)
      · refine PTs.any (P := OfK K) fun F' hF' => ?_
        cases ifs with
        | nil =>
          have h6 : isYes cond = true := h6
          cases cond <;> first | exact pts_yes | cases h6
        | cons x r =>
          cases r with
          | nil =>
            have h6 : (plT x && chE T cond (c.blk scope) x) = true := h6
            rw [Bool.and_eq_true] at h6
            exact pts_one (((ihc _ _ Wf F' (hb s H C cl fp) (takesF _) hF').1 x h6.2).2.1 h6.1)
          | cons _ _ => exact (Bool.false_ne_true h6).elim
      · rw [ownOf_snd, G.K]
        exact w_compB hF hin σ H _ (w_asgN E σ H q)
    · cases h
  | _ => cases hc
/-- what is to be shown of a statement's term -/
def OkS (K : PySem.W.Frag) (mg : Str → Option Value) (P : Program) (w : World) (base : Heap) (k : Nat) (T : Tb) (cf : CallF) (XR : XRT) (is : IS) : Prop :=
  ∀ (X : Cx) (c : Ck) (W : WX) (F : Fr), GdS K mg P w base k X c → Takes X W → F.K = K →
    (∀ s, chB T is c [s] = true → PS X s (tSt cf T.gl F XR W is)) ∧ (∀ ss, chB T is c ss = true → PSs X ss (tSt cf T.gl F XR W is))
/-- a single statement -/
theorem one_S {is : IS} (hs : ∀ ss, chB T is c ss = true → ∃ s, ss = [s]) (h : ∀ s, chB T is c [s] = true → PS X s (tSt cf T.gl F XR W is)) : (∀ s, chB T is c [s] = true → PS X s (tSt cf T.gl F XR W is)) ∧ (∀ ss, chB T is c ss = true → PSs X ss (tSt cf T.gl F XR W is)) :=
  ⟨h, fun ss hh => by obtain ⟨s, rfl⟩ := hs ss hh; exact pss_one (h s hh)⟩
theorem sole_eq {t e : Expr} {l : Nat} {env : PySem.Env} : swapsWithSole [t] e l env = swapsWith e (some t) l env := by
  first | rfl | (unfold swapsWithSole; rfl)
theorem set_rel {o z : Expr} {apos : Pos} {env : PySem.Env} {v : Value} (h : plIx z = true) : assign (.Subscript o z apos) env v = (do
      let ov ← holding [v] (eval o env)
      let iv ← holding [v, ov] (eval z env)
      standAt apos
      holding [v, ov, iv] (setItem ov iv v)
      release [v, ov, iv] []) := by
  cases z <;> first | rfl | cases h
theorem ok_S (FF : Facts T cf XR K mg P w base k) : ∀ is : IS, OkS K mg P w base k T cf XR is := by
  intro is
  induction is with
  | skip =>
    intro X c W F G tk hF
    refine ⟨fun s h => ?_, fun ss h => ?_⟩
    · simp only [chB] at h
      split at h
      · rename_i q; cases q
      · rename_i q; cases q; exact s_pass
      · cases h
    · simp only [chB] at h
      split at h
      · exact s_skip
      · exact pss_one s_pass
      · cases h
  | seq a b iha ihb =>
    intro X c W F G tk hF
    refine ⟨fun s h => (Bool.false_ne_true h).elim, fun ss h => ?_⟩
    simp only [chB] at h
    split at h
    · rw [Bool.and_eq_true] at h
      exact s_seq ((iha X c W F G tk hF).1 _ h.1) ((ihb X c W F G tk hF).2 _ h.2)
    · cases h
  | stop =>
    intro X c W F G tk hF
    refine one_S (fun ss h => ?_) (fun s h => s_stop)
    simp only [chB] at h
    split at h
    · exact ⟨_, rfl⟩
    · cases h
  | asg t a =>
    cases t with
    | nm i =>
      intro X c W F G tk hF
      refine one_S (fun ss h => ?_) (fun s h => ?_)
      · simp only [chB] at h
        split at h
        · exact ⟨_, rfl⟩
        · cases h
      · simp only [chB] at h
        split at h
        · rename_i q
          cases q
          simp only [Bool.and_eq_true, Bool.or_eq_true] at h
          obtain ⟨h1, h2, h3⟩ := h
          obtain ⟨g1, g2, g3, g4⟩ := G.toGd.tg h1
          rcases h3 with h3 | ⟨h3, h4⟩
          · exact s_asgN g1 g2 g3 g4 ((ok_E FF _ X c W F G.toGd tk hF).1 _ h2).1 (swF_ok G.sc h3)
          · exact set_comp FF G tk hF g2 h3 h2 h4
        · cases h
    | tup ts =>
      intro X c W F G tk hF
      refine one_S (fun ss h => ?_) (fun s h => ?_)
      · simp only [chB] at h
        split at h
        · exact ⟨_, rfl⟩
        · cases h
      · simp only [chB] at h
        split at h
        · rename_i q
          cases q
          simp only [Bool.and_eq_true, decide_eq_true_eq, Bool.not_eq_true', beq_iff_eq] at h
          obtain ⟨h1, h2, h3, h4⟩ := h
          exact s_asgT ((ok_E FF _ X c W F G.toGd tk hF).1 _ h2).1 ((ch_tg G.toGd hF _).1 _ h1) (swNone_ok h4) (by rw [sole_eq]; exact swapsNo' h3)
        · cases h
    | nil => intro X c W F G tk hF; exact ⟨fun s h => (Bool.false_ne_true h).elim, fun ss h => (Bool.false_ne_true h).elim⟩
    | cons t ts => intro X c W F G tk hF; exact ⟨fun s h => (Bool.false_ne_true h).elim, fun ss h => (Bool.false_ne_true h).elim⟩
  | par i j a b =>
    intro X c W F G tk hF
    have hK : F.K = X.K := hF.trans G.K.symm
    refine one_S (fun ss h => ?_) (fun s h => ?_)
    · simp only [chB] at h
      split at h
      · exact ⟨_, rfl⟩
      · cases h
    · simp only [chB] at h
      split at h
      · rename_i q
        cases q
        simp only [Bool.and_eq_true, decide_eq_true_eq, Bool.not_eq_true', beq_iff_eq] at h
        obtain ⟨h1, h2, h3, h4, h5, h6, h7⟩ := h
        have h5' := h5
        unfold parB at h5'
        simp only [Bool.and_eq_true, decide_eq_true_eq, Bool.not_eq_true', beq_iff_eq] at h5'
        obtain ⟨n1, n2, _, n3, _⟩ := h5'
        have nd := G.nd
        have l1 := lclB_ok h3
        have l2 := lclB_ok h4
        rw [← G.sc] at l1 l2
        refine s_par G.calm (by rw [G.hN]; exact nd) (by rw [G.hN]; exact h1) (by rw [G.hN]; exact h2) (fun z => ?_) l1 l2 ((ok_E FF _ X c W F G.toGd tk hF).1 _ h6).1 ((ok_E FF _ X c W F G.toGd tk hF).1 _ h7).1 (by rw [star_no n1, star_no n2]; rfl) (star_no n2) (par_ok (blkKind G.kind) l1 l2 h5)
        subst z
        rw [h1] at h2
        cases h2
        exact (of_decide_eq_false n3) rfl
      · cases h
  | par3 i j l a b d =>
    intro X c W F G tk hF
    have hK : F.K = X.K := hF.trans G.K.symm
    refine one_S (fun ss h => ?_) (fun s h => ?_)
    · simp only [chB] at h
      split at h
      · exact ⟨_, rfl⟩
      · cases h
    · simp only [chB] at h
      split at h
      · rename_i q
        cases q
        simp only [Bool.and_eq_true, decide_eq_true_eq, Bool.not_eq_true', beq_iff_eq] at h
        obtain ⟨h1, h2, h3, h4, h5, h6, h7, h8, h9, h10⟩ := h
        have h7' := h7
        unfold parB3 at h7'
        simp only [Bool.and_eq_true, decide_eq_true_eq, Bool.not_eq_true', beq_iff_eq] at h7'
        obtain ⟨n1, n2, n3, _, _, n4, n5, n6, _⟩ := h7'
        have nd := G.nd
        have l1 := lclB_ok h4
        have l2 := lclB_ok h5
        have l3 := lclB_ok h6
        rw [← G.sc] at l1 l2 l3
        refine s_par3 G.calm (by rw [G.hN]; exact nd) (by rw [G.hN]; exact h1) (by rw [G.hN]; exact h2) (by rw [G.hN]; exact h3) (fun z => ?_) (fun z => ?_) (fun z => ?_) l1 l2 l3 ((ok_E FF _ X c W F G.toGd tk hF).1 _ h8).1 ((ok_E FF _ X c W F G.toGd tk hF).1 _ h9).1 ((ok_E FF _ X c W F G.toGd tk hF).1 _ h10).1 (by rw [star_no n1, star_no n2, star_no n3]; rfl) (by rw [star_no n2, star_no n3]; rfl) (star_no n3) (par3_ok (blkKind G.kind) l1 l2 l3 h7)
        · subst z
          rw [h1] at h2
          cases h2
          exact (of_decide_eq_false n4) rfl
        · subst z
          rw [h1] at h3
          cases h3
          exact (of_decide_eq_false n5) rfl
        · subst z
          rw [h2] at h3
          cases h3
          exact (of_decide_eq_false n6) rfl
      · cases h
  | aug op i a =>
    intro X c W F G tk hF
    have hK : F.K = X.K := hF.trans G.K.symm
    refine one_S (fun ss h => ?_) (fun s h => ?_)
    · simp only [chB] at h
      split at h
      · exact ⟨_, rfl⟩
      · cases h
    · simp only [chB] at h
      split at h
      · rename_i q
        cases q
        simp only [Bool.and_eq_true, decide_eq_true_eq, Bool.not_eq_true', beq_iff_eq, Bool.or_eq_true] at h
        obtain ⟨h1, h2, h3, h4⟩ := h
        subst h1
        obtain ⟨g1, g2, g3, g4⟩ := G.toGd.tg h3
        rcases h2 with h2 | h2
        · subst h2
          exact s_augAdd g1 g2 g3 g4 ((ok_E FF _ X c W F G.toGd tk hF).1 _ h4).1
        · subst h2
          exact s_augSub g1 g2 g3 g4 ((ok_E FF _ X c W F G.toGd tk hF).1 _ h4).1
      · cases h
  | ife q a b iha ihb =>
    intro X c W F G tk hF
    have hK : F.K = X.K := hF.trans G.K.symm
    refine one_S (fun ss h => ?_) (fun s h => ?_)
    · simp only [chB] at h
      split at h
      · exact ⟨_, rfl⟩
      · cases h
    · simp only [chB] at h
      split at h
      · rename_i q
        cases q
        simp only [Bool.and_eq_true, decide_eq_true_eq, Bool.not_eq_true', beq_iff_eq] at h
        obtain ⟨h1, h2, h3, h4⟩ := h
        exact s_if (((ok_E FF _ X c W F G.toGd tk hF).1 _ h2).2.1 h1) ((iha X c W F G tk hF).2 _ h3) ((ihb X c W F G tk hF).2 _ h4)
      · cases h
  | for_ t src body ih =>
    intro X c W F G tk hF
    have hK : F.K = X.K := hF.trans G.K.symm
    refine one_S (fun ss h => ?_) (fun s h => ?_)
    · simp only [chB] at h
      split at h
      · exact ⟨_, rfl⟩
      · cases h
    · simp only [chB] at h
      split at h
      · rename_i q
        cases q
        simp only [Bool.and_eq_true, decide_eq_true_eq, Bool.not_eq_true', beq_iff_eq] at h
        obtain ⟨h1, h2, h3, h4⟩ := h
        exact s_for hK G.pas G.calm ((ok_E FF _ X c W F G.toGd tk hF).2.2 _ _ h1 h2) (fun F' hF' => (ch_tg G.toGd (hF'.trans G.K) t).1 _ h3) (fun F' hF' => (ih X c W F' G tk (hF'.trans G.K)).2 _ h4) (fold_no h1)
      · cases h
  | forB t i body ih =>
    intro X c W F G tk hF
    have hK : F.K = X.K := hF.trans G.K.symm
    refine one_S (fun ss h => ?_) (fun s h => ?_)
    · simp only [chB] at h
      split at h
      · exact ⟨_, rfl⟩
      · cases h
    · simp only [chB] at h
      split at h
      · rename_i q
        cases q
        simp only [Bool.and_eq_true, decide_eq_true_eq, Bool.not_eq_true', beq_iff_eq] at h
        obtain ⟨h1, h2, h3⟩ := h
        obtain ⟨n1, n2, n3, n4⟩ := G.toGd.name h1
        exact s_forB hK G.pas G.calm n1 n2 n3 n4 (fun F' hF' => (ch_tg G.toGd (hF'.trans G.K) t).1 _ h2) (fun F' hF' => (ih X c W F' G tk (hF'.trans G.K)).2 _ h3)
      · cases h
  | whl q body ih =>
    intro X c W F G tk hF
    have hK : F.K = X.K := hF.trans G.K.symm
    refine one_S (fun ss h => ?_) (fun s h => ?_)
    · simp only [chB] at h
      split at h
      · exact ⟨_, rfl⟩
      · cases h
    · simp only [chB] at h
      split at h
      · rename_i q
        cases q
        simp only [Bool.and_eq_true, decide_eq_true_eq, Bool.not_eq_true', beq_iff_eq] at h
        obtain ⟨h1, h2, h3⟩ := h
        exact s_while G.pas (((ok_E FF _ X c W F G.toGd tk hF).1 _ h2).2.1 h1) ((ih X c W F G tk hF).2 _ h3)
      · cases h
  | ret a =>
    intro X c W F G tk hF
    have hK : F.K = X.K := hF.trans G.K.symm
    refine one_S (fun ss h => ?_) (fun s h => ?_)
    · simp only [chB] at h
      split at h
      · exact ⟨_, rfl⟩
      · cases h
    · simp only [chB] at h
      split at h
      · rename_i q
        cases q
        exact s_ret ((ok_E FF _ X c W F G.toGd tk hF).1 _ h).1
      · cases h
  | retS i =>
    intro X c W F G tk hF
    have hK : F.K = X.K := hF.trans G.K.symm
    refine one_S (fun ss h => ?_) (fun s h => ?_)
    · simp only [chB] at h
      split at h
      · exact ⟨_, rfl⟩
      · cases h
    · simp only [chB] at h
      split at h
      · rename_i q
        cases q
        obtain ⟨n1, n2, n3, n4⟩ := G.toGd.name h
        exact s_retS n1 n2 n3 n4
      · cases h
  | retN =>
    intro X c W F G tk hF
    have hK : F.K = X.K := hF.trans G.K.symm
    refine one_S (fun ss h => ?_) (fun s h => ?_)
    · simp only [chB] at h
      split at h
      · exact ⟨_, rfl⟩
      · cases h
    · simp only [chB] at h
      split at h
      · rename_i q
        cases q
        exact s_retN
      · cases h
  | brk =>
    intro X c W F G tk hF
    have hK : F.K = X.K := hF.trans G.K.symm
    refine one_S (fun ss h => ?_) (fun s h => ?_)
    · simp only [chB] at h
      split at h
      · exact ⟨_, rfl⟩
      · cases h
    · simp only [chB] at h
      split at h
      · rename_i q
        cases q
        exact s_brk
      · cases h
  | cont =>
    intro X c W F G tk hF
    have hK : F.K = X.K := hF.trans G.K.symm
    refine one_S (fun ss h => ?_) (fun s h => ?_)
    · simp only [chB] at h
      split at h
      · exact ⟨_, rfl⟩
      · cases h
    · simp only [chB] at h
      split at h
      · rename_i q
        cases q
        exact s_cont
      · cases h
  | exp a =>
    intro X c W F G tk hF
    have hK : F.K = X.K := hF.trans G.K.symm
    refine one_S (fun ss h => ?_) (fun s h => ?_)
    · simp only [chB] at h
      split at h
      · exact ⟨_, rfl⟩
      · cases h
    · simp only [chB] at h
      split at h
      · rename_i q
        cases q
        rw [Bool.and_eq_true] at h
        exact s_exp ((ok_E FF _ X c W F G.toGd tk hF).1 _ h.2).1 (swapsNo' h.1)
      · cases h
  | app i a =>
    intro X c W F G tk hF
    have hK : F.K = X.K := hF.trans G.K.symm
    refine one_S (fun ss h => ?_) (fun s h => ?_)
    · simp only [chB] at h
      split at h
      · exact ⟨_, rfl⟩
      · cases h
    · simp only [chB] at h
      split at h
      · rename_i q
        cases q
        simp only [Bool.and_eq_true, decide_eq_true_eq, Bool.not_eq_true', beq_iff_eq] at h
        obtain ⟨rfl, h1, h2, h3, h4⟩ := h
        obtain ⟨n1, n2, n3, n4⟩ := G.toGd.name h1
        exact s_app n1 n2 n3 n4 ((ok_E FF _ X c W F G.toGd tk hF).1 _ h3).1 (by rw [star_no h2]; rfl) (by rw [h4]; exact beq_self_eq_true _) (star_no h2)
      · cases h
  | ext i a =>
    intro X c W F G tk hF
    have hK : F.K = X.K := hF.trans G.K.symm
    refine one_S (fun ss h => ?_) (fun s h => ?_)
    · simp only [chB] at h
      split at h
      · exact ⟨_, rfl⟩
      · cases h
    · simp only [chB] at h
      split at h
      · rename_i q
        cases q
        simp only [Bool.and_eq_true, decide_eq_true_eq, Bool.not_eq_true', beq_iff_eq] at h
        obtain ⟨rfl, h1, h2, h3, h4⟩ := h
        obtain ⟨n1, n2, n3, n4⟩ := G.toGd.name h1
        exact s_ext n1 n2 n3 n4 ((ok_E FF _ X c W F G.toGd tk hF).1 _ h3).1 (by rw [star_no h2]; rfl) (by rw [h4]; exact beq_self_eq_true _) (star_no h2)
      · cases h
  | ins i kk a =>
    intro X c W F G tk hF
    have hK : F.K = X.K := hF.trans G.K.symm
    refine one_S (fun ss h => ?_) (fun s h => ?_)
    · simp only [chB] at h
      split at h
      · exact ⟨_, rfl⟩
      · cases h
    · simp only [chB] at h
      split at h
      · rename_i q
        cases q
        simp only [Bool.and_eq_true, decide_eq_true_eq, Bool.not_eq_true', beq_iff_eq] at h
        obtain ⟨rfl, h1, h2, h3, h4, h5, h6⟩ := h
        obtain ⟨n1, n2, n3, n4⟩ := G.toGd.name h1
        exact s_ins n1 n2 n3 n4 ((ok_E FF _ X c W F G.toGd tk hF).1 _ h4).1 ((ok_E FF _ X c W F G.toGd tk hF).1 _ h5).1 (by rw [star_no h2, star_no h3]; rfl) (by rw [h6]; exact beq_self_eq_true _) (star_no h2) (star_no h3) (by rw [star_no h3]; rfl)
      · cases h
  | set i kk a =>
    intro X c W F G tk hF
    have hK : F.K = X.K := hF.trans G.K.symm
    refine one_S (fun ss h => ?_) (fun s h => ?_)
    · simp only [chB] at h
      split at h
      · exact ⟨_, rfl⟩
      · cases h
    · simp only [chB] at h
      split at h
      · rename_i q
        cases q
        simp only [Bool.and_eq_true, decide_eq_true_eq, Bool.not_eq_true', beq_iff_eq] at h
        obtain ⟨h1, h2, h3, h4, h5⟩ := h
        obtain ⟨n1, n2, n3, n4⟩ := G.toGd.name h1
        exact s_set n1 n2 n3 n4 ((ok_E FF _ X c W F G.toGd tk hF).1 _ h5).1 ((ok_E FF _ X c W F G.toGd tk hF).1 _ h4).1 (swapsNo' h3) (fun v => set_rel h2)
      · cases h
  | raise cc a => intro X c W F G tk hF; exact ⟨fun s h => (Bool.false_ne_true h).elim, fun ss h => (Bool.false_ne_true h).elim⟩
end
end PD

set_option Elab.async false
set_option linter.all false
set_option maxRecDepth 100000
namespace PD
open PySem PySem.Spec PyProof.Rows L2

/-- a def of the text beside its term -/
structure DefIs (T : Tb) (tab : List Fn) (K : PySem.W.Frag) (mg : Str → Option Value) (i : Nat) (x : Str) : Prop where
  ex : ∃ (fn : Fn) (N ps : List Str) (qual : Str) (params : Arguments) (body : List Stmt) (scope : Scope) (f : Addr) (fd : FuncData), tab[i]? = some fn ∧ FunD K x qual params body scope [] [] f fd ∧ mg x = some (.ref f) ∧ Binds K fd ps [] ∧
    C8.scC N ps scope = true ∧ fn.slots = N.length ∧ fn.pars = ps.length ∧ chB T fn.body ⟨N, scope, fun _ => true⟩ body = true
section
variable {T : Tb} {tab : List Fn} {K : PySem.W.Frag} {mg : Str → Option Value} {P : Program} {w : World} {base : Heap} {XR : XRT}
theorem callN_bad {cf : CallF} {f : Nat} {ds : List D} {fn : Fn} {k : Nat} {gl : Str → Option D} (ht : tab[f]? = some fn) (hl : ds.length ≠ fn.pars) : callN tab gl (k + 1) f ds = .bad := by
  simp only [callN, ht]
  rw [if_neg hl]
theorem spOf_len {n : Nat} {rc : List D → RC} {m : Nat} (h : ∀ ds, ds.length ≠ m → rc ds = .bad) : ∀ vs H Q E, spOf K XR n rc vs H Q E → vs.length = m := fun vs H Q E hs => by
  obtain ⟨F, ds, _, _, hl, _, hm⟩ := hs
  rw [hl]
  by_cases q : ds.length = m
  · exact q
  · rw [h ds q] at hm
    exact hm.elim
theorem fn_step {k i : Nat} {fn : Fn} {N ps : List Str} {x qual : Str} {params : Arguments} {body : List Stmt} {scope : Scope} {f : Addr} {fd : FuncData} (FF : Facts T (callN tab T.gl k) XR K mg P w base k) (ht : tab[i]? = some fn) (D : FunD K x qual params body scope [] [] f fd)
    (hS : C8.scC N ps scope = true) (h1 : fn.slots = N.length) (h2 : fn.pars = ps.length) (hb : chB T fn.body ⟨N, scope, fun _ => true⟩ body = true) : FnG P w K mg base (k + 1) f fd ps (spOf K XR fn.slots (callN tab T.gl (k + 1) i)) := by
  obtain ⟨oc, od, dV, kV, doc, pm, an, cdv, ct, osl, rfl, lk, hcd, _, _⟩ := D.ex
  have S := C8.fnScope_by hS
  have hbad : ∀ ds : List PD.D, ds.length ≠ ps.length → callN tab T.gl (k + 1) i ds = .bad := fun ds q => callN_bad (cf := fun _ _ => .bad) ht (by rw [h2]; exact q)
  refine fnG_of (N := N) lk hcd S (spOf_len hbad) fun A outer s H vs Q E hr hgd hsp => ?_
  have hl0 := spOf_len hbad _ _ _ _ hsp
  obtain ⟨F, ds, hK, hH, hl, R, hm⟩ := hsp
  have hdl : ds.length = fn.pars := by omega
  have G : GdS K mg P w base k (cxOf (L2.CX P w) P w K mg base N qual scope f cdv A outer s H E) ⟨N, scope, fun _ => true⟩ :=
    ⟨⟨rfl, S.nd, rfl, rfl, rfl, rfl, rfl, rfl, rfl, rfl, hr, hgd⟩, passes_of rfl, S.kind⟩
  refine ⟨_, (ok_S FF fn.body _ _ (fun cls d _ H => E cls d H) F G (takes_of rfl rfl rfl rfl) hK).2 body hb, ?_⟩
  have e1 : L2.start N vs = st0 fn.slots vs := by
    unfold L2.start st0
    rw [h1]
  rw [e1]
  refine ⟨_, _, R, ?_⟩
  simp only [callN, ht] at hm
  rw [if_pos hdl] at hm
  have e2 : env0 fn.slots ds = ds.map some ++ List.replicate (fn.slots - fn.pars) none := by unfold env0; rw [hdl]
  rw [e2]
  cases q : evS (callN tab T.gl k) T.gl fn.body (ds.map some ++ List.replicate (fn.slots - fn.pars) none) with
  | ok fl e =>
    rw [q] at hm
    cases fl with
    | nx =>
      intro σ' H' R1
      cases hio : fn.io with
      | false =>
        simp only [hio] at hm
        exact hm .non σ' e H' R1.non
      | true =>
        simp only [hio, if_true] at hm
        cases q0 : e[0]? with
        | none => rw [q0] at hm; exact hm.elim
        | some o =>
          rw [q0] at hm
          cases o with
          | none => exact hm .non σ' e H' R1.non
          | some o => exact hm .non σ' e H' R1.non q0
    | rt d =>
      intro v σ' H' R1
      cases hio : fn.io with
      | false =>
        simp only [hio] at hm
        exact hm v σ' e H' R1
      | true =>
        simp only [hio, if_true] at hm
        cases q0 : e[0]? with
        | none => rw [q0] at hm; exact hm.elim
        | some o =>
          rw [q0] at hm
          cases o with
          | none => exact hm v σ' e H' R1
          | some o => exact hm v σ' e H' R1 q0
    | bk => exact hm.elim
    | ct => exact hm.elim
  | ex x e =>
    rw [q] at hm
    intro cls dd σ' H' R1 xr
    cases hio : fn.io with
    | false =>
      simp only [hio] at hm
      exact hm cls dd σ' e H' R1 xr
    | true =>
      simp only [hio, if_true] at hm
      cases q0 : e[0]? with
      | none => rw [q0] at hm; exact hm.elim
      | some o =>
        rw [q0] at hm
        cases o with
        | none => exact hm cls dd σ' e H' R1 xr
        | some o => exact hm cls dd σ' e H' R1 q0 xr
  | bad =>
    rw [q] at hm
    exact hm.elim
theorem tab_facts (hd : ∀ i x, T.fs[i]? = some x → DefIs T tab K mg i x) (gs : ∀ x d, T.gl x = some d → ∃ u v, mg x = some u ∧ RelV v u ∧ ∀ H O, Rep K H O v d) (bl : ∀ x ∈ T.bl, mg x = none)
    (gc : T.gcd = true → mg "gcd" = some (.builtin "math.gcd")) : ∀ k, Facts T (callN tab T.gl k) XR K mg P w base k := by
  intro k
  induction k with
  | zero =>
    refine ⟨fun i x hx => ?_, gs, bl, gc⟩
    obtain ⟨fn, N, ps, qual, params, body, scope, f, fd, ht, D, hm, hb, _⟩ := (hd i x hx).ex
    refine ⟨f, fd, ps, fn.slots, ⟨fun vs H Q E h => ?_, fun A outer s H args us vs Q E _ _ _ _ _ h => ?_⟩, hm, D.kp, hb⟩
    · obtain ⟨F, ds, _, _, _, _, h⟩ := h
      exact h.elim
    · obtain ⟨F, ds, _, _, _, _, h⟩ := h
      exact h.elim
  | succ k ih =>
    refine ⟨fun i x hx => ?_, gs, bl, gc⟩
    obtain ⟨fn, N, ps, qual, params, body, scope, f, fd, ht, D, hm, hb, hs, h1, h2, hc⟩ := (hd i x hx).ex
    exact ⟨f, fd, ps, fn.slots, fn_step ih ht D hs h1 h2 hc, hm, D.kp, hb⟩
end

/-- the plain heap at a law's call: nothing is tracked but the script -/
theorem top_heap {P : Program} {w : World} {K : PySem.W.Frag} {mg mb : Str → Option Value} {a : Addr} {s₁ : Shared} {vs : List Value} {ns : List Int}
    (KX : K.In s₁.heap) (hns : s₁.heap.Ns mainGlobals mg) (hb : s₁.heap.Ns builtinsNs mb) (hbb : ∀ x : Str, x ≠ "__name__" → mb x = bootBuiltins x) (hlim : s₁.heap.NoLimit) (hg : s₁.gens = #[])
    (ha : s₁.heap.get? a = some { cls := .type "list", data := .seq vs.toArray }) (hi : IntsAre vs ns) (hl : ns.length ≤ sizeLine) :
    ∃ (H : Hp) (base : Heap), Only H ∧ SqL K H a (ns.map V.int) ∧ K.In base ∧ base.Ns mainGlobals mg ∧ Env0 P w K mg base callerA [] s₁ H ∧
      ∀ b o, s₁.heap.get? b = some o → ∀ (H' : Hp) (s' : Shared), Un (frs []) [] H H' s₁.heap s'.heap → HOk P w H' s'.heap → s'.heap.get? b = some o := by
  have rv := vals_ints hi
  have lenV := hi.length
  have fin : ∀ H : Hp, Only H → SqL K H a (ns.map V.int) → HOk P w H s₁.heap → (∀ b, H b ≠ none → b = a) → (H a ≠ none → K.lookup a = none) → ∃ (H : Hp) (base : Heap), Only H ∧ SqL K H a (ns.map V.int) ∧ K.In base ∧ base.Ns mainGlobals mg ∧ Env0 P w K mg base callerA [] s₁ H ∧
      ∀ b o, s₁.heap.get? b = some o → ∀ (H' : Hp) (s' : Shared), Un (frs []) [] H H' s₁.heap s'.heap → HOk P w H' s'.heap → s'.heap.get? b = some o := by
    intro H hO hS hok hA hK
    have off : ∀ {b : Addr} {o : Obj}, s₁.heap.get? b = some o → (∀ c, o.data ≠ .seq vs.toArray c) → H b = none := fun {b o} e hd => by
      cases q : H b with
      | none => rfl
      | some u =>
        have e' : b = a := hA b (by rw [q]; exact fun z => nomatch z)
        subst e'
        rw [ha] at e
        cases e
        exact (hd _ rfl).elim
    have nsK : ∀ {b : Addr} {m : Str → Option Value}, s₁.heap.Ns b m → (hidT s₁.heap H).Ns b m := fun {b m} ⟨o, es, ep, e, d, r⟩ =>
      ⟨o, es, ep, hidT_get e (off e fun c z => by rw [d] at z; cases z), d, r⟩
    have hKb : K.In (hidT s₁.heap H) := fun b o e => by
      refine hidT_get (KX b o e) ?_
      cases q : H b with
      | none => rfl
      | some u =>
        have e' : b = a := hA b (by rw [q]; exact fun z => nomatch z)
        subst e'
        rw [hK (by rw [q]; exact fun z => nomatch z)] at e
        cases e
    refine ⟨H, hidT s₁.heap H, hO, hS, hKb, nsK hns, ⟨rfl, ⟨hKb, nsK hns, ⟨mb, nsK hb, hbb⟩, let ⟨mc, h1, h2⟩ := hlim; ⟨mc, nsK h1, h2⟩⟩, fun b o e => of_hidT e, Nat.le_of_eq (hidT_size _ _), trivial, fun b hb => (List.not_mem_nil hb).elim, hok, .of_eq hg⟩, fun b o e H' s' un hok' => ?_⟩
    cases q : H b with
    | none => exact un.keep b o e q List.not_mem_nil List.not_mem_nil
    | some u =>
      rcases hO b with z | ⟨ob, xs, z⟩
      · rw [q] at z; cases z
      · obtain ⟨e1, _⟩ := hok b _ z
        obtain ⟨e2, _⟩ := hok' b _ (un.frzs b ob _ z)
        rw [e] at e1
        cases e1
        exact e2
  cases hk : K.lookup a with
  | some o =>
    have e := KX a o hk
    rw [ha] at e
    cases e
    exact fin (fun _ => none) (fun _ => .inl rfl) (.inr ⟨_, vs.toArray, _, hk, rfl, rfl, rfl, by rw [List.size_toArray, lenV]; exact hl, by simpa using rv⟩) (fun b u z => nomatch (show (none : Option HO) = some u from z)) (fun b z => absurd rfl z) fun z => absurd rfl z
  | none =>
    refine fin (fun b => if b = a then some (.frz { cls := .type "list", data := .seq vs.toArray } (.lst (ns.map V.int))) else none) (fun b => ?_) (.inl (.inr ⟨{ cls := .type "list", data := .seq vs.toArray }, if_pos rfl⟩)) (fun b u z => ?_) (fun b z => ?_) fun _ => hk
    · by_cases hb : b = a
      · exact .inr ⟨_, _, if_pos hb⟩
      · exact .inl (if_neg hb)
    · by_cases hb : b = a
      · have z' := (if_pos hb).symm.trans z
        cases z'
        subst hb
        exact ⟨ha, by rw [List.length_map]; exact hl, vs, _, rv, ha⟩
      · have z' := (if_neg hb).symm.trans z
        cases z'
    · by_cases hb : b = a
      · exact hb
      · exact absurd (if_neg hb) z
theorem reps_ints {K : PySem.W.Frag} {H : Hp} {O : Addr → Prop} : ∀ ns : List Int, Reps K H O (ns.map V.int) (ns.map D.int)
  | [] => .nil
  | n :: ns => .cons (.int n) (reps_ints ns)
/-- a law by the evaluator -/
theorem walk_ofG {l : PySem.W.OpenLaw} {n k i : Nat} {q : Program} {loose : List Str} {XP : (Str → Option Value) → Heap → Prop} {YP : World → Heap → Prop} {d : DefRec} {x : Str} {T : Tb} {tab : List Fn} {XR : XRT}
    (hn : l.most = some n) (hn2 : n ≤ sizeLine) (hdf : d.params.defaults = []) (hr : Room k callerA)
    (F : ∀ (w : World) (mg : Str → Option Value) (fa : Addr) (h : Heap), YP w h → h.Ns mainGlobals mg → mg d.name = some (.ref fa) →
      ∃ (K : PySem.W.Frag) (fd : FuncData) (m : Nat), K.In h ∧ (∀ (s : Shared) (u : Value), BindsTo s fd ⟨[u], []⟩ [(x, u)]) ∧
        ∀ base : Heap, K.In base → base.Ns mainGlobals mg → FnG l.prog w K mg base k fa fd [x] (spOf K XR m (callN tab T.gl k i)))
    (law : ∀ ns : List Int, ns.length ≤ n → (∀ z ∈ ns, Builtin.Int.intBits z ≤ 1048576) → callN tab T.gl k i [.lst (ns.map D.int)] = .ok (.bl true) none) :
    PySem.W.WalkO q loose XP YP l.row.toRowW d [] (fun f vs => PySem.call f vs) := by
  refine Att.attach_callB hn hdf fun w s₀ s₁ mg mb fa o pm cd doc a vs ns G Y ho hd hcd hmg hobj hints hlen hbits hg => ?_
  obtain ⟨K, fd, m, KX, hb, hF⟩ := F w mg fa _ Y G.T.g hmg
  obtain ⟨H, base, hO, hS, hKb, hNb, e0, back⟩ := top_heap (P := l.prog) (w := w) KX G.T.g G.T.b G.T.builtins G.T.nolimit hg hobj hints (Nat.le_trans hlen hn2)
  have hsp : spOf K XR m (callN tab T.gl k i) [.ref a] H (fun v _ => v = .bl true) fun _ _ _ => False := by
    refine ⟨⟨K, H, [], fun _ => False, []⟩, [.lst (ns.map D.int)], rfl, rfl, rfl, ⟨[], [], ?_, .nil, List.nodup_nil, fun b hb => (List.not_mem_nil hb).elim, fun b o h _ => h, fun b h => h, fun b hb => hb.elim, fun p hp => (List.not_mem_nil hp).elim⟩, ?_⟩
    · have r : Rep K H (Oc ⟨K, H, [], fun _ => False, []⟩ []) (.ref a) (.lst (ns.map D.int)) := by
        refine .lst ?_ (reps_ints ns)
        rcases hS with h | h
        · exact .inl ⟨h, fun z => z.elim id fun z => List.not_mem_nil z⟩
        · exact .inr h
      exact slots_reps (slots_none (m - 1)) (.cons r .nil)
    · rw [law ns hlen hbits]
      exact fun v σ' e' H' R => R.is_bl
  refine codeAny_mono ((hF base hKb hNb).run callerA [] s₁ H ⟨[.ref a], []⟩ [.ref a] [.ref a] _ _ hr rfl e0 (hb s₁ (.ref a)) (.cons rfl .nil) hsp) fun r s' h => ?_
  match r, h with
  | .error e, h =>
    obtain ⟨_, _, _, _, _, _, _, _, _, _, _, _, z⟩ := h
    exact z.elim
  | .ok (.ret u), ⟨v, H', os, bare, un, hok', r', q⟩ =>
    have q' : v = .bl true := q
    subst q'
    obtain rfl : u = Value.bool true := r'
    exact ⟨rfl, OldK.of_keep fun b o e => back b o e H' s' un hok', os, bare⟩
end PD

set_option Elab.async false
set_option linter.all false
set_option maxRecDepth 100000
namespace PD
open PySem PySem.Spec PyProof.Rows L2
abbrev AlE : Type := Bool × He.AlD
def obsE (n : Nat) (fa : List He.Fa) (fn : List He.DefD) (ex : PySem.W.Frag → Bool) (g : Addr → Option Obj) : AlE := (ex (He.frG g (He.asD g n)), He.obsDG n fa fn g)
def hookE (n : Nat) (fa : List He.Fa) (fn : List He.DefD) (ex : PySem.W.Frag → Bool) : PySem.W.Hook where
  α := AlE
  obs := fun s => obsE n fa fn ex s.heap.get?
  val := fun _ => (true, He.valD fn)
  says := fun _ h => ∃ K : PySem.W.Frag, K.In h ∧ ex K = true ∧ He.SaysD fa fn K
  of := fun _ _ e => ⟨_, He.frG_in, congrArg (fun z : AlE => z.1) e, congrArg (fun z : AlE => z.2) e⟩
  keeps := fun _ _ _ ⟨K, hK, c1, c2⟩ k => ⟨K, PySem.W.Frag.In.keeps hK k, c1, c2⟩
theorem obsE_eq {n : Nat} {fa : List He.Fa} {fn : List He.DefD} {ex : PySem.W.Frag → Bool} {g : Addr → Option Obj} {s : Shared} (h : ∀ a, g a = s.heap.get? a) : obsE n fa fn ex g = (hookE n fa fn ex).obs s := by
  have e : g = s.heap.get? := funext h
  rw [e] <;> rfl
/-- gcd is the library's -/
def gcdE (K : PySem.W.Frag) : Bool := He.eqO (PySem.W.nsIn K mainGlobals "gcd") (some (some (.builtin "math.gcd")))
theorem gcdE_ok {K : PySem.W.Frag} {h : Heap} {mg : Str → Option Value} (X : K.In h) (G : h.Ns mainGlobals mg) (c : gcdE K = true) : mg "gcd" = some (.builtin "math.gcd") := PySem.W.mg_of X G (He.eqO_ok c)
end PD

set_option Elab.async false
set_option linter.all false
set_option maxRecDepth 100000
namespace PD
open PySem
section
variable {cf : CallF} {gl : Str → Option D} {e : PD.Env} {a b c as : IE} {i f : Nat} {op op' : Operator} {co co' : CmpOp} {d : D} {x : Str} {bi : BI} {t : IT} {sa sb : IS}
theorem x_lc : ev cf gl (.lc i) e = readAt i e := rfl
theorem x_gl : ev cf gl (.gl x) e = .op e (gl x) := rfl
theorem x_cst : ev cf gl (.cst d) e = .ok d e := rfl
theorem x_bin : ev cf gl (.bin op a b) e = (ev cf gl a e).bind fun x e => (ev cf gl b e).bind fun y e => .op e (binD op x.frz y.frz) := rfl
theorem x_neg : ev cf gl (.neg a) e = (ev cf gl a e).bind fun x e => match x with
    | .int i => .ok (.int (-i)) e
    | _ => .bad := rfl
theorem x_cmp : ev cf gl (.cmp co a b) e = (ev cf gl a e).bind fun x e => (ev cf gl b e).bind fun y e => .op e ((cmpD co x.frz y.frz).map .bl) := rfl
theorem x_chn : ev cf gl (.chn co co' a b c) e = (ev cf gl a e).bind fun x e => (ev cf gl b e).bind fun y e => (R.op e (cmpD co x.frz y.frz)).bind fun k e =>
      if k then (ev cf gl c e).bind fun z e => .op e ((cmpD co' y.frz z.frz).map .bl) else .ok (.bl false) e := rfl
theorem x_cmpR : ev cf gl (.cmpR co a i) e = (ev cf gl a e).bind fun x e => .op e ((viewAt i e).bind fun y => (cmpD co x.frz y).map .bl) := rfl
theorem x_and : ev cf gl (.and_ a b) e = (ev cf gl a e).bind fun x e => (R.op e (truth x)).bind fun k e => if k then ev cf gl b e else .ok x e := rfl
theorem x_or : ev cf gl (.or_ a b) e = (ev cf gl a e).bind fun x e => (R.op e (truth x)).bind fun k e => if k then .ok x e else ev cf gl b e := rfl
theorem x_not : ev cf gl (.not_ a) e = (ev cf gl a e).bind fun x e => (R.op e (truth x)).bind fun k e => .ok (.bl (!k)) e := rfl
theorem x_ite : ev cf gl (.ite c a b) e = (ev cf gl c e).bind fun x e => (R.op e (truth x)).bind fun k e => if k then ev cf gl a e else ev cf gl b e := rfl
theorem x_tup : ev cf gl (.tup as) e = (evs cf gl as e).bind fun ds e => if ds.length ≤ line then .ok (.tup (D.frzs ds)) e else .bad := rfl
theorem x_lst : ev cf gl (.lst as) e = (evs cf gl as e).bind fun ds e => if ds.length ≤ line then .ok (.own false ds) e else .bad := rfl
theorem x_sub : ev cf gl (.sub a b) e = (ev cf gl a e).bind fun x e => (ev cf gl b e).bind fun y e => .op e (subD x.frz y) := rfl
theorem x_subB : ev cf gl (.subB i b) e = if hasAt i e then (ev cf gl b e).bind fun y e => match e[i]? with
    | some (some (.own _ xs)) => if plains xs then .op e (subD (.lst xs) y) else .bad
    | some (some .hid) => .bad
    | some (some d) => .op e (subD d y)
    | _ => .bad
    else .bad := rfl
theorem x_slc : ev cf gl (.slc a b c) e = (ev cf gl a e).bind fun x e => (ev cf gl b e).bind fun l e => (R.op e (partD l)).bind fun l e => (ev cf gl c e).bind fun h e => (R.op e (partD h)).bind fun h e =>
      .op e (slcD x.frz l h) := rfl
theorem x_no : ev cf gl .no e = .ok .hid e := rfl
theorem x_yes : ev cf gl .yes e = .ok (.bl true) e := rfl
theorem x_rev : ev cf gl (.rev a) e = (ev cf gl a e).bind fun x e => match x.frz with
    | .lst xs => .ok (.own false xs.reverse) e
    | .tup xs => .ok (.tup xs.reverse) e
    | _ => .bad := rfl
theorem x_callF : ev cf gl (.callF f as) e = (evs cf gl as e).bind fun ds e => retC e (cf f (D.frzs ds)) := rfl
theorem x_callIO : ev cf gl (.callIO f i as) e = if hasAt i e then (evs cf gl as e).bind fun ds e => match e[i]? with
    | some (some (.own p xs)) => retIO p i e (cf f (.own true xs :: D.frzs ds))
    | _ => .bad
    else .bad := rfl
theorem x_callB : ev cf gl (.callB bi as) e = (evs cf gl as e).bind fun ds e => .op e (biD bi (D.frzs ds)) := rfl
theorem x_callBB : ev cf gl (.callBB bi i) e = .op e ((viewP i e).bind fun x => biD bi [x]) := rfl
theorem x_isi : ev cf gl (.isi bi a) e = (ev cf gl a e).bind fun x e => .op e (biD bi [x.frz]) := rfl
theorem x_nil : evs cf gl .nil e = .ok [] e := rfl
theorem x_cons : evs cf gl (.cons a as) e = (ev cf gl a e).bind fun x e => (evs cf gl as e).bind fun xs e => .ok (x :: xs) e := rfl
theorem x_star : evs cf gl (.star a as) e = (ev cf gl a e).bind fun x e => match itemsOf x.frz with
    | some ys => (evs cf gl as e).bind fun xs e => .ok (ys ++ xs) e
    | none => .bad := rfl
theorem x_sE : evI cf gl (.sE a) e = (ev cf gl a e).bind fun x e => .op e (itemsOf x.frz) := rfl
theorem x_sEn : evI cf gl (.sEn a) e = (ev cf gl a e).bind fun x e => .op e ((itemsOf x.frz).map (enumD 0)) := rfl
theorem x_sZp : evI cf gl (.sZp a b) e = (ev cf gl a e).bind fun x e => (ev cf gl b e).bind fun y e => match x.frz, y.frz with
    | .lst xs, .lst ys => .ok (zipD xs ys) e
    | .tup xs, .tup ys => .ok (zipD xs ys) e
    | _, _ => .bad := rfl
theorem x_sR1 : evI cf gl (.sR1 a) e = (ev cf gl a e).bind fun x e => match x with
    | .int j => if small62 j then .ok (rangeD 0 j.toNat) e else .bad
    | _ => .bad := rfl
theorem y_skip : evS cf gl .skip e = .ok .nx e := rfl
theorem y_seq : evS cf gl (.seq sa sb) e = (evS cf gl sa e).bind fun fl e => match fl with
    | .nx => evS cf gl sb e
    | fl => .ok fl e := rfl
theorem y_asgN : evS cf gl (.asg (.nm i) a) e = (ev cf gl a e).bind fun x e => (asg (.nm i) x e).bind fun _ e => .ok .nx e := rfl
theorem y_asgT : evS cf gl (.asg (.tup t) a) e = (ev cf gl a e).bind fun x e => (asg (.tup t) x.frz e).bind fun _ e => .ok .nx e := rfl
theorem y_par {j : Nat} : evS cf gl (.par i j a b) e = (ev cf gl a e).bind fun x e => (ev cf gl b e).bind fun y e => if freeAt i e && freeAt j e then .ok .nx ((e.set i (some x)).set j (some y)) else .bad := rfl
theorem y_par3 {j k : Nat} : evS cf gl (.par3 i j k a b c) e = (ev cf gl a e).bind fun x e => (ev cf gl b e).bind fun y e => (ev cf gl c e).bind fun z e =>
      if freeAt i e && (freeAt j e && freeAt k e) then .ok .nx (((e.set i (some x)).set j (some y)).set k (some z)) else .bad := rfl
theorem y_ife : evS cf gl (.ife c sa sb) e = (evT cf gl c e).bind fun k e => if k then evS cf gl sa e else evS cf gl sb e := rfl
theorem y_ret : evS cf gl (.ret a) e = (ev cf gl a e).bind fun x e => .ok (.rt x) e := rfl
theorem y_retS : evS cf gl (.retS i) e = match e[i]? with
    | some (some d) => if pinned d then .bad else .ok (.rt d) (e.set i none)
    | _ => .bad := rfl
theorem y_exp : evS cf gl (.exp a) e = (ev cf gl a e).bind fun _ e => .ok .nx e := rfl
theorem y_app : evS cf gl (.app i a) e = if ownAt i e then (ev cf gl a e).bind fun x e => match e[i]? with
    | some (some (.own p xs)) => if xs.length < line then .ok .nx (e.set i (some (.own p (xs ++ [x])))) else .bad
    | _ => .bad
    else .bad := rfl
theorem y_set : evS cf gl (.set i c a) e = (ev cf gl a e).bind fun x e => if hasAt i e then (ev cf gl c e).bind fun n e => match n, e[i]? with
    | .int n, some (some (.own p xs)) => match L2.ixN xs.length n with
      | some j => .ok .nx (e.set i (some (.own p (xs.set j x))))
      | none => .bad
    | _, _ => .bad
    else .bad := rfl
theorem y_for {src : IE} : evS cf gl (.for_ t src sb) e = (evI cf gl src e).bind fun ds e => forL (fun d e => (asg t d e).bind fun _ e => evS cf gl sb e) ds e := rfl
end
/-- a comprehension whose turns leave nothing behind -/
theorem compL_pure {α : Type} {enc : α → D} {F : D → PD.Env → R (List D)} {vs : List Nat} {g : α → List D} {w : PD.Env} : ∀ l : List α, (∀ x ∈ l, ∃ e', F (enc x) w = .ok (g x) e' ∧ vs.all (freeAt · e') = true ∧ wipeE e' vs = w) → compL F vs (l.map enc) w = .ok (l.flatMap g) w
  | [], _ => rfl
  | d :: ds, h => by
    obtain ⟨e', h1, h2, h3⟩ := h d List.mem_cons_self
    rw [List.map_cons]
    simp only [compL]
    rw [h1]
    show ((wipeR e' vs).bind fun _ e1 => (compL F vs (ds.map enc) e1).bind fun ys e2 => R.ok (g d ++ ys) e2) = _
    unfold wipeR
    rw [if_pos h2, h3]
    show ((compL F vs (ds.map enc) w).bind fun ys e2 => R.ok (g d ++ ys) e2) = _
    rw [compL_pure ds fun x hx => h x (List.mem_cons_of_mem _ hx), List.flatMap_cons]
    rfl
theorem ev_comp {α : Type} {enc : α → D} {cf : CallF} {gl : Str → Option D} {elt src cond : IE} {t : IT} {vs : List Nat} {e e1 : PD.Env} {l : List α} {g : α → List D} (hs : evI cf gl src e = .ok (l.map enc) e1) (hc : calmAt e1 vs = true)
    (hF : ∀ x ∈ l, ∃ e', compF cf gl t cond elt (enc x) (wipeE e1 vs) = .ok (g x) e' ∧ vs.all (freeAt · e') = true ∧ wipeE e' vs = wipeE e1 vs) (hl : (l.flatMap g).length ≤ line) :
    ev cf gl (.comp elt t src cond vs) e = .ok (.own false (l.flatMap g)) (backE e1 (wipeE e1 vs) vs) := by
  simp only [ev]
  rw [hs]
  show (if calmAt e1 vs = true then (compL (compF cf gl t cond elt) vs (l.map enc) (wipeE e1 vs)).bind _ else _) = _
  rw [if_pos hc, compL_pure l hF]
  show (if _ ≤ line then _ else _) = _
  rw [if_pos hl]
/-- .. one item a turn -/
theorem ev_map {α : Type} {enc f : α → D} {cf : CallF} {gl : Str → Option D} {elt src cond : IE} {t : IT} {vs : List Nat} {e e1 : PD.Env} {l : List α} (hs : evI cf gl src e = .ok (l.map enc) e1) (hc : calmAt e1 vs = true)
    (hF : ∀ x ∈ l, ∃ e', compF cf gl t cond elt (enc x) (wipeE e1 vs) = .ok [f x] e' ∧ vs.all (freeAt · e') = true ∧ wipeE e' vs = wipeE e1 vs) (hl : l.length ≤ line) :
    ev cf gl (.comp elt t src cond vs) e = .ok (.own false (l.map f)) (backE e1 (wipeE e1 vs) vs) := by
  have e2 : l.flatMap (fun x => [f x]) = l.map f := by
    clear hs hF hl
    induction l with
    | nil => rfl
    | cons x l ih => rw [List.flatMap_cons, List.map_cons, ih]; rfl
  rw [ev_comp (g := fun x => [f x]) hs hc hF (by rw [e2, List.length_map]; exact hl), e2]
end PD

set_option Elab.async false
set_option linter.all false
set_option maxRecDepth 100000
namespace PD
open PySem
theorem forL_inv {α σ : Type} {enc : α → D} {F : D → PD.Env → R Fl} {I : σ → PD.Env → Prop} {step : σ → α → σ} : ∀ (l : List α) (s : σ) (e : PD.Env), I s e → (∀ s e x, x ∈ l → I s e → ∃ e', F (enc x) e = .ok .nx e' ∧ I (step s x) e') →
    ∃ e', forL F (l.map enc) e = .ok .nx e' ∧ I (l.foldl step s) e'
  | [], s, e, h, _ => ⟨e, rfl, h⟩
  | x :: l, s, e, h, hF => by
    obtain ⟨e1, h1, h2⟩ := hF s e x List.mem_cons_self h
    obtain ⟨e2, h3, h4⟩ := forL_inv l (step s x) e1 h2 fun s e y hy hi => hF s e y (List.mem_cons_of_mem _ hy) hi
    refine ⟨e2, ?_, h4⟩
    rw [List.map_cons]
    simp only [forL]
    rw [h1]
    exact h3
/-- .. by what is done -/
theorem forL_pre {α : Type} {enc : α → D} {F : D → PD.Env → R Fl} {I : List α → PD.Env → Prop} : ∀ (l pre : List α) (e : PD.Env), I pre e → (∀ (pre' : List α) (x : α) (post : List α) (e : PD.Env), pre ++ l = pre' ++ x :: post → I pre' e → ∃ e', F (enc x) e = .ok .nx e' ∧ I (pre' ++ [x]) e') →
    ∃ e', forL F (l.map enc) e = .ok .nx e' ∧ I (pre ++ l) e'
  | [], pre, e, h, _ => ⟨e, rfl, by rw [List.append_nil]; exact h⟩
  | x :: l, pre, e, h, hF => by
    obtain ⟨e1, h1, h2⟩ := hF pre x l e rfl h
    obtain ⟨e2, h3, h4⟩ := forL_pre l (pre ++ [x]) e1 h2 fun pre' y post e he hi => hF pre' y post e (by rw [← he, List.append_assoc]; rfl) hi
    refine ⟨e2, ?_, by rw [List.append_assoc] at h4; exact h4⟩
    rw [List.map_cons]
    simp only [forL]
    rw [h1]
    exact h3
theorem y_for_ok {cf : CallF} {gl : Str → Option D} {t : IT} {src : IE} {sb : IS} {e e1 : PD.Env} {ds : List D} {r : R Fl} (h : evI cf gl src e = .ok ds e1) (h2 : forL (fun d e => (asg t d e).bind fun _ e => evS cf gl sb e) ds e1 = r) : evS cf gl (.for_ t src sb) e = r := by
  simp only [evS]
  rw [h]
  exact h2
theorem enumD_map {α : Type} {enc : α → D} : ∀ (l : List α) (k : Nat), enumD (k : Int) (l.map enc) = (l.zipIdx k).map fun p => D.tup [.int (p.2 : Int), enc p.1]
  | [], _ => rfl
  | x :: l, k => by
    rw [List.map_cons, List.zipIdx_cons, List.map_cons]
    show D.tup [.int (k : Int), enc x] :: enumD ((k : Int) + 1) (l.map enc) = _
    rw [show (k : Int) + 1 = ((k + 1 : Nat) : Int) from rfl, enumD_map l (k + 1)]
end PD

set_option Elab.async false
set_option linter.all false
set_option maxRecDepth 100000
namespace PD
open PySem
theorem x_compB {cf : CallF} {gl : Str → Option D} {elt cond : IE} {t : IT} {i : Nat} {vs : List Nat} {e : PD.Env} {p : Bool} {ds : List D} (h1 : e[i]? = some (some (.own p ds))) (h2 : plains ds = true) (h3 : calmAt (e.set i (some .hid)) vs = true) :
    ev cf gl (.compB elt t i cond vs) e = (hideR i (.own p ds) (compL (compF cf gl t cond elt) vs ds (wipeE (e.set i (some .hid)) vs))).bind fun xs e' =>
        if xs.length ≤ line then .ok (.own false xs) (backE e e' vs) else .bad := by
  simp only [ev]
  rw [h1]
  show (if (plains ds && calmAt (e.set i (some .hid)) vs) = true then _ else _) = _
  rw [h2, h3]
  rfl
theorem ev_filtB {α : Type} {enc : α → D} {c : α → Bool} {cf : CallF} {gl : Str → Option D} {elt cond : IE} {t : IT} {i : Nat} {vs : List Nat} {e w : PD.Env} {p : Bool} {l : List α}
    (h1 : e[i]? = some (some (.own p (l.map enc)))) (h2 : plains (l.map enc) = true) (h3 : calmAt (e.set i (some .hid)) vs = true) (hw : wipeE (e.set i (some .hid)) vs = w) (h4 : w[i]? = some (some .hid))
    (hF : ∀ x ∈ l, ∃ e', compF cf gl t cond elt (enc x) w = .ok (if c x then [enc x] else []) e' ∧ vs.all (freeAt · e') = true ∧ wipeE e' vs = w) (hl : l.length ≤ line) :
    ev cf gl (.compB elt t i cond vs) e = .ok (.own false ((l.filter c).map enc)) (backE e (w.set i (some (.own p (l.map enc)))) vs) := by
  rw [x_compB h1 h2 h3, hw, compL_pure (g := fun x => if c x then [enc x] else []) l hF]
  have e2 : ∀ l : List α, l.flatMap (fun x => if c x then [enc x] else []) = (l.filter c).map enc := by
    intro l
    induction l with
    | nil => rfl
    | cons x l ih =>
      rw [List.flatMap_cons, ih, List.filter_cons]
      by_cases hc : c x = true
      · rw [if_pos hc, if_pos hc]; rfl
      · rw [if_neg hc, if_neg hc]; rfl
  show R.bind (match w[i]? with | some (some .hid) => R.ok _ (w.set i _) | _ => .bad) _ = _
  rw [h4, e2]
  show (if ((l.filter c).map enc).length ≤ line then _ else _) = _
  rw [if_pos (by rw [List.length_map]; exact Nat.le_trans (List.length_filter_le _ _) hl)]
theorem y_ins_ok {cf : CallF} {gl : Str → Option D} {i : Nat} {k a : IE} {e e1 e2 : PD.Env} {p : Bool} {n : Nat} {x : D} {xs : List D} (h0 : ownAt i e = true) (h1 : ev cf gl k e = .ok (.int (n : Int)) e1) (h2 : ev cf gl a e1 = .ok x e2) (h3 : e2[i]? = some (some (.own p xs))) (h4 : n ≤ xs.length) (h5 : xs.length < line) :
    evS cf gl (.ins i k a) e = .ok .nx (e2.set i (some (.own p (xs.take n ++ [x] ++ xs.drop n)))) := by
  simp only [evS]
  rw [if_pos h0, h1]
  show ((ev cf gl a e1).bind fun x e => _) = _
  rw [h2]
  show (match D.int (n : Int), e2[i]? with
    | .int n, some (some (.own p xs)) => if 0 ≤ n ∧ n ≤ xs.length ∧ xs.length < line then R.ok Fl.nx (e2.set i (some (.own p (xs.take n.toNat ++ [x] ++ xs.drop n.toNat)))) else .bad
    | _, _ => .bad) = _
  rw [h3]
  show (if 0 ≤ (n : Int) ∧ (n : Int) ≤ xs.length ∧ xs.length < line then R.ok Fl.nx (e2.set i (some (.own p (xs.take (n : Int).toNat ++ [x] ++ xs.drop (n : Int).toNat)))) else .bad) = _
  rw [if_pos ⟨by omega, by omega, h5⟩, Int.toNat_natCast]
end PD
namespace PD
open PySem
theorem rangeD_map : ∀ (n lo : Nat), rangeD (lo : Int) n = (List.range' lo n).map fun i : Nat => D.int (i : Int)
  | 0, _ => rfl
  | n + 1, lo => by
    show D.int (lo : Int) :: rangeD ((lo : Int) + 1) n = _
    rw [show (lo : Int) + 1 = ((lo + 1 : Nat) : Int) from rfl, rangeD_map n (lo + 1)]
    rfl
theorem sm62 {n : Nat} (h : n < 1000000) : small62 (n : Int) = true := by
  unfold small62
  rw [Bool.and_eq_true, decide_eq_true_eq, decide_eq_true_eq]
  have : (2 : Int) ^ 62 = 4611686018427387904 := by decide
  omega
theorem sR1_ok {cf : CallF} {gl : Str → Option D} {a : IE} {e e1 : PD.Env} {n : Nat} (h : ev cf gl a e = .ok (.int (n : Int)) e1) (hn : n < 1000000) : evI cf gl (.sR1 a) e = .ok ((List.range n).map fun i : Nat => D.int (i : Int)) e1 := by
  have e0 : rangeD 0 n = (List.range n).map fun i : Nat => D.int (i : Int) := by rw [List.range_eq_range']; exact rangeD_map n 0
  have h62 := sm62 hn
  simp only [evI, h, R.bind]
  rw [h62]
  simp only [if_true, Int.toNat_natCast, e0]
theorem forL_ind {α : Type} {enc : α → D} {F : D → PD.Env → R Fl} {I : PD.Env → Prop} : ∀ (l : List α) (e : PD.Env), I e → (∀ x ∈ l, ∀ e, I e → ∃ e', F (enc x) e = .ok .nx e' ∧ I e') → ∃ e', forL F (l.map enc) e = .ok .nx e' ∧ I e'
  | [], e, h, _ => ⟨e, rfl, h⟩
  | x :: l, e, h, hF => by
    obtain ⟨e1, h1, h2⟩ := hF x List.mem_cons_self e h
    obtain ⟨e2, h3, h4⟩ := forL_ind l e1 h2 fun y hy e hi => hF y (List.mem_cons_of_mem _ hy) e hi
    refine ⟨e2, ?_, h4⟩
    rw [List.map_cons]
    simp only [forL]
    rw [h1]
    exact h3
end PD
namespace PD
open PySem
theorem compL_none {α : Type} {enc : α → D} {F : D → PD.Env → R (List D)} {vs : List Nat} {I : PD.Env → Prop} : ∀ (l : List α) (e : PD.Env), I e → (∀ x ∈ l, ∀ e, I e → ∃ e1, F (enc x) e = .ok [] e1 ∧ vs.all (freeAt · e1) = true ∧ I (wipeE e1 vs)) → ∃ e', compL F vs (l.map enc) e = .ok [] e' ∧ I e'
  | [], e, h, _ => ⟨e, rfl, h⟩
  | x :: l, e, h, hF => by
    obtain ⟨e1, h1, h2, h3⟩ := hF x List.mem_cons_self e h
    obtain ⟨e2, h4, h5⟩ := compL_none l (wipeE e1 vs) h3 fun y hy e hi => hF y (List.mem_cons_of_mem _ hy) e hi
    refine ⟨e2, ?_, h5⟩
    rw [List.map_cons]
    simp only [compL]
    rw [h1]
    show ((wipeR e1 vs).bind fun _ e1 => (compL F vs (l.map enc) e1).bind fun ys e2 => R.ok ([] ++ ys) e2) = _
    unfold wipeR
    rw [if_pos h2]
    show ((compL F vs (l.map enc) (wipeE e1 vs)).bind fun ys e2 => R.ok ([] ++ ys) e2) = _
    rw [h4]
    rfl
theorem ev_comp_none {α : Type} {enc : α → D} {cf : CallF} {gl : Str → Option D} {elt src cond : IE} {t : IT} {vs : List Nat} {e e1 : PD.Env} {l : List α} {I : PD.Env → Prop} (hs : evI cf gl src e = .ok (l.map enc) e1) (hc : calmAt e1 vs = true) (h0 : I (wipeE e1 vs))
    (hF : ∀ x ∈ l, ∀ e, I e → ∃ e', compF cf gl t cond elt (enc x) e = .ok [] e' ∧ vs.all (freeAt · e') = true ∧ I (wipeE e' vs)) :
    ∃ e', I e' ∧ ev cf gl (.comp elt t src cond vs) e = .ok (.own false []) (backE e1 e' vs) := by
  obtain ⟨e', h1, h2⟩ := compL_none (F := compF cf gl t cond elt) l (wipeE e1 vs) h0 hF
  refine ⟨e', h2, ?_⟩
  simp only [ev]
  rw [hs]
  show (if calmAt e1 vs = true then (compL (compF cf gl t cond elt) vs (l.map enc) (wipeE e1 vs)).bind _ else _) = _
  rw [if_pos hc, h1]
  rfl
end PD

set_option Elab.async false
set_option linter.all false
set_option maxRecDepth 100000
namespace PD
open PySem PyProof.Rows
theorem ok_of (s : String) : PyData.strOk (Str.ofString s) = true := by
  unfold PyData.strOk
  rw [Str.ofString_eq_toList, Array.all_eq_true']
  intro c hc
  rw [List.mem_toArray, List.mem_map] at hc
  obtain ⟨x, _, rfl⟩ := hc
  rw [decide_eq_true_eq]
  have := x.valid
  have h2 : x.toNat = x.val.toNat := rfl
  rcases this with h | ⟨_, h⟩
  · omega
  · omega
theorem ok_app {x y : Str} (h1 : PyData.strOk x = true) (h2 : PyData.strOk y = true) : PyData.strOk (x ++ y) = true := by
  unfold PyData.strOk at *
  show (x.cps ++ y.cps).all _ = true
  rw [Array.all_append, h1, h2]
  rfl
theorem ok_join {sep : Str} (hs : PyData.strOk sep = true) : ∀ l : List Str, (∀ x ∈ l, PyData.strOk x = true) → PyData.strOk (Str.join sep l) = true
  | [], _ => by simp [PyData.strOk, Str.join, Str.empty]
  | [x], h => h x List.mem_cons_self
  | x :: y :: l, h => ok_app (ok_app (h x List.mem_cons_self) hs) (ok_join hs (y :: l) fun z hz => h z (List.mem_cons_of_mem _ hz))
theorem ok_from : ∀ (l : List Str) (k : Nat) (acc : Str), PyData.strOk acc = true → (∀ x ∈ l, PyData.strOk x = true) → PyData.strOk (textFrom k acc l) = true
  | [], _, _, h, _ => h
  | x :: l, k, acc, h, h2 => by
    show PyData.strOk (textFrom (k + 1) (acc ++ (if k > 0 then ", " else "" : String) ++ x) l) = true
    exact ok_from l (k + 1) _ (ok_app (ok_app h (ok_of _)) (h2 x List.mem_cons_self)) fun z hz => h2 z (List.mem_cons_of_mem _ hz)
mutual
/-- no text, no dict -/
def bare : PyData → Bool
  | .none | .bool _ | .int _ => true
  | .list xs | .tuple xs => bareAll xs
  | .str _ | .dict _ => false
def bareAll : List PyData → Bool
  | [] => true
  | x :: xs => bare x && bareAll xs
end
mutual
theorem ok_shown : ∀ d : PyData, bare d = true → PyData.strOk d.shown = true
  | .none, _ => ok_of _
  | .bool b, _ => by cases b <;> exact ok_of _
  | .int i, _ => ok_of _
  | .str _, h => by simp only [bare] at h; exact nomatch h
  | .dict _, h => by simp only [bare] at h; exact nomatch h
  | .list xs, h => by
    have := ok_shownAll xs (by simpa only [bare] using h)
    simp only [PyData.shown]
    exact ok_app (ok_from _ _ _ (ok_of _) this) (ok_of _)
  | .tuple xs, h => by
    have := ok_shownAll xs (by simpa only [bare] using h)
    simp only [PyData.shown]
    exact ok_app (ok_app (ok_of _) (ok_join (ok_of _) _ this)) (ok_of _)
theorem ok_shownAll : ∀ xs : List PyData, bareAll xs = true → ∀ t ∈ PyData.shownAll xs, PyData.strOk t = true
  | [], _, t, ht => by simp only [PyData.shownAll] at ht; cases ht
  | x :: xs, h, t, ht => by
    have h' : bare x = true ∧ bareAll xs = true := by simpa only [bareAll, Bool.and_eq_true] using h
    simp only [PyData.shownAll] at ht
    rcases List.mem_cons.mp ht with rfl | ht
    · exact ok_shown x h'.1
    · exact ok_shownAll xs h'.2 t ht
end
theorem shaped_str {x : Str} (h : PyData.strOk x = true) : shapedD (.str x) = true := by
  show ((PyData.str x).canLay0 && decide ((PyData.str x).depth ≤ 64)) = true
  simp only [PyData.canLay0, h, Bool.true_and, PyData.depth]
  rfl
theorem ne_str {x y : Str} (hx : PyData.strOk x = true) (hy : PyData.strOk y = true) : cmpD .NotEq (.str x) (.str y) = some (!(x == y)) := by
  show (if shapedD (.str x) = true ∧ shapedD (.str y) = true then some (!PyData.eqv (.str x) (.str y)) else none) = _
  rw [if_pos ⟨shaped_str hx, shaped_str hy⟩]
  simp only [PyData.eqv]
theorem eq_str {x y : Str} (hx : PyData.strOk x = true) (hy : PyData.strOk y = true) : cmpD .Eq (.str x) (.str y) = some (x == y) := by
  show (if shapedD (.str x) = true ∧ shapedD (.str y) = true then some (PyData.eqv (.str x) (.str y)) else none) = _
  rw [if_pos ⟨shaped_str hx, shaped_str hy⟩]
  simp only [PyData.eqv]
theorem repr_ok {d : D} (h1 : d.py.showable = true) (h2 : d.py.depth ≤ 60) (h3 : d.py.leavesShort 400 = true) (h4 : d.py.bulk ≤ 30000) : biD .repr [d] = some (.str d.py.shown) := by
  have h := PyData.shown_le_bulk 400 (by decide) d.py h3
  have : (400 + 2) * d.py.bulk ≤ 402 * 30000 := Nat.mul_le_mul (by omega) h4
  show (if d.py.showable = true ∧ d.py.depth ≤ 60 ∧ d.py.shown.length ≤ line then some (D.str d.py.shown) else none) = _
  rw [if_pos ⟨h1, h2, by show _ ≤ 16777216; omega⟩]
end PD

set_option Elab.async false
set_option linter.all false
set_option maxRecDepth 100000
namespace K74
open PySem PySem.Spec PyProof.Rows L2 PD
theorem lookup_mem {α : Type} {x : Str} {d : α} : ∀ {l : List (Str × α)}, l.lookup x = some d → (x, d) ∈ l
  | [], h => by cases h
  | (y, e) :: l, h => by
    rw [List.lookup_cons] at h
    split at h
    · rename_i hb
      cases h
      rw [eq_of_beq hb]
      exact List.mem_cons_self
    · exact List.mem_cons_of_mem _ (lookup_mem h)
/-- is_whole(value): 0 value -/
def b_is_whole : IS := .ret (.and_ (.isi .isInt (.lc 0)) (.and_ (.not_ (.isi .isBool (.lc 0))) (.chn .Lt .Lt (.neg (.gl (Str.ofString "GREAT"))) (.lc 0) (.gl (Str.ofString "GREAT")))))
/-- lowest(top, bottom): 0 top, 1 bottom, 2 sign, 3 shared -/
def b_lowest : IS := .seq (.asg (.nm 2) (.ite (.cmp .Lt (.lc 1) (.cst (.int 0))) (.neg (.cst (.int 1))) (.cst (.int 1)))) (.seq (.asg (.nm 3) (.callB .gcd (.cons (.lc 0) (.cons (.lc 1) (.nil))))) (.ret (.tup (.cons (.bin .FloorDiv (.bin .Mult (.lc 2) (.lc 0)) (.lc 3)) (.cons (.bin .FloorDiv (.bin .Mult (.lc 2) (.lc 1)) (.lc 3)) (.nil))))))
/-- turn_in(one, other): 0 one, 1 other -/
def b_turn_in : IS := .ret (.bin .Sub (.bin .Mult (.sub (.lc 0) (.cst (.int 0))) (.sub (.lc 1) (.cst (.int 1)))) (.bin .Mult (.sub (.lc 0) (.cst (.int 1))) (.sub (.lc 1) (.cst (.int 0)))))
/-- along_in(one, other): 0 one, 1 other -/
def b_along_in : IS := .ret (.bin .Add (.bin .Mult (.sub (.lc 0) (.cst (.int 0))) (.sub (.lc 1) (.cst (.int 0)))) (.bin .Mult (.sub (.lc 0) (.cst (.int 1))) (.sub (.lc 1) (.cst (.int 1)))))
/-- is_point_of(value): 0 value, 1 one -/
def b_is_point_of : IS := .ret (.and_ (.isi .isTuple (.lc 0)) (.and_ (.cmp .Eq (.callB .len (.cons (.lc 0) (.nil))) (.cst (.int 2))) (.callB .all (.cons (.comp (.callF 0 (.cons (.lc 1) (.nil))) (.nm 1) (.sE (.lc 0)) (.yes) [1]) (.nil)))))
/-- is_direction_of(value): 0 value -/
def b_is_direction_of : IS := .ret (.and_ (.callF 4 (.cons (.lc 0) (.nil))) (.cmp .NotEq (.lc 0) (.tup (.cons (.cst (.int 0)) (.cons (.cst (.int 0)) (.nil))))))
/-- is_integer_of(value): 0 value -/
def b_is_integer_of : IS := .ret (.and_ (.isi .isInt (.lc 0)) (.not_ (.isi .isBool (.lc 0))))
/-- is_fraction_of(value): 0 value, 1 one -/
def b_is_fraction_of : IS := .seq (.ife (.or_ (.not_ (.isi .isTuple (.lc 0))) (.or_ (.cmp .NotEq (.callB .len (.cons (.lc 0) (.nil))) (.cst (.int 2))) (.not_ (.callB .all (.cons (.comp (.callF 6 (.cons (.lc 1) (.nil))) (.nm 1) (.sE (.lc 0)) (.yes) [1]) (.nil)))))) (.ret (.cst (.bl false))) (.skip)) (.ret (.and_ (.cmp .Gt (.sub (.lc 0) (.cst (.int 1))) (.cst (.int 0))) (.cmp .Eq (.callB .gcd (.cons (.sub (.lc 0) (.cst (.int 0))) (.cons (.sub (.lc 0) (.cst (.int 1))) (.nil)))) (.cst (.int 1)))))
/-- is_wedge_of(value): 0 value, 1 found -/
def b_is_wedge_of : IS := .seq (.ife (.or_ (.not_ (.isi .isTuple (.lc 0))) (.or_ (.cmp .NotEq (.callB .len (.cons (.lc 0) (.nil))) (.cst (.int 3))) (.not_ (.callF 4 (.cons (.sub (.lc 0) (.cst (.int 0))) (.nil)))))) (.ret (.cst (.bl false))) (.skip)) (.seq (.ife (.or_ (.not_ (.callF 5 (.cons (.sub (.lc 0) (.cst (.int 1))) (.nil)))) (.not_ (.callF 5 (.cons (.sub (.lc 0) (.cst (.int 2))) (.nil))))) (.ret (.cst (.bl false))) (.skip)) (.seq (.asg (.nm 1) (.callF 2 (.cons (.sub (.lc 0) (.cst (.int 1))) (.cons (.sub (.lc 0) (.cst (.int 2))) (.nil))))) (.ret (.or_ (.cmp .Gt (.lc 1) (.cst (.int 0))) (.and_ (.cmp .Eq (.lc 1) (.cst (.int 0))) (.cmp .Gt (.callF 3 (.cons (.sub (.lc 0) (.cst (.int 1))) (.cons (.sub (.lc 0) (.cst (.int 2))) (.nil)))) (.cst (.int 0))))))))
/-- halves_in(wedge): 0 wedge, 1 p, 2 q, 3 a, 4 b, 5 c, 6 d, 7 found -/
def b_halves_in : IS := .seq (.asg (.tup (.cons (.tup (.cons (.nm 1) (.cons (.nm 2) (.nil)))) (.cons (.tup (.cons (.nm 3) (.cons (.nm 4) (.nil)))) (.cons (.tup (.cons (.nm 5) (.cons (.nm 6) (.nil)))) (.nil))))) (.lc 0)) (.seq (.asg (.nm 7) (.tup (.cons (.tup (.cons (.lc 4) (.cons (.neg (.lc 3)) (.cons (.bin .Sub (.bin .Mult (.lc 4) (.lc 1)) (.bin .Mult (.lc 3) (.lc 2))) (.nil))))) (.cons (.tup (.cons (.neg (.lc 6)) (.cons (.lc 5) (.cons (.bin .Sub (.bin .Mult (.lc 5) (.lc 2)) (.bin .Mult (.lc 6) (.lc 1))) (.nil))))) (.nil))))) (.ret (.ite (.cmp .Gt (.callF 2 (.cons (.tup (.cons (.lc 3) (.cons (.lc 4) (.nil)))) (.cons (.tup (.cons (.lc 5) (.cons (.lc 6) (.nil)))) (.nil)))) (.cst (.int 0))) (.lc 7) (.tup (.star (.lc 7) (.cons (.tup (.cons (.neg (.lc 3)) (.cons (.neg (.lc 4)) (.cons (.bin .Sub (.bin .Mult (.neg (.lc 3)) (.lc 1)) (.bin .Mult (.lc 4) (.lc 2))) (.nil))))) (.nil)))))))
/-- is_below(half, place): 0 half, 1 place, 2 a, 3 b, 4 c, 5 x, 6 under_x, 7 y, 8 under_y -/
def b_is_below : IS := .seq (.asg (.tup (.cons (.nm 2) (.cons (.nm 3) (.cons (.nm 4) (.nil))))) (.lc 0)) (.seq (.asg (.tup (.cons (.tup (.cons (.nm 5) (.cons (.nm 6) (.nil)))) (.cons (.tup (.cons (.nm 7) (.cons (.nm 8) (.nil)))) (.nil)))) (.lc 1)) (.ret (.cmp .LtE (.bin .Add (.bin .Mult (.bin .Mult (.lc 2) (.lc 5)) (.lc 8)) (.bin .Mult (.bin .Mult (.lc 3) (.lc 7)) (.lc 6))) (.bin .Mult (.bin .Mult (.lc 4) (.lc 6)) (.lc 8)))))
/-- is_held(wedge, place): 0 wedge, 1 place, 2 half -/
def b_is_held : IS := .ret (.callB .all (.cons (.comp (.callF 10 (.cons (.lc 2) (.cons (.lc 1) (.nil)))) (.nm 2) (.sE (.callF 9 (.cons (.lc 0) (.nil)))) (.yes) [2]) (.nil)))
/-- crossing_in(one, other): 0 one, 1 other, 2 a, 3 b, 4 c, 5 d, 6 e, 7 f, 8 under -/
def b_crossing_in : IS := .seq (.asg (.tup (.cons (.tup (.cons (.nm 2) (.cons (.nm 3) (.cons (.nm 4) (.nil))))) (.cons (.tup (.cons (.nm 5) (.cons (.nm 6) (.cons (.nm 7) (.nil))))) (.nil)))) (.tup (.cons (.lc 0) (.cons (.lc 1) (.nil))))) (.seq (.asg (.nm 8) (.bin .Sub (.bin .Mult (.lc 2) (.lc 6)) (.bin .Mult (.lc 3) (.lc 5)))) (.ret (.ite (.cmp .Eq (.lc 8) (.cst (.int 0))) (.cst .non) (.tup (.cons (.callF 1 (.cons (.bin .Sub (.bin .Mult (.lc 4) (.lc 6)) (.bin .Mult (.lc 3) (.lc 7))) (.cons (.lc 8) (.nil)))) (.cons (.callF 1 (.cons (.bin .Sub (.bin .Mult (.lc 2) (.lc 7)) (.bin .Mult (.lc 4) (.lc 5))) (.cons (.lc 8) (.nil)))) (.nil)))))))
/-- is_place(value): 0 value, 1 one -/
def b_is_place : IS := .ret (.and_ (.isi .isTuple (.lc 0)) (.and_ (.cmp .Eq (.callB .len (.cons (.lc 0) (.nil))) (.cst (.int 2))) (.callB .all (.cons (.comp (.callF 7 (.cons (.lc 1) (.nil))) (.nm 1) (.sE (.lc 0)) (.yes) [1]) (.nil)))))
/-- halves_of(wedges): 0 wedges, 1 found, 2 at, 3 wedge, 4 index, 5 half -/
def b_halves_of : IS := .seq (.asg (.nm 1) (.lst (.nil))) (.seq (.for_ (.tup (.cons (.nm 2) (.cons (.nm 3) (.nil)))) (.sEn (.lc 0)) (.ext 1 (.comp (.tup (.cons (.lc 2) (.cons (.lc 4) (.cons (.lc 5) (.nil))))) (.tup (.cons (.nm 4) (.cons (.nm 5) (.nil)))) (.sEn (.callF 9 (.cons (.lc 3) (.nil)))) (.yes) [4, 5]))) (.retS 1))
/-- is_before(one, other): 0 one, 1 other, 2 top, 3 bottom, 4 far, 5 under -/
def b_is_before : IS := .seq (.for_ (.tup (.cons (.tup (.cons (.nm 2) (.cons (.nm 3) (.nil)))) (.cons (.tup (.cons (.nm 4) (.cons (.nm 5) (.nil)))) (.nil)))) (.sZp (.lc 0) (.lc 1)) (.ife (.cmp .NotEq (.bin .Mult (.lc 2) (.lc 5)) (.bin .Mult (.lc 4) (.lc 3))) (.ret (.cmp .Lt (.bin .Mult (.lc 2) (.lc 5)) (.bin .Mult (.lc 4) (.lc 3)))) (.skip))) (.ret (.cst (.bl false)))
/-- in_order(places): 0 places, 1 found, 2 place, 3 at, 4 one -/
def b_in_order : IS := .seq (.asg (.nm 1) (.lst (.nil))) (.seq (.for_ (.nm 2) (.sE (.lc 0)) (.seq (.asg (.nm 3) (.callB .len (.cons (.compB (.lc 4) (.nm 4) 1 (.callF 15 (.cons (.lc 4) (.cons (.lc 2) (.nil)))) [4]) (.nil)))) (.ife (.cmpR .NotIn (.lc 2) 1) (.ins 1 (.lc 3) (.lc 2)) (.skip)))) (.retS 1))
/-- crossings_of(wedges): 0 wedges, 1 halves, 2 found, 3 at, 4 one, 5 other, 6 place, 7 index, 8 half -/
def b_crossings_of : IS := .seq (.asg (.nm 1) (.comp (.lc 8) (.tup (.cons (.nm 3) (.cons (.nm 7) (.cons (.nm 8) (.nil))))) (.sE (.callF 14 (.cons (.lc 0) (.nil)))) (.yes) [3, 7, 8])) (.seq (.asg (.nm 2) (.lst (.nil))) (.seq (.for_ (.tup (.cons (.nm 3) (.cons (.nm 4) (.nil)))) (.sEn (.lc 1)) (.for_ (.nm 5) (.sE (.slc (.lc 1) (.bin .Add (.lc 3) (.cst (.int 1))) (.no))) (.seq (.asg (.nm 6) (.callF 12 (.cons (.lc 4) (.cons (.lc 5) (.nil))))) (.ife (.and_ (.cmp .IsNot (.lc 6) (.cst .non)) (.and_ (.cmpR .NotIn (.lc 6) 2) (.callB .all (.cons (.comp (.callF 10 (.cons (.lc 8) (.cons (.lc 6) (.nil)))) (.nm 8) (.sE (.lc 1)) (.yes) [8]) (.nil))))) (.app 2 (.lc 6)) (.skip))))) (.ret (.callF 16 (.cons (.lc 2) (.nil))))))
/-- require_wedges(value): 0 value, 1 one -/
def b_require_wedges : IS := .seq (.ife (.or_ (.not_ (.isi .isTuple (.lc 0))) (.not_ (.chn .LtE .LtE (.cst (.int 1)) (.callB .len (.cons (.lc 0) (.nil))) (.gl (Str.ofString "MOST_WEDGES"))))) (.stop) (.skip)) (.ife (.not_ (.callB .all (.cons (.comp (.callF 8 (.cons (.lc 1) (.nil))) (.nm 1) (.sE (.lc 0)) (.yes) [1]) (.nil)))) (.stop) (.skip))
/-- is_common(wedges, value): 0 wedges, 1 value, 2 wedge -/
def b_is_common : IS := .seq (.exp (.callF 18 (.cons (.lc 0) (.nil)))) (.ret (.and_ (.callF 13 (.cons (.lc 1) (.nil))) (.callB .all (.cons (.comp (.callF 11 (.cons (.lc 2) (.cons (.lc 1) (.nil)))) (.nm 2) (.sE (.lc 0)) (.yes) [2]) (.nil)))))
/-- corners(wedges): 0 wedges -/
def b_corners : IS := .seq (.exp (.callF 18 (.cons (.lc 0) (.nil)))) (.ret (.callB .tuple (.cons (.callF 17 (.cons (.lc 0) (.nil))) (.nil))))
/-- _law_bag(script, at): 0 script, 1 at, 2 cell, 3 great, 4 blend -/
def b_law_bag : IS := .seq (.asg (.nm 2) (.ite (.cmp .Lt (.lc 1) (.callB .len (.cons (.lc 0) (.nil)))) (.callB .int (.cons (.sub (.lc 0) (.lc 1)) (.nil))) (.bin .Add (.bin .Mult (.cst (.int 89)) (.lc 1)) (.cst (.int 41))))) (.seq (.asg (.nm 3) (.bin .Mod (.callB .max2 (.cons (.cst (.int 0)) (.cons (.bin .Sub (.callB .abs (.cons (.lc 2) (.nil))) (.bin .Pow (.cst (.int 10)) (.cst (.int 18)))) (.nil)))) (.bin .Mult (.bin .Pow (.cst (.int 10)) (.cst (.int 60))) (.bin .Pow (.cst (.int 10)) (.cst (.int 60)))))) (.seq (.asg (.nm 4) (.bin .Add (.bin .Add (.bin .Add (.bin .Mult (.bin .Mod (.callB .int (.cons (.callB .abs (.cons (.lc 2) (.nil))) (.nil))) (.bin .Add (.bin .Pow (.cst (.int 10)) (.cst (.int 12))) (.cst (.int 39)))) (.cst (.int 10007))) (.bin .Mult (.cst (.int 509)) (.lc 1))) (.bin .Mult (.cst (.int 17)) (.callB .int (.cons (.cmp .Lt (.lc 2) (.cst (.int 0))) (.nil))))) (.cst (.int 1)))) (.ret (.lst (.cons (.lc 3) (.cons (.bin .Mod (.callB .int (.cons (.lc 4) (.nil))) (.bin .Sub (.bin .Pow (.cst (.int 2)) (.cst (.int 61))) (.cst (.int 1)))) (.nil)))))))
/-- _law_draw(bag, many): 0 bag, 1 many, 2 found -/
def b_law_draw : IS := .seq (.ife (.cmp .Gt (.subB 0 (.cst (.int 0))) (.cst (.int 0))) (.seq (.asg (.nm 2) (.bin .Mod (.callB .int (.cons (.subB 0 (.cst (.int 0))) (.nil))) (.lc 1))) (.seq (.set 0 (.cst (.int 0)) (.bin .FloorDiv (.subB 0 (.cst (.int 0))) (.lc 1))) (.retS 2))) (.skip)) (.seq (.set 0 (.cst (.int 1)) (.bin .Mod (.callB .int (.cons (.bin .Add (.bin .Mult (.subB 0 (.cst (.int 1))) (.cst (.int 6364136223))) (.cst (.int 1442695041))) (.nil))) (.bin .Sub (.bin .Pow (.cst (.int 2)) (.cst (.int 61))) (.cst (.int 1))))) (.ret (.bin .Mod (.callB .int (.cons (.bin .FloorDiv (.subB 0 (.cst (.int 1))) (.cst (.int 65537))) (.nil))) (.lc 1))))
/-- _law_one_of(bag, items): 0 bag, 1 items -/
def b_law_one_of : IS := .ret (.sub (.lc 1) (.callIO 22 0 (.cons (.callB .len (.cons (.lc 1) (.nil))) (.nil))))
/-- _law_turn(one, other): 0 one, 1 other -/
def b_law_turn : IS := .ret (.bin .Sub (.bin .Mult (.sub (.lc 0) (.cst (.int 0))) (.sub (.lc 1) (.cst (.int 1)))) (.bin .Mult (.sub (.lc 0) (.cst (.int 1))) (.sub (.lc 1) (.cst (.int 0)))))
/-- _law_dot(one, other): 0 one, 1 other -/
def b_law_dot : IS := .ret (.bin .Add (.bin .Mult (.sub (.lc 0) (.cst (.int 0))) (.sub (.lc 1) (.cst (.int 0)))) (.bin .Mult (.sub (.lc 0) (.cst (.int 1))) (.sub (.lc 1) (.cst (.int 1)))))
/-- _law_lowest(top, bottom): 0 top, 1 bottom, 2 one, 3 other, 4 sign -/
def b_law_lowest : IS := .seq (.par 2 3 (.callB .abs (.cons (.lc 0) (.nil))) (.callB .abs (.cons (.lc 1) (.nil)))) (.seq (.whl (.cmp .NotEq (.lc 3) (.cst (.int 0))) (.par 2 3 (.lc 3) (.bin .Mod (.callB .int (.cons (.lc 2) (.nil))) (.lc 3)))) (.seq (.asg (.nm 4) (.ite (.cmp .Gt (.lc 1) (.cst (.int 0))) (.cst (.int 1)) (.neg (.cst (.int 1))))) (.ret (.tup (.cons (.bin .FloorDiv (.bin .Mult (.lc 4) (.lc 0)) (.lc 2)) (.cons (.bin .FloorDiv (.bin .Mult (.lc 4) (.lc 1)) (.lc 2)) (.nil)))))))
/-- _law_planes(wedge): 0 wedge, 1 p, 2 q, 3 a, 4 b, 5 c, 6 d, 7 found -/
def b_law_planes : IS := .seq (.asg (.tup (.cons (.tup (.cons (.nm 1) (.cons (.nm 2) (.nil)))) (.cons (.tup (.cons (.nm 3) (.cons (.nm 4) (.nil)))) (.cons (.tup (.cons (.nm 5) (.cons (.nm 6) (.nil)))) (.nil))))) (.lc 0)) (.seq (.asg (.nm 7) (.tup (.cons (.tup (.cons (.lc 4) (.cons (.bin .Sub (.cst (.int 0)) (.lc 3)) (.cons (.bin .Sub (.bin .Mult (.lc 4) (.lc 1)) (.bin .Mult (.lc 3) (.lc 2))) (.nil))))) (.cons (.tup (.cons (.bin .Sub (.cst (.int 0)) (.lc 6)) (.cons (.lc 5) (.cons (.bin .Sub (.bin .Mult (.lc 5) (.lc 2)) (.bin .Mult (.lc 6) (.lc 1))) (.nil))))) (.nil))))) (.ret (.ite (.cmp .Gt (.callF 24 (.cons (.tup (.cons (.lc 3) (.cons (.lc 4) (.nil)))) (.cons (.tup (.cons (.lc 5) (.cons (.lc 6) (.nil)))) (.nil)))) (.cst (.int 0))) (.lc 7) (.bin .Add (.lc 7) (.tup (.cons (.tup (.cons (.bin .Sub (.cst (.int 0)) (.lc 3)) (.cons (.bin .Sub (.cst (.int 0)) (.lc 4)) (.cons (.bin .Sub (.bin .Sub (.cst (.int 0)) (.bin .Mult (.lc 3) (.lc 1))) (.bin .Mult (.lc 4) (.lc 2))) (.nil))))) (.nil)))))))
/-- _law_does_hold(wedge, place): 0 wedge, 1 place, 2 p, 3 q, 4 right, 5 left, 6 x, 7 under, 8 y, 9 below, 10 far -/
def b_law_does_hold : IS := .seq (.asg (.tup (.cons (.tup (.cons (.nm 2) (.cons (.nm 3) (.nil)))) (.cons (.nm 4) (.cons (.nm 5) (.nil))))) (.lc 0)) (.seq (.asg (.tup (.cons (.tup (.cons (.nm 6) (.cons (.nm 7) (.nil)))) (.cons (.tup (.cons (.nm 8) (.cons (.nm 9) (.nil)))) (.nil)))) (.lc 1)) (.seq (.asg (.nm 10) (.tup (.cons (.bin .Mult (.bin .Sub (.lc 6) (.bin .Mult (.lc 2) (.lc 7))) (.lc 9)) (.cons (.bin .Mult (.bin .Sub (.lc 8) (.bin .Mult (.lc 3) (.lc 9))) (.lc 7)) (.nil))))) (.seq (.ife (.cmp .Eq (.callF 24 (.cons (.lc 4) (.cons (.lc 5) (.nil)))) (.cst (.int 0))) (.ret (.and_ (.cmp .Eq (.callF 24 (.cons (.lc 4) (.cons (.lc 10) (.nil)))) (.cst (.int 0))) (.cmp .GtE (.callF 25 (.cons (.lc 4) (.cons (.lc 10) (.nil)))) (.cst (.int 0))))) (.skip)) (.ret (.and_ (.cmp .GtE (.callF 24 (.cons (.lc 10) (.cons (.lc 5) (.nil)))) (.cst (.int 0))) (.cmp .GtE (.callF 24 (.cons (.lc 4) (.cons (.lc 10) (.nil)))) (.cst (.int 0))))))))
/-- _law_crossing(one, other): 0 one, 1 other, 2 det, 3 x, 4 y -/
def b_law_crossing : IS := .seq (.asg (.nm 2) (.bin .Sub (.bin .Mult (.sub (.lc 0) (.cst (.int 0))) (.sub (.lc 1) (.cst (.int 1)))) (.bin .Mult (.sub (.lc 0) (.cst (.int 1))) (.sub (.lc 1) (.cst (.int 0)))))) (.seq (.ife (.cmp .Eq (.lc 2) (.cst (.int 0))) (.ret (.cst .non)) (.skip)) (.seq (.par 3 4 (.bin .Sub (.bin .Mult (.sub (.lc 0) (.cst (.int 2))) (.sub (.lc 1) (.cst (.int 1)))) (.bin .Mult (.sub (.lc 1) (.cst (.int 2))) (.sub (.lc 0) (.cst (.int 1))))) (.bin .Sub (.bin .Mult (.sub (.lc 0) (.cst (.int 0))) (.sub (.lc 1) (.cst (.int 2)))) (.bin .Mult (.sub (.lc 1) (.cst (.int 0))) (.sub (.lc 0) (.cst (.int 2)))))) (.ret (.tup (.cons (.callF 26 (.cons (.lc 3) (.cons (.lc 2) (.nil)))) (.cons (.callF 26 (.cons (.lc 4) (.cons (.lc 2) (.nil)))) (.nil)))))))
/-- _law_direction(bag, size): 0 bag, 1 size, 2 found, 3 turn -/
def b_law_direction : IS := .seq (.asg (.nm 2) (.tup (.cons (.cst (.int 0)) (.cons (.cst (.int 0)) (.nil))))) (.seq (.for_ (.nm 3) (.sR1 (.cst (.int 9))) (.ife (.cmp .Eq (.lc 2) (.tup (.cons (.cst (.int 0)) (.cons (.cst (.int 0)) (.nil))))) (.asg (.nm 2) (.tup (.cons (.bin .Sub (.callIO 22 0 (.cons (.bin .Add (.bin .Mult (.cst (.int 2)) (.lc 1)) (.cst (.int 1))) (.nil))) (.lc 1)) (.cons (.bin .Sub (.callIO 22 0 (.cons (.bin .Add (.bin .Mult (.cst (.int 2)) (.lc 1)) (.cst (.int 1))) (.nil))) (.lc 1)) (.nil))))) (.skip))) (.ret (.ite (.cmp .NotEq (.lc 2) (.tup (.cons (.cst (.int 0)) (.cons (.cst (.int 0)) (.nil))))) (.lc 2) (.tup (.cons (.cst (.int 1)) (.cons (.cst (.int 0)) (.nil)))))))
/-- _law_wedge(bag, size): 0 bag, 1 size, 2 tower, 3 right, 4 many, 5 left -/
def b_law_wedge : IS := .seq (.par 2 3 (.tup (.cons (.bin .Sub (.callIO 22 0 (.cons (.bin .Add (.bin .Mult (.cst (.int 2)) (.lc 1)) (.cst (.int 1))) (.nil))) (.lc 1)) (.cons (.bin .Sub (.callIO 22 0 (.cons (.bin .Add (.bin .Mult (.cst (.int 2)) (.lc 1)) (.cst (.int 1))) (.nil))) (.lc 1)) (.nil)))) (.callIO 30 0 (.cons (.lc 1) (.nil)))) (.seq (.ife (.cmp .Eq (.callIO 22 0 (.cons (.cst (.int 8)) (.nil))) (.cst (.int 0))) (.seq (.asg (.nm 4) (.bin .Add (.cst (.int 1)) (.callIO 22 0 (.cons (.cst (.int 3)) (.nil))))) (.ret (.tup (.cons (.lc 2) (.cons (.lc 3) (.cons (.tup (.cons (.bin .Mult (.lc 4) (.sub (.lc 3) (.cst (.int 0)))) (.cons (.bin .Mult (.lc 4) (.sub (.lc 3) (.cst (.int 1)))) (.nil)))) (.nil))))))) (.skip)) (.seq (.asg (.nm 5) (.callIO 30 0 (.cons (.lc 1) (.nil)))) (.seq (.ife (.cmp .Eq (.callF 24 (.cons (.lc 3) (.cons (.lc 5) (.nil)))) (.cst (.int 0))) (.asg (.nm 5) (.tup (.cons (.bin .Sub (.cst (.int 0)) (.sub (.lc 3) (.cst (.int 1)))) (.cons (.sub (.lc 3) (.cst (.int 0))) (.nil))))) (.skip)) (.ret (.ite (.cmp .Gt (.callF 24 (.cons (.lc 3) (.cons (.lc 5) (.nil)))) (.cst (.int 0))) (.tup (.cons (.lc 2) (.cons (.lc 3) (.cons (.lc 5) (.nil))))) (.tup (.cons (.lc 2) (.cons (.lc 5) (.cons (.lc 3) (.nil))))))))))
/-- _law_all_planes(wedges): 0 wedges, 1 wedge -/
def b_law_all_planes : IS := .ret (.callB .sumL (.cons (.comp (.callB .list (.cons (.callF 27 (.cons (.lc 1) (.nil))) (.nil))) (.nm 1) (.sE (.lc 0)) (.yes) [1]) (.cons (.lst (.nil)) (.nil))))
/-- _law_corners(wedges): 0 wedges, 1 planes, 2 found, 3 at, 4 one, 5 other, 6 place, 7 wedge -/
def b_law_corners : IS := .seq (.par 1 2 (.callF 32 (.cons (.lc 0) (.nil))) (.lst (.nil))) (.seq (.for_ (.tup (.cons (.nm 3) (.cons (.nm 4) (.nil)))) (.sEn (.lc 1)) (.for_ (.nm 5) (.sE (.slc (.lc 1) (.bin .Add (.lc 3) (.cst (.int 1))) (.no))) (.seq (.asg (.nm 6) (.callF 29 (.cons (.lc 4) (.cons (.lc 5) (.nil))))) (.ife (.and_ (.cmp .IsNot (.lc 6) (.cst .non)) (.and_ (.cmpR .NotIn (.lc 6) 2) (.cmp .Eq (.comp (.cst (.int 1)) (.nm 7) (.sE (.lc 0)) (.not_ (.callF 28 (.cons (.lc 7) (.cons (.lc 6) (.nil))))) [7]) (.lst (.nil))))) (.app 2 (.lc 6)) (.skip))))) (.retS 2))
/-- _law_wedges(bag, most, size): 0 bag, 1 most, 2 size, 3 goal, 4 found, 5 turn, 6 tower, 7 right, 8 left, 9 far, 10 one, 11 is_wedge -/
def b_law_wedges : IS := .seq (.par 3 4 (.tup (.cons (.bin .Sub (.callIO 22 0 (.cons (.bin .Add (.bin .Mult (.cst (.int 2)) (.lc 2)) (.cst (.int 1))) (.nil))) (.lc 2)) (.cons (.bin .Sub (.callIO 22 0 (.cons (.bin .Add (.bin .Mult (.cst (.int 2)) (.lc 2)) (.cst (.int 1))) (.nil))) (.lc 2)) (.nil)))) (.lst (.nil))) (.seq (.for_ (.nm 5) (.sR1 (.bin .Add (.cst (.int 1)) (.callIO 22 0 (.cons (.lc 1) (.nil))))) (.seq (.asg (.tup (.cons (.nm 6) (.cons (.nm 7) (.cons (.nm 8) (.nil))))) (.callIO 31 0 (.cons (.lc 2) (.nil)))) (.seq (.asg (.nm 9) (.tup (.cons (.bin .Sub (.sub (.lc 3) (.cst (.int 0))) (.sub (.lc 6) (.cst (.int 0)))) (.cons (.bin .Sub (.sub (.lc 3) (.cst (.int 1))) (.sub (.lc 6) (.cst (.int 1)))) (.nil))))) (.seq (.ife (.and_ (.cmp .Gt (.callIO 22 0 (.cons (.cst (.int 3)) (.nil))) (.cst (.int 0))) (.cmp .NotEq (.lc 9) (.tup (.cons (.cst (.int 0)) (.cons (.cst (.int 0)) (.nil)))))) (.seq (.asg (.nm 10) (.tup (.cons (.bin .Add (.bin .Mult (.cst (.int 4)) (.sub (.lc 9) (.cst (.int 0)))) (.bin .Mult (.callIO 22 0 (.cons (.cst (.int 3)) (.nil))) (.sub (.lc 9) (.cst (.int 1))))) (.cons (.bin .Sub (.bin .Mult (.cst (.int 4)) (.sub (.lc 9) (.cst (.int 1)))) (.bin .Mult (.callIO 22 0 (.cons (.cst (.int 3)) (.nil))) (.sub (.lc 9) (.cst (.int 0))))) (.nil))))) (.seq (.asg (.nm 7) (.ite (.and_ (.cmp .GtE (.callF 24 (.cons (.lc 10) (.cons (.lc 9) (.nil)))) (.cst (.int 0))) (.cmp .NotEq (.lc 10) (.tup (.cons (.cst (.int 0)) (.cons (.cst (.int 0)) (.nil)))))) (.lc 10) (.lc 9))) (.seq (.asg (.nm 8) (.tup (.cons (.bin .Sub (.bin .Mult (.cst (.int 3)) (.sub (.lc 9) (.cst (.int 0)))) (.bin .Mult (.callIO 22 0 (.cons (.cst (.int 4)) (.nil))) (.sub (.lc 9) (.cst (.int 1))))) (.cons (.bin .Add (.bin .Mult (.cst (.int 3)) (.sub (.lc 9) (.cst (.int 1)))) (.bin .Mult (.callIO 22 0 (.cons (.cst (.int 4)) (.nil))) (.sub (.lc 9) (.cst (.int 0))))) (.nil))))) (.asg (.nm 8) (.ite (.and_ (.cmp .GtE (.callF 24 (.cons (.lc 9) (.cons (.lc 8) (.nil)))) (.cst (.int 0))) (.cmp .NotEq (.lc 8) (.tup (.cons (.cst (.int 0)) (.cons (.cst (.int 0)) (.nil)))))) (.lc 8) (.lc 9)))))) (.skip)) (.seq (.asg (.nm 11) (.or_ (.cmp .Gt (.callF 24 (.cons (.lc 7) (.cons (.lc 8) (.nil)))) (.cst (.int 0))) (.and_ (.cmp .Eq (.callF 24 (.cons (.lc 7) (.cons (.lc 8) (.nil)))) (.cst (.int 0))) (.cmp .Gt (.callF 25 (.cons (.lc 7) (.cons (.lc 8) (.nil)))) (.cst (.int 0)))))) (.app 4 (.ite (.lc 11) (.tup (.cons (.lc 6) (.cons (.lc 7) (.cons (.lc 8) (.nil))))) (.callIO 31 0 (.cons (.lc 2) (.nil)))))))))) (.ret (.callBB .tuple 4)))
/-- _law_is_ahead(one, other): 0 one, 1 other -/
def b_law_is_ahead : IS := .seq (.ife (.cmp .NotEq (.sub (.lc 0) (.cst (.int 0))) (.sub (.lc 1) (.cst (.int 0)))) (.ret (.cmp .Lt (.bin .Mult (.sub (.sub (.lc 0) (.cst (.int 0))) (.cst (.int 0))) (.sub (.sub (.lc 1) (.cst (.int 0))) (.cst (.int 1)))) (.bin .Mult (.sub (.sub (.lc 1) (.cst (.int 0))) (.cst (.int 0))) (.sub (.sub (.lc 0) (.cst (.int 0))) (.cst (.int 1)))))) (.skip)) (.ret (.cmp .Lt (.bin .Mult (.sub (.sub (.lc 0) (.cst (.int 1))) (.cst (.int 0))) (.sub (.sub (.lc 1) (.cst (.int 1))) (.cst (.int 1)))) (.bin .Mult (.sub (.sub (.lc 1) (.cst (.int 1))) (.cst (.int 0))) (.sub (.sub (.lc 0) (.cst (.int 1))) (.cst (.int 1))))))
/-- _law_sorted(places): 0 places, 1 found, 2 place, 3 spot, 4 one -/
def b_law_sorted : IS := .seq (.asg (.nm 1) (.lst (.nil))) (.seq (.for_ (.nm 2) (.sE (.lc 0)) (.seq (.asg (.nm 3) (.callB .len (.cons (.compB (.lc 4) (.nm 4) 1 (.callF 35 (.cons (.lc 4) (.cons (.lc 2) (.nil)))) [4]) (.nil)))) (.ins 1 (.lc 3) (.lc 2)))) (.ret (.callBB .tuple 1)))
/-- _law_right(bag): 0 bag, 1 wedges, 2 due, 3 told, 4 place -/
def b_law_right : IS := .seq (.asg (.nm 1) (.callIO 34 0 (.cons (.cst (.int 7)) (.cons (.callIO 23 0 (.cons (.lst (.cons (.cst (.int 2)) (.cons (.cst (.int 5)) (.cons (.cst (.int 9)) (.cons (.cst (.int 100)) (.cons (.bin .Pow (.cst (.int 10)) (.cst (.int 9))) (.nil))))))) (.nil))) (.nil))))) (.seq (.asg (.nm 2) (.callF 36 (.cons (.callF 33 (.cons (.lc 1) (.nil))) (.nil)))) (.seq (.asg (.nm 3) (.callF 20 (.cons (.lc 1) (.nil)))) (.seq (.ife (.or_ (.cmp .NotEq (.callB .repr (.cons (.lc 3) (.nil))) (.callB .repr (.cons (.lc 2) (.nil)))) (.cmp .NotEq (.callB .repr (.cons (.callF 20 (.cons (.bin .Add (.rev (.lc 1)) (.slc (.lc 1) (.no) (.cst (.int 1)))) (.nil))) (.nil))) (.callB .repr (.cons (.lc 2) (.nil))))) (.ret (.cst (.bl false))) (.skip)) (.ret (.cmp .Eq (.comp (.lc 4) (.nm 4) (.sE (.lc 3)) (.cmp .IsNot (.callF 19 (.cons (.lc 1) (.cons (.lc 4) (.nil)))) (.cst (.bl true))) [4]) (.lst (.nil)))))))
/-- law(script): 0 script, 1 at, 2 bag, 3 east, 4 north, 5 west, 6 told, 7 due, 8 turn -/
def b_law : IS := .seq (.for_ (.nm 1) (.sR1 (.callB .max2 (.cons (.cst (.int 1)) (.cons (.callB .min2 (.cons (.cst (.int 3)) (.cons (.callB .len (.cons (.lc 0) (.nil))) (.nil)))) (.nil))))) (.seq (.asg (.nm 2) (.callF 21 (.cons (.lc 0) (.cons (.lc 1) (.nil))))) (.ife (.cmp .NotEq (.comp (.cst (.int 1)) (.nm 8) (.sR1 (.cst (.int 6))) (.not_ (.callIO 37 2 (.nil))) [8]) (.lst (.nil))) (.ret (.cst (.bl false))) (.skip)))) (.seq (.asg (.tup (.cons (.nm 3) (.cons (.nm 4) (.cons (.nm 5) (.nil))))) (.tup (.cons (.tup (.cons (.tup (.cons (.cst (.int 0)) (.cons (.cst (.int 0)) (.nil)))) (.cons (.tup (.cons (.cst (.int 4)) (.cons (.cst (.int 1)) (.nil)))) (.cons (.tup (.cons (.cst (.int 1)) (.cons (.cst (.int 4)) (.nil)))) (.nil))))) (.cons (.tup (.cons (.tup (.cons (.cst (.int 0)) (.cons (.cst (.int 6)) (.nil)))) (.cons (.tup (.cons (.cst (.int 0)) (.cons (.neg (.cst (.int 1))) (.nil)))) (.cons (.tup (.cons (.cst (.int 1)) (.cons (.cst (.int 0)) (.nil)))) (.nil))))) (.cons (.tup (.cons (.tup (.cons (.cst (.int 9)) (.cons (.cst (.int 0)) (.nil)))) (.cons (.tup (.cons (.cst (.int 0)) (.cons (.cst (.int 1)) (.nil)))) (.cons (.tup (.cons (.neg (.cst (.int 1))) (.cons (.cst (.int 1)) (.nil)))) (.nil))))) (.nil)))))) (.seq (.asg (.nm 6) (.lst (.cons (.callF 20 (.cons (.tup (.cons (.lc 3) (.cons (.lc 4) (.cons (.lc 5) (.nil))))) (.nil))) (.cons (.callF 20 (.cons (.tup (.cons (.lc 3) (.nil))) (.nil))) (.cons (.callF 20 (.cons (.tup (.cons (.tup (.cons (.tup (.cons (.cst (.int 3)) (.cons (.cst (.int 3)) (.nil)))) (.cons (.tup (.cons (.cst (.int 1)) (.cons (.cst (.int 0)) (.nil)))) (.cons (.tup (.cons (.cst (.int 2)) (.cons (.cst (.int 0)) (.nil)))) (.nil))))) (.nil))) (.nil))) (.cons (.callF 20 (.cons (.tup (.cons (.lc 3) (.cons (.tup (.cons (.tup (.cons (.cst (.int 5)) (.cons (.neg (.cst (.int 1))) (.nil)))) (.cons (.tup (.cons (.cst (.int 0)) (.cons (.neg (.cst (.int 1))) (.nil)))) (.cons (.tup (.cons (.cst (.int 1)) (.cons (.cst (.int 0)) (.nil)))) (.nil))))) (.nil)))) (.nil))) (.nil))))))) (.seq (.asg (.nm 7) (.lst (.cons (.tup (.cons (.tup (.cons (.tup (.cons (.cst (.int 3)) (.cons (.cst (.int 1)) (.nil)))) (.cons (.tup (.cons (.cst (.int 6)) (.cons (.cst (.int 1)) (.nil)))) (.nil)))) (.cons (.tup (.cons (.tup (.cons (.cst (.int 36)) (.cons (.cst (.int 5)) (.nil)))) (.cons (.tup (.cons (.cst (.int 9)) (.cons (.cst (.int 5)) (.nil)))) (.nil)))) (.cons (.tup (.cons (.tup (.cons (.cst (.int 9)) (.cons (.cst (.int 1)) (.nil)))) (.cons (.tup (.cons (.cst (.int 9)) (.cons (.cst (.int 4)) (.nil)))) (.nil)))) (.cons (.tup (.cons (.tup (.cons (.cst (.int 9)) (.cons (.cst (.int 1)) (.nil)))) (.cons (.tup (.cons (.cst (.int 6)) (.cons (.cst (.int 1)) (.nil)))) (.nil)))) (.nil)))))) (.cons (.tup (.cons (.tup (.cons (.tup (.cons (.cst (.int 0)) (.cons (.cst (.int 1)) (.nil)))) (.cons (.tup (.cons (.cst (.int 0)) (.cons (.cst (.int 1)) (.nil)))) (.nil)))) (.nil))) (.cons (.tup (.cons (.tup (.cons (.tup (.cons (.cst (.int 3)) (.cons (.cst (.int 1)) (.nil)))) (.cons (.tup (.cons (.cst (.int 3)) (.cons (.cst (.int 1)) (.nil)))) (.nil)))) (.nil))) (.cons (.tup (.nil)) (.nil))))))) (.ret (.cmp .Eq (.callB .repr (.cons (.lc 6) (.nil))) (.callB .repr (.cons (.lc 7) (.nil))))))))
def tab : List Fn := [
  ⟨1, 1, false, b_is_whole⟩,
  ⟨4, 2, false, b_lowest⟩,
  ⟨2, 2, false, b_turn_in⟩,
  ⟨2, 2, false, b_along_in⟩,
  ⟨2, 1, false, b_is_point_of⟩,
  ⟨1, 1, false, b_is_direction_of⟩,
  ⟨1, 1, false, b_is_integer_of⟩,
  ⟨2, 1, false, b_is_fraction_of⟩,
  ⟨2, 1, false, b_is_wedge_of⟩,
  ⟨8, 1, false, b_halves_in⟩,
  ⟨9, 2, false, b_is_below⟩,
  ⟨3, 2, false, b_is_held⟩,
  ⟨9, 2, false, b_crossing_in⟩,
  ⟨2, 1, false, b_is_place⟩,
  ⟨6, 1, false, b_halves_of⟩,
  ⟨6, 2, false, b_is_before⟩,
  ⟨5, 1, false, b_in_order⟩,
  ⟨9, 1, false, b_crossings_of⟩,
  ⟨2, 1, false, b_require_wedges⟩,
  ⟨3, 2, false, b_is_common⟩,
  ⟨1, 1, false, b_corners⟩,
  ⟨5, 2, false, b_law_bag⟩,
  ⟨3, 2, true, b_law_draw⟩,
  ⟨2, 2, true, b_law_one_of⟩,
  ⟨2, 2, false, b_law_turn⟩,
  ⟨2, 2, false, b_law_dot⟩,
  ⟨5, 2, false, b_law_lowest⟩,
  ⟨8, 1, false, b_law_planes⟩,
  ⟨11, 2, false, b_law_does_hold⟩,
  ⟨5, 2, false, b_law_crossing⟩,
  ⟨4, 2, true, b_law_direction⟩,
  ⟨6, 2, true, b_law_wedge⟩,
  ⟨2, 1, false, b_law_all_planes⟩,
  ⟨8, 1, false, b_law_corners⟩,
  ⟨12, 3, true, b_law_wedges⟩,
  ⟨2, 2, false, b_law_is_ahead⟩,
  ⟨5, 1, false, b_law_sorted⟩,
  ⟨5, 1, true, b_law_right⟩,
  ⟨9, 1, false, b_law⟩
]
abbrev i_is_whole : Nat := 0
abbrev i_lowest : Nat := 1
abbrev i_turn_in : Nat := 2
abbrev i_along_in : Nat := 3
abbrev i_is_point_of : Nat := 4
abbrev i_is_direction_of : Nat := 5
abbrev i_is_integer_of : Nat := 6
abbrev i_is_fraction_of : Nat := 7
abbrev i_is_wedge_of : Nat := 8
abbrev i_halves_in : Nat := 9
abbrev i_is_below : Nat := 10
abbrev i_is_held : Nat := 11
abbrev i_crossing_in : Nat := 12
abbrev i_is_place : Nat := 13
abbrev i_halves_of : Nat := 14
abbrev i_is_before : Nat := 15
abbrev i_in_order : Nat := 16
abbrev i_crossings_of : Nat := 17
abbrev i_require_wedges : Nat := 18
abbrev i_is_common : Nat := 19
abbrev i_corners : Nat := 20
abbrev i_law_bag : Nat := 21
abbrev i_law_draw : Nat := 22
abbrev i_law_one_of : Nat := 23
abbrev i_law_turn : Nat := 24
abbrev i_law_dot : Nat := 25
abbrev i_law_lowest : Nat := 26
abbrev i_law_planes : Nat := 27
abbrev i_law_does_hold : Nat := 28
abbrev i_law_crossing : Nat := 29
abbrev i_law_direction : Nat := 30
abbrev i_law_wedge : Nat := 31
abbrev i_law_all_planes : Nat := 32
abbrev i_law_corners : Nat := 33
abbrev i_law_wedges : Nat := 34
abbrev i_law_is_ahead : Nat := 35
abbrev i_law_sorted : Nat := 36
abbrev i_law_right : Nat := 37
abbrev i_law : Nat := 38
def fsN : List Str := [("is_whole" : Str), ("lowest" : Str), ("turn_in" : Str), ("along_in" : Str), ("is_point_of" : Str), ("is_direction_of" : Str), ("is_integer_of" : Str), ("is_fraction_of" : Str), ("is_wedge_of" : Str), ("halves_in" : Str), ("is_below" : Str), ("is_held" : Str), ("crossing_in" : Str), ("is_place" : Str), ("halves_of" : Str), ("is_before" : Str), ("in_order" : Str), ("crossings_of" : Str), ("require_wedges" : Str), ("is_common" : Str), ("corners" : Str), ("_law_bag" : Str), ("_law_draw" : Str), ("_law_one_of" : Str), ("_law_turn" : Str), ("_law_dot" : Str), ("_law_lowest" : Str), ("_law_planes" : Str), ("_law_does_hold" : Str), ("_law_crossing" : Str), ("_law_direction" : Str), ("_law_wedge" : Str), ("_law_all_planes" : Str), ("_law_corners" : Str), ("_law_wedges" : Str), ("_law_is_ahead" : Str), ("_law_sorted" : Str), ("_law_right" : Str), ("law" : Str)]
def gsN : List (Str × D) := [("GREAT", .int 1000000000000000000000000000000000000000000000000000000000000), ("MOST_WEDGES", .int 12)]
def blN : List Str := ["abs", "all", "bool", "enumerate", "int", "isinstance", "len", "list", "max", "min", "range", "repr", "sum", "tuple", "zip"]
def TT : Tb := ⟨fsN, gsN, blN, true⟩
def top (i : Nat) : Stmt := PySem.Challenge.pw_leastburn_k74_whole_corners.main.body.getD i (.Pass ⟨0, 0, 0, 0⟩)
def n_is_whole : List Str := ["value"]
def n_lowest : List Str := ["top", "bottom", "sign", "shared"]
def n_turn_in : List Str := ["one", "other"]
def n_along_in : List Str := ["one", "other"]
def n_is_point_of : List Str := ["value", "one"]
def n_is_direction_of : List Str := ["value"]
def n_is_integer_of : List Str := ["value"]
def n_is_fraction_of : List Str := ["value", "one"]
def n_is_wedge_of : List Str := ["value", "found"]
def n_halves_in : List Str := ["wedge", "p", "q", "a", "b", "c", "d", "found"]
def n_is_below : List Str := ["half", "place", "a", "b", "c", "x", "under_x", "y", "under_y"]
def n_is_held : List Str := ["wedge", "place", "half"]
def n_crossing_in : List Str := ["one", "other", "a", "b", "c", "d", "e", "f", "under"]
def n_is_place : List Str := ["value", "one"]
def n_halves_of : List Str := ["wedges", "found", "at", "wedge", "index", "half"]
def n_is_before : List Str := ["one", "other", "top", "bottom", "far", "under"]
def n_in_order : List Str := ["places", "found", "place", "at", "one"]
def n_crossings_of : List Str := ["wedges", "halves", "found", "at", "one", "other", "place", "index", "half"]
def n_require_wedges : List Str := ["value", "one"]
def n_is_common : List Str := ["wedges", "value", "wedge"]
def n_corners : List Str := ["wedges"]
def n_law_bag : List Str := ["script", "at", "cell", "great", "blend"]
def n_law_draw : List Str := ["bag", "many", "found"]
def n_law_one_of : List Str := ["bag", "items"]
def n_law_turn : List Str := ["one", "other"]
def n_law_dot : List Str := ["one", "other"]
def n_law_lowest : List Str := ["top", "bottom", "one", "other", "sign"]
def n_law_planes : List Str := ["wedge", "p", "q", "a", "b", "c", "d", "found"]
def n_law_does_hold : List Str := ["wedge", "place", "p", "q", "right", "left", "x", "under", "y", "below", "far"]
def n_law_crossing : List Str := ["one", "other", "det", "x", "y"]
def n_law_direction : List Str := ["bag", "size", "found", "turn"]
def n_law_wedge : List Str := ["bag", "size", "tower", "right", "many", "left"]
def n_law_all_planes : List Str := ["wedges", "wedge"]
def n_law_corners : List Str := ["wedges", "planes", "found", "at", "one", "other", "place", "wedge"]
def n_law_wedges : List Str := ["bag", "most", "size", "goal", "found", "turn", "tower", "right", "left", "far", "one", "is_wedge"]
def n_law_is_ahead : List Str := ["one", "other"]
def n_law_sorted : List Str := ["places", "found", "place", "spot", "one"]
def n_law_right : List Str := ["bag", "wedges", "due", "told", "place"]
def n_law : List Str := ["script", "at", "bag", "east", "north", "west", "told", "due", "turn"]
theorem c_is_whole : C8.scC n_is_whole ["value"] (defScope (top 6)) = true ∧ chB TT b_is_whole ⟨n_is_whole, defScope (top 6), fun _ => true⟩ (defBody (top 6)) = true := by decide +kernel
theorem c_lowest : C8.scC n_lowest ["top", "bottom"] (defScope (top 8)) = true ∧ chB TT b_lowest ⟨n_lowest, defScope (top 8), fun _ => true⟩ (defBody (top 8)) = true := by decide +kernel
theorem c_turn_in : C8.scC n_turn_in ["one", "other"] (defScope (top 9)) = true ∧ chB TT b_turn_in ⟨n_turn_in, defScope (top 9), fun _ => true⟩ (defBody (top 9)) = true := by decide +kernel
theorem c_along_in : C8.scC n_along_in ["one", "other"] (defScope (top 10)) = true ∧ chB TT b_along_in ⟨n_along_in, defScope (top 10), fun _ => true⟩ (defBody (top 10)) = true := by decide +kernel
theorem c_is_point_of : C8.scC n_is_point_of ["value"] (defScope (top 11)) = true ∧ chB TT b_is_point_of ⟨n_is_point_of, defScope (top 11), fun _ => true⟩ (defBody (top 11)) = true := by decide +kernel
theorem c_is_direction_of : C8.scC n_is_direction_of ["value"] (defScope (top 12)) = true ∧ chB TT b_is_direction_of ⟨n_is_direction_of, defScope (top 12), fun _ => true⟩ (defBody (top 12)) = true := by decide +kernel
theorem c_is_integer_of : C8.scC n_is_integer_of ["value"] (defScope (top 13)) = true ∧ chB TT b_is_integer_of ⟨n_is_integer_of, defScope (top 13), fun _ => true⟩ (defBody (top 13)) = true := by decide +kernel
theorem c_is_fraction_of : C8.scC n_is_fraction_of ["value"] (defScope (top 14)) = true ∧ chB TT b_is_fraction_of ⟨n_is_fraction_of, defScope (top 14), fun _ => true⟩ (defBody (top 14)) = true := by decide +kernel
theorem c_is_wedge_of : C8.scC n_is_wedge_of ["value"] (defScope (top 15)) = true ∧ chB TT b_is_wedge_of ⟨n_is_wedge_of, defScope (top 15), fun _ => true⟩ (defBody (top 15)) = true := by decide +kernel
theorem c_halves_in : C8.scC n_halves_in ["wedge"] (defScope (top 16)) = true ∧ chB TT b_halves_in ⟨n_halves_in, defScope (top 16), fun _ => true⟩ (defBody (top 16)) = true := by decide +kernel
theorem c_is_below : C8.scC n_is_below ["half", "place"] (defScope (top 17)) = true ∧ chB TT b_is_below ⟨n_is_below, defScope (top 17), fun _ => true⟩ (defBody (top 17)) = true := by decide +kernel
theorem c_is_held : C8.scC n_is_held ["wedge", "place"] (defScope (top 18)) = true ∧ chB TT b_is_held ⟨n_is_held, defScope (top 18), fun _ => true⟩ (defBody (top 18)) = true := by decide +kernel
theorem c_crossing_in : C8.scC n_crossing_in ["one", "other"] (defScope (top 19)) = true ∧ chB TT b_crossing_in ⟨n_crossing_in, defScope (top 19), fun _ => true⟩ (defBody (top 19)) = true := by decide +kernel
theorem c_is_place : C8.scC n_is_place ["value"] (defScope (top 20)) = true ∧ chB TT b_is_place ⟨n_is_place, defScope (top 20), fun _ => true⟩ (defBody (top 20)) = true := by decide +kernel
theorem c_halves_of : C8.scC n_halves_of ["wedges"] (defScope (top 23)) = true ∧ chB TT b_halves_of ⟨n_halves_of, defScope (top 23), fun _ => true⟩ (defBody (top 23)) = true := by decide +kernel
theorem c_is_before : C8.scC n_is_before ["one", "other"] (defScope (top 24)) = true ∧ chB TT b_is_before ⟨n_is_before, defScope (top 24), fun _ => true⟩ (defBody (top 24)) = true := by decide +kernel
theorem c_in_order : C8.scC n_in_order ["places"] (defScope (top 25)) = true ∧ chB TT b_in_order ⟨n_in_order, defScope (top 25), fun _ => true⟩ (defBody (top 25)) = true := by decide +kernel
theorem c_crossings_of : C8.scC n_crossings_of ["wedges"] (defScope (top 26)) = true ∧ chB TT b_crossings_of ⟨n_crossings_of, defScope (top 26), fun _ => true⟩ (defBody (top 26)) = true := by decide +kernel
theorem c_require_wedges : C8.scC n_require_wedges ["value"] (defScope (top 27)) = true ∧ chB TT b_require_wedges ⟨n_require_wedges, defScope (top 27), fun _ => true⟩ (defBody (top 27)) = true := by decide +kernel
theorem c_is_common : C8.scC n_is_common ["wedges", "value"] (defScope (top 28)) = true ∧ chB TT b_is_common ⟨n_is_common, defScope (top 28), fun _ => true⟩ (defBody (top 28)) = true := by decide +kernel
theorem c_corners : C8.scC n_corners ["wedges"] (defScope (top 29)) = true ∧ chB TT b_corners ⟨n_corners, defScope (top 29), fun _ => true⟩ (defBody (top 29)) = true := by decide +kernel
theorem c_law_bag : C8.scC n_law_bag ["script", "at"] (defScope (top 31)) = true ∧ chB TT b_law_bag ⟨n_law_bag, defScope (top 31), fun _ => true⟩ (defBody (top 31)) = true := by decide +kernel
theorem c_law_draw : C8.scC n_law_draw ["bag", "many"] (defScope (top 32)) = true ∧ chB TT b_law_draw ⟨n_law_draw, defScope (top 32), fun _ => true⟩ (defBody (top 32)) = true := by decide +kernel
theorem c_law_one_of : C8.scC n_law_one_of ["bag", "items"] (defScope (top 33)) = true ∧ chB TT b_law_one_of ⟨n_law_one_of, defScope (top 33), fun _ => true⟩ (defBody (top 33)) = true := by decide +kernel
theorem c_law_turn : C8.scC n_law_turn ["one", "other"] (defScope (top 34)) = true ∧ chB TT b_law_turn ⟨n_law_turn, defScope (top 34), fun _ => true⟩ (defBody (top 34)) = true := by decide +kernel
theorem c_law_dot : C8.scC n_law_dot ["one", "other"] (defScope (top 35)) = true ∧ chB TT b_law_dot ⟨n_law_dot, defScope (top 35), fun _ => true⟩ (defBody (top 35)) = true := by decide +kernel
theorem c_law_lowest : C8.scC n_law_lowest ["top", "bottom"] (defScope (top 36)) = true ∧ chB TT b_law_lowest ⟨n_law_lowest, defScope (top 36), fun _ => true⟩ (defBody (top 36)) = true := by decide +kernel
theorem c_law_planes : C8.scC n_law_planes ["wedge"] (defScope (top 37)) = true ∧ chB TT b_law_planes ⟨n_law_planes, defScope (top 37), fun _ => true⟩ (defBody (top 37)) = true := by decide +kernel
theorem c_law_does_hold : C8.scC n_law_does_hold ["wedge", "place"] (defScope (top 38)) = true ∧ chB TT b_law_does_hold ⟨n_law_does_hold, defScope (top 38), fun _ => true⟩ (defBody (top 38)) = true := by decide +kernel
theorem c_law_crossing : C8.scC n_law_crossing ["one", "other"] (defScope (top 39)) = true ∧ chB TT b_law_crossing ⟨n_law_crossing, defScope (top 39), fun _ => true⟩ (defBody (top 39)) = true := by decide +kernel
theorem c_law_direction : C8.scC n_law_direction ["bag", "size"] (defScope (top 40)) = true ∧ chB TT b_law_direction ⟨n_law_direction, defScope (top 40), fun _ => true⟩ (defBody (top 40)) = true := by decide +kernel
theorem c_law_wedge : C8.scC n_law_wedge ["bag", "size"] (defScope (top 41)) = true ∧ chB TT b_law_wedge ⟨n_law_wedge, defScope (top 41), fun _ => true⟩ (defBody (top 41)) = true := by decide +kernel
theorem c_law_all_planes : C8.scC n_law_all_planes ["wedges"] (defScope (top 42)) = true ∧ chB TT b_law_all_planes ⟨n_law_all_planes, defScope (top 42), fun _ => true⟩ (defBody (top 42)) = true := by decide +kernel
theorem c_law_corners : C8.scC n_law_corners ["wedges"] (defScope (top 43)) = true ∧ chB TT b_law_corners ⟨n_law_corners, defScope (top 43), fun _ => true⟩ (defBody (top 43)) = true := by decide +kernel
theorem c_law_wedges : C8.scC n_law_wedges ["bag", "most", "size"] (defScope (top 44)) = true ∧ chB TT b_law_wedges ⟨n_law_wedges, defScope (top 44), fun _ => true⟩ (defBody (top 44)) = true := by decide +kernel
theorem c_law_is_ahead : C8.scC n_law_is_ahead ["one", "other"] (defScope (top 45)) = true ∧ chB TT b_law_is_ahead ⟨n_law_is_ahead, defScope (top 45), fun _ => true⟩ (defBody (top 45)) = true := by decide +kernel
theorem c_law_sorted : C8.scC n_law_sorted ["places"] (defScope (top 46)) = true ∧ chB TT b_law_sorted ⟨n_law_sorted, defScope (top 46), fun _ => true⟩ (defBody (top 46)) = true := by decide +kernel
theorem c_law_right : C8.scC n_law_right ["bag"] (defScope (top 47)) = true ∧ chB TT b_law_right ⟨n_law_right, defScope (top 47), fun _ => true⟩ (defBody (top 47)) = true := by decide +kernel
theorem c_law : C8.scC n_law ["script"] (defScope (top 48)) = true ∧ chB TT b_law ⟨n_law, defScope (top 48), fun _ => true⟩ (defBody (top 48)) = true := by decide +kernel
def dd (x : Str) (i : Nat) : He.DefD := ⟨(x, none), x, x, defArgs (top i), defBody (top i), defScope (top i), [], []⟩
def fnD : List He.DefD := [dd "is_whole" 6, dd "lowest" 8, dd "turn_in" 9, dd "along_in" 10, dd "is_point_of" 11, dd "is_direction_of" 12, dd "is_integer_of" 13, dd "is_fraction_of" 14, dd "is_wedge_of" 15, dd "halves_in" 16, dd "is_below" 17, dd "is_held" 18, dd "crossing_in" 19, dd "is_place" 20, dd "halves_of" 23, dd "is_before" 24, dd "in_order" 25, dd "crossings_of" 26, dd "require_wedges" 27, dd "is_common" 28, dd "corners" 29, dd "_law_bag" 31, dd "_law_draw" 32, dd "_law_one_of" 33, dd "_law_turn" 34, dd "_law_dot" 35, dd "_law_lowest" 36, dd "_law_planes" 37, dd "_law_does_hold" 38, dd "_law_crossing" 39, dd "_law_direction" 40, dd "_law_wedge" 41, dd "_law_all_planes" 42, dd "_law_corners" 43, dd "_law_wedges" 44, dd "_law_is_ahead" 45, dd "_law_sorted" 46, dd "_law_right" 47, dd "law" 48]
def faD : List He.Fa := [.glo "is_whole", .glo "lowest", .glo "turn_in", .glo "along_in", .glo "is_point_of", .glo "is_direction_of", .glo "is_integer_of", .glo "is_fraction_of", .glo "is_wedge_of", .glo "halves_in", .glo "is_below", .glo "is_held", .glo "crossing_in", .glo "is_place", .glo "halves_of", .glo "is_before", .glo "in_order", .glo "crossings_of", .glo "require_wedges", .glo "is_common", .glo "corners", .glo "_law_bag", .glo "_law_draw", .glo "_law_one_of", .glo "_law_turn", .glo "_law_dot", .glo "_law_lowest", .glo "_law_planes", .glo "_law_does_hold", .glo "_law_crossing", .glo "_law_direction", .glo "_law_wedge", .glo "_law_all_planes", .glo "_law_corners", .glo "_law_wedges", .glo "_law_is_ahead", .glo "_law_sorted", .glo "_law_right", .glo "law", .int "GREAT" 1000000000000000000000000000000000000000000000000000000000000, .int "MOST_WEDGES" 12, .free "abs", .free "all", .free "bool", .free "enumerate", .free "int", .free "isinstance", .free "len", .free "list", .free "max", .free "min", .free "range", .free "repr", .free "sum", .free "tuple", .free "zip"]
theorem d_is_whole {K : PySem.W.Frag} {mg : Str → Option Value} {h : Heap} (X : K.In h) (G : h.Ns mainGlobals mg) (c : He.SaysD faD fnD K) : DefIs TT tab K mg 0 "is_whole" := by
  obtain ⟨fd, F⟩ := c.def_ 0 (d := dd "is_whole" 6) rfl
  exact ⟨_, n_is_whole, ["value"], _, _, _, _, _, fd, rfl, F, He.glo_ok X G (c.fact 0 (f := .glo "is_whole") rfl), FunD.bindsN F (fun _ _ _ _ _ _ us hl => match us, hl with | [_], _ => rfl), c_is_whole.1, rfl, rfl, c_is_whole.2⟩
theorem d_lowest {K : PySem.W.Frag} {mg : Str → Option Value} {h : Heap} (X : K.In h) (G : h.Ns mainGlobals mg) (c : He.SaysD faD fnD K) : DefIs TT tab K mg 1 "lowest" := by
  obtain ⟨fd, F⟩ := c.def_ 1 (d := dd "lowest" 8) rfl
  exact ⟨_, n_lowest, ["top", "bottom"], _, _, _, _, _, fd, rfl, F, He.glo_ok X G (c.fact 1 (f := .glo "lowest") rfl), FunD.bindsN F (fun _ _ _ _ _ _ us hl => match us, hl with | [_, _], _ => rfl), c_lowest.1, rfl, rfl, c_lowest.2⟩
theorem d_turn_in {K : PySem.W.Frag} {mg : Str → Option Value} {h : Heap} (X : K.In h) (G : h.Ns mainGlobals mg) (c : He.SaysD faD fnD K) : DefIs TT tab K mg 2 "turn_in" := by
  obtain ⟨fd, F⟩ := c.def_ 2 (d := dd "turn_in" 9) rfl
  exact ⟨_, n_turn_in, ["one", "other"], _, _, _, _, _, fd, rfl, F, He.glo_ok X G (c.fact 2 (f := .glo "turn_in") rfl), FunD.bindsN F (fun _ _ _ _ _ _ us hl => match us, hl with | [_, _], _ => rfl), c_turn_in.1, rfl, rfl, c_turn_in.2⟩
theorem d_along_in {K : PySem.W.Frag} {mg : Str → Option Value} {h : Heap} (X : K.In h) (G : h.Ns mainGlobals mg) (c : He.SaysD faD fnD K) : DefIs TT tab K mg 3 "along_in" := by
  obtain ⟨fd, F⟩ := c.def_ 3 (d := dd "along_in" 10) rfl
  exact ⟨_, n_along_in, ["one", "other"], _, _, _, _, _, fd, rfl, F, He.glo_ok X G (c.fact 3 (f := .glo "along_in") rfl), FunD.bindsN F (fun _ _ _ _ _ _ us hl => match us, hl with | [_, _], _ => rfl), c_along_in.1, rfl, rfl, c_along_in.2⟩
theorem d_is_point_of {K : PySem.W.Frag} {mg : Str → Option Value} {h : Heap} (X : K.In h) (G : h.Ns mainGlobals mg) (c : He.SaysD faD fnD K) : DefIs TT tab K mg 4 "is_point_of" := by
  obtain ⟨fd, F⟩ := c.def_ 4 (d := dd "is_point_of" 11) rfl
  exact ⟨_, n_is_point_of, ["value"], _, _, _, _, _, fd, rfl, F, He.glo_ok X G (c.fact 4 (f := .glo "is_point_of") rfl), FunD.bindsN F (fun _ _ _ _ _ _ us hl => match us, hl with | [_], _ => rfl), c_is_point_of.1, rfl, rfl, c_is_point_of.2⟩
theorem d_is_direction_of {K : PySem.W.Frag} {mg : Str → Option Value} {h : Heap} (X : K.In h) (G : h.Ns mainGlobals mg) (c : He.SaysD faD fnD K) : DefIs TT tab K mg 5 "is_direction_of" := by
  obtain ⟨fd, F⟩ := c.def_ 5 (d := dd "is_direction_of" 12) rfl
  exact ⟨_, n_is_direction_of, ["value"], _, _, _, _, _, fd, rfl, F, He.glo_ok X G (c.fact 5 (f := .glo "is_direction_of") rfl), FunD.bindsN F (fun _ _ _ _ _ _ us hl => match us, hl with | [_], _ => rfl), c_is_direction_of.1, rfl, rfl, c_is_direction_of.2⟩
theorem d_is_integer_of {K : PySem.W.Frag} {mg : Str → Option Value} {h : Heap} (X : K.In h) (G : h.Ns mainGlobals mg) (c : He.SaysD faD fnD K) : DefIs TT tab K mg 6 "is_integer_of" := by
  obtain ⟨fd, F⟩ := c.def_ 6 (d := dd "is_integer_of" 13) rfl
  exact ⟨_, n_is_integer_of, ["value"], _, _, _, _, _, fd, rfl, F, He.glo_ok X G (c.fact 6 (f := .glo "is_integer_of") rfl), FunD.bindsN F (fun _ _ _ _ _ _ us hl => match us, hl with | [_], _ => rfl), c_is_integer_of.1, rfl, rfl, c_is_integer_of.2⟩
theorem d_is_fraction_of {K : PySem.W.Frag} {mg : Str → Option Value} {h : Heap} (X : K.In h) (G : h.Ns mainGlobals mg) (c : He.SaysD faD fnD K) : DefIs TT tab K mg 7 "is_fraction_of" := by
  obtain ⟨fd, F⟩ := c.def_ 7 (d := dd "is_fraction_of" 14) rfl
  exact ⟨_, n_is_fraction_of, ["value"], _, _, _, _, _, fd, rfl, F, He.glo_ok X G (c.fact 7 (f := .glo "is_fraction_of") rfl), FunD.bindsN F (fun _ _ _ _ _ _ us hl => match us, hl with | [_], _ => rfl), c_is_fraction_of.1, rfl, rfl, c_is_fraction_of.2⟩
theorem d_is_wedge_of {K : PySem.W.Frag} {mg : Str → Option Value} {h : Heap} (X : K.In h) (G : h.Ns mainGlobals mg) (c : He.SaysD faD fnD K) : DefIs TT tab K mg 8 "is_wedge_of" := by
  obtain ⟨fd, F⟩ := c.def_ 8 (d := dd "is_wedge_of" 15) rfl
  exact ⟨_, n_is_wedge_of, ["value"], _, _, _, _, _, fd, rfl, F, He.glo_ok X G (c.fact 8 (f := .glo "is_wedge_of") rfl), FunD.bindsN F (fun _ _ _ _ _ _ us hl => match us, hl with | [_], _ => rfl), c_is_wedge_of.1, rfl, rfl, c_is_wedge_of.2⟩
theorem d_halves_in {K : PySem.W.Frag} {mg : Str → Option Value} {h : Heap} (X : K.In h) (G : h.Ns mainGlobals mg) (c : He.SaysD faD fnD K) : DefIs TT tab K mg 9 "halves_in" := by
  obtain ⟨fd, F⟩ := c.def_ 9 (d := dd "halves_in" 16) rfl
  exact ⟨_, n_halves_in, ["wedge"], _, _, _, _, _, fd, rfl, F, He.glo_ok X G (c.fact 9 (f := .glo "halves_in") rfl), FunD.bindsN F (fun _ _ _ _ _ _ us hl => match us, hl with | [_], _ => rfl), c_halves_in.1, rfl, rfl, c_halves_in.2⟩
theorem d_is_below {K : PySem.W.Frag} {mg : Str → Option Value} {h : Heap} (X : K.In h) (G : h.Ns mainGlobals mg) (c : He.SaysD faD fnD K) : DefIs TT tab K mg 10 "is_below" := by
  obtain ⟨fd, F⟩ := c.def_ 10 (d := dd "is_below" 17) rfl
  exact ⟨_, n_is_below, ["half", "place"], _, _, _, _, _, fd, rfl, F, He.glo_ok X G (c.fact 10 (f := .glo "is_below") rfl), FunD.bindsN F (fun _ _ _ _ _ _ us hl => match us, hl with | [_, _], _ => rfl), c_is_below.1, rfl, rfl, c_is_below.2⟩
theorem d_is_held {K : PySem.W.Frag} {mg : Str → Option Value} {h : Heap} (X : K.In h) (G : h.Ns mainGlobals mg) (c : He.SaysD faD fnD K) : DefIs TT tab K mg 11 "is_held" := by
  obtain ⟨fd, F⟩ := c.def_ 11 (d := dd "is_held" 18) rfl
  exact ⟨_, n_is_held, ["wedge", "place"], _, _, _, _, _, fd, rfl, F, He.glo_ok X G (c.fact 11 (f := .glo "is_held") rfl), FunD.bindsN F (fun _ _ _ _ _ _ us hl => match us, hl with | [_, _], _ => rfl), c_is_held.1, rfl, rfl, c_is_held.2⟩
theorem d_crossing_in {K : PySem.W.Frag} {mg : Str → Option Value} {h : Heap} (X : K.In h) (G : h.Ns mainGlobals mg) (c : He.SaysD faD fnD K) : DefIs TT tab K mg 12 "crossing_in" := by
  obtain ⟨fd, F⟩ := c.def_ 12 (d := dd "crossing_in" 19) rfl
  exact ⟨_, n_crossing_in, ["one", "other"], _, _, _, _, _, fd, rfl, F, He.glo_ok X G (c.fact 12 (f := .glo "crossing_in") rfl), FunD.bindsN F (fun _ _ _ _ _ _ us hl => match us, hl with | [_, _], _ => rfl), c_crossing_in.1, rfl, rfl, c_crossing_in.2⟩
theorem d_is_place {K : PySem.W.Frag} {mg : Str → Option Value} {h : Heap} (X : K.In h) (G : h.Ns mainGlobals mg) (c : He.SaysD faD fnD K) : DefIs TT tab K mg 13 "is_place" := by
  obtain ⟨fd, F⟩ := c.def_ 13 (d := dd "is_place" 20) rfl
  exact ⟨_, n_is_place, ["value"], _, _, _, _, _, fd, rfl, F, He.glo_ok X G (c.fact 13 (f := .glo "is_place") rfl), FunD.bindsN F (fun _ _ _ _ _ _ us hl => match us, hl with | [_], _ => rfl), c_is_place.1, rfl, rfl, c_is_place.2⟩
theorem d_halves_of {K : PySem.W.Frag} {mg : Str → Option Value} {h : Heap} (X : K.In h) (G : h.Ns mainGlobals mg) (c : He.SaysD faD fnD K) : DefIs TT tab K mg 14 "halves_of" := by
  obtain ⟨fd, F⟩ := c.def_ 14 (d := dd "halves_of" 23) rfl
  exact ⟨_, n_halves_of, ["wedges"], _, _, _, _, _, fd, rfl, F, He.glo_ok X G (c.fact 14 (f := .glo "halves_of") rfl), FunD.bindsN F (fun _ _ _ _ _ _ us hl => match us, hl with | [_], _ => rfl), c_halves_of.1, rfl, rfl, c_halves_of.2⟩
theorem d_is_before {K : PySem.W.Frag} {mg : Str → Option Value} {h : Heap} (X : K.In h) (G : h.Ns mainGlobals mg) (c : He.SaysD faD fnD K) : DefIs TT tab K mg 15 "is_before" := by
  obtain ⟨fd, F⟩ := c.def_ 15 (d := dd "is_before" 24) rfl
  exact ⟨_, n_is_before, ["one", "other"], _, _, _, _, _, fd, rfl, F, He.glo_ok X G (c.fact 15 (f := .glo "is_before") rfl), FunD.bindsN F (fun _ _ _ _ _ _ us hl => match us, hl with | [_, _], _ => rfl), c_is_before.1, rfl, rfl, c_is_before.2⟩
theorem d_in_order {K : PySem.W.Frag} {mg : Str → Option Value} {h : Heap} (X : K.In h) (G : h.Ns mainGlobals mg) (c : He.SaysD faD fnD K) : DefIs TT tab K mg 16 "in_order" := by
  obtain ⟨fd, F⟩ := c.def_ 16 (d := dd "in_order" 25) rfl
  exact ⟨_, n_in_order, ["places"], _, _, _, _, _, fd, rfl, F, He.glo_ok X G (c.fact 16 (f := .glo "in_order") rfl), FunD.bindsN F (fun _ _ _ _ _ _ us hl => match us, hl with | [_], _ => rfl), c_in_order.1, rfl, rfl, c_in_order.2⟩
theorem d_crossings_of {K : PySem.W.Frag} {mg : Str → Option Value} {h : Heap} (X : K.In h) (G : h.Ns mainGlobals mg) (c : He.SaysD faD fnD K) : DefIs TT tab K mg 17 "crossings_of" := by
  obtain ⟨fd, F⟩ := c.def_ 17 (d := dd "crossings_of" 26) rfl
  exact ⟨_, n_crossings_of, ["wedges"], _, _, _, _, _, fd, rfl, F, He.glo_ok X G (c.fact 17 (f := .glo "crossings_of") rfl), FunD.bindsN F (fun _ _ _ _ _ _ us hl => match us, hl with | [_], _ => rfl), c_crossings_of.1, rfl, rfl, c_crossings_of.2⟩
theorem d_require_wedges {K : PySem.W.Frag} {mg : Str → Option Value} {h : Heap} (X : K.In h) (G : h.Ns mainGlobals mg) (c : He.SaysD faD fnD K) : DefIs TT tab K mg 18 "require_wedges" := by
  obtain ⟨fd, F⟩ := c.def_ 18 (d := dd "require_wedges" 27) rfl
  exact ⟨_, n_require_wedges, ["value"], _, _, _, _, _, fd, rfl, F, He.glo_ok X G (c.fact 18 (f := .glo "require_wedges") rfl), FunD.bindsN F (fun _ _ _ _ _ _ us hl => match us, hl with | [_], _ => rfl), c_require_wedges.1, rfl, rfl, c_require_wedges.2⟩
theorem d_is_common {K : PySem.W.Frag} {mg : Str → Option Value} {h : Heap} (X : K.In h) (G : h.Ns mainGlobals mg) (c : He.SaysD faD fnD K) : DefIs TT tab K mg 19 "is_common" := by
  obtain ⟨fd, F⟩ := c.def_ 19 (d := dd "is_common" 28) rfl
  exact ⟨_, n_is_common, ["wedges", "value"], _, _, _, _, _, fd, rfl, F, He.glo_ok X G (c.fact 19 (f := .glo "is_common") rfl), FunD.bindsN F (fun _ _ _ _ _ _ us hl => match us, hl with | [_, _], _ => rfl), c_is_common.1, rfl, rfl, c_is_common.2⟩
theorem d_corners {K : PySem.W.Frag} {mg : Str → Option Value} {h : Heap} (X : K.In h) (G : h.Ns mainGlobals mg) (c : He.SaysD faD fnD K) : DefIs TT tab K mg 20 "corners" := by
  obtain ⟨fd, F⟩ := c.def_ 20 (d := dd "corners" 29) rfl
  exact ⟨_, n_corners, ["wedges"], _, _, _, _, _, fd, rfl, F, He.glo_ok X G (c.fact 20 (f := .glo "corners") rfl), FunD.bindsN F (fun _ _ _ _ _ _ us hl => match us, hl with | [_], _ => rfl), c_corners.1, rfl, rfl, c_corners.2⟩
theorem d_law_bag {K : PySem.W.Frag} {mg : Str → Option Value} {h : Heap} (X : K.In h) (G : h.Ns mainGlobals mg) (c : He.SaysD faD fnD K) : DefIs TT tab K mg 21 "_law_bag" := by
  obtain ⟨fd, F⟩ := c.def_ 21 (d := dd "_law_bag" 31) rfl
  exact ⟨_, n_law_bag, ["script", "at"], _, _, _, _, _, fd, rfl, F, He.glo_ok X G (c.fact 21 (f := .glo "_law_bag") rfl), FunD.bindsN F (fun _ _ _ _ _ _ us hl => match us, hl with | [_, _], _ => rfl), c_law_bag.1, rfl, rfl, c_law_bag.2⟩
theorem d_law_draw {K : PySem.W.Frag} {mg : Str → Option Value} {h : Heap} (X : K.In h) (G : h.Ns mainGlobals mg) (c : He.SaysD faD fnD K) : DefIs TT tab K mg 22 "_law_draw" := by
  obtain ⟨fd, F⟩ := c.def_ 22 (d := dd "_law_draw" 32) rfl
  exact ⟨_, n_law_draw, ["bag", "many"], _, _, _, _, _, fd, rfl, F, He.glo_ok X G (c.fact 22 (f := .glo "_law_draw") rfl), FunD.bindsN F (fun _ _ _ _ _ _ us hl => match us, hl with | [_, _], _ => rfl), c_law_draw.1, rfl, rfl, c_law_draw.2⟩
theorem d_law_one_of {K : PySem.W.Frag} {mg : Str → Option Value} {h : Heap} (X : K.In h) (G : h.Ns mainGlobals mg) (c : He.SaysD faD fnD K) : DefIs TT tab K mg 23 "_law_one_of" := by
  obtain ⟨fd, F⟩ := c.def_ 23 (d := dd "_law_one_of" 33) rfl
  exact ⟨_, n_law_one_of, ["bag", "items"], _, _, _, _, _, fd, rfl, F, He.glo_ok X G (c.fact 23 (f := .glo "_law_one_of") rfl), FunD.bindsN F (fun _ _ _ _ _ _ us hl => match us, hl with | [_, _], _ => rfl), c_law_one_of.1, rfl, rfl, c_law_one_of.2⟩
theorem d_law_turn {K : PySem.W.Frag} {mg : Str → Option Value} {h : Heap} (X : K.In h) (G : h.Ns mainGlobals mg) (c : He.SaysD faD fnD K) : DefIs TT tab K mg 24 "_law_turn" := by
  obtain ⟨fd, F⟩ := c.def_ 24 (d := dd "_law_turn" 34) rfl
  exact ⟨_, n_law_turn, ["one", "other"], _, _, _, _, _, fd, rfl, F, He.glo_ok X G (c.fact 24 (f := .glo "_law_turn") rfl), FunD.bindsN F (fun _ _ _ _ _ _ us hl => match us, hl with | [_, _], _ => rfl), c_law_turn.1, rfl, rfl, c_law_turn.2⟩
theorem d_law_dot {K : PySem.W.Frag} {mg : Str → Option Value} {h : Heap} (X : K.In h) (G : h.Ns mainGlobals mg) (c : He.SaysD faD fnD K) : DefIs TT tab K mg 25 "_law_dot" := by
  obtain ⟨fd, F⟩ := c.def_ 25 (d := dd "_law_dot" 35) rfl
  exact ⟨_, n_law_dot, ["one", "other"], _, _, _, _, _, fd, rfl, F, He.glo_ok X G (c.fact 25 (f := .glo "_law_dot") rfl), FunD.bindsN F (fun _ _ _ _ _ _ us hl => match us, hl with | [_, _], _ => rfl), c_law_dot.1, rfl, rfl, c_law_dot.2⟩
theorem d_law_lowest {K : PySem.W.Frag} {mg : Str → Option Value} {h : Heap} (X : K.In h) (G : h.Ns mainGlobals mg) (c : He.SaysD faD fnD K) : DefIs TT tab K mg 26 "_law_lowest" := by
  obtain ⟨fd, F⟩ := c.def_ 26 (d := dd "_law_lowest" 36) rfl
  exact ⟨_, n_law_lowest, ["top", "bottom"], _, _, _, _, _, fd, rfl, F, He.glo_ok X G (c.fact 26 (f := .glo "_law_lowest") rfl), FunD.bindsN F (fun _ _ _ _ _ _ us hl => match us, hl with | [_, _], _ => rfl), c_law_lowest.1, rfl, rfl, c_law_lowest.2⟩
theorem d_law_planes {K : PySem.W.Frag} {mg : Str → Option Value} {h : Heap} (X : K.In h) (G : h.Ns mainGlobals mg) (c : He.SaysD faD fnD K) : DefIs TT tab K mg 27 "_law_planes" := by
  obtain ⟨fd, F⟩ := c.def_ 27 (d := dd "_law_planes" 37) rfl
  exact ⟨_, n_law_planes, ["wedge"], _, _, _, _, _, fd, rfl, F, He.glo_ok X G (c.fact 27 (f := .glo "_law_planes") rfl), FunD.bindsN F (fun _ _ _ _ _ _ us hl => match us, hl with | [_], _ => rfl), c_law_planes.1, rfl, rfl, c_law_planes.2⟩
theorem d_law_does_hold {K : PySem.W.Frag} {mg : Str → Option Value} {h : Heap} (X : K.In h) (G : h.Ns mainGlobals mg) (c : He.SaysD faD fnD K) : DefIs TT tab K mg 28 "_law_does_hold" := by
  obtain ⟨fd, F⟩ := c.def_ 28 (d := dd "_law_does_hold" 38) rfl
  exact ⟨_, n_law_does_hold, ["wedge", "place"], _, _, _, _, _, fd, rfl, F, He.glo_ok X G (c.fact 28 (f := .glo "_law_does_hold") rfl), FunD.bindsN F (fun _ _ _ _ _ _ us hl => match us, hl with | [_, _], _ => rfl), c_law_does_hold.1, rfl, rfl, c_law_does_hold.2⟩
theorem d_law_crossing {K : PySem.W.Frag} {mg : Str → Option Value} {h : Heap} (X : K.In h) (G : h.Ns mainGlobals mg) (c : He.SaysD faD fnD K) : DefIs TT tab K mg 29 "_law_crossing" := by
  obtain ⟨fd, F⟩ := c.def_ 29 (d := dd "_law_crossing" 39) rfl
  exact ⟨_, n_law_crossing, ["one", "other"], _, _, _, _, _, fd, rfl, F, He.glo_ok X G (c.fact 29 (f := .glo "_law_crossing") rfl), FunD.bindsN F (fun _ _ _ _ _ _ us hl => match us, hl with | [_, _], _ => rfl), c_law_crossing.1, rfl, rfl, c_law_crossing.2⟩
theorem d_law_direction {K : PySem.W.Frag} {mg : Str → Option Value} {h : Heap} (X : K.In h) (G : h.Ns mainGlobals mg) (c : He.SaysD faD fnD K) : DefIs TT tab K mg 30 "_law_direction" := by
  obtain ⟨fd, F⟩ := c.def_ 30 (d := dd "_law_direction" 40) rfl
  exact ⟨_, n_law_direction, ["bag", "size"], _, _, _, _, _, fd, rfl, F, He.glo_ok X G (c.fact 30 (f := .glo "_law_direction") rfl), FunD.bindsN F (fun _ _ _ _ _ _ us hl => match us, hl with | [_, _], _ => rfl), c_law_direction.1, rfl, rfl, c_law_direction.2⟩
theorem d_law_wedge {K : PySem.W.Frag} {mg : Str → Option Value} {h : Heap} (X : K.In h) (G : h.Ns mainGlobals mg) (c : He.SaysD faD fnD K) : DefIs TT tab K mg 31 "_law_wedge" := by
  obtain ⟨fd, F⟩ := c.def_ 31 (d := dd "_law_wedge" 41) rfl
  exact ⟨_, n_law_wedge, ["bag", "size"], _, _, _, _, _, fd, rfl, F, He.glo_ok X G (c.fact 31 (f := .glo "_law_wedge") rfl), FunD.bindsN F (fun _ _ _ _ _ _ us hl => match us, hl with | [_, _], _ => rfl), c_law_wedge.1, rfl, rfl, c_law_wedge.2⟩
theorem d_law_all_planes {K : PySem.W.Frag} {mg : Str → Option Value} {h : Heap} (X : K.In h) (G : h.Ns mainGlobals mg) (c : He.SaysD faD fnD K) : DefIs TT tab K mg 32 "_law_all_planes" := by
  obtain ⟨fd, F⟩ := c.def_ 32 (d := dd "_law_all_planes" 42) rfl
  exact ⟨_, n_law_all_planes, ["wedges"], _, _, _, _, _, fd, rfl, F, He.glo_ok X G (c.fact 32 (f := .glo "_law_all_planes") rfl), FunD.bindsN F (fun _ _ _ _ _ _ us hl => match us, hl with | [_], _ => rfl), c_law_all_planes.1, rfl, rfl, c_law_all_planes.2⟩
theorem d_law_corners {K : PySem.W.Frag} {mg : Str → Option Value} {h : Heap} (X : K.In h) (G : h.Ns mainGlobals mg) (c : He.SaysD faD fnD K) : DefIs TT tab K mg 33 "_law_corners" := by
  obtain ⟨fd, F⟩ := c.def_ 33 (d := dd "_law_corners" 43) rfl
  exact ⟨_, n_law_corners, ["wedges"], _, _, _, _, _, fd, rfl, F, He.glo_ok X G (c.fact 33 (f := .glo "_law_corners") rfl), FunD.bindsN F (fun _ _ _ _ _ _ us hl => match us, hl with | [_], _ => rfl), c_law_corners.1, rfl, rfl, c_law_corners.2⟩
theorem d_law_wedges {K : PySem.W.Frag} {mg : Str → Option Value} {h : Heap} (X : K.In h) (G : h.Ns mainGlobals mg) (c : He.SaysD faD fnD K) : DefIs TT tab K mg 34 "_law_wedges" := by
  obtain ⟨fd, F⟩ := c.def_ 34 (d := dd "_law_wedges" 44) rfl
  exact ⟨_, n_law_wedges, ["bag", "most", "size"], _, _, _, _, _, fd, rfl, F, He.glo_ok X G (c.fact 34 (f := .glo "_law_wedges") rfl), FunD.bindsN F (fun _ _ _ _ _ _ us hl => match us, hl with | [_, _, _], _ => rfl), c_law_wedges.1, rfl, rfl, c_law_wedges.2⟩
theorem d_law_is_ahead {K : PySem.W.Frag} {mg : Str → Option Value} {h : Heap} (X : K.In h) (G : h.Ns mainGlobals mg) (c : He.SaysD faD fnD K) : DefIs TT tab K mg 35 "_law_is_ahead" := by
  obtain ⟨fd, F⟩ := c.def_ 35 (d := dd "_law_is_ahead" 45) rfl
  exact ⟨_, n_law_is_ahead, ["one", "other"], _, _, _, _, _, fd, rfl, F, He.glo_ok X G (c.fact 35 (f := .glo "_law_is_ahead") rfl), FunD.bindsN F (fun _ _ _ _ _ _ us hl => match us, hl with | [_, _], _ => rfl), c_law_is_ahead.1, rfl, rfl, c_law_is_ahead.2⟩
theorem d_law_sorted {K : PySem.W.Frag} {mg : Str → Option Value} {h : Heap} (X : K.In h) (G : h.Ns mainGlobals mg) (c : He.SaysD faD fnD K) : DefIs TT tab K mg 36 "_law_sorted" := by
  obtain ⟨fd, F⟩ := c.def_ 36 (d := dd "_law_sorted" 46) rfl
  exact ⟨_, n_law_sorted, ["places"], _, _, _, _, _, fd, rfl, F, He.glo_ok X G (c.fact 36 (f := .glo "_law_sorted") rfl), FunD.bindsN F (fun _ _ _ _ _ _ us hl => match us, hl with | [_], _ => rfl), c_law_sorted.1, rfl, rfl, c_law_sorted.2⟩
theorem d_law_right {K : PySem.W.Frag} {mg : Str → Option Value} {h : Heap} (X : K.In h) (G : h.Ns mainGlobals mg) (c : He.SaysD faD fnD K) : DefIs TT tab K mg 37 "_law_right" := by
  obtain ⟨fd, F⟩ := c.def_ 37 (d := dd "_law_right" 47) rfl
  exact ⟨_, n_law_right, ["bag"], _, _, _, _, _, fd, rfl, F, He.glo_ok X G (c.fact 37 (f := .glo "_law_right") rfl), FunD.bindsN F (fun _ _ _ _ _ _ us hl => match us, hl with | [_], _ => rfl), c_law_right.1, rfl, rfl, c_law_right.2⟩
theorem d_law {K : PySem.W.Frag} {mg : Str → Option Value} {h : Heap} (X : K.In h) (G : h.Ns mainGlobals mg) (c : He.SaysD faD fnD K) : DefIs TT tab K mg 38 "law" := by
  obtain ⟨fd, F⟩ := c.def_ 38 (d := dd "law" 48) rfl
  exact ⟨_, n_law, ["script"], _, _, _, _, _, fd, rfl, F, He.glo_ok X G (c.fact 38 (f := .glo "law") rfl), FunD.bindsN F (fun _ _ _ _ _ _ us hl => match us, hl with | [_], _ => rfl), c_law.1, rfl, rfl, c_law.2⟩
theorem defs {K : PySem.W.Frag} {mg : Str → Option Value} {h : Heap} (X : K.In h) (G : h.Ns mainGlobals mg) (c : He.SaysD faD fnD K) : ∀ i x, TT.fs[i]? = some x → DefIs TT tab K mg i x
  | 0, _, hx => Option.some.inj hx ▸ d_is_whole X G c
  | 1, _, hx => Option.some.inj hx ▸ d_lowest X G c
  | 2, _, hx => Option.some.inj hx ▸ d_turn_in X G c
  | 3, _, hx => Option.some.inj hx ▸ d_along_in X G c
  | 4, _, hx => Option.some.inj hx ▸ d_is_point_of X G c
  | 5, _, hx => Option.some.inj hx ▸ d_is_direction_of X G c
  | 6, _, hx => Option.some.inj hx ▸ d_is_integer_of X G c
  | 7, _, hx => Option.some.inj hx ▸ d_is_fraction_of X G c
  | 8, _, hx => Option.some.inj hx ▸ d_is_wedge_of X G c
  | 9, _, hx => Option.some.inj hx ▸ d_halves_in X G c
  | 10, _, hx => Option.some.inj hx ▸ d_is_below X G c
  | 11, _, hx => Option.some.inj hx ▸ d_is_held X G c
  | 12, _, hx => Option.some.inj hx ▸ d_crossing_in X G c
  | 13, _, hx => Option.some.inj hx ▸ d_is_place X G c
  | 14, _, hx => Option.some.inj hx ▸ d_halves_of X G c
  | 15, _, hx => Option.some.inj hx ▸ d_is_before X G c
  | 16, _, hx => Option.some.inj hx ▸ d_in_order X G c
  | 17, _, hx => Option.some.inj hx ▸ d_crossings_of X G c
  | 18, _, hx => Option.some.inj hx ▸ d_require_wedges X G c
  | 19, _, hx => Option.some.inj hx ▸ d_is_common X G c
  | 20, _, hx => Option.some.inj hx ▸ d_corners X G c
  | 21, _, hx => Option.some.inj hx ▸ d_law_bag X G c
  | 22, _, hx => Option.some.inj hx ▸ d_law_draw X G c
  | 23, _, hx => Option.some.inj hx ▸ d_law_one_of X G c
  | 24, _, hx => Option.some.inj hx ▸ d_law_turn X G c
  | 25, _, hx => Option.some.inj hx ▸ d_law_dot X G c
  | 26, _, hx => Option.some.inj hx ▸ d_law_lowest X G c
  | 27, _, hx => Option.some.inj hx ▸ d_law_planes X G c
  | 28, _, hx => Option.some.inj hx ▸ d_law_does_hold X G c
  | 29, _, hx => Option.some.inj hx ▸ d_law_crossing X G c
  | 30, _, hx => Option.some.inj hx ▸ d_law_direction X G c
  | 31, _, hx => Option.some.inj hx ▸ d_law_wedge X G c
  | 32, _, hx => Option.some.inj hx ▸ d_law_all_planes X G c
  | 33, _, hx => Option.some.inj hx ▸ d_law_corners X G c
  | 34, _, hx => Option.some.inj hx ▸ d_law_wedges X G c
  | 35, _, hx => Option.some.inj hx ▸ d_law_is_ahead X G c
  | 36, _, hx => Option.some.inj hx ▸ d_law_sorted X G c
  | 37, _, hx => Option.some.inj hx ▸ d_law_right X G c
  | 38, _, hx => Option.some.inj hx ▸ d_law X G c
  | _ + 39, _, hx => nomatch hx
theorem consts {K : PySem.W.Frag} {mg : Str → Option Value} {h : Heap} (X : K.In h) (G : h.Ns mainGlobals mg) (c : He.SaysD faD fnD K) : ∀ x d, TT.gl x = some d → ∃ u v, mg x = some u ∧ RelV v u ∧ ∀ H O, Rep K H O v d := by
  intro x d hx
  have key := lookup_mem hx
  simp only [TT, gsN, List.mem_cons, List.not_mem_nil, or_false, Prod.mk.injEq] at key
  rcases key with ⟨rfl, rfl⟩ | key
  · obtain ⟨t, e⟩ := He.int_ok X G (c.fact 39 (f := .int "GREAT" 1000000000000000000000000000000000000000000000000000000000000) rfl); exact ⟨_, .int _, e, ⟨t, rfl⟩, fun _ _ => .int _⟩
  obtain ⟨rfl, rfl⟩ := key
  · obtain ⟨t, e⟩ := He.int_ok X G (c.fact 40 (f := .int "MOST_WEDGES" 12) rfl); exact ⟨_, .int _, e, ⟨t, rfl⟩, fun _ _ => .int _⟩
theorem blts {K : PySem.W.Frag} {mg : Str → Option Value} {h : Heap} (X : K.In h) (G : h.Ns mainGlobals mg) (c : He.SaysD faD fnD K) : ∀ x ∈ TT.bl, mg x = none := by
  intro x hx
  simp only [TT, blN, List.mem_cons, List.not_mem_nil, or_false] at hx
  rcases hx with rfl | rfl | rfl | rfl | rfl | rfl | rfl | rfl | rfl | rfl | rfl | rfl | rfl | rfl | rfl
  · exact He.free_ok X G (c.fact 41 (f := .free "abs") rfl)
  · exact He.free_ok X G (c.fact 42 (f := .free "all") rfl)
  · exact He.free_ok X G (c.fact 43 (f := .free "bool") rfl)
  · exact He.free_ok X G (c.fact 44 (f := .free "enumerate") rfl)
  · exact He.free_ok X G (c.fact 45 (f := .free "int") rfl)
  · exact He.free_ok X G (c.fact 46 (f := .free "isinstance") rfl)
  · exact He.free_ok X G (c.fact 47 (f := .free "len") rfl)
  · exact He.free_ok X G (c.fact 48 (f := .free "list") rfl)
  · exact He.free_ok X G (c.fact 49 (f := .free "max") rfl)
  · exact He.free_ok X G (c.fact 50 (f := .free "min") rfl)
  · exact He.free_ok X G (c.fact 51 (f := .free "range") rfl)
  · exact He.free_ok X G (c.fact 52 (f := .free "repr") rfl)
  · exact He.free_ok X G (c.fact 53 (f := .free "sum") rfl)
  · exact He.free_ok X G (c.fact 54 (f := .free "tuple") rfl)
  · exact He.free_ok X G (c.fact 55 (f := .free "zip") rfl)
def imps : List Nat := [0]
def lawAt : Nat := 48
def loose0 : List Str := [("FireError" : Str), ("InvalidPoint" : Str), ("GREAT" : Str), ("is_whole" : Str), ("lowest" : Str), ("turn_in" : Str), ("along_in" : Str), ("is_point_of" : Str), ("is_direction_of" : Str), ("is_integer_of" : Str), ("is_fraction_of" : Str), ("is_wedge_of" : Str), ("halves_in" : Str), ("is_below" : Str), ("is_held" : Str), ("crossing_in" : Str), ("is_place" : Str), ("MOST_WEDGES" : Str), ("halves_of" : Str), ("is_before" : Str), ("in_order" : Str), ("crossings_of" : Str), ("require_wedges" : Str), ("is_common" : Str), ("corners" : Str), ("_law_bag" : Str), ("_law_draw" : Str), ("_law_one_of" : Str), ("_law_turn" : Str), ("_law_dot" : Str)]
def loose1 : List Str := [("_law_lowest" : Str), ("_law_planes" : Str), ("_law_does_hold" : Str), ("_law_crossing" : Str), ("_law_direction" : Str), ("_law_wedge" : Str), ("_law_all_planes" : Str), ("_law_corners" : Str), ("_law_wedges" : Str), ("_law_is_ahead" : Str), ("_law_sorted" : Str), ("_law_right" : Str)]
def loose : List Str := loose0 ++ loose1
end K74

set_option Elab.async false
set_option linter.all false
set_option maxRecDepth 100000
namespace K74
open PySem PySem.Spec L2 PD
abbrev gl := TT.gl
/-- a call's end -/
def outR (io : Bool) : R Fl → RC
  | .ok (.rt d) e => if io then (match e[0]? with | some o => .ok d o | none => .bad) else .ok d none
  | .ok .nx e => if io then (match e[0]? with | some o => .ok .non o | none => .bad) else .ok .non none
  | .ok _ _ => .bad
  | .ex x e => if io then (match e[0]? with | some o => .ex x o | none => .bad) else .ex x none
  | .bad => .bad
theorem call_eq {T : List Fn} {gl : Str → Option D} {k f : Nat} {ds : List D} {fn : Fn} (ht : T[f]? = some fn) (hl : ds.length = fn.pars) : callN T gl (k + 1) f ds = outR fn.io (evS (callN T gl k) gl fn.body (ds.map some ++ List.replicate (fn.slots - fn.pars) none)) := by
  simp only [callN, ht, hl, if_pos]
  cases evS (callN T gl k) gl fn.body (ds.map some ++ List.replicate (fn.slots - fn.pars) none) with
  | ok fl e => cases fl <;> rfl
  | ex x e => rfl
  | bad => rfl
section
variable {α β : Type} {a : α} {e : PD.Env} {f : α → PD.Env → R β} {i j : Int} {ds : List D} {b : Bool}
theorem b_ok : (R.ok a e).bind f = f a e := rfl
theorem o_some : R.op e (some a) = .ok a e := rfl
theorem add_ : binD .Add (.int i) (.int j) = some (.int (i + j)) := rfl
theorem sub_ : binD .Sub (.int i) (.int j) = some (.int (i - j)) := rfl
theorem lt_ : cmpD .Lt (.int i) (.int j) = some (decide (i < j)) := rfl
theorem le_ : cmpD .LtE (.int i) (.int j) = some (decide (i ≤ j)) := rfl
theorem gt_ : cmpD .Gt (.int i) (.int j) = some (decide (j < i)) := rfl
theorem ge_ : cmpD .GtE (.int i) (.int j) = some (decide (j ≤ i)) := rfl
theorem f_int : D.frz (.int i) = .int i := rfl
theorem f_tup : D.frz (.tup ds) = .tup ds := rfl
theorem f_lst : D.frz (.lst ds) = .lst ds := rfl
theorem f_bl : D.frz (.bl b) = .bl b := rfl
theorem f_non : D.frz .non = .non := rfl
theorem f_own : D.frz (.own b ds) = .lst (D.frzs ds) := rfl
theorem fs_nil : D.frzs [] = [] := rfl
theorem fs_cons {d : D} : D.frzs (d :: ds) = d.frz :: D.frzs ds := rfl
theorem pn_int : pinned (.int i) = false := rfl
theorem pn_tup : pinned (.tup ds) = false := rfl
theorem pn_lst : pinned (.lst ds) = false := rfl
theorem pn_bl : pinned (.bl b) = false := rfl
theorem pn_non : pinned .non = false := rfl
theorem pn_own : pinned (.own b ds) = b := rfl
theorem tr_bl : truth (.bl b) = some b := rfl
theorem t0 {a : D} {xs : List D} : subD (.tup (a :: xs)) (.int 0) = some a := by
  show atI (a :: xs) 0 = _
  unfold atI ixN
  rw [if_pos (by decide), if_pos (by rw [List.length_cons]; omega)]
  rfl
theorem t1 {a b : D} {xs : List D} : subD (.tup (a :: b :: xs)) (.int 1) = some b := by
  show atI (a :: b :: xs) 1 = _
  unfold atI ixN
  rw [if_pos (by decide), if_pos (by rw [List.length_cons, List.length_cons]; omega)]
  rfl
theorem t2 {a b c : D} {xs : List D} : subD (.tup (a :: b :: c :: xs)) (.int 2) = some c := by
  show atI (a :: b :: c :: xs) 2 = _
  unfold atI ixN
  rw [if_pos (by decide), if_pos (by rw [List.length_cons, List.length_cons, List.length_cons]; omega)]
  rfl
end
theorem eq_int {i j : Int} : cmpD .Eq (.int i) (.int j) = some (decide (i = j)) := by
  simp only [cmpD]
  rw [if_pos ⟨by rfl, by rfl⟩]
  simp only [D.py, PyData.eqv]
  congr 1
theorem ne_int {i j : Int} : cmpD .NotEq (.int i) (.int j) = some (!decide (i = j)) := by
  simp only [cmpD]
  rw [if_pos ⟨by rfl, by rfl⟩]
  simp only [D.py, PyData.eqv]
  congr 1
theorem ln0 : (0 ≤ line) = True := eq_true (by decide)
theorem ln1 : (0 + 1 ≤ line) = True := eq_true (by decide)
theorem ln2 : (0 + 1 + 1 ≤ line) = True := eq_true (by decide)
theorem ln3 : (0 + 1 + 1 + 1 ≤ line) = True := eq_true (by decide)
/-- below 2^n -/
def Sm (n : Nat) (i : Int) : Prop := i.natAbs < 2 ^ n
theorem Sm.mono {n m : Nat} {i : Int} (h : Sm n i) (hm : n ≤ m) : Sm m i := Nat.lt_of_lt_of_le h (Nat.pow_le_pow_right (by decide) hm)
theorem Sm.mul {n m : Nat} {i j : Int} (h : Sm n i) (h2 : Sm m j) : Sm (n + m) (i * j) := by
  unfold Sm
  rw [Int.natAbs_mul, Nat.pow_add]
  exact Nat.mul_lt_mul'' h h2
theorem Sm.add {n : Nat} {i j : Int} (h : Sm n i) (h2 : Sm n j) : Sm (n + 1) (i + j) := by
  unfold Sm at *
  rw [Nat.pow_succ]
  have := Int.natAbs_add_le i j
  omega
theorem Sm.neg {n : Nat} {i : Int} (h : Sm n i) : Sm n (-i) := by
  unfold Sm
  rw [Int.natAbs_neg]
  exact h
theorem Sm.sub {n : Nat} {i j : Int} (h : Sm n i) (h2 : Sm n j) : Sm (n + 1) (i - j) := by
  rw [Int.sub_eq_add_neg]
  exact h.add h2.neg
theorem Sm.log {n : Nat} {i : Int} (h : Sm n i) : i.natAbs.log2 ≤ n := by
  by_cases h0 : i.natAbs = 0
  · rw [h0]
    exact Nat.zero_le _
  · exact Nat.le_of_lt ((Nat.log2_lt h0).mpr h)
theorem mul_ {n m : Nat} {i j : Int} (hi : Sm n i) (hj : Sm m j) (h : n + m < 1000000) : binD .Mult (.int i) (.int j) = some (.int (i * j)) := by
  have := hi.log
  have := hj.log
  simp only [binD]
  rw [if_pos (by omega)]
abbrev p2 (a b : Int) : D := .tup [.int a, .int b]
abbrev p3 (a b c : Int) : D := .tup [.int a, .int b, .int c]
section
variable {k n : Nat} {a b c d x y : Int}
theorem s_turn_in (ha : Sm 900 a) (hb : Sm 900 b) (hc : Sm 900 c) (hd : Sm 900 d) : callN tab gl (k + 1) i_turn_in [p2 a b, p2 c d] = .ok (.int (a * d - b * c)) none := by
  rw [call_eq (fn := ⟨2, 2, false, b_turn_in⟩) rfl rfl]
  simp only [b_turn_in, evS, ev, evs, evT, asg, asgs, List.map_cons, List.map_nil, List.replicate, Nat.sub_self, Nat.reduceSub, List.append_nil, List.cons_append, List.nil_append, readAt, freeAt, List.getElem?_cons_zero, List.getElem?_cons_succ, List.set_cons_zero, List.set_cons_succ, Bool.false_eq_true, Bool.not_false, Bool.not_true, if_false, if_true, b_ok, o_some, f_int, f_tup, f_lst, f_bl, f_non, f_own, fs_nil, fs_cons, pn_int, pn_tup, pn_lst, pn_bl, pn_non, pn_own, tr_bl, t0, t1, t2, add_, sub_, lt_, le_, gt_, ge_, Option.map_some, List.length_cons, List.length_nil, ln0, ln1, ln2, ln3, itemsOf, eq_int, ne_int, retC, outR, mul_ ha hd (by decide), mul_ hb hc (by decide)]
theorem s_along_in (ha : Sm 900 a) (hb : Sm 900 b) (hc : Sm 900 c) (hd : Sm 900 d) : callN tab gl (k + 1) i_along_in [p2 a b, p2 c d] = .ok (.int (a * c + b * d)) none := by
  rw [call_eq (fn := ⟨2, 2, false, b_along_in⟩) rfl rfl]
  simp only [b_along_in, evS, ev, evs, evT, asg, asgs, List.map_cons, List.map_nil, List.replicate, Nat.sub_self, Nat.reduceSub, List.append_nil, List.cons_append, List.nil_append, readAt, freeAt, List.getElem?_cons_zero, List.getElem?_cons_succ, List.set_cons_zero, List.set_cons_succ, Bool.false_eq_true, Bool.not_false, Bool.not_true, if_false, if_true, b_ok, o_some, f_int, f_tup, f_lst, f_bl, f_non, f_own, fs_nil, fs_cons, pn_int, pn_tup, pn_lst, pn_bl, pn_non, pn_own, tr_bl, t0, t1, t2, add_, sub_, lt_, le_, gt_, ge_, Option.map_some, List.length_cons, List.length_nil, ln0, ln1, ln2, ln3, itemsOf, eq_int, ne_int, retC, outR, mul_ ha hc (by decide), mul_ hb hd (by decide)]
theorem s_law_turn (ha : Sm 900 a) (hb : Sm 900 b) (hc : Sm 900 c) (hd : Sm 900 d) : callN tab gl (k + 1) i_law_turn [p2 a b, p2 c d] = .ok (.int (a * d - b * c)) none := by
  rw [call_eq (fn := ⟨2, 2, false, b_law_turn⟩) rfl rfl]
  simp only [b_law_turn, evS, ev, evs, evT, asg, asgs, List.map_cons, List.map_nil, List.replicate, Nat.sub_self, Nat.reduceSub, List.append_nil, List.cons_append, List.nil_append, readAt, freeAt, List.getElem?_cons_zero, List.getElem?_cons_succ, List.set_cons_zero, List.set_cons_succ, Bool.false_eq_true, Bool.not_false, Bool.not_true, if_false, if_true, b_ok, o_some, f_int, f_tup, f_lst, f_bl, f_non, f_own, fs_nil, fs_cons, pn_int, pn_tup, pn_lst, pn_bl, pn_non, pn_own, tr_bl, t0, t1, t2, add_, sub_, lt_, le_, gt_, ge_, Option.map_some, List.length_cons, List.length_nil, ln0, ln1, ln2, ln3, itemsOf, eq_int, ne_int, retC, outR, mul_ ha hd (by decide), mul_ hb hc (by decide)]
theorem s_law_dot (ha : Sm 900 a) (hb : Sm 900 b) (hc : Sm 900 c) (hd : Sm 900 d) : callN tab gl (k + 1) i_law_dot [p2 a b, p2 c d] = .ok (.int (a * c + b * d)) none := by
  rw [call_eq (fn := ⟨2, 2, false, b_law_dot⟩) rfl rfl]
  simp only [b_law_dot, evS, ev, evs, evT, asg, asgs, List.map_cons, List.map_nil, List.replicate, Nat.sub_self, Nat.reduceSub, List.append_nil, List.cons_append, List.nil_append, readAt, freeAt, List.getElem?_cons_zero, List.getElem?_cons_succ, List.set_cons_zero, List.set_cons_succ, Bool.false_eq_true, Bool.not_false, Bool.not_true, if_false, if_true, b_ok, o_some, f_int, f_tup, f_lst, f_bl, f_non, f_own, fs_nil, fs_cons, pn_int, pn_tup, pn_lst, pn_bl, pn_non, pn_own, tr_bl, t0, t1, t2, add_, sub_, lt_, le_, gt_, ge_, Option.map_some, List.length_cons, List.length_nil, ln0, ln1, ln2, ln3, itemsOf, eq_int, ne_int, retC, outR, mul_ ha hc (by decide), mul_ hb hd (by decide)]
end
end K74

set_option Elab.async false
set_option linter.all false
set_option maxRecDepth 100000
namespace K74
open PySem PySem.Spec L2 PD
/-- lowest terms, the bottom above 0 -/
def low (t b : Int) : Int × Int := ((if b < 0 then -1 else 1) * t / (Nat.gcd t.natAbs b.natAbs : Nat), (if b < 0 then -1 else 1) * b / (Nat.gcd t.natAbs b.natAbs : Nat))
theorem gcd_pos {t b : Int} (hb : b ≠ 0) : (0 : Int) < (Nat.gcd t.natAbs b.natAbs : Nat) := by
  have : 0 < Nat.gcd t.natAbs b.natAbs := Nat.gcd_pos_of_pos_right _ (by omega)
  omega
theorem div_ {i j : Int} (h : 0 < j) (h2 : j.natAbs.log2 < 9000) : binD .FloorDiv (.int i) (.int j) = some (.int (i / j)) := by
  simp only [binD]
  rw [if_pos ⟨h, h2⟩]
theorem gcd_log {t b : Int} {n : Nat} (hb : b ≠ 0) (h : Sm n b) : ((Nat.gcd t.natAbs b.natAbs : Nat) : Int).natAbs.log2 ≤ n := by
  have h1 : Nat.gcd t.natAbs b.natAbs ≤ b.natAbs := Nat.gcd_le_right _ (by omega)
  have : Sm n ((Nat.gcd t.natAbs b.natAbs : Nat) : Int) := by
    unfold Sm at *
    rw [Int.natAbs_natCast]
    omega
  exact this.log
section
variable {k n : Nat} {a b c d x y t u : Int}
theorem gcd_ : biD .gcd [.int a, .int b] = some (.int (Nat.gcd a.natAbs b.natAbs : Nat)) := rfl
theorem s_lowest (ht : Sm 900 t) (hu : Sm 900 u) (h0 : u ≠ 0) : callN tab gl (k + 1) i_lowest [.int t, .int u] = .ok (p2 (low t u).1 (low t u).2) none := by
  have hg := gcd_pos (t := t) h0
  have hl := gcd_log (t := t) h0 hu
  have s1 : Sm 2 (1 : Int) := by unfold Sm; decide
  have s2 : Sm 2 (-1 : Int) := by unfold Sm; decide
  rw [call_eq (fn := ⟨4, 2, false, b_lowest⟩) rfl rfl]
  by_cases h : u < 0
  · simp only [b_lowest, evS, ev, evs, evT, asg, asgs, List.map_cons, List.map_nil, List.replicate, Nat.sub_self, Nat.reduceSub, List.append_nil, List.cons_append, List.nil_append, readAt, freeAt, List.getElem?_cons_zero, List.getElem?_cons_succ, List.set_cons_zero, List.set_cons_succ, Bool.false_eq_true, Bool.not_false, Bool.not_true, if_false, if_true, b_ok, o_some, f_int, f_tup, f_lst, f_bl, f_non, f_own, fs_nil, fs_cons, pn_int, pn_tup, pn_lst, pn_bl, pn_non, pn_own, tr_bl, t0, t1, t2, add_, sub_, lt_, le_, gt_, ge_, Option.map_some, List.length_cons, List.length_nil, ln0, ln1, ln2, ln3, itemsOf, eq_int, ne_int, retC, outR, decide_eq_true h, gcd_, mul_ s2 ht (by decide), mul_ s2 hu (by decide), div_ hg (by omega), low, if_pos h]
  · simp only [b_lowest, evS, ev, evs, evT, asg, asgs, List.map_cons, List.map_nil, List.replicate, Nat.sub_self, Nat.reduceSub, List.append_nil, List.cons_append, List.nil_append, readAt, freeAt, List.getElem?_cons_zero, List.getElem?_cons_succ, List.set_cons_zero, List.set_cons_succ, Bool.false_eq_true, Bool.not_false, Bool.not_true, if_false, if_true, b_ok, o_some, f_int, f_tup, f_lst, f_bl, f_non, f_own, fs_nil, fs_cons, pn_int, pn_tup, pn_lst, pn_bl, pn_non, pn_own, tr_bl, t0, t1, t2, add_, sub_, lt_, le_, gt_, ge_, Option.map_some, List.length_cons, List.length_nil, ln0, ln1, ln2, ln3, itemsOf, eq_int, ne_int, retC, outR, decide_eq_false h, gcd_, mul_ s1 ht (by decide), mul_ s1 hu (by decide), div_ hg (by omega), low, if_neg h]
end
end K74

set_option Elab.async false
set_option linter.all false
set_option maxRecDepth 100000
namespace K74
open PySem PySem.Spec L2 PD
/-- a wedge: tower, right, left -/
structure Wd where
  p : Int
  q : Int
  a : Int
  b : Int
  c : Int
  d : Int
deriving DecidableEq
abbrev H3 := Int × Int × Int
/-- a place: two fractions -/
structure Pl where
  x : Int
  u : Int
  y : Int
  v : Int
deriving DecidableEq
def encW (w : Wd) : D := .tup [p2 w.p w.q, p2 w.a w.b, p2 w.c w.d]
def enc3 (h : H3) : D := p3 h.1 h.2.1 h.2.2
def encP (z : Pl) : D := .tup [p2 z.x z.u, p2 z.y z.v]
def hv (w : Wd) : List H3 := if 0 < w.a * w.d - w.b * w.c then [(w.b, -w.a, w.b * w.p - w.a * w.q), (-w.d, w.c, w.c * w.q - w.d * w.p)] else [(w.b, -w.a, w.b * w.p - w.a * w.q), (-w.d, w.c, w.c * w.q - w.d * w.p), (-w.a, -w.b, -w.a * w.p - w.b * w.q)]
structure SmW (n : Nat) (w : Wd) : Prop where
  p : Sm n w.p
  q : Sm n w.q
  a : Sm n w.a
  b : Sm n w.b
  c : Sm n w.c
  d : Sm n w.d
structure Sm3 (n : Nat) (h : H3) : Prop where
  a : Sm n h.1
  b : Sm n h.2.1
  c : Sm n h.2.2
structure SmP (n : Nat) (z : Pl) : Prop where
  x : Sm n z.x
  u : Sm n z.u
  y : Sm n z.y
  v : Sm n z.v
def bel (h : H3) (z : Pl) : Bool := decide (h.1 * z.x * z.v + h.2.1 * z.y * z.u ≤ h.2.2 * z.u * z.v)
def crs (g h : H3) : Option Pl :=
  if g.1 * h.2.1 - g.2.1 * h.1 = 0 then none else
    some ⟨(low (g.2.2 * h.2.1 - g.2.1 * h.2.2) (g.1 * h.2.1 - g.2.1 * h.1)).1, (low (g.2.2 * h.2.1 - g.2.1 * h.2.2) (g.1 * h.2.1 - g.2.1 * h.1)).2, (low (g.1 * h.2.2 - g.2.2 * h.1) (g.1 * h.2.1 - g.2.1 * h.1)).1, (low (g.1 * h.2.2 - g.2.2 * h.1) (g.1 * h.2.1 - g.2.1 * h.1)).2⟩
section
variable {k n : Nat}
theorem s_is_below {h : H3} {z : Pl} (hh : Sm3 300 h) (hz : SmP 300 z) : callN tab gl (k + 1) i_is_below [enc3 h, encP z] = .ok (.bl (bel h z)) none := by
  obtain ⟨h1, h2, h3⟩ := hh
  obtain ⟨z1, z2, z3, z4⟩ := hz
  rw [call_eq (fn := ⟨9, 2, false, b_is_below⟩) rfl rfl]
  simp only [enc3, encP, bel, b_is_below, evS, ev, evs, evT, asg, asgs, List.map_cons, List.map_nil, List.replicate, Nat.sub_self, Nat.reduceSub, List.append_nil, List.cons_append, List.nil_append, readAt, freeAt, List.getElem?_cons_zero, List.getElem?_cons_succ, List.set_cons_zero, List.set_cons_succ, Bool.false_eq_true, Bool.not_false, Bool.not_true, if_false, if_true, b_ok, o_some, f_int, f_tup, f_lst, f_bl, f_non, f_own, fs_nil, fs_cons, pn_int, pn_tup, pn_lst, pn_bl, pn_non, pn_own, tr_bl, t0, t1, t2, add_, sub_, lt_, le_, gt_, ge_, Option.map_some, List.length_cons, List.length_nil, ln0, ln1, ln2, ln3, itemsOf, eq_int, ne_int, retC, outR, mul_ h1 z1 (by decide), mul_ (h1.mul z1) z4 (by decide), mul_ h2 z3 (by decide), mul_ (h2.mul z3) z2 (by decide), mul_ h3 z2 (by decide), mul_ (h3.mul z2) z4 (by decide)]
theorem s_halves_in {w : Wd} (hw : SmW 300 w) : callN tab gl (k + 2) i_halves_in [encW w] = .ok (.tup ((hv w).map enc3)) none := by
  obtain ⟨h1, h2, h3, h4, h5, h6⟩ := hw
  have t := s_turn_in (k := k) (h3.mono (m := 900) (by decide)) (h4.mono (m := 900) (by decide)) (h5.mono (m := 900) (by decide)) (h6.mono (m := 900) (by decide))
  rw [call_eq (fn := ⟨8, 1, false, b_halves_in⟩) rfl rfl]
  by_cases h : 0 < w.a * w.d - w.b * w.c
  · simp only [encW, hv, b_halves_in, evS, ev, evs, evT, asg, asgs, List.map_cons, List.map_nil, List.replicate, Nat.sub_self, Nat.reduceSub, List.append_nil, List.cons_append, List.nil_append, readAt, freeAt, List.getElem?_cons_zero, List.getElem?_cons_succ, List.set_cons_zero, List.set_cons_succ, Bool.false_eq_true, Bool.not_false, Bool.not_true, if_false, if_true, b_ok, o_some, f_int, f_tup, f_lst, f_bl, f_non, f_own, fs_nil, fs_cons, pn_int, pn_tup, pn_lst, pn_bl, pn_non, pn_own, tr_bl, t0, t1, t2, add_, sub_, lt_, le_, gt_, ge_, Option.map_some, List.length_cons, List.length_nil, ln0, ln1, ln2, ln3, itemsOf, eq_int, ne_int, retC, outR, mul_ h4 h1 (by decide), mul_ h3 h2 (by decide), mul_ h5 h2 (by decide), mul_ h6 h1 (by decide), mul_ h3.neg h1 (by decide), mul_ h4 h2 (by decide), t, decide_eq_true h, if_pos h]
    rfl
  · simp only [encW, hv, b_halves_in, evS, ev, evs, evT, asg, asgs, List.map_cons, List.map_nil, List.replicate, Nat.sub_self, Nat.reduceSub, List.append_nil, List.cons_append, List.nil_append, readAt, freeAt, List.getElem?_cons_zero, List.getElem?_cons_succ, List.set_cons_zero, List.set_cons_succ, Bool.false_eq_true, Bool.not_false, Bool.not_true, if_false, if_true, b_ok, o_some, f_int, f_tup, f_lst, f_bl, f_non, f_own, fs_nil, fs_cons, pn_int, pn_tup, pn_lst, pn_bl, pn_non, pn_own, tr_bl, t0, t1, t2, add_, sub_, lt_, le_, gt_, ge_, Option.map_some, List.length_cons, List.length_nil, ln0, ln1, ln2, ln3, itemsOf, eq_int, ne_int, retC, outR, mul_ h4 h1 (by decide), mul_ h3 h2 (by decide), mul_ h5 h2 (by decide), mul_ h6 h1 (by decide), mul_ h3.neg h1 (by decide), mul_ h4 h2 (by decide), t, decide_eq_false h, if_neg h]
    rfl
end
end K74

set_option Elab.async false
set_option linter.all false
set_option maxRecDepth 100000
namespace K74
open PySem PySem.Spec L2 PD
def encO (o : Option Pl) : D := match o with
  | none => .non
  | some z => encP z
theorem cat21 {a b c : D} : binD .Add (.tup [a, b]) (.tup [c]) = some (.tup [a, b, c]) := rfl
section
variable {k n : Nat}
theorem s_crossing_in {g h : H3} (hg : Sm3 300 g) (hh : Sm3 300 h) : callN tab gl (k + 2) i_crossing_in [enc3 g, enc3 h] = .ok (encO (crs g h)) none := by
  obtain ⟨g1, g2, g3⟩ := hg
  obtain ⟨h1, h2, h3⟩ := hh
  have hu : Sm 900 (g.1 * h.2.1 - g.2.1 * h.1) := ((g1.mul h2).sub (g2.mul h1)).mono (by decide)
  have hx : Sm 900 (g.2.2 * h.2.1 - g.2.1 * h.2.2) := ((g3.mul h2).sub (g2.mul h3)).mono (by decide)
  have hy : Sm 900 (g.1 * h.2.2 - g.2.2 * h.1) := ((g1.mul h3).sub (g3.mul h1)).mono (by decide)
  rw [call_eq (fn := ⟨9, 2, false, b_crossing_in⟩) rfl rfl]
  by_cases h0 : g.1 * h.2.1 - g.2.1 * h.1 = 0
  · simp only [enc3, encO, crs, b_crossing_in, evS, ev, evs, evT, asg, asgs, List.map_cons, List.map_nil, List.replicate, Nat.sub_self, Nat.reduceSub, List.append_nil, List.cons_append, List.nil_append, readAt, freeAt, List.getElem?_cons_zero, List.getElem?_cons_succ, List.set_cons_zero, List.set_cons_succ, Bool.false_eq_true, Bool.not_false, Bool.not_true, if_false, if_true, b_ok, o_some, f_int, f_tup, f_lst, f_bl, f_non, f_own, fs_nil, fs_cons, pn_int, pn_tup, pn_lst, pn_bl, pn_non, pn_own, tr_bl, t0, t1, t2, add_, sub_, lt_, le_, gt_, ge_, Option.map_some, List.length_cons, List.length_nil, ln0, ln1, ln2, ln3, itemsOf, eq_int, ne_int, retC, outR, mul_ g1 h2 (by decide), mul_ g2 h1 (by decide), decide_eq_true h0, if_pos h0]
  · have e1 := s_lowest (k := k) hx hu h0
    have e2 := s_lowest (k := k) hy hu h0
    simp only [enc3, encO, encP, crs, b_crossing_in, evS, ev, evs, evT, asg, asgs, List.map_cons, List.map_nil, List.replicate, Nat.sub_self, Nat.reduceSub, List.append_nil, List.cons_append, List.nil_append, readAt, freeAt, List.getElem?_cons_zero, List.getElem?_cons_succ, List.set_cons_zero, List.set_cons_succ, Bool.false_eq_true, Bool.not_false, Bool.not_true, if_false, if_true, b_ok, o_some, f_int, f_tup, f_lst, f_bl, f_non, f_own, fs_nil, fs_cons, pn_int, pn_tup, pn_lst, pn_bl, pn_non, pn_own, tr_bl, t0, t1, t2, add_, sub_, lt_, le_, gt_, ge_, Option.map_some, List.length_cons, List.length_nil, ln0, ln1, ln2, ln3, itemsOf, eq_int, ne_int, retC, outR, mul_ g1 h2 (by decide), mul_ g2 h1 (by decide), mul_ g3 h2 (by decide), mul_ g2 h3 (by decide), mul_ g1 h3 (by decide), mul_ g3 h1 (by decide), decide_eq_false h0, if_neg h0, e1, e2]
theorem s_law_planes {w : Wd} (hw : SmW 300 w) : callN tab gl (k + 2) i_law_planes [encW w] = .ok (.tup ((hv w).map enc3)) none := by
  obtain ⟨h1, h2, h3, h4, h5, h6⟩ := hw
  have t := s_law_turn (k := k) (h3.mono (m := 900) (by decide)) (h4.mono (m := 900) (by decide)) (h5.mono (m := 900) (by decide)) (h6.mono (m := 900) (by decide))
  have z1 : ∀ i : Int, (0 : Int) - i = -i := fun i => by omega
  rw [call_eq (fn := ⟨8, 1, false, b_law_planes⟩) rfl rfl]
  by_cases h : 0 < w.a * w.d - w.b * w.c
  · simp only [encW, hv, b_law_planes, evS, ev, evs, evT, asg, asgs, List.map_cons, List.map_nil, List.replicate, Nat.sub_self, Nat.reduceSub, List.append_nil, List.cons_append, List.nil_append, readAt, freeAt, List.getElem?_cons_zero, List.getElem?_cons_succ, List.set_cons_zero, List.set_cons_succ, Bool.false_eq_true, Bool.not_false, Bool.not_true, if_false, if_true, b_ok, o_some, f_int, f_tup, f_lst, f_bl, f_non, f_own, fs_nil, fs_cons, pn_int, pn_tup, pn_lst, pn_bl, pn_non, pn_own, tr_bl, t0, t1, t2, add_, sub_, lt_, le_, gt_, ge_, Option.map_some, List.length_cons, List.length_nil, ln0, ln1, ln2, ln3, itemsOf, eq_int, ne_int, retC, outR, mul_ h4 h1 (by decide), mul_ h3 h2 (by decide), mul_ h5 h2 (by decide), mul_ h6 h1 (by decide), mul_ h3 h1 (by decide), mul_ h4 h2 (by decide), t, decide_eq_true h, if_pos h, z1]
    rfl
  · simp only [encW, hv, b_law_planes, evS, ev, evs, evT, asg, asgs, List.map_cons, List.map_nil, List.replicate, Nat.sub_self, Nat.reduceSub, List.append_nil, List.cons_append, List.nil_append, readAt, freeAt, List.getElem?_cons_zero, List.getElem?_cons_succ, List.set_cons_zero, List.set_cons_succ, Bool.false_eq_true, Bool.not_false, Bool.not_true, if_false, if_true, b_ok, o_some, f_int, f_tup, f_lst, f_bl, f_non, f_own, fs_nil, fs_cons, pn_int, pn_tup, pn_lst, pn_bl, pn_non, pn_own, tr_bl, t0, t1, t2, add_, sub_, lt_, le_, gt_, ge_, Option.map_some, List.length_cons, List.length_nil, ln0, ln1, ln2, ln3, itemsOf, eq_int, ne_int, retC, outR, mul_ h4 h1 (by decide), mul_ h3 h2 (by decide), mul_ h5 h2 (by decide), mul_ h6 h1 (by decide), mul_ h3 h1 (by decide), mul_ h4 h2 (by decide), t, decide_eq_false h, if_neg h, z1, cat21, Int.neg_mul]
    rfl
/-- does a wedge hold a place, by the law -/
def dhf (w : Wd) (z : Pl) : Int × Int := ((z.x - w.p * z.u) * z.v, (z.y - w.q * z.v) * z.u)
def dh (w : Wd) (z : Pl) : Bool :=
  if w.a * w.d - w.b * w.c = 0 then decide (w.a * (dhf w z).2 - w.b * (dhf w z).1 = 0) && decide (0 ≤ w.a * (dhf w z).1 + w.b * (dhf w z).2)
  else decide (0 ≤ (dhf w z).1 * w.d - (dhf w z).2 * w.c) && decide (0 ≤ w.a * (dhf w z).2 - w.b * (dhf w z).1)
end
end K74

set_option Elab.async false
set_option linter.all false
set_option maxRecDepth 100000
namespace K74
open PySem PySem.Spec L2 PD
section
variable {k n : Nat}
theorem s_law_does_hold {w : Wd} {z : Pl} (hw : SmW 60 w) (hz : SmP 300 z) : callN tab gl (k + 2) i_law_does_hold [encW w, encP z] = .ok (.bl (dh w z)) none := by
  obtain ⟨h1, h2, h3, h4, h5, h6⟩ := hw
  obtain ⟨z1, z2, z3, z4⟩ := hz
  have f1 : Sm 900 (dhf w z).1 := (((z1.mono (by decide : 300 ≤ 360)).sub (h1.mul z2)).mul z4).mono (by decide)
  have f2 : Sm 900 (dhf w z).2 := (((z3.mono (by decide : 300 ≤ 360)).sub (h2.mul z4)).mul z2).mono (by decide)
  have m9 : ∀ {i : Int}, Sm 60 i → Sm 900 i := fun h => h.mono (by decide)
  have u1 : Sm 361 (z.x - w.p * z.u) := (z1.mono (by decide : 300 ≤ 360)).sub (h1.mul z2)
  have u2 : Sm 361 (z.y - w.q * z.v) := (z3.mono (by decide : 300 ≤ 360)).sub (h2.mul z4)
  have c1 := s_law_turn (k := k) (m9 h3) (m9 h4) (m9 h5) (m9 h6)
  have c2 := s_law_turn (k := k) (m9 h3) (m9 h4) f1 f2
  have c3 := s_law_dot (k := k) (m9 h3) (m9 h4) f1 f2
  have c4 := s_law_turn (k := k) f1 f2 (m9 h5) (m9 h6)
  simp only [dhf] at c2 c3 c4
  rw [call_eq (fn := ⟨11, 2, false, b_law_does_hold⟩) rfl rfl]
  by_cases h : w.a * w.d - w.b * w.c = 0
  · by_cases h7 : w.a * ((z.y - w.q * z.v) * z.u) - w.b * ((z.x - w.p * z.u) * z.v) = 0
    · simp only [encW, encP, dh, dhf, b_law_does_hold, evS, ev, evs, evT, asg, asgs, List.map_cons, List.map_nil, List.replicate, Nat.sub_self, Nat.reduceSub, List.append_nil, List.cons_append, List.nil_append, readAt, freeAt, List.getElem?_cons_zero, List.getElem?_cons_succ, List.set_cons_zero, List.set_cons_succ, Bool.false_eq_true, Bool.not_false, Bool.not_true, if_false, if_true, b_ok, o_some, f_int, f_tup, f_lst, f_bl, f_non, f_own, fs_nil, fs_cons, pn_int, pn_tup, pn_lst, pn_bl, pn_non, pn_own, tr_bl, t0, t1, t2, add_, sub_, lt_, le_, gt_, ge_, Option.map_some, List.length_cons, List.length_nil, ln0, ln1, ln2, ln3, itemsOf, eq_int, ne_int, retC, outR, mul_ h1 z2 (by decide), mul_ h2 z4 (by decide), mul_ u1 z4 (by decide), mul_ u2 z2 (by decide), c1, c2, c3, decide_eq_true h, decide_eq_true h7, if_pos h, Bool.true_and]
      try simp only [h7, decide_true, Bool.true_and]
      try rfl
    · simp only [encW, encP, dh, dhf, b_law_does_hold, evS, ev, evs, evT, asg, asgs, List.map_cons, List.map_nil, List.replicate, Nat.sub_self, Nat.reduceSub, List.append_nil, List.cons_append, List.nil_append, readAt, freeAt, List.getElem?_cons_zero, List.getElem?_cons_succ, List.set_cons_zero, List.set_cons_succ, Bool.false_eq_true, Bool.not_false, Bool.not_true, if_false, if_true, b_ok, o_some, f_int, f_tup, f_lst, f_bl, f_non, f_own, fs_nil, fs_cons, pn_int, pn_tup, pn_lst, pn_bl, pn_non, pn_own, tr_bl, t0, t1, t2, add_, sub_, lt_, le_, gt_, ge_, Option.map_some, List.length_cons, List.length_nil, ln0, ln1, ln2, ln3, itemsOf, eq_int, ne_int, retC, outR, mul_ h1 z2 (by decide), mul_ h2 z4 (by decide), mul_ u1 z4 (by decide), mul_ u2 z2 (by decide), c1, c2, c3, decide_eq_true h, decide_eq_false h7, if_pos h, Bool.false_and]
      try simp only [h7, decide_false, Bool.false_and]
      try rfl
  · by_cases h7 : 0 ≤ (z.x - w.p * z.u) * z.v * w.d - (z.y - w.q * z.v) * z.u * w.c
    · simp only [encW, encP, dh, dhf, b_law_does_hold, evS, ev, evs, evT, asg, asgs, List.map_cons, List.map_nil, List.replicate, Nat.sub_self, Nat.reduceSub, List.append_nil, List.cons_append, List.nil_append, readAt, freeAt, List.getElem?_cons_zero, List.getElem?_cons_succ, List.set_cons_zero, List.set_cons_succ, Bool.false_eq_true, Bool.not_false, Bool.not_true, if_false, if_true, b_ok, o_some, f_int, f_tup, f_lst, f_bl, f_non, f_own, fs_nil, fs_cons, pn_int, pn_tup, pn_lst, pn_bl, pn_non, pn_own, tr_bl, t0, t1, t2, add_, sub_, lt_, le_, gt_, ge_, Option.map_some, List.length_cons, List.length_nil, ln0, ln1, ln2, ln3, itemsOf, eq_int, ne_int, retC, outR, mul_ h1 z2 (by decide), mul_ h2 z4 (by decide), mul_ u1 z4 (by decide), mul_ u2 z2 (by decide), c1, c2, c4, decide_eq_false h, decide_eq_true h7, if_neg h, Bool.true_and]
      try simp only [h7, decide_true, Bool.true_and]
      try rfl
    · simp only [encW, encP, dh, dhf, b_law_does_hold, evS, ev, evs, evT, asg, asgs, List.map_cons, List.map_nil, List.replicate, Nat.sub_self, Nat.reduceSub, List.append_nil, List.cons_append, List.nil_append, readAt, freeAt, List.getElem?_cons_zero, List.getElem?_cons_succ, List.set_cons_zero, List.set_cons_succ, Bool.false_eq_true, Bool.not_false, Bool.not_true, if_false, if_true, b_ok, o_some, f_int, f_tup, f_lst, f_bl, f_non, f_own, fs_nil, fs_cons, pn_int, pn_tup, pn_lst, pn_bl, pn_non, pn_own, tr_bl, t0, t1, t2, add_, sub_, lt_, le_, gt_, ge_, Option.map_some, List.length_cons, List.length_nil, ln0, ln1, ln2, ln3, itemsOf, eq_int, ne_int, retC, outR, mul_ h1 z2 (by decide), mul_ h2 z4 (by decide), mul_ u1 z4 (by decide), mul_ u2 z2 (by decide), c1, c2, c4, decide_eq_false h, decide_eq_false h7, if_neg h, Bool.false_and]
      try simp only [h7, decide_false, Bool.false_and]
      try rfl
/-- Euclid's loop, as the evaluator runs it -/
theorem euclid : ∀ (n : Nat) (a b : Nat) (m : Nat) (s t : Int) (cf : CallF), b < 2 ^ n → 2 * n + 1 ≤ m →
    ∃ u : Int, whlL (evT cf gl (.cmp .NotEq (.lc 3) (.cst (.int 0)))) (evS cf gl (.par 2 3 (.lc 3) (.bin .Mod (.callB .int (.cons (.lc 2) (.nil))) (.lc 3)))) m [some (.int s), some (.int t), some (.int a), some (.int b), none] = .ok .nx [some (.int s), some (.int t), some (.int (Nat.gcd a b : Nat)), some (.int u), none] := by
  have step : ∀ (a b : Nat) (m : Nat) (s t : Int) (cf : CallF), b ≠ 0 → whlL (evT cf gl (.cmp .NotEq (.lc 3) (.cst (.int 0)))) (evS cf gl (.par 2 3 (.lc 3) (.bin .Mod (.callB .int (.cons (.lc 2) (.nil))) (.lc 3)))) (m + 1) [some (.int s), some (.int t), some (.int a), some (.int b), none] =
      whlL (evT cf gl (.cmp .NotEq (.lc 3) (.cst (.int 0)))) (evS cf gl (.par 2 3 (.lc 3) (.bin .Mod (.callB .int (.cons (.lc 2) (.nil))) (.lc 3)))) m [some (.int s), some (.int t), some (.int b), some (.int (a % b : Nat)), none] := by
    intro a b m s t cf hb
    have h0 : ¬ ((b : Int) = 0) := by omega
    have i1 : biD .int [.int (a : Int)] = some (.int a) := rfl
    have md : binD .Mod (.int (a : Int)) (.int (b : Int)) = some (.int (a % b : Nat)) := by
      simp only [binD]
      rw [if_pos (by omega)]
      rfl
    simp only [whlL, evS, ev, evs, evT, asg, asgs, List.map_cons, List.map_nil, List.replicate, Nat.sub_self, Nat.reduceSub, List.append_nil, List.cons_append, List.nil_append, readAt, freeAt, List.getElem?_cons_zero, List.getElem?_cons_succ, List.set_cons_zero, List.set_cons_succ, Bool.false_eq_true, Bool.not_false, Bool.not_true, if_false, if_true, b_ok, o_some, f_int, f_tup, f_lst, f_bl, f_non, f_own, fs_nil, fs_cons, pn_int, pn_tup, pn_lst, pn_bl, pn_non, pn_own, tr_bl, t0, t1, t2, add_, sub_, lt_, le_, gt_, ge_, Option.map_some, List.length_cons, List.length_nil, ln0, ln1, ln2, ln3, itemsOf, eq_int, ne_int, retC, outR, decide_eq_false h0, i1, md, Bool.and_self]
  have stop : ∀ (a : Nat) (m : Nat) (s t : Int) (cf : CallF), whlL (evT cf gl (.cmp .NotEq (.lc 3) (.cst (.int 0)))) (evS cf gl (.par 2 3 (.lc 3) (.bin .Mod (.callB .int (.cons (.lc 2) (.nil))) (.lc 3)))) (m + 1) [some (.int s), some (.int t), some (.int a), some (.int (0 : Nat)), none] = .ok .nx [some (.int s), some (.int t), some (.int a), some (.int (0 : Nat)), none] := by
    intro a m s t cf
    have h0 : ((0 : Nat) : Int) = 0 := rfl
    simp only [whlL, evS, ev, evs, evT, asg, asgs, List.map_cons, List.map_nil, List.replicate, Nat.sub_self, Nat.reduceSub, List.append_nil, List.cons_append, List.nil_append, readAt, freeAt, List.getElem?_cons_zero, List.getElem?_cons_succ, List.set_cons_zero, List.set_cons_succ, Bool.false_eq_true, Bool.not_false, Bool.not_true, if_false, if_true, b_ok, o_some, f_int, f_tup, f_lst, f_bl, f_non, f_own, fs_nil, fs_cons, pn_int, pn_tup, pn_lst, pn_bl, pn_non, pn_own, tr_bl, t0, t1, t2, add_, sub_, lt_, le_, gt_, ge_, Option.map_some, List.length_cons, List.length_nil, ln0, ln1, ln2, ln3, itemsOf, eq_int, ne_int, retC, outR, decide_eq_true h0]
  intro n
  induction n with
  | zero =>
    intro a b m s t cf hb hm
    have : b = 0 := by omega
    subst this
    obtain ⟨m, rfl⟩ : ∃ m', m = m' + 1 := ⟨m - 1, by omega⟩
    rw [stop, Nat.gcd_zero_right]
    exact ⟨_, rfl⟩
  | succ n ih =>
    intro a b m s t cf hb hm
    obtain ⟨m, rfl⟩ : ∃ m', m = m' + 1 := ⟨m - 1, by omega⟩
    by_cases h0 : b = 0
    · subst h0
      rw [stop, Nat.gcd_zero_right]
      exact ⟨_, rfl⟩
    · rw [step _ _ _ _ _ _ h0]
      obtain ⟨m, rfl⟩ : ∃ m', m = m' + 1 := ⟨m - 1, by omega⟩
      by_cases h1 : a % b = 0
      · rw [h1, stop]
        have : Nat.gcd a b = b := by rw [Nat.gcd_comm, Nat.gcd_rec, h1, Nat.gcd_zero_left]
        rw [this]
        exact ⟨_, rfl⟩
      · rw [step _ _ _ _ _ _ h1]
        have hlt : a % b < b := Nat.mod_lt _ (by omega)
        have hr : b % (a % b) < 2 ^ n := by
          have h2 : b % (a % b) < a % b := Nat.mod_lt _ (by omega)
          have h3 : b % (a % b) + (a % b) ≤ b := by
            have := Nat.div_add_mod b (a % b)
            have hq : 1 ≤ b / (a % b) := Nat.div_pos (by omega) (by omega)
            have : a % b ≤ (a % b) * (b / (a % b)) := Nat.le_mul_of_pos_right _ hq
            omega
          rw [Nat.pow_succ] at hb
          omega
        obtain ⟨u, hu⟩ := ih (a % b) (b % (a % b)) m s t cf hr (by omega)
        rw [hu]
        have : Nat.gcd (a % b) (b % (a % b)) = Nat.gcd a b := by
          rw [Nat.gcd_comm (a % b), ← Nat.gcd_rec, ← Nat.gcd_rec, Nat.gcd_comm]
        rw [this]
        exact ⟨u, rfl⟩
end
end K74

set_option Elab.async false
set_option linter.all false
set_option maxRecDepth 100000
namespace K74
open PySem PySem.Spec L2 PD
theorem abs_ {i : Int} : biD .abs [.int i] = some (.int (i.natAbs : Int)) := by
  show some (D.int (if i < 0 then -i else i)) = _
  congr 2
  split <;> omega
def sq1 : IS → IS
  | .seq a _ => a
  | s => s
def sq2 : IS → IS
  | .seq _ b => b
  | s => s
theorem seq_nx {cf : CallF} {g : Str → Option D} {s : IS} {e e' : PD.Env} (hs : s = .seq (sq1 s) (sq2 s)) (h : evS cf g (sq1 s) e = .ok .nx e') : evS cf g s e = evS cf g (sq2 s) e' := by
  rw [hs]
  simp only [evS]
  rw [h]
  rfl
section
variable {k n : Nat} {t u : Int}
theorem s_law_lowest (ht : Sm 900 t) (hu : Sm 900 u) (h0 : u ≠ 0) : callN tab gl (k + 1) i_law_lowest [.int t, .int u] = .ok (p2 (low t u).1 (low t u).2) none := by
  have hg := gcd_pos (t := t) h0
  have hl := gcd_log (t := t) h0 hu
  have s1 : Sm 2 (1 : Int) := by unfold Sm; decide
  have s2 : Sm 2 (-1 : Int) := by unfold Sm; decide
  obtain ⟨z, hz⟩ := euclid 900 t.natAbs u.natAbs wMax t u (callN tab gl k) hu (by unfold wMax; decide)
  have e1 : evS (callN tab gl k) gl (sq1 b_law_lowest) [some (.int t), some (.int u), none, none, none] = .ok .nx [some (.int t), some (.int u), some (.int (t.natAbs : Int)), some (.int (u.natAbs : Int)), none] := by
    simp only [b_law_lowest, sq1, evS, ev, evs, evT, asg, asgs, List.map_cons, List.map_nil, List.replicate, Nat.sub_self, Nat.reduceSub, List.append_nil, List.cons_append, List.nil_append, readAt, freeAt, List.getElem?_cons_zero, List.getElem?_cons_succ, List.set_cons_zero, List.set_cons_succ, Bool.false_eq_true, Bool.not_false, Bool.not_true, if_false, if_true, b_ok, o_some, f_int, f_tup, f_lst, f_bl, f_non, f_own, fs_nil, fs_cons, pn_int, pn_tup, pn_lst, pn_bl, pn_non, pn_own, tr_bl, t0, t1, t2, add_, sub_, lt_, le_, gt_, ge_, Option.map_some, List.length_cons, List.length_nil, ln0, ln1, ln2, ln3, itemsOf, eq_int, ne_int, retC, outR, Bool.and_self, abs_]
  have e2 : evS (callN tab gl k) gl (sq1 (sq2 b_law_lowest)) [some (.int t), some (.int u), some (.int (t.natAbs : Int)), some (.int (u.natAbs : Int)), none] = .ok .nx [some (.int t), some (.int u), some (.int (Nat.gcd t.natAbs u.natAbs : Nat)), some (.int z), none] := hz
  rw [call_eq (fn := ⟨5, 2, false, b_law_lowest⟩) rfl rfl]
  show outR false (evS (callN tab gl k) gl b_law_lowest [some (.int t), some (.int u), none, none, none]) = _
  rw [seq_nx rfl e1, seq_nx rfl e2]
  by_cases h : u < 0
  · have h2 : ¬ 0 < u := by omega
    simp only [b_law_lowest, sq2, evS, ev, evs, evT, asg, asgs, List.map_cons, List.map_nil, List.replicate, Nat.sub_self, Nat.reduceSub, List.append_nil, List.cons_append, List.nil_append, readAt, freeAt, List.getElem?_cons_zero, List.getElem?_cons_succ, List.set_cons_zero, List.set_cons_succ, Bool.false_eq_true, Bool.not_false, Bool.not_true, if_false, if_true, b_ok, o_some, f_int, f_tup, f_lst, f_bl, f_non, f_own, fs_nil, fs_cons, pn_int, pn_tup, pn_lst, pn_bl, pn_non, pn_own, tr_bl, t0, t1, t2, add_, sub_, lt_, le_, gt_, ge_, Option.map_some, List.length_cons, List.length_nil, ln0, ln1, ln2, ln3, itemsOf, eq_int, ne_int, retC, outR, decide_eq_false h2, mul_ s2 ht (by decide), mul_ s2 hu (by decide), div_ hg (by omega), low, if_pos h]
  · have h2 : 0 < u := by omega
    simp only [b_law_lowest, sq2, evS, ev, evs, evT, asg, asgs, List.map_cons, List.map_nil, List.replicate, Nat.sub_self, Nat.reduceSub, List.append_nil, List.cons_append, List.nil_append, readAt, freeAt, List.getElem?_cons_zero, List.getElem?_cons_succ, List.set_cons_zero, List.set_cons_succ, Bool.false_eq_true, Bool.not_false, Bool.not_true, if_false, if_true, b_ok, o_some, f_int, f_tup, f_lst, f_bl, f_non, f_own, fs_nil, fs_cons, pn_int, pn_tup, pn_lst, pn_bl, pn_non, pn_own, tr_bl, t0, t1, t2, add_, sub_, lt_, le_, gt_, ge_, Option.map_some, List.length_cons, List.length_nil, ln0, ln1, ln2, ln3, itemsOf, eq_int, ne_int, retC, outR, decide_eq_true h2, mul_ s1 ht (by decide), mul_ s1 hu (by decide), div_ hg (by omega), low, if_neg h]
theorem s_law_crossing {g h : H3} (hg : Sm3 300 g) (hh : Sm3 300 h) : callN tab gl (k + 2) i_law_crossing [enc3 g, enc3 h] = .ok (encO (crs g h)) none := by
  obtain ⟨g1, g2, g3⟩ := hg
  obtain ⟨h1, h2, h3⟩ := hh
  have hu : Sm 900 (g.1 * h.2.1 - g.2.1 * h.1) := ((g1.mul h2).sub (g2.mul h1)).mono (by decide)
  have hx : Sm 900 (g.2.2 * h.2.1 - g.2.1 * h.2.2) := ((g3.mul h2).sub (g2.mul h3)).mono (by decide)
  have hy : Sm 900 (g.1 * h.2.2 - g.2.2 * h.1) := ((g1.mul h3).sub (g3.mul h1)).mono (by decide)
  have x1 : g.2.2 * h.2.1 - h.2.2 * g.2.1 = g.2.2 * h.2.1 - g.2.1 * h.2.2 := by rw [Int.mul_comm h.2.2]
  have x2 : g.1 * h.2.2 - h.1 * g.2.2 = g.1 * h.2.2 - g.2.2 * h.1 := by rw [Int.mul_comm h.1]
  rw [call_eq (fn := ⟨5, 2, false, b_law_crossing⟩) rfl rfl]
  by_cases h0 : g.1 * h.2.1 - g.2.1 * h.1 = 0
  · simp only [enc3, encO, crs, b_law_crossing, evS, ev, evs, evT, asg, asgs, List.map_cons, List.map_nil, List.replicate, Nat.sub_self, Nat.reduceSub, List.append_nil, List.cons_append, List.nil_append, readAt, freeAt, List.getElem?_cons_zero, List.getElem?_cons_succ, List.set_cons_zero, List.set_cons_succ, Bool.false_eq_true, Bool.not_false, Bool.not_true, if_false, if_true, b_ok, o_some, f_int, f_tup, f_lst, f_bl, f_non, f_own, fs_nil, fs_cons, pn_int, pn_tup, pn_lst, pn_bl, pn_non, pn_own, tr_bl, t0, t1, t2, add_, sub_, lt_, le_, gt_, ge_, Option.map_some, List.length_cons, List.length_nil, ln0, ln1, ln2, ln3, itemsOf, eq_int, ne_int, retC, outR, mul_ g1 h2 (by decide), mul_ g2 h1 (by decide), decide_eq_true h0, if_pos h0]
  · have e1 := s_law_lowest (k := k) hx hu h0
    have e2 := s_law_lowest (k := k) hy hu h0
    simp only [enc3, encO, encP, crs, b_law_crossing, evS, ev, evs, evT, asg, asgs, List.map_cons, List.map_nil, List.replicate, Nat.sub_self, Nat.reduceSub, List.append_nil, List.cons_append, List.nil_append, readAt, freeAt, List.getElem?_cons_zero, List.getElem?_cons_succ, List.set_cons_zero, List.set_cons_succ, Bool.false_eq_true, Bool.not_false, Bool.not_true, if_false, if_true, b_ok, o_some, f_int, f_tup, f_lst, f_bl, f_non, f_own, fs_nil, fs_cons, pn_int, pn_tup, pn_lst, pn_bl, pn_non, pn_own, tr_bl, t0, t1, t2, add_, sub_, lt_, le_, gt_, ge_, Option.map_some, List.length_cons, List.length_nil, ln0, ln1, ln2, ln3, itemsOf, eq_int, ne_int, retC, outR, Bool.and_self, mul_ g1 h2 (by decide), mul_ g2 h1 (by decide), mul_ g3 h2 (by decide), mul_ h3 g2 (by decide), mul_ g1 h3 (by decide), mul_ h1 g3 (by decide), x1, x2, decide_eq_false h0, if_neg h0, e1, e2]
end
end K74

set_option Elab.async false
set_option linter.all false
set_option maxRecDepth 100000
namespace K74
open PySem PySem.Spec L2 PD
/-- ahead, by the program -/
def bef (g h : Pl) : Bool := if g.x * h.u = h.x * g.u then (if g.y * h.v = h.y * g.v then false else decide (g.y * h.v < h.y * g.v)) else decide (g.x * h.u < h.x * g.u)
/-- .. by the law -/
def ahe (g h : Pl) : Bool := if g.x = h.x ∧ g.u = h.u then decide (g.y * h.v < h.y * g.v) else decide (g.x * h.u < h.x * g.u)
theorem ne_p2 {a b c d : Int} : cmpD .NotEq (p2 a b) (p2 c d) = some (!decide (a = c ∧ b = d)) := by
  simp only [cmpD]
  rw [if_pos ⟨by rfl, by rfl⟩]
  simp only [D.py, D.pys, PyData.eqv, PyData.eqvAll, Bool.and_true]
  congr 2
  rw [Bool.eq_iff_iff]
  simp
section
variable {k n : Nat}
theorem s_is_before {g h : Pl} (hg : SmP 300 g) (hh : SmP 300 h) : callN tab gl (k + 1) i_is_before [encP g, encP h] = .ok (.bl (bef g h)) none := by
  obtain ⟨g1, g2, g3, g4⟩ := hg
  obtain ⟨h1, h2, h3, h4⟩ := hh
  rw [call_eq (fn := ⟨6, 2, false, b_is_before⟩) rfl rfl]
  by_cases q : g.x * h.u = h.x * g.u
  · by_cases q2 : g.y * h.v = h.y * g.v
    · simp only [encP, bef, b_is_before, evS, ev, evs, evT, asg, asgs, List.map_cons, List.map_nil, List.replicate, Nat.sub_self, Nat.reduceSub, List.append_nil, List.cons_append, List.nil_append, readAt, freeAt, List.getElem?_cons_zero, List.getElem?_cons_succ, List.set_cons_zero, List.set_cons_succ, Bool.false_eq_true, Bool.not_false, Bool.not_true, if_false, if_true, b_ok, o_some, f_int, f_tup, f_lst, f_bl, f_non, f_own, fs_nil, fs_cons, pn_int, pn_tup, pn_lst, pn_bl, pn_non, pn_own, tr_bl, t0, t1, t2, add_, sub_, lt_, le_, gt_, ge_, Option.map_some, List.length_cons, List.length_nil, ln0, ln1, ln2, ln3, itemsOf, eq_int, ne_int, retC, outR, evI, zipD, forL, mul_ g1 h2 (by decide), mul_ h1 g2 (by decide), mul_ g3 h4 (by decide), mul_ h3 g4 (by decide), decide_eq_true q, decide_eq_true q2, if_pos q, if_pos q2]
    · simp only [encP, bef, b_is_before, evS, ev, evs, evT, asg, asgs, List.map_cons, List.map_nil, List.replicate, Nat.sub_self, Nat.reduceSub, List.append_nil, List.cons_append, List.nil_append, readAt, freeAt, List.getElem?_cons_zero, List.getElem?_cons_succ, List.set_cons_zero, List.set_cons_succ, Bool.false_eq_true, Bool.not_false, Bool.not_true, if_false, if_true, b_ok, o_some, f_int, f_tup, f_lst, f_bl, f_non, f_own, fs_nil, fs_cons, pn_int, pn_tup, pn_lst, pn_bl, pn_non, pn_own, tr_bl, t0, t1, t2, add_, sub_, lt_, le_, gt_, ge_, Option.map_some, List.length_cons, List.length_nil, ln0, ln1, ln2, ln3, itemsOf, eq_int, ne_int, retC, outR, evI, zipD, forL, mul_ g1 h2 (by decide), mul_ h1 g2 (by decide), mul_ g3 h4 (by decide), mul_ h3 g4 (by decide), decide_eq_true q, decide_eq_false q2, if_pos q, if_neg q2]
  · simp only [encP, bef, b_is_before, evS, ev, evs, evT, asg, asgs, List.map_cons, List.map_nil, List.replicate, Nat.sub_self, Nat.reduceSub, List.append_nil, List.cons_append, List.nil_append, readAt, freeAt, List.getElem?_cons_zero, List.getElem?_cons_succ, List.set_cons_zero, List.set_cons_succ, Bool.false_eq_true, Bool.not_false, Bool.not_true, if_false, if_true, b_ok, o_some, f_int, f_tup, f_lst, f_bl, f_non, f_own, fs_nil, fs_cons, pn_int, pn_tup, pn_lst, pn_bl, pn_non, pn_own, tr_bl, t0, t1, t2, add_, sub_, lt_, le_, gt_, ge_, Option.map_some, List.length_cons, List.length_nil, ln0, ln1, ln2, ln3, itemsOf, eq_int, ne_int, retC, outR, evI, zipD, forL, mul_ g1 h2 (by decide), mul_ h1 g2 (by decide), mul_ g3 h4 (by decide), mul_ h3 g4 (by decide), decide_eq_false q, if_neg q]
theorem s_law_is_ahead {g h : Pl} (hg : SmP 300 g) (hh : SmP 300 h) : callN tab gl (k + 1) i_law_is_ahead [encP g, encP h] = .ok (.bl (ahe g h)) none := by
  obtain ⟨g1, g2, g3, g4⟩ := hg
  obtain ⟨h1, h2, h3, h4⟩ := hh
  rw [call_eq (fn := ⟨2, 2, false, b_law_is_ahead⟩) rfl rfl]
  by_cases q : g.x = h.x ∧ g.u = h.u
  · simp only [encP, ahe, b_law_is_ahead, evS, ev, evs, evT, asg, asgs, List.map_cons, List.map_nil, List.replicate, Nat.sub_self, Nat.reduceSub, List.append_nil, List.cons_append, List.nil_append, readAt, freeAt, List.getElem?_cons_zero, List.getElem?_cons_succ, List.set_cons_zero, List.set_cons_succ, Bool.false_eq_true, Bool.not_false, Bool.not_true, if_false, if_true, b_ok, o_some, f_int, f_tup, f_lst, f_bl, f_non, f_own, fs_nil, fs_cons, pn_int, pn_tup, pn_lst, pn_bl, pn_non, pn_own, tr_bl, t0, t1, t2, add_, sub_, lt_, le_, gt_, ge_, Option.map_some, List.length_cons, List.length_nil, ln0, ln1, ln2, ln3, itemsOf, eq_int, ne_int, retC, outR, ne_p2, mul_ g1 h2 (by decide), mul_ h1 g2 (by decide), mul_ g3 h4 (by decide), mul_ h3 g4 (by decide), decide_eq_true q, if_pos q]
  · simp only [encP, ahe, b_law_is_ahead, evS, ev, evs, evT, asg, asgs, List.map_cons, List.map_nil, List.replicate, Nat.sub_self, Nat.reduceSub, List.append_nil, List.cons_append, List.nil_append, readAt, freeAt, List.getElem?_cons_zero, List.getElem?_cons_succ, List.set_cons_zero, List.set_cons_succ, Bool.false_eq_true, Bool.not_false, Bool.not_true, if_false, if_true, b_ok, o_some, f_int, f_tup, f_lst, f_bl, f_non, f_own, fs_nil, fs_cons, pn_int, pn_tup, pn_lst, pn_bl, pn_non, pn_own, tr_bl, t0, t1, t2, add_, sub_, lt_, le_, gt_, ge_, Option.map_some, List.length_cons, List.length_nil, ln0, ln1, ln2, ln3, itemsOf, eq_int, ne_int, retC, outR, ne_p2, mul_ g1 h2 (by decide), mul_ h1 g2 (by decide), mul_ g3 h4 (by decide), mul_ h3 g4 (by decide), decide_eq_false q, if_neg q]
end
end K74

set_option Elab.async false
set_option linter.all false
set_option maxRecDepth 100000
namespace K74
open PySem PySem.Spec L2 PD
theorem bools_map {α : Type} {f : α → Bool} : ∀ l : List α, boolsOf (l.map fun x => D.bl (f x)) = some (l.map f)
  | [] => rfl
  | x :: l => by
    simp only [List.map_cons, boolsOf, bools_map l, Option.map_some]
theorem all_ {α : Type} {f : α → Bool} (l : List α) : biD .all [.lst (l.map fun x => D.bl (f x))] = some (.bl (l.all f)) := by
  show (boolsOf _).map _ = _
  rw [bools_map, Option.map_some, List.all_map]
  rfl
theorem fs_bl {α : Type} {f : α → Bool} : ∀ l : List α, D.frzs (l.map fun x => D.bl (f x)) = l.map fun x => D.bl (f x)
  | [] => rfl
  | x :: l => by
    show D.frz _ :: D.frzs (l.map _) = _
    rw [fs_bl l]
    rfl
theorem hv_len (w : Wd) : (hv w).length ≤ 3 := by
  unfold hv
  split <;> simp
theorem hv_sm {w : Wd} (hw : SmW 60 w) : ∀ h ∈ hv w, Sm3 130 h := by
  obtain ⟨h1, h2, h3, h4, h5, h6⟩ := hw
  have m1 : ∀ {i : Int}, Sm 60 i → Sm 130 i := fun h => h.mono (by decide)
  have m2 : ∀ {i : Int}, Sm 121 i → Sm 130 i := fun h => h.mono (by decide)
  have k1 : Sm3 130 (w.b, -w.a, w.b * w.p - w.a * w.q) := ⟨m1 h4, m1 h3.neg, m2 ((h4.mul h1).sub (h3.mul h2))⟩
  have k2 : Sm3 130 (-w.d, w.c, w.c * w.q - w.d * w.p) := ⟨m1 h6.neg, m1 h5, m2 ((h5.mul h2).sub (h6.mul h1))⟩
  have k3 : Sm3 130 (-w.a, -w.b, -w.a * w.p - w.b * w.q) := ⟨m1 h3.neg, m1 h4.neg, m2 ((h3.neg.mul h1).sub (h4.mul h2))⟩
  intro h hh
  unfold hv at hh
  split at hh
  · rcases List.mem_cons.mp hh with rfl | hh
    · exact k1
    · rw [List.mem_singleton.mp hh]; exact k2
  · rcases List.mem_cons.mp hh with rfl | hh
    · exact k1
    · rcases List.mem_cons.mp hh with rfl | hh
      · exact k2
      · rw [List.mem_singleton.mp hh]; exact k3
section
variable {k n : Nat}
theorem s_is_held {w : Wd} {z : Pl} (hw : SmW 60 w) (hz : SmP 300 z) : callN tab gl (k + 3) i_is_held [encW w, encP z] = .ok (.bl ((hv w).all fun h => bel h z)) none := by
  have hh := s_halves_in (k := k) (w := w) ⟨hw.p.mono (by decide), hw.q.mono (by decide), hw.a.mono (by decide), hw.b.mono (by decide), hw.c.mono (by decide), hw.d.mono (by decide)⟩
  have key : ev (callN tab gl (k + 2)) gl (.comp (.callF 10 (.cons (.lc 2) (.cons (.lc 1) (.nil)))) (.nm 2) (.sE (.callF 9 (.cons (.lc 0) (.nil)))) (.yes) [2]) [some (encW w), some (encP z), none] = .ok (.own false ((hv w).map fun h => D.bl (bel h z))) [some (encW w), some (encP z), none] := by
    have hs : evI (callN tab gl (k + 2)) gl (.sE (.callF 9 (.cons (.lc 0) (.nil)))) [some (encW w), some (encP z), none] = .ok ((hv w).map enc3) [some (encW w), some (encP z), none] := by
      simp only [x_lc, x_gl, x_cst, x_bin, x_neg, x_cmp, x_chn, x_cmpR, x_and, x_or, x_not, x_ite, x_tup, x_lst, x_sub, x_subB, x_slc, x_no, x_yes, x_rev, x_callF, x_callIO, x_callB, x_callBB, x_isi, x_nil, x_cons, x_star, x_sE, x_sEn, x_sZp, x_sR1, y_skip, y_seq, y_asgN, y_asgT, y_par, y_par3, y_ife, y_ret, y_retS, y_exp, y_app, y_set, y_for, evT, asg, asgs, List.map_cons, List.map_nil, List.replicate, Nat.sub_self, Nat.reduceSub, List.append_nil, List.cons_append, List.nil_append, readAt, freeAt, List.getElem?_cons_zero, List.getElem?_cons_succ, List.set_cons_zero, List.set_cons_succ, Bool.false_eq_true, Bool.not_false, Bool.not_true, if_false, if_true, b_ok, o_some, f_int, f_tup, f_lst, f_bl, f_non, f_own, fs_nil, fs_cons, pn_int, pn_tup, pn_lst, pn_bl, pn_non, pn_own, tr_bl, t0, t1, t2, add_, sub_, lt_, le_, gt_, ge_, Option.map_some, List.length_cons, List.length_nil, ln0, ln1, ln2, ln3, itemsOf, eq_int, ne_int, retC, outR, encW, encP] at hh ⊢
      simp only [hh, x_lc, x_gl, x_cst, x_bin, x_neg, x_cmp, x_chn, x_cmpR, x_and, x_or, x_not, x_ite, x_tup, x_lst, x_sub, x_subB, x_slc, x_no, x_yes, x_rev, x_callF, x_callIO, x_callB, x_callBB, x_isi, x_nil, x_cons, x_star, x_sE, x_sEn, x_sZp, x_sR1, y_skip, y_seq, y_asgN, y_asgT, y_par, y_par3, y_ife, y_ret, y_retS, y_exp, y_app, y_set, y_for, evT, asg, asgs, List.map_cons, List.map_nil, List.replicate, Nat.sub_self, Nat.reduceSub, List.append_nil, List.cons_append, List.nil_append, readAt, freeAt, List.getElem?_cons_zero, List.getElem?_cons_succ, List.set_cons_zero, List.set_cons_succ, Bool.false_eq_true, Bool.not_false, Bool.not_true, if_false, if_true, b_ok, o_some, f_int, f_tup, f_lst, f_bl, f_non, f_own, fs_nil, fs_cons, pn_int, pn_tup, pn_lst, pn_bl, pn_non, pn_own, tr_bl, t0, t1, t2, add_, sub_, lt_, le_, gt_, ge_, Option.map_some, List.length_cons, List.length_nil, ln0, ln1, ln2, ln3, itemsOf, eq_int, ne_int, retC, outR]
    have hl : (hv w).length ≤ line := Nat.le_trans (hv_len w) (by decide)
    refine ev_map (f := fun h => D.bl (bel h z)) hs rfl (fun h hh2 => ?_) hl
    have hb := s_is_below (k := k + 1) (h := h) (z := z) (let q := hv_sm hw h hh2; ⟨q.a.mono (by decide), q.b.mono (by decide), q.c.mono (by decide)⟩) hz
    refine ⟨[some (encW w), some (encP z), some (enc3 h)], ?_, rfl, rfl⟩
    simp only [enc3, encP, encW] at hb ⊢
    simp only [compF, wipeE, hb, x_lc, x_gl, x_cst, x_bin, x_neg, x_cmp, x_chn, x_cmpR, x_and, x_or, x_not, x_ite, x_tup, x_lst, x_sub, x_subB, x_slc, x_no, x_yes, x_rev, x_callF, x_callIO, x_callB, x_callBB, x_isi, x_nil, x_cons, x_star, x_sE, x_sEn, x_sZp, x_sR1, y_skip, y_seq, y_asgN, y_asgT, y_par, y_par3, y_ife, y_ret, y_retS, y_exp, y_app, y_set, y_for, evT, asg, asgs, List.map_cons, List.map_nil, List.replicate, Nat.sub_self, Nat.reduceSub, List.append_nil, List.cons_append, List.nil_append, readAt, freeAt, List.getElem?_cons_zero, List.getElem?_cons_succ, List.set_cons_zero, List.set_cons_succ, Bool.false_eq_true, Bool.not_false, Bool.not_true, if_false, if_true, b_ok, o_some, f_int, f_tup, f_lst, f_bl, f_non, f_own, fs_nil, fs_cons, pn_int, pn_tup, pn_lst, pn_bl, pn_non, pn_own, tr_bl, t0, t1, t2, add_, sub_, lt_, le_, gt_, ge_, Option.map_some, List.length_cons, List.length_nil, ln0, ln1, ln2, ln3, itemsOf, eq_int, ne_int, retC, outR, R.noex]
  rw [call_eq (fn := ⟨3, 2, false, b_is_held⟩) rfl rfl]
  simp only [b_is_held, x_lc, x_gl, x_cst, x_bin, x_neg, x_cmp, x_chn, x_cmpR, x_and, x_or, x_not, x_ite, x_tup, x_lst, x_sub, x_subB, x_slc, x_no, x_yes, x_rev, x_callF, x_callIO, x_callB, x_callBB, x_isi, x_nil, x_cons, x_star, x_sE, x_sEn, x_sZp, x_sR1, y_skip, y_seq, y_asgN, y_asgT, y_par, y_par3, y_ife, y_ret, y_retS, y_exp, y_app, y_set, y_for, evT, asg, asgs, List.map_cons, List.map_nil, List.replicate, Nat.sub_self, Nat.reduceSub, List.append_nil, List.cons_append, List.nil_append, readAt, freeAt, List.getElem?_cons_zero, List.getElem?_cons_succ, List.set_cons_zero, List.set_cons_succ, Bool.false_eq_true, Bool.not_false, Bool.not_true, if_false, if_true, b_ok, o_some, f_int, f_tup, f_lst, f_bl, f_non, f_own, fs_nil, fs_cons, pn_int, pn_tup, pn_lst, pn_bl, pn_non, pn_own, tr_bl, t0, t1, t2, add_, sub_, lt_, le_, gt_, ge_, Option.map_some, List.length_cons, List.length_nil, ln0, ln1, ln2, ln3, itemsOf, eq_int, ne_int, retC, outR, key, fs_bl, all_]
end
end K74

set_option Elab.async false
set_option linter.all false
set_option maxRecDepth 100000
namespace K74
open PySem PySem.Spec L2 PD
theorem gl_great : gl (Str.ofString "GREAT") = some (.int (10 ^ 60)) := by rfl
theorem gl_most : gl (Str.ofString "MOST_WEDGES") = some (.int 12) := by rfl
theorem isi_int {i : Int} : biD .isInt [.int i] = some (.bl true) := rfl
theorem isi_bl {i : Int} : biD .isBool [.int i] = some (.bl false) := rfl
theorem isi_tup {ds : List D} : biD .isTuple [.tup ds] = some (.bl true) := rfl
theorem len_tup {ds : List D} : biD .len [.tup ds] = some (.int ds.length) := rfl
section
variable {k n : Nat} {a b c d : Int}
theorem s_is_whole (ha : Sm 60 a) : callN tab gl (k + 1) i_is_whole [.int a] = .ok (.bl true) none := by
  have h1 : -(10 ^ 60 : Int) < a := by unfold Sm at ha; omega
  have h2 : a < (10 ^ 60 : Int) := by unfold Sm at ha; omega
  rw [call_eq (fn := ⟨1, 1, false, b_is_whole⟩) rfl rfl]
  simp only [b_is_whole, x_lc, x_gl, x_cst, x_bin, x_neg, x_cmp, x_chn, x_cmpR, x_and, x_or, x_not, x_ite, x_tup, x_lst, x_sub, x_subB, x_slc, x_no, x_yes, x_rev, x_callF, x_callIO, x_callB, x_callBB, x_isi, x_nil, x_cons, x_star, x_sE, x_sEn, x_sZp, x_sR1, y_skip, y_seq, y_asgN, y_asgT, y_par, y_par3, y_ife, y_ret, y_retS, y_exp, y_app, y_set, y_for, evT, asg, asgs, List.map_cons, List.map_nil, List.replicate, Nat.sub_self, Nat.reduceSub, List.append_nil, List.cons_append, List.nil_append, readAt, freeAt, List.getElem?_cons_zero, List.getElem?_cons_succ, List.set_cons_zero, List.set_cons_succ, Bool.false_eq_true, Bool.not_false, Bool.not_true, if_false, if_true, b_ok, o_some, f_int, f_tup, f_lst, f_bl, f_non, f_own, fs_nil, fs_cons, pn_int, pn_tup, pn_lst, pn_bl, pn_non, pn_own, tr_bl, t0, t1, t2, add_, sub_, lt_, le_, gt_, ge_, Option.map_some, List.length_cons, List.length_nil, ln0, ln1, ln2, ln3, itemsOf, eq_int, ne_int, retC, outR, gl_great, isi_int, isi_bl, decide_eq_true h1, decide_eq_true h2]
theorem s_is_point_of (ha : Sm 60 a) (hb : Sm 60 b) : callN tab gl (k + 2) i_is_point_of [p2 a b] = .ok (.bl true) none := by
  have key : ev (callN tab gl (k + 1)) gl (.comp (.callF 0 (.cons (.lc 1) (.nil))) (.nm 1) (.sE (.lc 0)) (.yes) [1]) [some (p2 a b), none] = .ok (.own false ([a, b].map fun _ => D.bl true)) [some (p2 a b), none] := by
    refine ev_map (enc := fun i : Int => D.int i) (l := [a, b]) (f := fun _ => D.bl true) (e1 := [some (p2 a b), none]) rfl rfl (fun i hi => ?_) (by show 2 ≤ line; decide)
    have hs : Sm 60 i := by
      rcases List.mem_cons.mp hi with rfl | hi
      · exact ha
      · rw [List.mem_singleton.mp hi]; exact hb
    have hw := s_is_whole (k := k) hs
    refine ⟨[some (p2 a b), some (.int i)], ?_, rfl, rfl⟩
    simp only [compF, wipeE, hw, x_lc, x_gl, x_cst, x_bin, x_neg, x_cmp, x_chn, x_cmpR, x_and, x_or, x_not, x_ite, x_tup, x_lst, x_sub, x_subB, x_slc, x_no, x_yes, x_rev, x_callF, x_callIO, x_callB, x_callBB, x_isi, x_nil, x_cons, x_star, x_sE, x_sEn, x_sZp, x_sR1, y_skip, y_seq, y_asgN, y_asgT, y_par, y_par3, y_ife, y_ret, y_retS, y_exp, y_app, y_set, y_for, evT, asg, asgs, List.map_cons, List.map_nil, List.replicate, Nat.sub_self, Nat.reduceSub, List.append_nil, List.cons_append, List.nil_append, readAt, freeAt, List.getElem?_cons_zero, List.getElem?_cons_succ, List.set_cons_zero, List.set_cons_succ, Bool.false_eq_true, Bool.not_false, Bool.not_true, if_false, if_true, b_ok, o_some, f_int, f_tup, f_lst, f_bl, f_non, f_own, fs_nil, fs_cons, pn_int, pn_tup, pn_lst, pn_bl, pn_non, pn_own, tr_bl, t0, t1, t2, add_, sub_, lt_, le_, gt_, ge_, Option.map_some, List.length_cons, List.length_nil, ln0, ln1, ln2, ln3, itemsOf, eq_int, ne_int, retC, outR, R.noex]
  rw [call_eq (fn := ⟨2, 1, false, b_is_point_of⟩) rfl rfl]
  simp only [b_is_point_of, x_lc, x_gl, x_cst, x_bin, x_neg, x_cmp, x_chn, x_cmpR, x_and, x_or, x_not, x_ite, x_tup, x_lst, x_sub, x_subB, x_slc, x_no, x_yes, x_rev, x_callF, x_callIO, x_callB, x_callBB, x_isi, x_nil, x_cons, x_star, x_sE, x_sEn, x_sZp, x_sR1, y_skip, y_seq, y_asgN, y_asgT, y_par, y_par3, y_ife, y_ret, y_retS, y_exp, y_app, y_set, y_for, evT, asg, asgs, List.map_cons, List.map_nil, List.replicate, Nat.sub_self, Nat.reduceSub, List.append_nil, List.cons_append, List.nil_append, readAt, freeAt, List.getElem?_cons_zero, List.getElem?_cons_succ, List.set_cons_zero, List.set_cons_succ, Bool.false_eq_true, Bool.not_false, Bool.not_true, if_false, if_true, b_ok, o_some, f_int, f_tup, f_lst, f_bl, f_non, f_own, fs_nil, fs_cons, pn_int, pn_tup, pn_lst, pn_bl, pn_non, pn_own, tr_bl, t0, t1, t2, add_, sub_, lt_, le_, gt_, ge_, Option.map_some, List.length_cons, List.length_nil, ln0, ln1, ln2, ln3, itemsOf, eq_int, ne_int, retC, outR, isi_tup, len_tup, key, fs_bl, all_]
  rfl
theorem s_is_direction_of (ha : Sm 60 a) (hb : Sm 60 b) (h0 : ¬ (a = 0 ∧ b = 0)) : callN tab gl (k + 3) i_is_direction_of [p2 a b] = .ok (.bl true) none := by
  have hp := s_is_point_of (k := k) ha hb
  rw [call_eq (fn := ⟨1, 1, false, b_is_direction_of⟩) rfl rfl]
  simp only [b_is_direction_of, x_lc, x_gl, x_cst, x_bin, x_neg, x_cmp, x_chn, x_cmpR, x_and, x_or, x_not, x_ite, x_tup, x_lst, x_sub, x_subB, x_slc, x_no, x_yes, x_rev, x_callF, x_callIO, x_callB, x_callBB, x_isi, x_nil, x_cons, x_star, x_sE, x_sEn, x_sZp, x_sR1, y_skip, y_seq, y_asgN, y_asgT, y_par, y_par3, y_ife, y_ret, y_retS, y_exp, y_app, y_set, y_for, evT, asg, asgs, List.map_cons, List.map_nil, List.replicate, Nat.sub_self, Nat.reduceSub, List.append_nil, List.cons_append, List.nil_append, readAt, freeAt, List.getElem?_cons_zero, List.getElem?_cons_succ, List.set_cons_zero, List.set_cons_succ, Bool.false_eq_true, Bool.not_false, Bool.not_true, if_false, if_true, b_ok, o_some, f_int, f_tup, f_lst, f_bl, f_non, f_own, fs_nil, fs_cons, pn_int, pn_tup, pn_lst, pn_bl, pn_non, pn_own, tr_bl, t0, t1, t2, add_, sub_, lt_, le_, gt_, ge_, Option.map_some, List.length_cons, List.length_nil, ln0, ln1, ln2, ln3, itemsOf, eq_int, ne_int, retC, outR, hp, ne_p2, decide_eq_false h0]
end
end K74

set_option Elab.async false
set_option linter.all false
set_option maxRecDepth 100000
namespace K74
open PySem PySem.Spec L2 PD
/-- a wedge that may be given -/
structure OkW (w : Wd) : Prop where
  sm : SmW 60 w
  r : ¬ (w.a = 0 ∧ w.b = 0)
  l : ¬ (w.c = 0 ∧ w.d = 0)
  t : 0 < w.a * w.d - w.b * w.c ∨ (w.a * w.d - w.b * w.c = 0 ∧ 0 < w.a * w.c + w.b * w.d)
theorem all2 : biD .all [.lst [.bl true, .bl true]] = some (.bl true) := rfl
section
variable {k n : Nat} {a b c d : Int}
theorem s_is_wedge_of {w : Wd} (hw : OkW w) : callN tab gl (k + 4) i_is_wedge_of [encW w] = .ok (.bl true) none := by
  obtain ⟨⟨h1, h2, h3, h4, h5, h6⟩, hr, hl, ht⟩ := hw
  have m9 : ∀ {i : Int}, Sm 60 i → Sm 900 i := fun h => h.mono (by decide)
  have q1 := s_is_point_of (k := k + 1) h1 h2
  have q2 := s_is_direction_of (k := k) h3 h4 hr
  have q3 := s_is_direction_of (k := k) h5 h6 hl
  have q4 := s_turn_in (k := k + 2) (m9 h3) (m9 h4) (m9 h5) (m9 h6)
  have q5 := s_along_in (k := k + 2) (m9 h3) (m9 h4) (m9 h5) (m9 h6)
  rw [call_eq (fn := ⟨2, 1, false, b_is_wedge_of⟩) rfl rfl]
  have l3 : decide (((0 + 1 + 1 + 1 : Nat) : Int) = 3) = true := by decide
  rcases ht with ht | ⟨ht, ht2⟩
  · simp only [b_is_wedge_of, encW, x_lc, x_gl, x_cst, x_bin, x_neg, x_cmp, x_chn, x_cmpR, x_and, x_or, x_not, x_ite, x_tup, x_lst, x_sub, x_subB, x_slc, x_no, x_yes, x_rev, x_callF, x_callIO, x_callB, x_callBB, x_isi, x_nil, x_cons, x_star, x_sE, x_sEn, x_sZp, x_sR1, y_skip, y_seq, y_asgN, y_asgT, y_par, y_par3, y_ife, y_ret, y_retS, y_exp, y_app, y_set, y_for, evT, asg, asgs, List.map_cons, List.map_nil, List.replicate, Nat.sub_self, Nat.reduceSub, List.append_nil, List.cons_append, List.nil_append, readAt, freeAt, List.getElem?_cons_zero, List.getElem?_cons_succ, List.set_cons_zero, List.set_cons_succ, Bool.false_eq_true, Bool.not_false, Bool.not_true, if_false, if_true, b_ok, o_some, f_int, f_tup, f_lst, f_bl, f_non, f_own, fs_nil, fs_cons, pn_int, pn_tup, pn_lst, pn_bl, pn_non, pn_own, tr_bl, t0, t1, t2, add_, sub_, lt_, le_, gt_, ge_, Option.map_some, List.length_cons, List.length_nil, ln0, ln1, ln2, ln3, itemsOf, eq_int, ne_int, retC, outR, isi_tup, len_tup, l3, q1, q2, q3, q4, decide_eq_true ht]
  · have hn : ¬ 0 < w.a * w.d - w.b * w.c := by omega
    simp only [b_is_wedge_of, encW, x_lc, x_gl, x_cst, x_bin, x_neg, x_cmp, x_chn, x_cmpR, x_and, x_or, x_not, x_ite, x_tup, x_lst, x_sub, x_subB, x_slc, x_no, x_yes, x_rev, x_callF, x_callIO, x_callB, x_callBB, x_isi, x_nil, x_cons, x_star, x_sE, x_sEn, x_sZp, x_sR1, y_skip, y_seq, y_asgN, y_asgT, y_par, y_par3, y_ife, y_ret, y_retS, y_exp, y_app, y_set, y_for, evT, asg, asgs, List.map_cons, List.map_nil, List.replicate, Nat.sub_self, Nat.reduceSub, List.append_nil, List.cons_append, List.nil_append, readAt, freeAt, List.getElem?_cons_zero, List.getElem?_cons_succ, List.set_cons_zero, List.set_cons_succ, Bool.false_eq_true, Bool.not_false, Bool.not_true, if_false, if_true, b_ok, o_some, f_int, f_tup, f_lst, f_bl, f_non, f_own, fs_nil, fs_cons, pn_int, pn_tup, pn_lst, pn_bl, pn_non, pn_own, tr_bl, t0, t1, t2, add_, sub_, lt_, le_, gt_, ge_, Option.map_some, List.length_cons, List.length_nil, ln0, ln1, ln2, ln3, itemsOf, eq_int, ne_int, retC, outR, isi_tup, len_tup, l3, q1, q2, q3, q4, q5, decide_eq_true ht, decide_eq_true ht2, decide_eq_false hn]
/-- a fraction in lowest terms -/
def Fr2 (t u : Int) : Prop := 0 < u ∧ Nat.gcd t.natAbs u.natAbs = 1
theorem s_is_integer_of : callN tab gl (k + 1) i_is_integer_of [.int a] = .ok (.bl true) none := by
  rw [call_eq (fn := ⟨1, 1, false, b_is_integer_of⟩) rfl rfl]
  simp only [b_is_integer_of, x_lc, x_gl, x_cst, x_bin, x_neg, x_cmp, x_chn, x_cmpR, x_and, x_or, x_not, x_ite, x_tup, x_lst, x_sub, x_subB, x_slc, x_no, x_yes, x_rev, x_callF, x_callIO, x_callB, x_callBB, x_isi, x_nil, x_cons, x_star, x_sE, x_sEn, x_sZp, x_sR1, y_skip, y_seq, y_asgN, y_asgT, y_par, y_par3, y_ife, y_ret, y_retS, y_exp, y_app, y_set, y_for, evT, asg, asgs, List.map_cons, List.map_nil, List.replicate, Nat.sub_self, Nat.reduceSub, List.append_nil, List.cons_append, List.nil_append, readAt, freeAt, List.getElem?_cons_zero, List.getElem?_cons_succ, List.set_cons_zero, List.set_cons_succ, Bool.false_eq_true, Bool.not_false, Bool.not_true, if_false, if_true, b_ok, o_some, f_int, f_tup, f_lst, f_bl, f_non, f_own, fs_nil, fs_cons, pn_int, pn_tup, pn_lst, pn_bl, pn_non, pn_own, tr_bl, t0, t1, t2, add_, sub_, lt_, le_, gt_, ge_, Option.map_some, List.length_cons, List.length_nil, ln0, ln1, ln2, ln3, itemsOf, eq_int, ne_int, retC, outR, isi_int, isi_bl]
theorem s_is_fraction_of (h : Fr2 a b) : callN tab gl (k + 2) i_is_fraction_of [p2 a b] = .ok (.bl true) none := by
  have key : ev (callN tab gl (k + 1)) gl (.comp (.callF 6 (.cons (.lc 1) (.nil))) (.nm 1) (.sE (.lc 0)) (.yes) [1]) [some (p2 a b), none] = .ok (.own false ([a, b].map fun _ => D.bl true)) [some (p2 a b), none] := by
    refine ev_map (enc := fun i : Int => D.int i) (l := [a, b]) (f := fun _ => D.bl true) (e1 := [some (p2 a b), none]) rfl rfl (fun i hi => ?_) (by show 2 ≤ line; decide)
    have hw := s_is_integer_of (k := k) (a := i)
    refine ⟨[some (p2 a b), some (.int i)], ?_, rfl, rfl⟩
    simp only [compF, wipeE, hw, x_lc, x_gl, x_cst, x_bin, x_neg, x_cmp, x_chn, x_cmpR, x_and, x_or, x_not, x_ite, x_tup, x_lst, x_sub, x_subB, x_slc, x_no, x_yes, x_rev, x_callF, x_callIO, x_callB, x_callBB, x_isi, x_nil, x_cons, x_star, x_sE, x_sEn, x_sZp, x_sR1, y_skip, y_seq, y_asgN, y_asgT, y_par, y_par3, y_ife, y_ret, y_retS, y_exp, y_app, y_set, y_for, evT, asg, asgs, List.map_cons, List.map_nil, List.replicate, Nat.sub_self, Nat.reduceSub, List.append_nil, List.cons_append, List.nil_append, readAt, freeAt, List.getElem?_cons_zero, List.getElem?_cons_succ, List.set_cons_zero, List.set_cons_succ, Bool.false_eq_true, Bool.not_false, Bool.not_true, if_false, if_true, b_ok, o_some, f_int, f_tup, f_lst, f_bl, f_non, f_own, fs_nil, fs_cons, pn_int, pn_tup, pn_lst, pn_bl, pn_non, pn_own, tr_bl, t0, t1, t2, add_, sub_, lt_, le_, gt_, ge_, Option.map_some, List.length_cons, List.length_nil, ln0, ln1, ln2, ln3, itemsOf, eq_int, ne_int, retC, outR, R.noex]
  have l2 : decide (((0 + 1 + 1 : Nat) : Int) = 2) = true := by decide
  have al : ([a, b].all fun _ => true) = true := rfl
  have g1 : decide (((Nat.gcd a.natAbs b.natAbs : Nat) : Int) = 1) = true := by rw [h.2]; rfl
  rw [call_eq (fn := ⟨2, 1, false, b_is_fraction_of⟩) rfl rfl]
  simp only [b_is_fraction_of, x_lc, x_gl, x_cst, x_bin, x_neg, x_cmp, x_chn, x_cmpR, x_and, x_or, x_not, x_ite, x_tup, x_lst, x_sub, x_subB, x_slc, x_no, x_yes, x_rev, x_callF, x_callIO, x_callB, x_callBB, x_isi, x_nil, x_cons, x_star, x_sE, x_sEn, x_sZp, x_sR1, y_skip, y_seq, y_asgN, y_asgT, y_par, y_par3, y_ife, y_ret, y_retS, y_exp, y_app, y_set, y_for, evT, asg, asgs, List.map_cons, List.map_nil, List.replicate, Nat.sub_self, Nat.reduceSub, List.append_nil, List.cons_append, List.nil_append, readAt, freeAt, List.getElem?_cons_zero, List.getElem?_cons_succ, List.set_cons_zero, List.set_cons_succ, Bool.false_eq_true, Bool.not_false, Bool.not_true, if_false, if_true, b_ok, o_some, f_int, f_tup, f_lst, f_bl, f_non, f_own, fs_nil, fs_cons, pn_int, pn_tup, pn_lst, pn_bl, pn_non, pn_own, tr_bl, t0, t1, t2, add_, sub_, lt_, le_, gt_, ge_, Option.map_some, List.length_cons, List.length_nil, ln0, ln1, ln2, ln3, itemsOf, eq_int, ne_int, retC, outR, isi_tup, len_tup, key, all2, l2, gcd_, g1, decide_eq_true h.1]
theorem s_is_place {z : Pl} (h : Fr2 z.x z.u) (h2 : Fr2 z.y z.v) : callN tab gl (k + 3) i_is_place [encP z] = .ok (.bl true) none := by
  have key : ev (callN tab gl (k + 2)) gl (.comp (.callF 7 (.cons (.lc 1) (.nil))) (.nm 1) (.sE (.lc 0)) (.yes) [1]) [some (encP z), none] = .ok (.own false ([(z.x, z.u), (z.y, z.v)].map fun _ => D.bl true)) [some (encP z), none] := by
    refine ev_map (enc := fun i : Int × Int => p2 i.1 i.2) (l := [(z.x, z.u), (z.y, z.v)]) (f := fun _ => D.bl true) (e1 := [some (encP z), none]) rfl rfl (fun i hi => ?_) (by show 2 ≤ line; decide)
    have hf : Fr2 i.1 i.2 := by
      rcases List.mem_cons.mp hi with rfl | hi
      · exact h
      · rw [List.mem_singleton.mp hi]; exact h2
    have hw := s_is_fraction_of (k := k) hf
    refine ⟨[some (encP z), some (p2 i.1 i.2)], ?_, rfl, rfl⟩
    simp only [encP] at hw ⊢
    simp only [compF, wipeE, hw, x_lc, x_gl, x_cst, x_bin, x_neg, x_cmp, x_chn, x_cmpR, x_and, x_or, x_not, x_ite, x_tup, x_lst, x_sub, x_subB, x_slc, x_no, x_yes, x_rev, x_callF, x_callIO, x_callB, x_callBB, x_isi, x_nil, x_cons, x_star, x_sE, x_sEn, x_sZp, x_sR1, y_skip, y_seq, y_asgN, y_asgT, y_par, y_par3, y_ife, y_ret, y_retS, y_exp, y_app, y_set, y_for, evT, asg, asgs, List.map_cons, List.map_nil, List.replicate, Nat.sub_self, Nat.reduceSub, List.append_nil, List.cons_append, List.nil_append, readAt, freeAt, List.getElem?_cons_zero, List.getElem?_cons_succ, List.set_cons_zero, List.set_cons_succ, Bool.false_eq_true, Bool.not_false, Bool.not_true, if_false, if_true, b_ok, o_some, f_int, f_tup, f_lst, f_bl, f_non, f_own, fs_nil, fs_cons, pn_int, pn_tup, pn_lst, pn_bl, pn_non, pn_own, tr_bl, t0, t1, t2, add_, sub_, lt_, le_, gt_, ge_, Option.map_some, List.length_cons, List.length_nil, ln0, ln1, ln2, ln3, itemsOf, eq_int, ne_int, retC, outR, R.noex]
  have l2 : decide (((0 + 1 + 1 : Nat) : Int) = 2) = true := by decide
  have al : ([(z.x, z.u), (z.y, z.v)].all fun _ => true) = true := rfl
  simp only [encP] at key ⊢
  rw [call_eq (fn := ⟨2, 1, false, b_is_place⟩) rfl rfl]
  simp only [b_is_place, x_lc, x_gl, x_cst, x_bin, x_neg, x_cmp, x_chn, x_cmpR, x_and, x_or, x_not, x_ite, x_tup, x_lst, x_sub, x_subB, x_slc, x_no, x_yes, x_rev, x_callF, x_callIO, x_callB, x_callBB, x_isi, x_nil, x_cons, x_star, x_sE, x_sEn, x_sZp, x_sR1, y_skip, y_seq, y_asgN, y_asgT, y_par, y_par3, y_ife, y_ret, y_retS, y_exp, y_app, y_set, y_for, evT, asg, asgs, List.map_cons, List.map_nil, List.replicate, Nat.sub_self, Nat.reduceSub, List.append_nil, List.cons_append, List.nil_append, readAt, freeAt, List.getElem?_cons_zero, List.getElem?_cons_succ, List.set_cons_zero, List.set_cons_succ, Bool.false_eq_true, Bool.not_false, Bool.not_true, if_false, if_true, b_ok, o_some, f_int, f_tup, f_lst, f_bl, f_non, f_own, fs_nil, fs_cons, pn_int, pn_tup, pn_lst, pn_bl, pn_non, pn_own, tr_bl, t0, t1, t2, add_, sub_, lt_, le_, gt_, ge_, Option.map_some, List.length_cons, List.length_nil, ln0, ln1, ln2, ln3, itemsOf, eq_int, ne_int, retC, outR, isi_tup, len_tup, key, all2, l2]
end
end K74

set_option Elab.async false
set_option linter.all false
set_option maxRecDepth 100000
namespace K74
open PySem PySem.Spec L2 PD
def encWs (W : List Wd) : D := .tup (W.map encW)
/-- some wedges that may be given -/
structure OkWs (W : List Wd) : Prop where
  ok : ∀ w ∈ W, OkW w
  lo : 1 ≤ W.length
  hi : W.length ≤ 12
theorem OkWs.line {W : List Wd} (h : OkWs W) : W.length ≤ line := Nat.le_trans h.hi (by decide)
theorem all_true {α : Type} (l : List α) : (l.all fun _ => true) = true := by simp
theorem and_bl {b c : Bool} : (if b = true then c else b) = (b && c) := by cases b <;> rfl
section
variable {k n : Nat}
theorem s_require_wedges {W : List Wd} (h : OkWs W) : callN tab gl (k + 5) i_require_wedges [encWs W] = .ok .non none := by
  have key : ev (callN tab gl (k + 4)) gl (.comp (.callF 8 (.cons (.lc 1) (.nil))) (.nm 1) (.sE (.lc 0)) (.yes) [1]) [some (encWs W), none] = .ok (.own false (W.map fun _ => D.bl true)) [some (encWs W), none] := by
    refine ev_map (enc := encW) (l := W) (f := fun _ => D.bl true) (e1 := [some (encWs W), none]) rfl rfl (fun w hw => ?_) h.line
    have hq := s_is_wedge_of (k := k) (h.ok w hw)
    refine ⟨[some (encWs W), some (encW w)], ?_, rfl, rfl⟩
    simp only [encWs, encW] at hq ⊢
    simp only [compF, wipeE, hq, x_lc, x_gl, x_cst, x_bin, x_neg, x_cmp, x_chn, x_cmpR, x_and, x_or, x_not, x_ite, x_tup, x_lst, x_sub, x_subB, x_slc, x_no, x_yes, x_rev, x_callF, x_callIO, x_callB, x_callBB, x_isi, x_nil, x_cons, x_star, x_sE, x_sEn, x_sZp, x_sR1, y_skip, y_seq, y_asgN, y_asgT, y_par, y_par3, y_ife, y_ret, y_retS, y_exp, y_app, y_set, y_for, evT, asg, asgs, List.map_cons, List.map_nil, List.replicate, Nat.sub_self, Nat.reduceSub, List.append_nil, List.cons_append, List.nil_append, readAt, freeAt, List.getElem?_cons_zero, List.getElem?_cons_succ, List.set_cons_zero, List.set_cons_succ, Bool.false_eq_true, Bool.not_false, Bool.not_true, if_false, if_true, b_ok, o_some, f_int, f_tup, f_lst, f_bl, f_non, f_own, fs_nil, fs_cons, pn_int, pn_tup, pn_lst, pn_bl, pn_non, pn_own, tr_bl, t0, t1, t2, add_, sub_, lt_, le_, gt_, ge_, Option.map_some, List.length_cons, List.length_nil, ln0, ln1, ln2, ln3, itemsOf, eq_int, ne_int, retC, outR, R.noex]
  have l1 : decide ((1 : Int) ≤ (W.map encW).length) = true := by
    rw [List.length_map]
    have := h.lo
    exact decide_eq_true (by omega)
  have l2 : decide (((W.map encW).length : Int) ≤ 12) = true := by
    rw [List.length_map]
    have := h.hi
    exact decide_eq_true (by omega)
  rw [call_eq (fn := ⟨2, 1, false, b_require_wedges⟩) rfl rfl]
  simp only [encWs] at key ⊢
  simp only [b_require_wedges, x_lc, x_gl, x_cst, x_bin, x_neg, x_cmp, x_chn, x_cmpR, x_and, x_or, x_not, x_ite, x_tup, x_lst, x_sub, x_subB, x_slc, x_no, x_yes, x_rev, x_callF, x_callIO, x_callB, x_callBB, x_isi, x_nil, x_cons, x_star, x_sE, x_sEn, x_sZp, x_sR1, y_skip, y_seq, y_asgN, y_asgT, y_par, y_par3, y_ife, y_ret, y_retS, y_exp, y_app, y_set, y_for, evT, asg, asgs, List.map_cons, List.map_nil, List.replicate, Nat.sub_self, Nat.reduceSub, List.append_nil, List.cons_append, List.nil_append, readAt, freeAt, List.getElem?_cons_zero, List.getElem?_cons_succ, List.set_cons_zero, List.set_cons_succ, Bool.false_eq_true, Bool.not_false, Bool.not_true, if_false, if_true, b_ok, o_some, f_int, f_tup, f_lst, f_bl, f_non, f_own, fs_nil, fs_cons, pn_int, pn_tup, pn_lst, pn_bl, pn_non, pn_own, tr_bl, t0, t1, t2, add_, sub_, lt_, le_, gt_, ge_, Option.map_some, List.length_cons, List.length_nil, ln0, ln1, ln2, ln3, itemsOf, eq_int, ne_int, retC, outR, gl_most, isi_tup, len_tup, l1, l2, key, fs_bl, all_, all_true]
theorem s_is_common {W : List Wd} {z : Pl} (h : OkWs W) (hz : SmP 300 z) (h1 : Fr2 z.x z.u) (h2 : Fr2 z.y z.v) : callN tab gl (k + 6) i_is_common [encWs W, encP z] = .ok (.bl (W.all fun w => (hv w).all fun h => bel h z)) none := by
  have q1 := s_require_wedges (k := k) h
  have q2 := s_is_place (k := k + 2) h1 h2
  have key : ev (callN tab gl (k + 5)) gl (.comp (.callF 11 (.cons (.lc 2) (.cons (.lc 1) (.nil)))) (.nm 2) (.sE (.lc 0)) (.yes) [2]) [some (encWs W), some (encP z), none] = .ok (.own false (W.map fun w => D.bl ((hv w).all fun h => bel h z))) [some (encWs W), some (encP z), none] := by
    refine ev_map (enc := encW) (l := W) (f := fun w => D.bl ((hv w).all fun h => bel h z)) (e1 := [some (encWs W), some (encP z), none]) rfl rfl (fun w hw => ?_) h.line
    have hq := s_is_held (k := k + 2) (h.ok w hw).sm hz
    refine ⟨[some (encWs W), some (encP z), some (encW w)], ?_, rfl, rfl⟩
    simp only [encWs, encW, encP] at hq ⊢
    simp only [compF, wipeE, hq, x_lc, x_gl, x_cst, x_bin, x_neg, x_cmp, x_chn, x_cmpR, x_and, x_or, x_not, x_ite, x_tup, x_lst, x_sub, x_subB, x_slc, x_no, x_yes, x_rev, x_callF, x_callIO, x_callB, x_callBB, x_isi, x_nil, x_cons, x_star, x_sE, x_sEn, x_sZp, x_sR1, y_skip, y_seq, y_asgN, y_asgT, y_par, y_par3, y_ife, y_ret, y_retS, y_exp, y_app, y_set, y_for, evT, asg, asgs, List.map_cons, List.map_nil, List.replicate, Nat.sub_self, Nat.reduceSub, List.append_nil, List.cons_append, List.nil_append, readAt, freeAt, List.getElem?_cons_zero, List.getElem?_cons_succ, List.set_cons_zero, List.set_cons_succ, Bool.false_eq_true, Bool.not_false, Bool.not_true, if_false, if_true, b_ok, o_some, f_int, f_tup, f_lst, f_bl, f_non, f_own, fs_nil, fs_cons, pn_int, pn_tup, pn_lst, pn_bl, pn_non, pn_own, tr_bl, t0, t1, t2, add_, sub_, lt_, le_, gt_, ge_, Option.map_some, List.length_cons, List.length_nil, ln0, ln1, ln2, ln3, itemsOf, eq_int, ne_int, retC, outR, R.noex]
  rw [call_eq (fn := ⟨3, 2, false, b_is_common⟩) rfl rfl]
  simp only [encWs, encP] at key q1 q2 ⊢
  simp only [b_is_common, x_lc, x_gl, x_cst, x_bin, x_neg, x_cmp, x_chn, x_cmpR, x_and, x_or, x_not, x_ite, x_tup, x_lst, x_sub, x_subB, x_slc, x_no, x_yes, x_rev, x_callF, x_callIO, x_callB, x_callBB, x_isi, x_nil, x_cons, x_star, x_sE, x_sEn, x_sZp, x_sR1, y_skip, y_seq, y_asgN, y_asgT, y_par, y_par3, y_ife, y_ret, y_retS, y_exp, y_app, y_set, y_for, evT, asg, asgs, List.map_cons, List.map_nil, List.replicate, Nat.sub_self, Nat.reduceSub, List.append_nil, List.cons_append, List.nil_append, readAt, freeAt, List.getElem?_cons_zero, List.getElem?_cons_succ, List.set_cons_zero, List.set_cons_succ, Bool.false_eq_true, Bool.not_false, Bool.not_true, if_false, if_true, b_ok, o_some, f_int, f_tup, f_lst, f_bl, f_non, f_own, fs_nil, fs_cons, pn_int, pn_tup, pn_lst, pn_bl, pn_non, pn_own, tr_bl, t0, t1, t2, add_, sub_, lt_, le_, gt_, ge_, Option.map_some, List.length_cons, List.length_nil, ln0, ln1, ln2, ln3, itemsOf, eq_int, ne_int, retC, outR, q1, q2, key, fs_bl, all_]
end
end K74

set_option Elab.async false
set_option linter.all false
set_option maxRecDepth 100000
namespace K74
open PySem PySem.Spec L2 PD
abbrev T3 := Nat × Nat × H3
def encT (t : T3) : D := .tup [.int (t.1 : Int), .int (t.2.1 : Int), enc3 t.2.2]
def hN (p : Wd × Nat) : List T3 := (hv p.1).zipIdx.map fun q => (p.2, q.2, q.1)
theorem frzs_encT : ∀ l : List T3, D.frzs (l.map encT) = l.map encT
  | [] => rfl
  | t :: l => by
    show D.frz _ :: D.frzs (l.map encT) = _
    rw [frzs_encT l]
    rfl
section
variable {k n : Nat}
def invH (W : List Wd) (s : List T3) (e : PD.Env) : Prop := e = [some (encWs W), some (.own false (s.map encT)), none, none, none, none] ∨ ∃ (i : Int) (w : Wd), e = [some (encWs W), some (.own false (s.map encT)), some (.int i), some (encW w), none, none]
theorem turn_H {W : List Wd} {p : Wd × Nat} {s : List T3} {a : Option D} {b : Option D} (hp : OkW p.1) :
    ev (callN tab gl (k + 3)) gl (.comp (.tup (.cons (.lc 2) (.cons (.lc 4) (.cons (.lc 5) (.nil))))) (.tup (.cons (.nm 4) (.cons (.nm 5) (.nil)))) (.sEn (.callF 9 (.cons (.lc 3) (.nil)))) (.yes) [4, 5]) [some (encWs W), some (.own false (s.map encT)), some (.int (p.2 : Int)), some (encW p.1), none, none] =
      .ok (.own false ((hN p).map encT)) [some (encWs W), some (.own false (s.map encT)), some (.int (p.2 : Int)), some (encW p.1), none, none] := by
  have hh := s_halves_in (k := k + 1) (w := p.1) ⟨hp.sm.p.mono (by decide), hp.sm.q.mono (by decide), hp.sm.a.mono (by decide), hp.sm.b.mono (by decide), hp.sm.c.mono (by decide), hp.sm.d.mono (by decide)⟩
  have hl : ((hv p.1).zipIdx).length ≤ line := by rw [List.length_zipIdx]; exact Nat.le_trans (hv_len p.1) (by decide)
  have hs : evI (callN tab gl (k + 3)) gl (.sEn (.callF 9 (.cons (.lc 3) (.nil)))) [some (encWs W), some (.own false (s.map encT)), some (.int (p.2 : Int)), some (encW p.1), none, none] = .ok ((hv p.1).zipIdx.map fun q => D.tup [.int (q.2 : Int), enc3 q.1]) [some (encWs W), some (.own false (s.map encT)), some (.int (p.2 : Int)), some (encW p.1), none, none] := by
    have e0 := enumD_map (enc := enc3) (hv p.1) 0
    simp only [encW] at hh ⊢
    simp only [x_lc, x_gl, x_cst, x_bin, x_neg, x_cmp, x_chn, x_cmpR, x_and, x_or, x_not, x_ite, x_tup, x_lst, x_sub, x_subB, x_slc, x_no, x_yes, x_rev, x_callF, x_callIO, x_callB, x_callBB, x_isi, x_nil, x_cons, x_star, x_sE, x_sEn, x_sZp, x_sR1, y_skip, y_seq, y_asgN, y_asgT, y_par, y_par3, y_ife, y_ret, y_retS, y_exp, y_app, y_set, y_for, evT, asg, asgs, List.map_cons, List.map_nil, List.replicate, Nat.sub_self, Nat.reduceSub, List.append_nil, List.cons_append, List.nil_append, readAt, freeAt, List.getElem?_cons_zero, List.getElem?_cons_succ, List.set_cons_zero, List.set_cons_succ, Bool.false_eq_true, Bool.not_false, Bool.not_true, if_false, if_true, b_ok, o_some, f_int, f_tup, f_lst, f_bl, f_non, f_own, fs_nil, fs_cons, pn_int, pn_tup, pn_lst, pn_bl, pn_non, pn_own, tr_bl, t0, t1, t2, add_, sub_, lt_, le_, gt_, ge_, Option.map_some, List.length_cons, List.length_nil, ln0, ln1, ln2, ln3, itemsOf, eq_int, ne_int, retC, outR, hh]
    rw [← e0]
    rfl
  have e1 : (hN p).map encT = ((hv p.1).zipIdx).map fun q => D.tup [.int (p.2 : Int), .int (q.2 : Int), enc3 q.1] := by
    unfold hN
    rw [List.map_map]
    rfl
  rw [e1]
  refine ev_map (f := fun q : H3 × Nat => D.tup [.int (p.2 : Int), .int (q.2 : Int), enc3 q.1]) hs rfl (fun q hq => ?_) hl
  refine ⟨[some (encWs W), some (.own false (s.map encT)), some (.int (p.2 : Int)), some (encW p.1), some (.int (q.2 : Int)), some (enc3 q.1)], ?_, rfl, rfl⟩
  simp only [enc3]
  simp only [compF, wipeE, x_lc, x_gl, x_cst, x_bin, x_neg, x_cmp, x_chn, x_cmpR, x_and, x_or, x_not, x_ite, x_tup, x_lst, x_sub, x_subB, x_slc, x_no, x_yes, x_rev, x_callF, x_callIO, x_callB, x_callBB, x_isi, x_nil, x_cons, x_star, x_sE, x_sEn, x_sZp, x_sR1, y_skip, y_seq, y_asgN, y_asgT, y_par, y_par3, y_ife, y_ret, y_retS, y_exp, y_app, y_set, y_for, evT, asg, asgs, List.map_cons, List.map_nil, List.replicate, Nat.sub_self, Nat.reduceSub, List.append_nil, List.cons_append, List.nil_append, readAt, freeAt, List.getElem?_cons_zero, List.getElem?_cons_succ, List.set_cons_zero, List.set_cons_succ, Bool.false_eq_true, Bool.not_false, Bool.not_true, if_false, if_true, b_ok, o_some, f_int, f_tup, f_lst, f_bl, f_non, f_own, fs_nil, fs_cons, pn_int, pn_tup, pn_lst, pn_bl, pn_non, pn_own, tr_bl, t0, t1, t2, add_, sub_, lt_, le_, gt_, ge_, Option.map_some, List.length_cons, List.length_nil, ln0, ln1, ln2, ln3, itemsOf, eq_int, ne_int, retC, outR, R.noex]
end
end K74

set_option Elab.async false
set_option linter.all false
set_option maxRecDepth 100000
namespace K74
open PySem PySem.Spec L2 PD
section
variable {k n : Nat}
def allN (W : List Wd) : List T3 := W.zipIdx.flatMap hN
theorem pn_W {w : Wd} : pinned (encW w) = false := rfl
theorem hN_len (p : Wd × Nat) : (hN p).length ≤ 3 := by
  unfold hN
  rw [List.length_map, List.length_zipIdx]
  exact hv_len p.1
theorem flat_len : ∀ l : List (Wd × Nat), (l.flatMap hN).length ≤ 3 * l.length
  | [] => Nat.le_refl _
  | p :: l => by
    rw [List.flatMap_cons, List.length_append, List.length_cons]
    have := hN_len p
    have := flat_len l
    omega
theorem ext_ {i : Nat} {a : IE} {cf : CallF} {e e1 : PD.Env} {b p : Bool} {ys xs : List D} (h1 : ownAt i e = true) (h2 : ev cf gl a e = .ok (.own b ys) e1) (h3 : e1[i]? = some (some (.own p xs))) (h4 : xs.length + ys.length ≤ line) : evS cf gl (.ext i a) e = .ok .nx (e1.set i (some (.own p (xs ++ D.frzs ys)))) := by
  simp only [evS]
  rw [if_pos h1, h2]
  show (match D.own b ys, e1[i]? with
    | .own _ ys, some (some (.own p xs)) => if xs.length + ys.length ≤ line then R.ok Fl.nx (e1.set i (some (.own p (xs ++ D.frzs ys)))) else .bad
    | _, _ => .bad) = _
  rw [h3]
  exact if_pos h4
theorem loop_H {W : List Wd} (h : OkWs W) : ∃ e, forL (fun d e => (asg (.tup (.cons (.nm 2) (.cons (.nm 3) (.nil)))) d e).bind fun _ e => evS (callN tab gl (k + 3)) gl (.ext 1 (.comp (.tup (.cons (.lc 2) (.cons (.lc 4) (.cons (.lc 5) (.nil))))) (.tup (.cons (.nm 4) (.cons (.nm 5) (.nil)))) (.sEn (.callF 9 (.cons (.lc 3) (.nil)))) (.yes) [4, 5])) e)
    (W.zipIdx.map fun p => D.tup [.int (p.2 : Int), encW p.1]) [some (encWs W), some (.own false []), none, none, none, none] = .ok .nx e ∧ invH W (allN W) e := by
  refine forL_pre (enc := fun p : Wd × Nat => D.tup [.int (p.2 : Int), encW p.1]) (I := fun pre e => invH W (pre.flatMap hN) e) W.zipIdx [] _ (.inl rfl) (fun pre p post e he hi => ?_)
  have he : W.zipIdx = pre ++ p :: post := he
  have hl : pre.length + 1 ≤ W.length := by
    have := congrArg List.length he
    rw [List.length_zipIdx, List.length_append, List.length_cons] at this
    omega
  have hp : OkW p.1 := h.ok _ (by
    have : p ∈ W.zipIdx := by rw [he]; simp
    exact List.fst_mem_of_mem_zipIdx this)
  have hsz : ((pre.flatMap hN).map encT).length + ((hN p).map encT).length ≤ line := by
    rw [List.length_map, List.length_map]
    have := flat_len pre
    have := hN_len p
    have := h.hi
    have : line = 16777216 := rfl
    omega
  refine ⟨[some (encWs W), some (.own false ((pre.flatMap hN).map encT ++ D.frzs ((hN p).map encT))), some (.int (p.2 : Int)), some (encW p.1), none, none], ?_, .inr ⟨p.2, p.1, ?_⟩⟩
  · have t := ext_ (i := 1) rfl (turn_H (k := k) (W := W) (p := p) (s := pre.flatMap hN) (a := none) (b := none) hp) rfl hsz
    rcases hi with rfl | ⟨i, w, rfl⟩
    · simp only [x_lc, x_gl, x_cst, x_bin, x_neg, x_cmp, x_chn, x_cmpR, x_and, x_or, x_not, x_ite, x_tup, x_lst, x_sub, x_subB, x_slc, x_no, x_yes, x_rev, x_callF, x_callIO, x_callB, x_callBB, x_isi, x_nil, x_cons, x_star, x_sE, x_sEn, x_sZp, x_sR1, y_skip, y_seq, y_asgN, y_asgT, y_par, y_par3, y_ife, y_ret, y_retS, y_exp, y_app, y_set, y_for, evT, asg, asgs, List.map_cons, List.map_nil, List.replicate, Nat.sub_self, Nat.reduceSub, List.append_nil, List.cons_append, List.nil_append, readAt, freeAt, List.getElem?_cons_zero, List.getElem?_cons_succ, List.set_cons_zero, List.set_cons_succ, Bool.false_eq_true, Bool.not_false, Bool.not_true, if_false, if_true, b_ok, o_some, f_int, f_tup, f_lst, f_bl, f_non, f_own, fs_nil, fs_cons, pn_int, pn_tup, pn_lst, pn_bl, pn_non, pn_own, tr_bl, t0, t1, t2, add_, sub_, lt_, le_, gt_, ge_, Option.map_some, List.length_cons, List.length_nil, ln0, ln1, ln2, ln3, itemsOf, eq_int, ne_int, retC, outR, pn_W]
      exact t
    · simp only [x_lc, x_gl, x_cst, x_bin, x_neg, x_cmp, x_chn, x_cmpR, x_and, x_or, x_not, x_ite, x_tup, x_lst, x_sub, x_subB, x_slc, x_no, x_yes, x_rev, x_callF, x_callIO, x_callB, x_callBB, x_isi, x_nil, x_cons, x_star, x_sE, x_sEn, x_sZp, x_sR1, y_skip, y_seq, y_asgN, y_asgT, y_par, y_par3, y_ife, y_ret, y_retS, y_exp, y_app, y_set, y_for, evT, asg, asgs, List.map_cons, List.map_nil, List.replicate, Nat.sub_self, Nat.reduceSub, List.append_nil, List.cons_append, List.nil_append, readAt, freeAt, List.getElem?_cons_zero, List.getElem?_cons_succ, List.set_cons_zero, List.set_cons_succ, Bool.false_eq_true, Bool.not_false, Bool.not_true, if_false, if_true, b_ok, o_some, f_int, f_tup, f_lst, f_bl, f_non, f_own, fs_nil, fs_cons, pn_int, pn_tup, pn_lst, pn_bl, pn_non, pn_own, tr_bl, t0, t1, t2, add_, sub_, lt_, le_, gt_, ge_, Option.map_some, List.length_cons, List.length_nil, ln0, ln1, ln2, ln3, itemsOf, eq_int, ne_int, retC, outR, pn_W]
      exact t
  · rw [frzs_encT, ← List.map_append, List.flatMap_append]
    simp
end
end K74

set_option Elab.async false
set_option linter.all false
set_option maxRecDepth 100000
namespace K74
open PySem PySem.Spec L2 PD
section
variable {k n : Nat}
theorem s_halves_of {W : List Wd} (h : OkWs W) : callN tab gl (k + 4) i_halves_of [encWs W] = .ok (.own false ((allN W).map encT)) none := by
  obtain ⟨e, h1, h2⟩ := loop_H (k := k) h
  have e0 := enumD_map (enc := encW) W 0
  have hs : evI (callN tab gl (k + 3)) gl (.sEn (.lc 0)) [some (encWs W), some (.own false []), none, none, none, none] = .ok (W.zipIdx.map fun p => D.tup [.int (p.2 : Int), encW p.1]) [some (encWs W), some (.own false []), none, none, none, none] := by
    simp only [encWs, x_lc, x_gl, x_cst, x_bin, x_neg, x_cmp, x_chn, x_cmpR, x_and, x_or, x_not, x_ite, x_tup, x_lst, x_sub, x_subB, x_slc, x_no, x_yes, x_rev, x_callF, x_callIO, x_callB, x_callBB, x_isi, x_nil, x_cons, x_star, x_sE, x_sEn, x_sZp, x_sR1, y_skip, y_seq, y_asgN, y_asgT, y_par, y_par3, y_ife, y_ret, y_retS, y_exp, y_app, y_set, y_for, evT, asg, asgs, List.map_cons, List.map_nil, List.replicate, Nat.sub_self, Nat.reduceSub, List.append_nil, List.cons_append, List.nil_append, readAt, freeAt, List.getElem?_cons_zero, List.getElem?_cons_succ, List.set_cons_zero, List.set_cons_succ, Bool.false_eq_true, Bool.not_false, Bool.not_true, if_false, if_true, b_ok, o_some, f_int, f_tup, f_lst, f_bl, f_non, f_own, fs_nil, fs_cons, pn_int, pn_tup, pn_lst, pn_bl, pn_non, pn_own, tr_bl, t0, t1, t2, add_, sub_, lt_, le_, gt_, ge_, Option.map_some, List.length_cons, List.length_nil, ln0, ln1, ln2, ln3, itemsOf, eq_int, ne_int, retC, outR]
    rw [← e0]
    rfl
  have hl := y_for_ok hs h1
  rw [call_eq (fn := ⟨6, 1, false, b_halves_of⟩) rfl rfl]
  have s1 : evS (callN tab gl (k + 3)) gl (sq1 b_halves_of) [some (encWs W), none, none, none, none, none] = .ok .nx [some (encWs W), some (.own false []), none, none, none, none] := by
    simp only [b_halves_of, sq1, x_lc, x_gl, x_cst, x_bin, x_neg, x_cmp, x_chn, x_cmpR, x_and, x_or, x_not, x_ite, x_tup, x_lst, x_sub, x_subB, x_slc, x_no, x_yes, x_rev, x_callF, x_callIO, x_callB, x_callBB, x_isi, x_nil, x_cons, x_star, x_sE, x_sEn, x_sZp, x_sR1, y_skip, y_seq, y_asgN, y_asgT, y_par, y_par3, y_ife, y_ret, y_retS, y_exp, y_app, y_set, y_for, evT, asg, asgs, List.map_cons, List.map_nil, List.replicate, Nat.sub_self, Nat.reduceSub, List.append_nil, List.cons_append, List.nil_append, readAt, freeAt, List.getElem?_cons_zero, List.getElem?_cons_succ, List.set_cons_zero, List.set_cons_succ, Bool.false_eq_true, Bool.not_false, Bool.not_true, if_false, if_true, b_ok, o_some, f_int, f_tup, f_lst, f_bl, f_non, f_own, fs_nil, fs_cons, pn_int, pn_tup, pn_lst, pn_bl, pn_non, pn_own, tr_bl, t0, t1, t2, add_, sub_, lt_, le_, gt_, ge_, Option.map_some, List.length_cons, List.length_nil, ln0, ln1, ln2, ln3, itemsOf, eq_int, ne_int, retC, outR]
  show outR false (evS (callN tab gl (k + 3)) gl b_halves_of [some (encWs W), none, none, none, none, none]) = _
  rw [seq_nx rfl s1, seq_nx (s := sq2 b_halves_of) rfl hl]
  rcases h2 with rfl | ⟨i, w, rfl⟩
  · simp only [b_halves_of, sq2, x_lc, x_gl, x_cst, x_bin, x_neg, x_cmp, x_chn, x_cmpR, x_and, x_or, x_not, x_ite, x_tup, x_lst, x_sub, x_subB, x_slc, x_no, x_yes, x_rev, x_callF, x_callIO, x_callB, x_callBB, x_isi, x_nil, x_cons, x_star, x_sE, x_sEn, x_sZp, x_sR1, y_skip, y_seq, y_asgN, y_asgT, y_par, y_par3, y_ife, y_ret, y_retS, y_exp, y_app, y_set, y_for, evT, asg, asgs, List.map_cons, List.map_nil, List.replicate, Nat.sub_self, Nat.reduceSub, List.append_nil, List.cons_append, List.nil_append, readAt, freeAt, List.getElem?_cons_zero, List.getElem?_cons_succ, List.set_cons_zero, List.set_cons_succ, Bool.false_eq_true, Bool.not_false, Bool.not_true, if_false, if_true, b_ok, o_some, f_int, f_tup, f_lst, f_bl, f_non, f_own, fs_nil, fs_cons, pn_int, pn_tup, pn_lst, pn_bl, pn_non, pn_own, tr_bl, t0, t1, t2, add_, sub_, lt_, le_, gt_, ge_, Option.map_some, List.length_cons, List.length_nil, ln0, ln1, ln2, ln3, itemsOf, eq_int, ne_int, retC, outR]
  · simp only [b_halves_of, sq2, x_lc, x_gl, x_cst, x_bin, x_neg, x_cmp, x_chn, x_cmpR, x_and, x_or, x_not, x_ite, x_tup, x_lst, x_sub, x_subB, x_slc, x_no, x_yes, x_rev, x_callF, x_callIO, x_callB, x_callBB, x_isi, x_nil, x_cons, x_star, x_sE, x_sEn, x_sZp, x_sR1, y_skip, y_seq, y_asgN, y_asgT, y_par, y_par3, y_ife, y_ret, y_retS, y_exp, y_app, y_set, y_for, evT, asg, asgs, List.map_cons, List.map_nil, List.replicate, Nat.sub_self, Nat.reduceSub, List.append_nil, List.cons_append, List.nil_append, readAt, freeAt, List.getElem?_cons_zero, List.getElem?_cons_succ, List.set_cons_zero, List.set_cons_succ, Bool.false_eq_true, Bool.not_false, Bool.not_true, if_false, if_true, b_ok, o_some, f_int, f_tup, f_lst, f_bl, f_non, f_own, fs_nil, fs_cons, pn_int, pn_tup, pn_lst, pn_bl, pn_non, pn_own, tr_bl, t0, t1, t2, add_, sub_, lt_, le_, gt_, ge_, Option.map_some, List.length_cons, List.length_nil, ln0, ln1, ln2, ln3, itemsOf, eq_int, ne_int, retC, outR]
end
end K74

set_option Elab.async false
set_option linter.all false
set_option maxRecDepth 100000
namespace K74
open PySem PySem.Spec L2 PD
section
variable {k n : Nat}
def allH (W : List Wd) : List H3 := (allN W).map fun t => t.2.2
theorem allN_len {W : List Wd} (h : OkWs W) : (allN W).length ≤ 36 := by
  unfold allN
  have := flat_len W.zipIdx
  rw [List.length_zipIdx] at this
  have := h.hi
  omega
theorem crs_1 {W : List Wd} (h : OkWs W) : evS (callN tab gl (k + 4)) gl (sq1 b_crossings_of) [some (encWs W), none, none, none, none, none, none, none, none] = .ok .nx [some (encWs W), some (.own false ((allH W).map enc3)), none, none, none, none, none, none, none] := by
  have hh := s_halves_of (k := k) h
  have key : ev (callN tab gl (k + 4)) gl (.comp (.lc 8) (.tup (.cons (.nm 3) (.cons (.nm 7) (.cons (.nm 8) (.nil))))) (.sE (.callF 14 (.cons (.lc 0) (.nil)))) (.yes) [3, 7, 8]) [some (encWs W), none, none, none, none, none, none, none, none] = .ok (.own false ((allN W).map fun t => enc3 t.2.2)) [some (encWs W), none, none, none, none, none, none, none, none] := by
    have hs : evI (callN tab gl (k + 4)) gl (.sE (.callF 14 (.cons (.lc 0) (.nil)))) [some (encWs W), none, none, none, none, none, none, none, none] = .ok ((allN W).map encT) [some (encWs W), none, none, none, none, none, none, none, none] := by
      simp only [encWs] at hh ⊢
      simp only [x_lc, x_gl, x_cst, x_bin, x_neg, x_cmp, x_chn, x_cmpR, x_and, x_or, x_not, x_ite, x_tup, x_lst, x_sub, x_subB, x_slc, x_no, x_yes, x_rev, x_callF, x_callIO, x_callB, x_callBB, x_isi, x_nil, x_cons, x_star, x_sE, x_sEn, x_sZp, x_sR1, y_skip, y_seq, y_asgN, y_asgT, y_par, y_par3, y_ife, y_ret, y_retS, y_exp, y_app, y_set, y_for, evT, asg, asgs, List.map_cons, List.map_nil, List.replicate, Nat.sub_self, Nat.reduceSub, List.append_nil, List.cons_append, List.nil_append, readAt, freeAt, List.getElem?_cons_zero, List.getElem?_cons_succ, List.set_cons_zero, List.set_cons_succ, Bool.false_eq_true, Bool.not_false, Bool.not_true, if_false, if_true, b_ok, o_some, f_int, f_tup, f_lst, f_bl, f_non, f_own, fs_nil, fs_cons, pn_int, pn_tup, pn_lst, pn_bl, pn_non, pn_own, tr_bl, t0, t1, t2, add_, sub_, lt_, le_, gt_, ge_, Option.map_some, List.length_cons, List.length_nil, ln0, ln1, ln2, ln3, itemsOf, eq_int, ne_int, retC, outR, hh, frzs_encT]
    refine ev_map (f := fun t : T3 => enc3 t.2.2) hs rfl (fun t ht => ?_) (Nat.le_trans (allN_len h) (by decide))
    refine ⟨[some (encWs W), none, none, some (.int (t.1 : Int)), none, none, none, some (.int (t.2.1 : Int)), some (enc3 t.2.2)], ?_, rfl, rfl⟩
    simp only [encT, enc3]
    simp only [compF, wipeE, x_lc, x_gl, x_cst, x_bin, x_neg, x_cmp, x_chn, x_cmpR, x_and, x_or, x_not, x_ite, x_tup, x_lst, x_sub, x_subB, x_slc, x_no, x_yes, x_rev, x_callF, x_callIO, x_callB, x_callBB, x_isi, x_nil, x_cons, x_star, x_sE, x_sEn, x_sZp, x_sR1, y_skip, y_seq, y_asgN, y_asgT, y_par, y_par3, y_ife, y_ret, y_retS, y_exp, y_app, y_set, y_for, evT, asg, asgs, List.map_cons, List.map_nil, List.replicate, Nat.sub_self, Nat.reduceSub, List.append_nil, List.cons_append, List.nil_append, readAt, freeAt, List.getElem?_cons_zero, List.getElem?_cons_succ, List.set_cons_zero, List.set_cons_succ, Bool.false_eq_true, Bool.not_false, Bool.not_true, if_false, if_true, b_ok, o_some, f_int, f_tup, f_lst, f_bl, f_non, f_own, fs_nil, fs_cons, pn_int, pn_tup, pn_lst, pn_bl, pn_non, pn_own, tr_bl, t0, t1, t2, add_, sub_, lt_, le_, gt_, ge_, Option.map_some, List.length_cons, List.length_nil, ln0, ln1, ln2, ln3, itemsOf, eq_int, ne_int, retC, outR, R.noex]
  have e1 : ((allH W).map enc3) = (allN W).map fun t => enc3 t.2.2 := by unfold allH; rw [List.map_map]; rfl
  rw [e1]
  simp only [b_crossings_of, sq1, x_lc, x_gl, x_cst, x_bin, x_neg, x_cmp, x_chn, x_cmpR, x_and, x_or, x_not, x_ite, x_tup, x_lst, x_sub, x_subB, x_slc, x_no, x_yes, x_rev, x_callF, x_callIO, x_callB, x_callBB, x_isi, x_nil, x_cons, x_star, x_sE, x_sEn, x_sZp, x_sR1, y_skip, y_seq, y_asgN, y_asgT, y_par, y_par3, y_ife, y_ret, y_retS, y_exp, y_app, y_set, y_for, evT, asg, asgs, List.map_cons, List.map_nil, List.replicate, Nat.sub_self, Nat.reduceSub, List.append_nil, List.cons_append, List.nil_append, readAt, freeAt, List.getElem?_cons_zero, List.getElem?_cons_succ, List.set_cons_zero, List.set_cons_succ, Bool.false_eq_true, Bool.not_false, Bool.not_true, if_false, if_true, b_ok, o_some, f_int, f_tup, f_lst, f_bl, f_non, f_own, fs_nil, fs_cons, pn_int, pn_tup, pn_lst, pn_bl, pn_non, pn_own, tr_bl, t0, t1, t2, add_, sub_, lt_, le_, gt_, ge_, Option.map_some, List.length_cons, List.length_nil, ln0, ln1, ln2, ln3, itemsOf, eq_int, ne_int, retC, outR, key]
end
end K74

set_option Elab.async false
set_option linter.all false
set_option maxRecDepth 100000
namespace K74
open PySem PySem.Spec L2 PD
theorem shp_P {z : Pl} : shapedD (encP z) = true := by rfl
theorem eqv_P {z w : Pl} : PyData.eqv (encP w).py (encP z).py = decide (w = z) := by
  obtain ⟨a, b, c, d⟩ := z
  obtain ⟨a', b', c', d'⟩ := w
  simp only [encP, D.py, D.pys, PyData.eqv, PyData.eqvAll, Bool.and_true]
  rw [Bool.eq_iff_iff]
  simp
  omega
theorem any_P {z : Pl} : ∀ l : List Pl, anyEqv (encP z) (l.map encP) = decide (z ∈ l)
  | [] => by
    rw [decide_eq_false List.not_mem_nil]
    rfl
  | w :: l => by
    show (PyData.eqv (encP w).py (encP z).py || anyEqv (encP z) (l.map encP)) = _
    rw [eqv_P, any_P l, Bool.eq_iff_iff, Bool.or_eq_true, decide_eq_true_eq, decide_eq_true_eq, decide_eq_true_eq, List.mem_cons, eq_comm]
end K74

set_option Elab.async false
set_option linter.all false
set_option maxRecDepth 100000
namespace K74
open PySem PySem.Spec L2 PD PyProof.Rows
theorem lay_P {z : Pl} : (encP z).py.canLay0 = true := by rfl
theorem dep_P {z : Pl} : (encP z).py.depth = 2 := by rfl
theorem lay_Ps : ∀ l : List Pl, PyData.canLayAll0 (D.pys (l.map encP)) = true
  | [] => by rfl
  | z :: l => by
    rw [List.map_cons]
    simp only [D.pys, PyData.canLayAll0]
    rw [lay_P, lay_Ps l]
    rfl
theorem dep_Ps : ∀ l : List Pl, PyData.depthAll (D.pys (l.map encP)) ≤ 2
  | [] => by simp only [List.map_nil, D.pys, PyData.depthAll]; omega
  | z :: l => by
    rw [List.map_cons]
    simp only [D.pys, PyData.depthAll]
    have := dep_P (z := z)
    have := dep_Ps l
    omega
theorem shp_Ps {l : List Pl} : shapedD (.lst (l.map encP)) = true := by
  show ((PyData.list (D.pys (l.map encP))).canLay0 && decide ((PyData.list (D.pys (l.map encP))).depth ≤ 64)) = true
  have h1 := lay_Ps l
  have h2 := dep_Ps l
  rw [Bool.and_eq_true]
  refine ⟨by simp only [PyData.canLay0]; exact h1, decide_eq_true ?_⟩
  simp only [PyData.depth]
  omega
theorem notin_P {z : Pl} {l : List Pl} : cmpD .NotIn (encP z) (.lst (l.map encP)) = some (!decide (z ∈ l)) := by
  show (if shapedD (encP z) ∧ shapedD (.lst (l.map encP)) then some (!anyEqv (encP z) (l.map encP)) else none) = _
  rw [if_pos ⟨shp_P, shp_Ps⟩, any_P]
end K74

set_option Elab.async false
set_option linter.all false
set_option maxRecDepth 100000
namespace K74
open PySem PySem.Spec L2 PD
theorem div_sm {n : Nat} {i j : Int} (h : Sm n i) (hj : 0 < j) : Sm n (i / j) := by
  unfold Sm at *
  have := Int.natAbs_ediv_le_natAbs i j
  omega
theorem sgn_sm {n : Nat} {i u : Int} (h : Sm n i) : Sm n ((if u < 0 then -1 else 1) * i) := by
  split
  · rw [Int.neg_mul, Int.one_mul]; exact h.neg
  · rw [Int.one_mul]; exact h
theorem low_sm {n : Nat} {t u : Int} (ht : Sm n t) (hu : Sm n u) (h0 : u ≠ 0) : Sm n (low t u).1 ∧ Sm n (low t u).2 :=
  ⟨div_sm (sgn_sm ht) (gcd_pos h0), div_sm (sgn_sm hu) (gcd_pos h0)⟩
theorem crs_sm {g h : H3} {z : Pl} (hg : Sm3 130 g) (hh : Sm3 130 h) (hz : crs g h = some z) : SmP 300 z := by
  unfold crs at hz
  split at hz
  · cases hz
  · rename_i h0
    cases hz
    have hu : Sm 300 (g.1 * h.2.1 - g.2.1 * h.1) := ((hg.a.mul hh.b).sub (hg.b.mul hh.a)).mono (by decide)
    have hx : Sm 300 (g.2.2 * h.2.1 - g.2.1 * h.2.2) := ((hg.c.mul hh.b).sub (hg.b.mul hh.c)).mono (by decide)
    have hy : Sm 300 (g.1 * h.2.2 - g.2.2 * h.1) := ((hg.a.mul hh.c).sub (hg.c.mul hh.a)).mono (by decide)
    exact ⟨(low_sm hx hu h0).1, (low_sm hx hu h0).2, (low_sm hy hu h0).1, (low_sm hy hu h0).2⟩
end K74

set_option Elab.async false
set_option linter.all false
set_option maxRecDepth 100000
namespace K74
open PySem PySem.Spec L2 PD
theorem low_eq {t u : Int} (h0 : u ≠ 0) : ∃ t' u' : Int, t = (Nat.gcd t.natAbs u.natAbs : Nat) * t' ∧ u = (Nat.gcd t.natAbs u.natAbs : Nat) * u' ∧ Nat.gcd t'.natAbs u'.natAbs = 1 ∧ low t u = ((if u < 0 then -1 else 1) * t', (if u < 0 then -1 else 1) * u') := by
  have hg := gcd_pos (t := t) h0
  have d1 : ((Nat.gcd t.natAbs u.natAbs : Nat) : Int) ∣ t := Int.ofNat_dvd_left.mpr (Nat.gcd_dvd_left _ _)
  have d2 : ((Nat.gcd t.natAbs u.natAbs : Nat) : Int) ∣ u := Int.ofNat_dvd_left.mpr (Nat.gcd_dvd_right _ _)
  obtain ⟨t', ht⟩ := d1
  obtain ⟨u', hu⟩ := d2
  refine ⟨t', u', ht, hu, ?_, ?_⟩
  · have e1 : t.natAbs = Nat.gcd t.natAbs u.natAbs * t'.natAbs := by
      have := congrArg Int.natAbs ht
      rw [Int.natAbs_mul, Int.natAbs_natCast] at this
      exact this
    have e2 : u.natAbs = Nat.gcd t.natAbs u.natAbs * u'.natAbs := by
      have := congrArg Int.natAbs hu
      rw [Int.natAbs_mul, Int.natAbs_natCast] at this
      exact this
    have hp : 0 < Nat.gcd t.natAbs u.natAbs := by omega
    have e3 : Nat.gcd t.natAbs u.natAbs = Nat.gcd t.natAbs u.natAbs * Nat.gcd t'.natAbs u'.natAbs := by
      rw [← Nat.gcd_mul_left, ← e1, ← e2]
    exact Nat.eq_of_mul_eq_mul_left hp (by omega)
  · unfold low
    have q1 : ∀ (s x y : Int) (g : Int), 0 < g → x = g * y → s * x / g = s * y := fun s x y g hg hx => by
      rw [hx, ← Int.mul_assoc, Int.mul_comm s g, Int.mul_assoc, Int.mul_ediv_cancel_left _ (by omega)]
    rw [q1 _ t t' _ hg ht, q1 _ u u' _ hg hu]
theorem low_fr {t u : Int} (h0 : u ≠ 0) : Fr2 (low t u).1 (low t u).2 := by
  obtain ⟨t', u', ht, hu, hg, he⟩ := low_eq (t := t) h0
  have hp := gcd_pos (t := t) h0
  rw [he]
  refine ⟨?_, ?_⟩
  · show 0 < (if u < 0 then -1 else 1) * u'
    split
    · rename_i h
      have : u' < 0 := by
        by_cases q : u' < 0
        · exact q
        · have := Int.mul_nonneg (Int.le_of_lt hp) (show 0 ≤ u' by omega)
          omega
      omega
    · rename_i h
      have : 0 < u' := by
        by_cases q : 0 < u'
        · exact q
        · have : u' ≤ 0 := by omega
          have := Int.mul_nonpos_of_nonneg_of_nonpos (Int.le_of_lt hp) this
          omega
      omega
  · show Nat.gcd ((if u < 0 then -1 else 1) * t').natAbs ((if u < 0 then -1 else 1) * u').natAbs = 1
    split
    · rw [Int.neg_mul, Int.neg_mul, Int.one_mul, Int.one_mul, Int.natAbs_neg, Int.natAbs_neg]
      exact hg
    · rw [Int.one_mul, Int.one_mul]
      exact hg
end K74

set_option Elab.async false
set_option linter.all false
set_option maxRecDepth 100000
namespace K74
open PySem PySem.Spec L2 PD
/-- what a pair of halves adds -/
def addC (ok : Pl → Bool) (l : List Pl) (o : Option Pl) : List Pl := match o with
  | none => l
  | some z => if z ∈ l then l else if ok z then l ++ [z] else l
theorem crs_fr {g h : H3} {z : Pl} (hz : crs g h = some z) : Fr2 z.x z.u ∧ Fr2 z.y z.v := by
  unfold crs at hz
  split at hz
  · cases hz
  · rename_i h0
    cases hz
    exact ⟨low_fr h0, low_fr h0⟩
theorem frzs_P : ∀ l : List Pl, D.frzs (l.map encP) = l.map encP
  | [] => rfl
  | z :: l => by
    show D.frz _ :: D.frzs (l.map encP) = _
    rw [frzs_P l]
    rfl
theorem isn_non : cmpD .IsNot .non .non = some false := rfl
theorem isn_tup {ds : List D} : cmpD .IsNot (.tup ds) .non = some true := rfl
theorem isn_P {z : Pl} : cmpD .IsNot (encP z) .non = some true := rfl
theorem pn_P {z : Pl} : pinned (encP z) = false := rfl
theorem f_P {z : Pl} : (encP z).frz = encP z := rfl
theorem pn_3 {h : H3} : pinned (enc3 h) = false := rfl
theorem f_3 {h : H3} : (enc3 h).frz = enc3 h := rfl
theorem f_W {w : Wd} : (encW w).frz = encW w := rfl
theorem pn_Ws {W : List Wd} : pinned (encWs W) = false := rfl
theorem f_Ws {W : List Wd} : (encWs W).frz = encWs W := rfl
/-- a slot that may be stored to -/
def freeO : Option D → Bool
  | some d => !pinned d
  | none => true
theorem asg_nm {i : Nat} {d : D} {e : PD.Env} : asg (.nm i) d e = if freeAt i e then .ok () (e.set i (some d)) else .bad := rfl
theorem fr_0 {a : Option D} {e : PD.Env} : freeAt 0 (a :: e) = freeO a := by cases a <;> rfl
theorem fr_s {a : Option D} {e : PD.Env} {i : Nat} : freeAt (i + 1) (a :: e) = freeAt i e := rfl
theorem fo_n : freeO none = true := rfl
theorem fo_s {d : D} : freeO (some d) = !pinned d := rfl
theorem asg_t {ts : IT} {ds : List D} {e : PD.Env} : asg (.tup ts) (.tup ds) e = asgs ts ds e := rfl
theorem asgs_n {e : PD.Env} : asgs .nil [] e = .ok () e := rfl
theorem asgs_c {t ts : IT} {d : D} {ds : List D} {e : PD.Env} : asgs (.cons t ts) (d :: ds) e = (asg t d e).bind fun _ e => asgs ts ds e := rfl
/-- the body of the inner loop -/
def bodyC : IS := .seq (.asg (.nm 6) (.callF i_crossing_in (.cons (.lc 4) (.cons (.lc 5) (.nil))))) (.ife (.and_ (.cmp .IsNot (.lc 6) (.cst .non)) (.and_ (.cmpR .NotIn (.lc 6) 2) (.callB .all (.cons (.comp (.callF i_is_below (.cons (.lc 8) (.cons (.lc 6) (.nil)))) (.nm 8) (.sE (.lc 1)) (.yes) [8]) (.nil))))) (.app 2 (.lc 6)) (.skip))
theorem frzs_3 : ∀ l : List H3, D.frzs (l.map enc3) = l.map enc3
  | [] => rfl
  | z :: l => by
    show D.frz _ :: D.frzs (l.map enc3) = _
    rw [frzs_3 l]
    rfl
section
variable {k n : Nat}
theorem all_C {W : List Wd} {hs : List H3} {found : List Pl} {a b c : Option D} {z : Pl} (hhs : ∀ x ∈ hs, Sm3 130 x) (hz : SmP 300 z) (hl : hs.length ≤ 36) :
    ev (callN tab gl (k + 2)) gl (.comp (.callF i_is_below (.cons (.lc 8) (.cons (.lc 6) (.nil)))) (.nm 8) (.sE (.lc 1)) (.yes) [8]) [some (encWs W), some (.lst (hs.map enc3)), some (.own false (found.map encP)), a, b, c, some (encP z), none, none] =
      .ok (.own false (hs.map fun x => .bl (bel x z))) [some (encWs W), some (.lst (hs.map enc3)), some (.own false (found.map encP)), a, b, c, some (encP z), none, none] := by
  have hs1 : evI (callN tab gl (k + 2)) gl (.sE (.lc 1)) [some (encWs W), some (.lst (hs.map enc3)), some (.own false (found.map encP)), a, b, c, some (encP z), none, none] = .ok (hs.map enc3) [some (encWs W), some (.lst (hs.map enc3)), some (.own false (found.map encP)), a, b, c, some (encP z), none, none] := by
    simp only [x_lc, x_gl, x_cst, x_bin, x_neg, x_cmp, x_chn, x_cmpR, x_and, x_or, x_not, x_ite, x_tup, x_lst, x_sub, x_subB, x_slc, x_no, x_yes, x_rev, x_callF, x_callIO, x_callB, x_callBB, x_isi, x_nil, x_cons, x_star, x_sE, x_sEn, x_sZp, x_sR1, y_skip, y_seq, y_asgN, y_asgT, y_par, y_par3, y_ife, y_ret, y_retS, y_exp, y_app, y_set, y_for, evT, asg_nm, asg_t, asgs_n, asgs_c, fr_0, fr_s, fo_n, fo_s, ↓reduceIte, List.map_cons, List.map_nil, List.replicate, Nat.sub_self, Nat.reduceSub, List.append_nil, List.cons_append, List.nil_append, readAt, viewAt, ownAt, hasAt, Option.bind_some, Option.bind_none, List.getElem?_cons_zero, List.getElem?_cons_succ, List.set_cons_zero, List.set_cons_succ, Bool.false_eq_true, Bool.not_false, Bool.not_true, b_ok, o_some, f_int, f_tup, f_lst, f_bl, f_non, f_own, fs_nil, fs_cons, pn_int, pn_tup, pn_lst, pn_bl, pn_non, pn_own, tr_bl, t0, t1, t2, add_, sub_, lt_, le_, gt_, ge_, Option.map_some, List.length_cons, List.length_nil, ln0, ln1, ln2, ln3, itemsOf, eq_int, ne_int, retC, outR, f_P, pn_P, f_3, pn_3, f_W, pn_W, f_Ws, pn_Ws, frzs_P, frzs_3]
  refine ev_map (enc := enc3) (f := fun x => D.bl (bel x z)) (l := hs) hs1 rfl (fun x hx => ?_) (Nat.le_trans hl (by decide))
  have q := s_is_below (k := k + 1) (h := x) (z := z) (let q := hhs x hx; ⟨q.a.mono (by decide), q.b.mono (by decide), q.c.mono (by decide)⟩) hz
  refine ⟨[some (encWs W), some (.lst (hs.map enc3)), some (.own false (found.map encP)), a, b, c, some (encP z), none, some (enc3 x)], ?_, rfl, rfl⟩
  simp only [compF, wipeE, x_lc, x_gl, x_cst, x_bin, x_neg, x_cmp, x_chn, x_cmpR, x_and, x_or, x_not, x_ite, x_tup, x_lst, x_sub, x_subB, x_slc, x_no, x_yes, x_rev, x_callF, x_callIO, x_callB, x_callBB, x_isi, x_nil, x_cons, x_star, x_sE, x_sEn, x_sZp, x_sR1, y_skip, y_seq, y_asgN, y_asgT, y_par, y_par3, y_ife, y_ret, y_retS, y_exp, y_app, y_set, y_for, evT, asg_nm, asg_t, asgs_n, asgs_c, fr_0, fr_s, fo_n, fo_s, ↓reduceIte, List.map_cons, List.map_nil, List.replicate, Nat.sub_self, Nat.reduceSub, List.append_nil, List.cons_append, List.nil_append, readAt, viewAt, ownAt, hasAt, Option.bind_some, Option.bind_none, List.getElem?_cons_zero, List.getElem?_cons_succ, List.set_cons_zero, List.set_cons_succ, Bool.false_eq_true, Bool.not_false, Bool.not_true, b_ok, o_some, f_int, f_tup, f_lst, f_bl, f_non, f_own, fs_nil, fs_cons, pn_int, pn_tup, pn_lst, pn_bl, pn_non, pn_own, tr_bl, t0, t1, t2, add_, sub_, lt_, le_, gt_, ge_, Option.map_some, List.length_cons, List.length_nil, ln0, ln1, ln2, ln3, itemsOf, eq_int, ne_int, retC, outR, f_P, pn_P, f_3, pn_3, f_W, pn_W, f_Ws, pn_Ws, frzs_P, frzs_3, pn_P, f_P, pn_3, f_3, q, R.noex]
theorem turn_C {W : List Wd} {hs : List H3} {found : List Pl} {at_ : Int} {g h : H3} {j5 j6 : Option D} (f5 : freeO j5 = true) (f6 : freeO j6 = true) (hhs : ∀ x ∈ hs, Sm3 130 x) (hg : Sm3 130 g) (hh : Sm3 130 h) (hl : hs.length ≤ 36) (hf : found.length < 10000) :
    ((asg (.nm 5) (enc3 h) [some (encWs W), some (.lst (hs.map enc3)), some (.own false (found.map encP)), some (.int at_), some (enc3 g), j5, j6, none, none]).bind fun _ e => evS (callN tab gl (k + 2)) gl bodyC e) =
      .ok .nx [some (encWs W), some (.lst (hs.map enc3)), some (.own false ((addC (fun z => hs.all fun x => bel x z) found (crs g h)).map encP)), some (.int at_), some (enc3 g), some (enc3 h), some (encO (crs g h)), none, none] := by
  have q1 := s_crossing_in (k := k) (g := g) (h := h) ⟨hg.a.mono (by decide), hg.b.mono (by decide), hg.c.mono (by decide)⟩ ⟨hh.a.mono (by decide), hh.b.mono (by decide), hh.c.mono (by decide)⟩
  have hln : (found.map encP).length < line := by rw [List.length_map]; exact Nat.lt_trans hf (by decide)
  cases hc : crs g h with
  | none =>
    rw [hc] at q1
    simp only [encO] at q1
    simp only [bodyC, encO, addC, x_lc, x_gl, x_cst, x_bin, x_neg, x_cmp, x_chn, x_cmpR, x_and, x_or, x_not, x_ite, x_tup, x_lst, x_sub, x_subB, x_slc, x_no, x_yes, x_rev, x_callF, x_callIO, x_callB, x_callBB, x_isi, x_nil, x_cons, x_star, x_sE, x_sEn, x_sZp, x_sR1, y_skip, y_seq, y_asgN, y_asgT, y_par, y_par3, y_ife, y_ret, y_retS, y_exp, y_app, y_set, y_for, evT, asg_nm, asg_t, asgs_n, asgs_c, fr_0, fr_s, fo_n, fo_s, ↓reduceIte, List.map_cons, List.map_nil, List.replicate, Nat.sub_self, Nat.reduceSub, List.append_nil, List.cons_append, List.nil_append, readAt, viewAt, ownAt, hasAt, Option.bind_some, Option.bind_none, List.getElem?_cons_zero, List.getElem?_cons_succ, List.set_cons_zero, List.set_cons_succ, Bool.false_eq_true, Bool.not_false, Bool.not_true, b_ok, o_some, f_int, f_tup, f_lst, f_bl, f_non, f_own, fs_nil, fs_cons, pn_int, pn_tup, pn_lst, pn_bl, pn_non, pn_own, tr_bl, t0, t1, t2, add_, sub_, lt_, le_, gt_, ge_, Option.map_some, List.length_cons, List.length_nil, ln0, ln1, ln2, ln3, itemsOf, eq_int, ne_int, retC, outR, f_P, pn_P, f_3, pn_3, f_W, pn_W, f_Ws, pn_Ws, frzs_P, frzs_3, asg_nm, fr_0, fr_s, fo_n, fo_s, f5, f6, pn_3, f_3, q1, isn_non]
  | some z =>
    rw [hc] at q1
    simp only [encO] at q1
    have hz := crs_sm hg hh hc
    have key := all_C (k := k) (W := W) (found := found) (a := some (.int at_)) (b := some (enc3 g)) (c := some (enc3 h)) hhs hz hl
    by_cases hm : z ∈ found
    · have hn : cmpD .NotIn (encP z) (.lst (found.map encP)) = some false := by rw [notin_P, decide_eq_true hm]; rfl
      simp only [bodyC, encO, addC, x_lc, x_gl, x_cst, x_bin, x_neg, x_cmp, x_chn, x_cmpR, x_and, x_or, x_not, x_ite, x_tup, x_lst, x_sub, x_subB, x_slc, x_no, x_yes, x_rev, x_callF, x_callIO, x_callB, x_callBB, x_isi, x_nil, x_cons, x_star, x_sE, x_sEn, x_sZp, x_sR1, y_skip, y_seq, y_asgN, y_asgT, y_par, y_par3, y_ife, y_ret, y_retS, y_exp, y_app, y_set, y_for, evT, asg_nm, asg_t, asgs_n, asgs_c, fr_0, fr_s, fo_n, fo_s, ↓reduceIte, List.map_cons, List.map_nil, List.replicate, Nat.sub_self, Nat.reduceSub, List.append_nil, List.cons_append, List.nil_append, readAt, viewAt, ownAt, hasAt, Option.bind_some, Option.bind_none, List.getElem?_cons_zero, List.getElem?_cons_succ, List.set_cons_zero, List.set_cons_succ, Bool.false_eq_true, Bool.not_false, Bool.not_true, b_ok, o_some, f_int, f_tup, f_lst, f_bl, f_non, f_own, fs_nil, fs_cons, pn_int, pn_tup, pn_lst, pn_bl, pn_non, pn_own, tr_bl, t0, t1, t2, add_, sub_, lt_, le_, gt_, ge_, Option.map_some, List.length_cons, List.length_nil, ln0, ln1, ln2, ln3, itemsOf, eq_int, ne_int, retC, outR, f_P, pn_P, f_3, pn_3, f_W, pn_W, f_Ws, pn_Ws, frzs_P, frzs_3, asg_nm, fr_0, fr_s, fo_n, fo_s, f5, f6, pn_3, f_3, pn_P, f_P, q1, isn_P, viewAt, Option.bind_some, frzs_P, hn, if_pos hm]
    · have hn : cmpD .NotIn (encP z) (.lst (found.map encP)) = some true := by rw [notin_P, decide_eq_false hm]; rfl
      by_cases ho : (hs.all fun x => bel x z) = true
      · simp only [bodyC, encO, addC, x_lc, x_gl, x_cst, x_bin, x_neg, x_cmp, x_chn, x_cmpR, x_and, x_or, x_not, x_ite, x_tup, x_lst, x_sub, x_subB, x_slc, x_no, x_yes, x_rev, x_callF, x_callIO, x_callB, x_callBB, x_isi, x_nil, x_cons, x_star, x_sE, x_sEn, x_sZp, x_sR1, y_skip, y_seq, y_asgN, y_asgT, y_par, y_par3, y_ife, y_ret, y_retS, y_exp, y_app, y_set, y_for, evT, asg_nm, asg_t, asgs_n, asgs_c, fr_0, fr_s, fo_n, fo_s, ↓reduceIte, List.map_cons, List.map_nil, List.replicate, Nat.sub_self, Nat.reduceSub, List.append_nil, List.cons_append, List.nil_append, readAt, viewAt, ownAt, hasAt, Option.bind_some, Option.bind_none, List.getElem?_cons_zero, List.getElem?_cons_succ, List.set_cons_zero, List.set_cons_succ, Bool.false_eq_true, Bool.not_false, Bool.not_true, b_ok, o_some, f_int, f_tup, f_lst, f_bl, f_non, f_own, fs_nil, fs_cons, pn_int, pn_tup, pn_lst, pn_bl, pn_non, pn_own, tr_bl, t0, t1, t2, add_, sub_, lt_, le_, gt_, ge_, Option.map_some, List.length_cons, List.length_nil, ln0, ln1, ln2, ln3, itemsOf, eq_int, ne_int, retC, outR, f_P, pn_P, f_3, pn_3, f_W, pn_W, f_Ws, pn_Ws, frzs_P, frzs_3, asg_nm, fr_0, fr_s, fo_n, fo_s, f5, f6, pn_3, f_3, pn_P, f_P, q1, isn_P, viewAt, Option.bind_some, frzs_P, hn, if_neg hm, key, fs_bl, all_, ho, ownAt, hln, List.map_append]
      · rw [Bool.not_eq_true] at ho
        simp only [bodyC, encO, addC, x_lc, x_gl, x_cst, x_bin, x_neg, x_cmp, x_chn, x_cmpR, x_and, x_or, x_not, x_ite, x_tup, x_lst, x_sub, x_subB, x_slc, x_no, x_yes, x_rev, x_callF, x_callIO, x_callB, x_callBB, x_isi, x_nil, x_cons, x_star, x_sE, x_sEn, x_sZp, x_sR1, y_skip, y_seq, y_asgN, y_asgT, y_par, y_par3, y_ife, y_ret, y_retS, y_exp, y_app, y_set, y_for, evT, asg_nm, asg_t, asgs_n, asgs_c, fr_0, fr_s, fo_n, fo_s, ↓reduceIte, List.map_cons, List.map_nil, List.replicate, Nat.sub_self, Nat.reduceSub, List.append_nil, List.cons_append, List.nil_append, readAt, viewAt, ownAt, hasAt, Option.bind_some, Option.bind_none, List.getElem?_cons_zero, List.getElem?_cons_succ, List.set_cons_zero, List.set_cons_succ, Bool.false_eq_true, Bool.not_false, Bool.not_true, b_ok, o_some, f_int, f_tup, f_lst, f_bl, f_non, f_own, fs_nil, fs_cons, pn_int, pn_tup, pn_lst, pn_bl, pn_non, pn_own, tr_bl, t0, t1, t2, add_, sub_, lt_, le_, gt_, ge_, Option.map_some, List.length_cons, List.length_nil, ln0, ln1, ln2, ln3, itemsOf, eq_int, ne_int, retC, outR, f_P, pn_P, f_3, pn_3, f_W, pn_W, f_Ws, pn_Ws, frzs_P, frzs_3, asg_nm, fr_0, fr_s, fo_n, fo_s, f5, f6, pn_3, f_3, pn_P, f_P, q1, isn_P, viewAt, Option.bind_some, frzs_P, hn, if_neg hm, key, fs_bl, all_, ho]
end
end K74

set_option Elab.async false
set_option linter.all false
set_option maxRecDepth 100000
namespace K74
open PySem PySem.Spec L2 PD
def inC (ok : Pl → Bool) (g : H3) (l : List Pl) (hs : List H3) : List Pl := hs.foldl (fun l h => addC ok l (crs g h)) l
def outC (ok : Pl → Bool) : List Pl → List H3 → List Pl
  | l, [] => l
  | l, g :: hs => outC ok (inC ok g l hs) hs
theorem addC_len {ok : Pl → Bool} {l : List Pl} {o : Option Pl} : (addC ok l o).length ≤ l.length + 1 := by
  unfold addC
  split
  · omega
  · split
    · omega
    · split
      · rw [List.length_append]; exact Nat.le_refl _
      · omega
theorem inC_len {ok : Pl → Bool} {g : H3} : ∀ (hs : List H3) (l : List Pl), (inC ok g l hs).length ≤ l.length + hs.length
  | [], _ => Nat.le_refl _
  | h :: hs, l => by
    have h1 := inC_len (ok := ok) (g := g) hs (addC ok l (crs g h))
    have h2 := addC_len (ok := ok) (l := l) (o := crs g h)
    show (inC ok g (addC ok l (crs g h)) hs).length ≤ _
    rw [List.length_cons]
    omega
theorem inC_snoc {ok : Pl → Bool} {g x : H3} {l : List Pl} {hs : List H3} : inC ok g l (hs ++ [x]) = addC ok (inC ok g l hs) (crs g x) := by
  unfold inC
  rw [List.foldl_append]
  rfl
theorem zip_split {α : Type} {l : List α} {pre post : List (α × Nat)} {p : α × Nat} (h : l.zipIdx = pre ++ p :: post) : p.2 = pre.length ∧ l.drop pre.length = p.1 :: l.drop (pre.length + 1) := by
  have h1 : l.zipIdx[pre.length]? = some p := by rw [h]; simp
  rw [List.getElem?_zipIdx] at h1
  cases h2 : l[pre.length]? with
  | none => rw [h2] at h1; cases h1
  | some a =>
    rw [h2] at h1
    simp at h1
    subst h1
    obtain ⟨hl, he⟩ := List.getElem?_eq_some_iff.mp h2
    refine ⟨rfl, ?_⟩
    rw [List.drop_eq_getElem_cons hl, he]
theorem pd_i {i : Int} : partD (.int i) = some (some i) := rfl
theorem pd_h : partD .hid = some none := rfl
theorem slc_l {xs : List D} {lo hi : Option Int} : slcD (.lst xs) lo hi = some (.own false (cutD xs lo hi)) := rfl
theorem cut_from {xs : List D} {n : Nat} : cutD xs (some ((n : Int) + 1)) none = xs.drop (n + 1) := by
  unfold cutD
  rw [show ((n : Int) + 1) = ((n + 1 : Nat) : Int) from rfl, HT.sIx_nat, HT.sIx_none]
  by_cases h : n + 1 ≤ xs.length
  · rw [Nat.min_eq_left h, List.take_of_length_le (by rw [List.length_drop]; exact Nat.le_refl _)]
  · rw [Nat.min_eq_right (by omega), Nat.sub_self, List.take_zero, List.drop_eq_nil_of_le (by omega)]
section
variable {k n : Nat}
theorem in_C {W : List Wd} {hs : List H3} {found : List Pl} {at_ : Int} {g : H3} {j5 j6 : Option D} (l : List H3) (f5 : freeO j5 = true) (f6 : freeO j6 = true) (hhs : ∀ x ∈ hs, Sm3 130 x) (hg : Sm3 130 g) (hll : ∀ x ∈ l, Sm3 130 x) (hl : hs.length ≤ 36) (hl2 : l.length ≤ 36) (hf : found.length < 9000) :
    ∃ j5' j6', freeO j5' = true ∧ freeO j6' = true ∧ forL (fun d e => (asg (.nm 5) d e).bind fun _ e => evS (callN tab gl (k + 2)) gl bodyC e) (l.map enc3) [some (encWs W), some (.lst (hs.map enc3)), some (.own false (found.map encP)), some (.int at_), some (enc3 g), j5, j6, none, none] =
      .ok .nx [some (encWs W), some (.lst (hs.map enc3)), some (.own false ((inC (fun z => hs.all fun x => bel x z) g found l).map encP)), some (.int at_), some (enc3 g), j5', j6', none, none] := by
  obtain ⟨e, h1, a, b, fa, fb, h2⟩ := forL_pre (enc := enc3) (F := fun d e => (asg (.nm 5) d e).bind fun _ e => evS (callN tab gl (k + 2)) gl bodyC e)
    (I := fun pre e => ∃ j5 j6, freeO j5 = true ∧ freeO j6 = true ∧ e = [some (encWs W), some (.lst (hs.map enc3)), some (.own false ((inC (fun z => hs.all fun x => bel x z) g found pre).map encP)), some (.int at_), some (enc3 g), j5, j6, none, none])
    l [] _ ⟨j5, j6, f5, f6, rfl⟩ (fun pre x post e he ⟨a, b, fa, fb, hE⟩ => by
      have hx : x ∈ l := by rw [show l = pre ++ x :: post from he]; simp
      have hlen : pre.length ≤ l.length := by rw [show l = pre ++ x :: post from he, List.length_append]; omega
      have h3 := inC_len (ok := fun z => hs.all fun x => bel x z) (g := g) pre found
      have t := turn_C (k := k) (W := W) (hs := hs) (found := inC (fun z => hs.all fun x => bel x z) g found pre) (at_ := at_) (g := g) (h := x) fa fb hhs hg (hll x hx) hl (by omega)
      rw [← inC_snoc] at t
      refine ⟨_, by rw [hE]; exact t, _, _, ?_, ?_, rfl⟩
      · rfl
      · cases crs g x <;> rfl)
  rw [h2] at h1
  exact ⟨a, b, fa, fb, h1⟩
/-- the outer loop's body -/
def bodyO : IS := .for_ (.nm 5) (.sE (.slc (.lc 1) (.bin .Add (.lc 3) (.cst (.int 1))) (.no))) bodyC
theorem outer_C {W : List Wd} {hs : List H3} (hhs : ∀ x ∈ hs, Sm3 130 x) (hl : hs.length ≤ 36) :
    ∃ j3 j4 j5 j6, forL (fun d e => (asg (.tup (.cons (.nm 3) (.cons (.nm 4) (.nil)))) d e).bind fun _ e => evS (callN tab gl (k + 2)) gl bodyO e) (hs.zipIdx.map fun p => .tup [.int (p.2 : Int), enc3 p.1]) [some (encWs W), some (.lst (hs.map enc3)), some (.own false []), none, none, none, none, none, none] =
      .ok .nx [some (encWs W), some (.lst (hs.map enc3)), some (.own false ((outC (fun z => hs.all fun x => bel x z) [] hs).map encP)), j3, j4, j5, j6, none, none] := by
  obtain ⟨e, h1, found, j3, j4, j5, j6, f3, f4, f5, f6, h2, h3, h4⟩ := forL_pre (enc := fun p : H3 × Nat => D.tup [.int (p.2 : Int), enc3 p.1]) (F := fun d e => (asg (.tup (.cons (.nm 3) (.cons (.nm 4) (.nil)))) d e).bind fun _ e => evS (callN tab gl (k + 2)) gl bodyO e)
    (I := fun pre e => ∃ found j3 j4 j5 j6, freeO j3 = true ∧ freeO j4 = true ∧ freeO j5 = true ∧ freeO j6 = true ∧ outC (fun z => hs.all fun x => bel x z) [] hs = outC (fun z => hs.all fun x => bel x z) found (hs.drop pre.length) ∧ found.length ≤ 36 * pre.length ∧ e = [some (encWs W), some (.lst (hs.map enc3)), some (.own false (found.map encP)), j3, j4, j5, j6, none, none])
    hs.zipIdx [] [some (encWs W), some (.lst (hs.map enc3)), some (.own false []), none, none, none, none, none, none] ⟨[], none, none, none, none, rfl, rfl, rfl, rfl, rfl, Nat.le_refl _, rfl⟩ (fun pre p post e he ⟨found, j3, j4, j5, j6, f3, f4, f5, f6, ho, hn, hE⟩ => by
      have he : hs.zipIdx = pre ++ p :: post := he
      obtain ⟨hp, hd⟩ := zip_split he
      have hlen : pre.length + 1 ≤ hs.length := by
        have := congrArg List.length he
        rw [List.length_zipIdx, List.length_append, List.length_cons] at this
        omega
      have hg : Sm3 130 p.1 := hhs _ (by
        have : p.1 ∈ hs.drop pre.length := by rw [hd]; exact List.mem_cons_self
        exact List.mem_of_mem_drop this)
      obtain ⟨a5, a6, fa, fb, t⟩ := in_C (k := k) (W := W) (hs := hs) (found := found) (at_ := (pre.length : Int)) (g := p.1) (j5 := j5) (j6 := j6) (hs.drop (pre.length + 1)) f5 f6 hhs hg (fun x hx => hhs x (List.mem_of_mem_drop hx)) hl (by rw [List.length_drop]; omega) (by omega)
      have hs1 : evI (callN tab gl (k + 2)) gl (.sE (.slc (.lc 1) (.bin .Add (.lc 3) (.cst (.int 1))) (.no))) [some (encWs W), some (.lst (hs.map enc3)), some (.own false (found.map encP)), some (.int (pre.length : Int)), some (enc3 p.1), j5, j6, none, none] = .ok ((hs.drop (pre.length + 1)).map enc3) [some (encWs W), some (.lst (hs.map enc3)), some (.own false (found.map encP)), some (.int (pre.length : Int)), some (enc3 p.1), j5, j6, none, none] := by
        simp only [x_lc, x_gl, x_cst, x_bin, x_neg, x_cmp, x_chn, x_cmpR, x_and, x_or, x_not, x_ite, x_tup, x_lst, x_sub, x_subB, x_slc, x_no, x_yes, x_rev, x_callF, x_callIO, x_callB, x_callBB, x_isi, x_nil, x_cons, x_star, x_sE, x_sEn, x_sZp, x_sR1, y_skip, y_seq, y_asgN, y_asgT, y_par, y_par3, y_ife, y_ret, y_retS, y_exp, y_app, y_set, y_for, evT, asg_nm, asg_t, asgs_n, asgs_c, fr_0, fr_s, fo_n, fo_s, ↓reduceIte, List.map_cons, List.map_nil, List.replicate, Nat.sub_self, Nat.reduceSub, List.append_nil, List.cons_append, List.nil_append, readAt, viewAt, ownAt, hasAt, Option.bind_some, Option.bind_none, List.getElem?_cons_zero, List.getElem?_cons_succ, List.set_cons_zero, List.set_cons_succ, Bool.false_eq_true, Bool.not_false, Bool.not_true, b_ok, o_some, f_int, f_tup, f_lst, f_bl, f_non, f_own, fs_nil, fs_cons, pn_int, pn_tup, pn_lst, pn_bl, pn_non, pn_own, tr_bl, t0, t1, t2, add_, sub_, lt_, le_, gt_, ge_, Option.map_some, List.length_cons, List.length_nil, ln0, ln1, ln2, ln3, itemsOf, eq_int, ne_int, retC, outR, f_P, pn_P, f_3, pn_3, f_W, pn_W, f_Ws, pn_Ws, frzs_P, frzs_3, pd_i, pd_h, slc_l, cut_from, ← List.map_drop, frzs_3]
      have t2 := y_for_ok hs1 t
      have h5 := inC_len (ok := fun z => hs.all fun x => bel x z) (g := p.1) (hs.drop (pre.length + 1)) found
      refine ⟨_, ?_, inC (fun z => hs.all fun x => bel x z) p.1 found (hs.drop (pre.length + 1)), some (.int (pre.length : Int)), some (enc3 p.1), a5, a6, rfl, rfl, fa, fb, ?_, ?_, rfl⟩
      · rw [hE, hp]
        simp only [asg_t, asgs_c, asgs_n, asg_nm, fr_0, fr_s, f3, f4, b_ok, List.set_cons_zero, List.set_cons_succ, if_true]
        exact t2
      · rw [ho, hd, List.length_append]
        rfl
      · rw [List.length_append, List.length_singleton]
        rw [List.length_drop] at h5
        omega)
  rw [h4] at h1
  have e0 : ([] ++ hs.zipIdx : List (H3 × Nat)).length = hs.length := by rw [List.nil_append, List.length_zipIdx]
  rw [e0, List.drop_length] at h2
  have h2 : outC (fun z => hs.all fun x => bel x z) [] hs = found := h2
  rw [← h2] at h1
  exact ⟨j3, j4, j5, j6, h1⟩
end
end K74

set_option Elab.async false
set_option linter.all false
set_option maxRecDepth 100000
namespace K74
open PySem PySem.Spec L2 PD
def insC (le : Pl → Pl → Bool) (l : List Pl) (z : Pl) : List Pl := l.take (l.filter (le · z)).length ++ [z] ++ l.drop (l.filter (le · z)).length
def insU (le : Pl → Pl → Bool) (l : List Pl) (z : Pl) : List Pl := if z ∈ l then l else insC le l z
theorem insC_len {le : Pl → Pl → Bool} {l : List Pl} {z : Pl} : (insC le l z).length = l.length + 1 := by
  have := List.length_filter_le (le · z) l
  unfold insC
  rw [List.length_append, List.length_append, List.length_take, List.length_drop, List.length_singleton]
  omega
theorem insU_len {le : Pl → Pl → Bool} {l : List Pl} {z : Pl} : (insU le l z).length ≤ l.length + 1 := by
  unfold insU
  split
  · omega
  · rw [insC_len]; exact Nat.le_refl _
theorem fold_len {f : List Pl → Pl → List Pl} (hf : ∀ l z, (f l z).length ≤ l.length + 1) : ∀ (zs l : List Pl), (zs.foldl f l).length ≤ l.length + zs.length
  | [], _ => Nat.le_refl _
  | z :: zs, l => by
    have := fold_len hf zs (f l z)
    have := hf l z
    rw [List.foldl_cons, List.length_cons]
    omega
theorem insC_mem {le : Pl → Pl → Bool} {l : List Pl} {z x : Pl} : x ∈ insC le l z ↔ x = z ∨ x ∈ l := by
  unfold insC
  rw [List.append_assoc, List.mem_append, List.mem_append, List.mem_singleton]
  conv => rhs; rw [← List.take_append_drop (l.filter (le · z)).length l, List.mem_append]
  constructor
  · rintro (h | h | h)
    · exact .inr (.inl h)
    · exact .inl h
    · exact .inr (.inr h)
  · rintro (h | h | h)
    · exact .inr (.inl h)
    · exact .inl h
    · exact .inr (.inr h)
theorem insU_mem {le : Pl → Pl → Bool} {l : List Pl} {z x : Pl} : x ∈ insU le l z ↔ x = z ∨ x ∈ l := by
  unfold insU
  split
  · rename_i h
    constructor
    · exact .inr
    · rintro (rfl | h2)
      · exact h
      · exact h2
  · exact insC_mem
theorem fold_mem {f : List Pl → Pl → List Pl} (hf : ∀ l z x, x ∈ f l z ↔ x = z ∨ x ∈ l) : ∀ (zs l : List Pl) (x : Pl), x ∈ zs.foldl f l ↔ x ∈ zs ∨ x ∈ l
  | [], _, _ => by simp
  | z :: zs, l, x => by
    rw [List.foldl_cons, fold_mem hf zs, hf, List.mem_cons]
    constructor
    · rintro (h | h | h)
      · exact .inl (.inr h)
      · exact .inl (.inl h)
      · exact .inr h
    · rintro ((h | h) | h)
      · exact .inr (.inl h)
      · exact .inl h
      · exact .inr (.inr h)
theorem plains_P : ∀ l : List Pl, plains (l.map encP) = true
  | [] => rfl
  | z :: l => plains_P l
theorem len_l {ds : List D} : biD .len [.lst ds] = some (.int ds.length) := rfl
section
variable {k n : Nat}
def SmPs (zs : List Pl) : Prop := ∀ z ∈ zs, SmP 300 z
theorem cnt_O {l : List Pl} {a b : Option D} {z : Pl} (hz : SmP 300 z) (hl : SmPs l) (hn : l.length ≤ line) :
    ev (callN tab gl (k + 1)) gl (.compB (.lc 4) (.nm 4) 1 (.callF i_is_before (.cons (.lc 4) (.cons (.lc 2) (.nil)))) [4]) [a, some (.own false (l.map encP)), some (encP z), b, none] =
      .ok (.own false ((l.filter (bef · z)).map encP)) [a, some (.own false (l.map encP)), some (encP z), b, none] := by
  refine ev_filtB (enc := encP) (c := fun y => bef y z) (w := [a, some .hid, some (encP z), b, none]) rfl (plains_P l) rfl rfl rfl (fun x hx => ?_) hn
  have q := s_is_before (k := k) (hl x hx) hz
  refine ⟨[a, some .hid, some (encP z), b, some (encP x)], ?_, rfl, rfl⟩
  by_cases hb : bef x z = true
  · rw [if_pos hb]
    rw [hb] at q
    simp only [compF, x_lc, x_gl, x_cst, x_bin, x_neg, x_cmp, x_chn, x_cmpR, x_and, x_or, x_not, x_ite, x_tup, x_lst, x_sub, x_subB, x_slc, x_no, x_yes, x_rev, x_callF, x_callIO, x_callB, x_callBB, x_isi, x_nil, x_cons, x_star, x_sE, x_sEn, x_sZp, x_sR1, y_skip, y_seq, y_asgN, y_asgT, y_par, y_par3, y_ife, y_ret, y_retS, y_exp, y_app, y_set, y_for, evT, asg_nm, asg_t, asgs_n, asgs_c, fr_0, fr_s, fo_n, fo_s, ↓reduceIte, List.map_cons, List.map_nil, List.replicate, Nat.sub_self, Nat.reduceSub, List.append_nil, List.cons_append, List.nil_append, readAt, viewAt, ownAt, hasAt, Option.bind_some, Option.bind_none, List.getElem?_cons_zero, List.getElem?_cons_succ, List.set_cons_zero, List.set_cons_succ, Bool.false_eq_true, Bool.not_false, Bool.not_true, b_ok, o_some, f_int, f_tup, f_lst, f_bl, f_non, f_own, fs_nil, fs_cons, pn_int, pn_tup, pn_lst, pn_bl, pn_non, pn_own, tr_bl, t0, t1, t2, add_, sub_, lt_, le_, gt_, ge_, Option.map_some, List.length_cons, List.length_nil, ln0, ln1, ln2, ln3, itemsOf, eq_int, ne_int, retC, outR, f_P, pn_P, f_3, pn_3, f_W, pn_W, f_Ws, pn_Ws, frzs_P, frzs_3, pn_P, f_P, asg_nm, fr_0, fr_s, fo_n, q, R.noex]
  · rw [if_neg hb]
    rw [Bool.not_eq_true] at hb
    rw [hb] at q
    simp only [compF, x_lc, x_gl, x_cst, x_bin, x_neg, x_cmp, x_chn, x_cmpR, x_and, x_or, x_not, x_ite, x_tup, x_lst, x_sub, x_subB, x_slc, x_no, x_yes, x_rev, x_callF, x_callIO, x_callB, x_callBB, x_isi, x_nil, x_cons, x_star, x_sE, x_sEn, x_sZp, x_sR1, y_skip, y_seq, y_asgN, y_asgT, y_par, y_par3, y_ife, y_ret, y_retS, y_exp, y_app, y_set, y_for, evT, asg_nm, asg_t, asgs_n, asgs_c, fr_0, fr_s, fo_n, fo_s, ↓reduceIte, List.map_cons, List.map_nil, List.replicate, Nat.sub_self, Nat.reduceSub, List.append_nil, List.cons_append, List.nil_append, readAt, viewAt, ownAt, hasAt, Option.bind_some, Option.bind_none, List.getElem?_cons_zero, List.getElem?_cons_succ, List.set_cons_zero, List.set_cons_succ, Bool.false_eq_true, Bool.not_false, Bool.not_true, b_ok, o_some, f_int, f_tup, f_lst, f_bl, f_non, f_own, fs_nil, fs_cons, pn_int, pn_tup, pn_lst, pn_bl, pn_non, pn_own, tr_bl, t0, t1, t2, add_, sub_, lt_, le_, gt_, ge_, Option.map_some, List.length_cons, List.length_nil, ln0, ln1, ln2, ln3, itemsOf, eq_int, ne_int, retC, outR, f_P, pn_P, f_3, pn_3, f_W, pn_W, f_Ws, pn_Ws, frzs_P, frzs_3, pn_P, f_P, asg_nm, fr_0, fr_s, fo_n, q, R.noex]
/-- the body of in_order -/
def bodyI : IS := .seq (.asg (.nm 3) (.callB .len (.cons (.compB (.lc 4) (.nm 4) 1 (.callF i_is_before (.cons (.lc 4) (.cons (.lc 2) (.nil)))) [4]) (.nil)))) (.ife (.cmpR .NotIn (.lc 2) 1) (.ins 1 (.lc 3) (.lc 2)) (.skip))
theorem turn_I {l : List Pl} {a j2 j3 : Option D} {z : Pl} (f2 : freeO j2 = true) (f3 : freeO j3 = true) (hz : SmP 300 z) (hl : SmPs l) (hn : l.length < line) :
    ∃ j3', freeO j3' = true ∧ ((asg (.nm 2) (encP z) [a, some (.own false (l.map encP)), j2, j3, none]).bind fun _ e => evS (callN tab gl (k + 1)) gl bodyI e) = .ok .nx [a, some (.own false ((insU bef l z).map encP)), some (encP z), j3', none] := by
  have key := cnt_O (k := k) (a := a) (b := j3) hz hl (Nat.le_of_lt hn)
  have hfl : ∀ c : Pl → Bool, D.frzs ((l.filter c).map encP) = (l.filter c).map encP := fun c => frzs_P _
  refine ⟨some (.int ((l.filter (bef · z)).length : Int)), rfl, ?_⟩
  by_cases hm : z ∈ l
  · have hc : cmpD .NotIn (encP z) (.lst (l.map encP)) = some false := by rw [notin_P, decide_eq_true hm]; rfl
    simp only [bodyI, insU, x_lc, x_gl, x_cst, x_bin, x_neg, x_cmp, x_chn, x_cmpR, x_and, x_or, x_not, x_ite, x_tup, x_lst, x_sub, x_subB, x_slc, x_no, x_yes, x_rev, x_callF, x_callIO, x_callB, x_callBB, x_isi, x_nil, x_cons, x_star, x_sE, x_sEn, x_sZp, x_sR1, y_skip, y_seq, y_asgN, y_asgT, y_par, y_par3, y_ife, y_ret, y_retS, y_exp, y_app, y_set, y_for, evT, asg_nm, asg_t, asgs_n, asgs_c, fr_0, fr_s, fo_n, fo_s, ↓reduceIte, List.map_cons, List.map_nil, List.replicate, Nat.sub_self, Nat.reduceSub, List.append_nil, List.cons_append, List.nil_append, readAt, viewAt, ownAt, hasAt, Option.bind_some, Option.bind_none, List.getElem?_cons_zero, List.getElem?_cons_succ, List.set_cons_zero, List.set_cons_succ, Bool.false_eq_true, Bool.not_false, Bool.not_true, b_ok, o_some, f_int, f_tup, f_lst, f_bl, f_non, f_own, fs_nil, fs_cons, pn_int, pn_tup, pn_lst, pn_bl, pn_non, pn_own, tr_bl, t0, t1, t2, add_, sub_, lt_, le_, gt_, ge_, Option.map_some, List.length_cons, List.length_nil, ln0, ln1, ln2, ln3, itemsOf, eq_int, ne_int, retC, outR, f_P, pn_P, f_3, pn_3, f_W, pn_W, f_Ws, pn_Ws, frzs_P, frzs_3, pn_P, f_P, asg_nm, fr_0, fr_s, fo_n, fo_s, f2, f3, key, frzs_P, len_l, List.length_map, viewAt, Option.bind_some, hc, if_pos hm]
  · have hc : cmpD .NotIn (encP z) (.lst (l.map encP)) = some true := by rw [notin_P, decide_eq_false hm]; rfl
    have hi : evS (callN tab gl (k + 1)) gl (.ins 1 (.lc 3) (.lc 2)) [a, some (.own false (l.map encP)), some (encP z), some (.int ((l.filter (bef · z)).length : Int)), none] = .ok .nx [a, some (.own false ((l.map encP).take (l.filter (bef · z)).length ++ [encP z] ++ (l.map encP).drop (l.filter (bef · z)).length)), some (encP z), some (.int ((l.filter (bef · z)).length : Int)), none] :=
      y_ins_ok (e1 := [a, some (.own false (l.map encP)), some (encP z), some (.int ((l.filter (bef · z)).length : Int)), none]) (e2 := [a, some (.own false (l.map encP)), some (encP z), some (.int ((l.filter (bef · z)).length : Int)), none]) rfl rfl rfl rfl (by rw [List.length_map]; exact List.length_filter_le _ _) (by rw [List.length_map]; exact hn)
    simp only [bodyI, insU, insC, x_lc, x_gl, x_cst, x_bin, x_neg, x_cmp, x_chn, x_cmpR, x_and, x_or, x_not, x_ite, x_tup, x_lst, x_sub, x_subB, x_slc, x_no, x_yes, x_rev, x_callF, x_callIO, x_callB, x_callBB, x_isi, x_nil, x_cons, x_star, x_sE, x_sEn, x_sZp, x_sR1, y_skip, y_seq, y_asgN, y_asgT, y_par, y_par3, y_ife, y_ret, y_retS, y_exp, y_app, y_set, y_for, evT, asg_nm, asg_t, asgs_n, asgs_c, fr_0, fr_s, fo_n, fo_s, ↓reduceIte, List.map_cons, List.map_nil, List.replicate, Nat.sub_self, Nat.reduceSub, List.append_nil, List.cons_append, List.nil_append, readAt, viewAt, ownAt, hasAt, Option.bind_some, Option.bind_none, List.getElem?_cons_zero, List.getElem?_cons_succ, List.set_cons_zero, List.set_cons_succ, Bool.false_eq_true, Bool.not_false, Bool.not_true, b_ok, o_some, f_int, f_tup, f_lst, f_bl, f_non, f_own, fs_nil, fs_cons, pn_int, pn_tup, pn_lst, pn_bl, pn_non, pn_own, tr_bl, t0, t1, t2, add_, sub_, lt_, le_, gt_, ge_, Option.map_some, List.length_cons, List.length_nil, ln0, ln1, ln2, ln3, itemsOf, eq_int, ne_int, retC, outR, f_P, pn_P, f_3, pn_3, f_W, pn_W, f_Ws, pn_Ws, frzs_P, frzs_3, pn_P, f_P, asg_nm, fr_0, fr_s, fo_n, fo_s, f2, f3, key, frzs_P, len_l, List.length_map, viewAt, Option.bind_some, hc, if_neg hm, hi, List.map_append, List.map_take, List.map_drop]
theorem s_in_order {zs : List Pl} (hz : SmPs zs) (hn : zs.length < 10000) : callN tab gl (k + 2) i_in_order [.lst (zs.map encP)] = .ok (.own false ((zs.foldl (insU bef) []).map encP)) none := by
  obtain ⟨e, h1, j2, j3, f2, f3, h2⟩ := forL_pre (enc := encP) (F := fun d e => (asg (.nm 2) d e).bind fun _ e => evS (callN tab gl (k + 1)) gl bodyI e)
    (I := fun pre e => ∃ j2 j3, freeO j2 = true ∧ freeO j3 = true ∧ e = [some (.lst (zs.map encP)), some (.own false ((pre.foldl (insU bef) []).map encP)), j2, j3, none])
    zs [] _ ⟨none, none, rfl, rfl, rfl⟩ (fun pre x post e he ⟨a, b, fa, fb, hE⟩ => by
      have he : zs = pre ++ x :: post := he
      have hx : x ∈ zs := by rw [he]; simp
      have hlen : pre.length ≤ zs.length := by rw [he, List.length_append]; omega
      have hl2 := fold_len (f := insU bef) (fun l z => insU_len) pre []
      have hln : line = 16777216 := rfl
      have hsm : SmPs (pre.foldl (insU bef) []) := fun z hq => by
        rw [fold_mem (fun l z x => insU_mem)] at hq
        rcases hq with hq | hq
        · exact hz z (by rw [he]; exact List.mem_append_left _ hq)
        · cases hq
      obtain ⟨c, fc, t⟩ := turn_I (k := k) (a := some (.lst (zs.map encP))) fa fb (hz x hx) hsm (by rw [List.length_nil] at hl2; omega)
      refine ⟨_, by rw [hE]; exact t, some (encP x), c, rfl, fc, ?_⟩
      rw [List.foldl_append]
      rfl)
  have hs1 : evI (callN tab gl (k + 1)) gl (.sE (.lc 0)) [some (.lst (zs.map encP)), some (.own false []), none, none, none] = .ok (zs.map encP) [some (.lst (zs.map encP)), some (.own false []), none, none, none] := by
    simp only [x_lc, x_gl, x_cst, x_bin, x_neg, x_cmp, x_chn, x_cmpR, x_and, x_or, x_not, x_ite, x_tup, x_lst, x_sub, x_subB, x_slc, x_no, x_yes, x_rev, x_callF, x_callIO, x_callB, x_callBB, x_isi, x_nil, x_cons, x_star, x_sE, x_sEn, x_sZp, x_sR1, y_skip, y_seq, y_asgN, y_asgT, y_par, y_par3, y_ife, y_ret, y_retS, y_exp, y_app, y_set, y_for, evT, asg_nm, asg_t, asgs_n, asgs_c, fr_0, fr_s, fo_n, fo_s, ↓reduceIte, List.map_cons, List.map_nil, List.replicate, Nat.sub_self, Nat.reduceSub, List.append_nil, List.cons_append, List.nil_append, readAt, viewAt, ownAt, hasAt, Option.bind_some, Option.bind_none, List.getElem?_cons_zero, List.getElem?_cons_succ, List.set_cons_zero, List.set_cons_succ, Bool.false_eq_true, Bool.not_false, Bool.not_true, b_ok, o_some, f_int, f_tup, f_lst, f_bl, f_non, f_own, fs_nil, fs_cons, pn_int, pn_tup, pn_lst, pn_bl, pn_non, pn_own, tr_bl, t0, t1, t2, add_, sub_, lt_, le_, gt_, ge_, Option.map_some, List.length_cons, List.length_nil, ln0, ln1, ln2, ln3, itemsOf, eq_int, ne_int, retC, outR, f_P, pn_P, f_3, pn_3, f_W, pn_W, f_Ws, pn_Ws, frzs_P, frzs_3]
  have hl := y_for_ok hs1 h1
  rw [call_eq (fn := ⟨5, 1, false, b_in_order⟩) rfl rfl]
  have s1 : evS (callN tab gl (k + 1)) gl (sq1 b_in_order) [some (.lst (zs.map encP)), none, none, none, none] = .ok .nx [some (.lst (zs.map encP)), some (.own false []), none, none, none] := by
    simp only [b_in_order, sq1, x_lc, x_gl, x_cst, x_bin, x_neg, x_cmp, x_chn, x_cmpR, x_and, x_or, x_not, x_ite, x_tup, x_lst, x_sub, x_subB, x_slc, x_no, x_yes, x_rev, x_callF, x_callIO, x_callB, x_callBB, x_isi, x_nil, x_cons, x_star, x_sE, x_sEn, x_sZp, x_sR1, y_skip, y_seq, y_asgN, y_asgT, y_par, y_par3, y_ife, y_ret, y_retS, y_exp, y_app, y_set, y_for, evT, asg_nm, asg_t, asgs_n, asgs_c, fr_0, fr_s, fo_n, fo_s, ↓reduceIte, List.map_cons, List.map_nil, List.replicate, Nat.sub_self, Nat.reduceSub, List.append_nil, List.cons_append, List.nil_append, readAt, viewAt, ownAt, hasAt, Option.bind_some, Option.bind_none, List.getElem?_cons_zero, List.getElem?_cons_succ, List.set_cons_zero, List.set_cons_succ, Bool.false_eq_true, Bool.not_false, Bool.not_true, b_ok, o_some, f_int, f_tup, f_lst, f_bl, f_non, f_own, fs_nil, fs_cons, pn_int, pn_tup, pn_lst, pn_bl, pn_non, pn_own, tr_bl, t0, t1, t2, add_, sub_, lt_, le_, gt_, ge_, Option.map_some, List.length_cons, List.length_nil, ln0, ln1, ln2, ln3, itemsOf, eq_int, ne_int, retC, outR, f_P, pn_P, f_3, pn_3, f_W, pn_W, f_Ws, pn_Ws, frzs_P, frzs_3]
  show outR false (evS (callN tab gl (k + 1)) gl b_in_order [some (.lst (zs.map encP)), none, none, none, none]) = _
  rw [seq_nx rfl s1, seq_nx (s := sq2 b_in_order) rfl hl, h2]
  simp only [b_in_order, sq2, x_lc, x_gl, x_cst, x_bin, x_neg, x_cmp, x_chn, x_cmpR, x_and, x_or, x_not, x_ite, x_tup, x_lst, x_sub, x_subB, x_slc, x_no, x_yes, x_rev, x_callF, x_callIO, x_callB, x_callBB, x_isi, x_nil, x_cons, x_star, x_sE, x_sEn, x_sZp, x_sR1, y_skip, y_seq, y_asgN, y_asgT, y_par, y_par3, y_ife, y_ret, y_retS, y_exp, y_app, y_set, y_for, evT, asg_nm, asg_t, asgs_n, asgs_c, fr_0, fr_s, fo_n, fo_s, ↓reduceIte, List.map_cons, List.map_nil, List.replicate, Nat.sub_self, Nat.reduceSub, List.append_nil, List.cons_append, List.nil_append, readAt, viewAt, ownAt, hasAt, Option.bind_some, Option.bind_none, List.getElem?_cons_zero, List.getElem?_cons_succ, List.set_cons_zero, List.set_cons_succ, Bool.false_eq_true, Bool.not_false, Bool.not_true, b_ok, o_some, f_int, f_tup, f_lst, f_bl, f_non, f_own, fs_nil, fs_cons, pn_int, pn_tup, pn_lst, pn_bl, pn_non, pn_own, tr_bl, t0, t1, t2, add_, sub_, lt_, le_, gt_, ge_, Option.map_some, List.length_cons, List.length_nil, ln0, ln1, ln2, ln3, itemsOf, eq_int, ne_int, retC, outR, f_P, pn_P, f_3, pn_3, f_W, pn_W, f_Ws, pn_Ws, frzs_P, frzs_3]
theorem cnt_S {l : List Pl} {a b : Option D} {z : Pl} (hz : SmP 300 z) (hl : SmPs l) (hn : l.length ≤ line) :
    ev (callN tab gl (k + 1)) gl (.compB (.lc 4) (.nm 4) 1 (.callF i_law_is_ahead (.cons (.lc 4) (.cons (.lc 2) (.nil)))) [4]) [a, some (.own false (l.map encP)), some (encP z), b, none] =
      .ok (.own false ((l.filter (ahe · z)).map encP)) [a, some (.own false (l.map encP)), some (encP z), b, none] := by
  refine ev_filtB (enc := encP) (c := fun y => ahe y z) (w := [a, some .hid, some (encP z), b, none]) rfl (plains_P l) rfl rfl rfl (fun x hx => ?_) hn
  have q := s_law_is_ahead (k := k) (hl x hx) hz
  refine ⟨[a, some .hid, some (encP z), b, some (encP x)], ?_, rfl, rfl⟩
  by_cases hb : ahe x z = true
  · rw [if_pos hb]
    rw [hb] at q
    simp only [compF, x_lc, x_gl, x_cst, x_bin, x_neg, x_cmp, x_chn, x_cmpR, x_and, x_or, x_not, x_ite, x_tup, x_lst, x_sub, x_subB, x_slc, x_no, x_yes, x_rev, x_callF, x_callIO, x_callB, x_callBB, x_isi, x_nil, x_cons, x_star, x_sE, x_sEn, x_sZp, x_sR1, y_skip, y_seq, y_asgN, y_asgT, y_par, y_par3, y_ife, y_ret, y_retS, y_exp, y_app, y_set, y_for, evT, asg_nm, asg_t, asgs_n, asgs_c, fr_0, fr_s, fo_n, fo_s, ↓reduceIte, List.map_cons, List.map_nil, List.replicate, Nat.sub_self, Nat.reduceSub, List.append_nil, List.cons_append, List.nil_append, readAt, viewAt, ownAt, hasAt, Option.bind_some, Option.bind_none, List.getElem?_cons_zero, List.getElem?_cons_succ, List.set_cons_zero, List.set_cons_succ, Bool.false_eq_true, Bool.not_false, Bool.not_true, b_ok, o_some, f_int, f_tup, f_lst, f_bl, f_non, f_own, fs_nil, fs_cons, pn_int, pn_tup, pn_lst, pn_bl, pn_non, pn_own, tr_bl, t0, t1, t2, add_, sub_, lt_, le_, gt_, ge_, Option.map_some, List.length_cons, List.length_nil, ln0, ln1, ln2, ln3, itemsOf, eq_int, ne_int, retC, outR, f_P, pn_P, f_3, pn_3, f_W, pn_W, f_Ws, pn_Ws, frzs_P, frzs_3, pn_P, f_P, asg_nm, fr_0, fr_s, fo_n, q, R.noex]
  · rw [if_neg hb]
    rw [Bool.not_eq_true] at hb
    rw [hb] at q
    simp only [compF, x_lc, x_gl, x_cst, x_bin, x_neg, x_cmp, x_chn, x_cmpR, x_and, x_or, x_not, x_ite, x_tup, x_lst, x_sub, x_subB, x_slc, x_no, x_yes, x_rev, x_callF, x_callIO, x_callB, x_callBB, x_isi, x_nil, x_cons, x_star, x_sE, x_sEn, x_sZp, x_sR1, y_skip, y_seq, y_asgN, y_asgT, y_par, y_par3, y_ife, y_ret, y_retS, y_exp, y_app, y_set, y_for, evT, asg_nm, asg_t, asgs_n, asgs_c, fr_0, fr_s, fo_n, fo_s, ↓reduceIte, List.map_cons, List.map_nil, List.replicate, Nat.sub_self, Nat.reduceSub, List.append_nil, List.cons_append, List.nil_append, readAt, viewAt, ownAt, hasAt, Option.bind_some, Option.bind_none, List.getElem?_cons_zero, List.getElem?_cons_succ, List.set_cons_zero, List.set_cons_succ, Bool.false_eq_true, Bool.not_false, Bool.not_true, b_ok, o_some, f_int, f_tup, f_lst, f_bl, f_non, f_own, fs_nil, fs_cons, pn_int, pn_tup, pn_lst, pn_bl, pn_non, pn_own, tr_bl, t0, t1, t2, add_, sub_, lt_, le_, gt_, ge_, Option.map_some, List.length_cons, List.length_nil, ln0, ln1, ln2, ln3, itemsOf, eq_int, ne_int, retC, outR, f_P, pn_P, f_3, pn_3, f_W, pn_W, f_Ws, pn_Ws, frzs_P, frzs_3, pn_P, f_P, asg_nm, fr_0, fr_s, fo_n, q, R.noex]
/-- the body of _law_sorted -/
def bodyS : IS := .seq (.asg (.nm 3) (.callB .len (.cons (.compB (.lc 4) (.nm 4) 1 (.callF i_law_is_ahead (.cons (.lc 4) (.cons (.lc 2) (.nil)))) [4]) (.nil)))) (.ins 1 (.lc 3) (.lc 2))
theorem turn_S {l : List Pl} {a j2 j3 : Option D} {z : Pl} (f2 : freeO j2 = true) (f3 : freeO j3 = true) (hz : SmP 300 z) (hl : SmPs l) (hn : l.length < line) :
    ∃ j3', freeO j3' = true ∧ ((asg (.nm 2) (encP z) [a, some (.own false (l.map encP)), j2, j3, none]).bind fun _ e => evS (callN tab gl (k + 1)) gl bodyS e) = .ok .nx [a, some (.own false ((insC ahe l z).map encP)), some (encP z), j3', none] := by
  have key := cnt_S (k := k) (a := a) (b := j3) hz hl (Nat.le_of_lt hn)
  refine ⟨some (.int ((l.filter (ahe · z)).length : Int)), rfl, ?_⟩
  have hi : evS (callN tab gl (k + 1)) gl (.ins 1 (.lc 3) (.lc 2)) [a, some (.own false (l.map encP)), some (encP z), some (.int ((l.filter (ahe · z)).length : Int)), none] = .ok .nx [a, some (.own false ((l.map encP).take (l.filter (ahe · z)).length ++ [encP z] ++ (l.map encP).drop (l.filter (ahe · z)).length)), some (encP z), some (.int ((l.filter (ahe · z)).length : Int)), none] :=
      y_ins_ok (e1 := [a, some (.own false (l.map encP)), some (encP z), some (.int ((l.filter (ahe · z)).length : Int)), none]) (e2 := [a, some (.own false (l.map encP)), some (encP z), some (.int ((l.filter (ahe · z)).length : Int)), none]) rfl rfl rfl rfl (by rw [List.length_map]; exact List.length_filter_le _ _) (by rw [List.length_map]; exact hn)
  simp only [bodyS, insC, x_lc, x_gl, x_cst, x_bin, x_neg, x_cmp, x_chn, x_cmpR, x_and, x_or, x_not, x_ite, x_tup, x_lst, x_sub, x_subB, x_slc, x_no, x_yes, x_rev, x_callF, x_callIO, x_callB, x_callBB, x_isi, x_nil, x_cons, x_star, x_sE, x_sEn, x_sZp, x_sR1, y_skip, y_seq, y_asgN, y_asgT, y_par, y_par3, y_ife, y_ret, y_retS, y_exp, y_app, y_set, y_for, evT, asg_nm, asg_t, asgs_n, asgs_c, fr_0, fr_s, fo_n, fo_s, ↓reduceIte, List.map_cons, List.map_nil, List.replicate, Nat.sub_self, Nat.reduceSub, List.append_nil, List.cons_append, List.nil_append, readAt, viewAt, ownAt, hasAt, Option.bind_some, Option.bind_none, List.getElem?_cons_zero, List.getElem?_cons_succ, List.set_cons_zero, List.set_cons_succ, Bool.false_eq_true, Bool.not_false, Bool.not_true, b_ok, o_some, f_int, f_tup, f_lst, f_bl, f_non, f_own, fs_nil, fs_cons, pn_int, pn_tup, pn_lst, pn_bl, pn_non, pn_own, tr_bl, t0, t1, t2, add_, sub_, lt_, le_, gt_, ge_, Option.map_some, List.length_cons, List.length_nil, ln0, ln1, ln2, ln3, itemsOf, eq_int, ne_int, retC, outR, f_P, pn_P, f_3, pn_3, f_W, pn_W, f_Ws, pn_Ws, frzs_P, frzs_3, pn_P, f_P, asg_nm, fr_0, fr_s, fo_n, fo_s, f2, f3, key, frzs_P, len_l, List.length_map, hi, List.map_append, List.map_take, List.map_drop]
theorem cbb_t {xs : List D} {e : PD.Env} {cf : CallF} {a : Option D} (h : plains xs = true) : ev cf gl (.callBB .tuple 1) (a :: some (.own false xs) :: e) = .ok (.tup xs) (a :: some (.own false xs) :: e) := by
  rw [x_callBB]
  show R.op _ ((if plains xs = true then some (D.lst xs) else none).bind fun x => biD .tuple [x]) = _
  rw [if_pos h]
  rfl
theorem s_law_sorted {zs : List Pl} (hz : SmPs zs) (hn : zs.length < 10000) : callN tab gl (k + 2) i_law_sorted [.lst (zs.map encP)] = .ok (.tup ((zs.foldl (insC ahe) []).map encP)) none := by
  obtain ⟨e, h1, j2, j3, f2, f3, h2⟩ := forL_pre (enc := encP) (F := fun d e => (asg (.nm 2) d e).bind fun _ e => evS (callN tab gl (k + 1)) gl bodyS e)
    (I := fun pre e => ∃ j2 j3, freeO j2 = true ∧ freeO j3 = true ∧ e = [some (.lst (zs.map encP)), some (.own false ((pre.foldl (insC ahe) []).map encP)), j2, j3, none])
    zs [] _ ⟨none, none, rfl, rfl, rfl⟩ (fun pre x post e he ⟨a, b, fa, fb, hE⟩ => by
      have he : zs = pre ++ x :: post := he
      have hx : x ∈ zs := by rw [he]; simp
      have hlen : pre.length ≤ zs.length := by rw [he, List.length_append]; omega
      have hl2 := fold_len (f := insC ahe) (fun l z => Nat.le_of_eq insC_len) pre []
      have hln : line = 16777216 := rfl
      have hsm : SmPs (pre.foldl (insC ahe) []) := fun z hq => by
        rw [fold_mem (fun l z x => insC_mem)] at hq
        rcases hq with hq | hq
        · exact hz z (by rw [he]; exact List.mem_append_left _ hq)
        · cases hq
      obtain ⟨c, fc, t⟩ := turn_S (k := k) (a := some (.lst (zs.map encP))) fa fb (hz x hx) hsm (by rw [List.length_nil] at hl2; omega)
      refine ⟨_, by rw [hE]; exact t, some (encP x), c, rfl, fc, ?_⟩
      rw [List.foldl_append]
      rfl)
  have hs1 : evI (callN tab gl (k + 1)) gl (.sE (.lc 0)) [some (.lst (zs.map encP)), some (.own false []), none, none, none] = .ok (zs.map encP) [some (.lst (zs.map encP)), some (.own false []), none, none, none] := by
    simp only [x_lc, x_gl, x_cst, x_bin, x_neg, x_cmp, x_chn, x_cmpR, x_and, x_or, x_not, x_ite, x_tup, x_lst, x_sub, x_subB, x_slc, x_no, x_yes, x_rev, x_callF, x_callIO, x_callB, x_callBB, x_isi, x_nil, x_cons, x_star, x_sE, x_sEn, x_sZp, x_sR1, y_skip, y_seq, y_asgN, y_asgT, y_par, y_par3, y_ife, y_ret, y_retS, y_exp, y_app, y_set, y_for, evT, asg_nm, asg_t, asgs_n, asgs_c, fr_0, fr_s, fo_n, fo_s, ↓reduceIte, List.map_cons, List.map_nil, List.replicate, Nat.sub_self, Nat.reduceSub, List.append_nil, List.cons_append, List.nil_append, readAt, viewAt, ownAt, hasAt, Option.bind_some, Option.bind_none, List.getElem?_cons_zero, List.getElem?_cons_succ, List.set_cons_zero, List.set_cons_succ, Bool.false_eq_true, Bool.not_false, Bool.not_true, b_ok, o_some, f_int, f_tup, f_lst, f_bl, f_non, f_own, fs_nil, fs_cons, pn_int, pn_tup, pn_lst, pn_bl, pn_non, pn_own, tr_bl, t0, t1, t2, add_, sub_, lt_, le_, gt_, ge_, Option.map_some, List.length_cons, List.length_nil, ln0, ln1, ln2, ln3, itemsOf, eq_int, ne_int, retC, outR, f_P, pn_P, f_3, pn_3, f_W, pn_W, f_Ws, pn_Ws, frzs_P, frzs_3]
  have hl := y_for_ok hs1 h1
  rw [call_eq (fn := ⟨5, 1, false, b_law_sorted⟩) rfl rfl]
  have s1 : evS (callN tab gl (k + 1)) gl (sq1 b_law_sorted) [some (.lst (zs.map encP)), none, none, none, none] = .ok .nx [some (.lst (zs.map encP)), some (.own false []), none, none, none] := by
    simp only [b_law_sorted, sq1, x_lc, x_gl, x_cst, x_bin, x_neg, x_cmp, x_chn, x_cmpR, x_and, x_or, x_not, x_ite, x_tup, x_lst, x_sub, x_subB, x_slc, x_no, x_yes, x_rev, x_callF, x_callIO, x_callB, x_callBB, x_isi, x_nil, x_cons, x_star, x_sE, x_sEn, x_sZp, x_sR1, y_skip, y_seq, y_asgN, y_asgT, y_par, y_par3, y_ife, y_ret, y_retS, y_exp, y_app, y_set, y_for, evT, asg_nm, asg_t, asgs_n, asgs_c, fr_0, fr_s, fo_n, fo_s, ↓reduceIte, List.map_cons, List.map_nil, List.replicate, Nat.sub_self, Nat.reduceSub, List.append_nil, List.cons_append, List.nil_append, readAt, viewAt, ownAt, hasAt, Option.bind_some, Option.bind_none, List.getElem?_cons_zero, List.getElem?_cons_succ, List.set_cons_zero, List.set_cons_succ, Bool.false_eq_true, Bool.not_false, Bool.not_true, b_ok, o_some, f_int, f_tup, f_lst, f_bl, f_non, f_own, fs_nil, fs_cons, pn_int, pn_tup, pn_lst, pn_bl, pn_non, pn_own, tr_bl, t0, t1, t2, add_, sub_, lt_, le_, gt_, ge_, Option.map_some, List.length_cons, List.length_nil, ln0, ln1, ln2, ln3, itemsOf, eq_int, ne_int, retC, outR, f_P, pn_P, f_3, pn_3, f_W, pn_W, f_Ws, pn_Ws, frzs_P, frzs_3]
  show outR false (evS (callN tab gl (k + 1)) gl b_law_sorted [some (.lst (zs.map encP)), none, none, none, none]) = _
  rw [seq_nx rfl s1, seq_nx (s := sq2 b_law_sorted) rfl hl]
  rw [List.nil_append] at h2
  have hr := cbb_t (xs := ((zs).foldl (insC ahe) []).map encP) (e := [j2, j3, none]) (cf := callN tab gl (k + 1)) (a := some (.lst (zs.map encP))) (plains_P _)
  rw [h2]
  simp only [b_law_sorted, sq2, y_ret, hr, b_ok, outR, Bool.false_eq_true, if_false]
end
end K74

set_option Elab.async false
set_option linter.all false
set_option maxRecDepth 100000
namespace K74
open PySem PySem.Spec L2 PD
theorem addC_mem {ok : Pl → Bool} {l : List Pl} {o : Option Pl} {z : Pl} : z ∈ addC ok l o ↔ z ∈ l ∨ (o = some z ∧ ok z = true) := by
  unfold addC
  cases o with
  | none => simp
  | some y =>
    show z ∈ (if y ∈ l then l else if ok y = true then l ++ [y] else l) ↔ _
    by_cases h : y ∈ l
    · rw [if_pos h]
      constructor
      · exact .inl
      · rintro (h2 | ⟨h2, _⟩)
        · exact h2
        · cases h2; exact h
    · rw [if_neg h]
      by_cases ho : ok y = true
      · rw [if_pos ho, List.mem_append, List.mem_singleton]
        constructor
        · rintro (h2 | rfl)
          · exact .inl h2
          · exact .inr ⟨rfl, ho⟩
        · rintro (h2 | ⟨h2, _⟩)
          · exact .inl h2
          · cases h2; exact .inr rfl
      · rw [if_neg ho]
        constructor
        · exact .inl
        · rintro (h2 | ⟨h2, h3⟩)
          · exact h2
          · cases h2; exact absurd h3 ho
theorem inC_mem {ok : Pl → Bool} {g : H3} {z : Pl} : ∀ (hs : List H3) (l : List Pl), z ∈ inC ok g l hs ↔ z ∈ l ∨ ((∃ h ∈ hs, crs g h = some z) ∧ ok z = true)
  | [], l => by
    show z ∈ l ↔ _
    simp
  | h :: hs, l => by
    show z ∈ inC ok g (addC ok l (crs g h)) hs ↔ _
    rw [inC_mem hs, addC_mem]
    constructor
    · rintro ((h1 | ⟨h1, h2⟩) | ⟨⟨x, h1, h2⟩, h3⟩)
      · exact .inl h1
      · exact .inr ⟨⟨h, List.mem_cons_self, h1⟩, h2⟩
      · exact .inr ⟨⟨x, List.mem_cons_of_mem _ h1, h2⟩, h3⟩
    · rintro (h1 | ⟨⟨x, h1, h2⟩, h3⟩)
      · exact .inl (.inl h1)
      · rcases List.mem_cons.mp h1 with rfl | h1
        · exact .inl (.inr ⟨h2, h3⟩)
        · exact .inr ⟨⟨x, h1, h2⟩, h3⟩
theorem crs_self {g : H3} : crs g g = none := by
  unfold crs
  rw [if_pos (by rw [Int.mul_comm]; omega)]
theorem crs_comm (g h : H3) : crs g h = crs h g := by
  have low_neg : ∀ t u : Int, u ≠ 0 → low (-t) (-u) = low t u := by
    intro t u h0
    unfold low
    rw [Int.natAbs_neg, Int.natAbs_neg]
    by_cases h : u < 0
    · rw [if_pos h, if_neg (by omega)]
      rw [Int.one_mul, Int.one_mul, Int.neg_one_mul, Int.neg_one_mul]
    · rw [if_neg h, if_pos (by omega)]
      rw [Int.one_mul, Int.one_mul, Int.neg_one_mul, Int.neg_one_mul, Int.neg_neg, Int.neg_neg]
  obtain ⟨a, b, c⟩ := g
  obtain ⟨d, e, f⟩ := h
  unfold crs
  show (if a * e - b * d = 0 then none else some (Pl.mk (low (c * e - b * f) (a * e - b * d)).1 (low (c * e - b * f) (a * e - b * d)).2 (low (a * f - c * d) (a * e - b * d)).1 (low (a * f - c * d) (a * e - b * d)).2)) =
    (if d * b - e * a = 0 then none else some (Pl.mk (low (f * b - e * c) (d * b - e * a)).1 (low (f * b - e * c) (d * b - e * a)).2 (low (d * c - f * a) (d * b - e * a)).1 (low (d * c - f * a) (d * b - e * a)).2))
  have e1 : d * b - e * a = -(a * e - b * d) := by rw [Int.mul_comm d, Int.mul_comm e]; omega
  have e2 : f * b - e * c = -(c * e - b * f) := by rw [Int.mul_comm f, Int.mul_comm e]; omega
  have e3 : d * c - f * a = -(a * f - c * d) := by rw [Int.mul_comm d, Int.mul_comm f]; omega
  rw [e1, e2, e3]
  by_cases h : a * e - b * d = 0
  · rw [if_pos h, if_pos (by omega)]
  · rw [if_neg h, if_neg (by omega), low_neg _ _ h, low_neg _ _ h]
theorem outC_mem {ok : Pl → Bool} {z : Pl} : ∀ (hs : List H3) (l : List Pl), z ∈ outC ok l hs ↔ z ∈ l ∨ ((∃ g ∈ hs, ∃ h ∈ hs, crs g h = some z) ∧ ok z = true)
  | [], l => by
    show z ∈ l ↔ _
    simp
  | g :: hs, l => by
    show z ∈ outC ok (inC ok g l hs) hs ↔ _
    rw [outC_mem hs, inC_mem]
    constructor
    · rintro ((h1 | ⟨⟨x, h1, h2⟩, h3⟩) | ⟨⟨x, h1, y, h2, h4⟩, h3⟩)
      · exact .inl h1
      · exact .inr ⟨⟨g, List.mem_cons_self, x, List.mem_cons_of_mem _ h1, h2⟩, h3⟩
      · exact .inr ⟨⟨x, List.mem_cons_of_mem _ h1, y, List.mem_cons_of_mem _ h2, h4⟩, h3⟩
    · rintro (h1 | ⟨⟨x, h1, y, h2, h4⟩, h3⟩)
      · exact .inl (.inl h1)
      · rcases List.mem_cons.mp h1 with e1 | m1
        · rcases List.mem_cons.mp h2 with e2 | m2
          · rw [e1, e2, crs_self] at h4; cases h4
          · exact .inl (.inr ⟨⟨y, m2, by rw [← e1]; exact h4⟩, h3⟩)
        · rcases List.mem_cons.mp h2 with e2 | m2
          · exact .inl (.inr ⟨⟨x, m1, by rw [crs_comm, ← e2]; exact h4⟩, h3⟩)
          · exact .inr ⟨⟨x, m1, y, m2, h4⟩, h3⟩
theorem addC_nodup {ok : Pl → Bool} {l : List Pl} {o : Option Pl} (h : l.Nodup) : (addC ok l o).Nodup := by
  unfold addC
  cases o with
  | none => exact h
  | some y =>
    show (if y ∈ l then l else if ok y = true then l ++ [y] else l).Nodup
    split
    · exact h
    · rename_i hy
      split
      · rw [List.nodup_append]
        refine ⟨h, by simp, ?_⟩
        intro a ha b hb
        rw [List.mem_singleton.mp hb]
        rintro rfl
        exact hy ha
      · exact h
theorem inC_nodup {ok : Pl → Bool} {g : H3} : ∀ (hs : List H3) (l : List Pl), l.Nodup → (inC ok g l hs).Nodup
  | [], _, h => h
  | _ :: hs, _, h => inC_nodup hs _ (addC_nodup h)
theorem outC_nodup {ok : Pl → Bool} : ∀ (hs : List H3) (l : List Pl), l.Nodup → (outC ok l hs).Nodup
  | [], _, h => h
  | _ :: hs, _, h => outC_nodup hs _ (inC_nodup _ _ h)
theorem outC_len {ok : Pl → Bool} : ∀ (hs : List H3) (l : List Pl), hs.length ≤ 36 → (outC ok l hs).length ≤ l.length + 36 * hs.length
  | [], _, _ => Nat.le_refl _
  | g :: hs, l, h => by
    rw [List.length_cons] at h
    have h1 := outC_len (ok := ok) hs (inC ok g l hs) (by omega)
    have h2 := inC_len (ok := ok) (g := g) hs l
    show (outC ok (inC ok g l hs) hs).length ≤ _
    rw [List.length_cons]
    omega
def okH (W : List Wd) (z : Pl) : Bool := (allH W).all fun x => bel x z
/-- all corners, unsorted -/
def crn (W : List Wd) : List Pl := outC (okH W) [] (allH W)
theorem allH_len {W : List Wd} (h : OkWs W) : (allH W).length ≤ 36 := by
  unfold allH
  rw [List.length_map]
  exact allN_len h
theorem allH_eq (W : List Wd) : allH W = W.flatMap hv := by
  have e : ∀ (l : List Wd) (n : Nat), ((l.zipIdx n).flatMap hN).map (fun t => t.2.2) = l.flatMap hv := by
    intro l
    induction l with
    | nil => intro n; rfl
    | cons w l ih =>
      intro n
      rw [List.zipIdx_cons, List.flatMap_cons, List.map_append, ih, List.flatMap_cons]
      congr 1
      unfold hN
      rw [List.map_map]
      show ((hv w).zipIdx.map fun q => q.1) = hv w
      exact List.zipIdx_map_fst 0 (hv w)
  exact e W 0
theorem allH_sm {W : List Wd} (h : OkWs W) : ∀ x ∈ allH W, Sm3 130 x := by
  intro x hx
  rw [allH_eq, List.mem_flatMap] at hx
  obtain ⟨w, hw, hx⟩ := hx
  exact hv_sm (h.ok w hw).sm x hx
theorem crn_len {W : List Wd} (h : OkWs W) : (crn W).length ≤ 1296 := by
  have h1 := allH_len h
  have h2 := outC_len (ok := okH W) (allH W) [] h1
  unfold crn
  rw [List.length_nil] at h2
  omega
theorem crn_sm {W : List Wd} (h : OkWs W) : SmPs (crn W) := by
  intro z hz
  unfold crn at hz
  rw [outC_mem] at hz
  rcases hz with hz | ⟨⟨x, h1, y, h2, h3⟩, _⟩
  · cases hz
  · exact crs_sm (allH_sm h x h1) (allH_sm h y h2) h3
section
variable {k n : Nat}
theorem s_crossings_of {W : List Wd} (h : OkWs W) : callN tab gl (k + 5) i_crossings_of [encWs W] = .ok (.own false (((crn W).foldl (insU bef) []).map encP)) none := by
  have q1 := crs_1 (k := k) h
  obtain ⟨j3, j4, j5, j6, q2⟩ := outer_C (k := k + 2) (W := W) (hs := allH W) (allH_sm h) (allH_len h)
  have q3 := s_in_order (k := k + 2) (zs := crn W) (crn_sm h) (Nat.lt_of_le_of_lt (crn_len h) (by decide))
  have e0 := enumD_map (enc := enc3) (allH W) 0
  have hs1 : evI (callN tab gl (k + 4)) gl (.sEn (.lc 1)) [some (encWs W), some (.own false ((allH W).map enc3)), some (.own false []), none, none, none, none, none, none] = .ok ((allH W).zipIdx.map fun p => .tup [.int (p.2 : Int), enc3 p.1]) [some (encWs W), some (.lst ((allH W).map enc3)), some (.own false []), none, none, none, none, none, none] := by
    simp only [x_lc, x_gl, x_cst, x_bin, x_neg, x_cmp, x_chn, x_cmpR, x_and, x_or, x_not, x_ite, x_tup, x_lst, x_sub, x_subB, x_slc, x_no, x_yes, x_rev, x_callF, x_callIO, x_callB, x_callBB, x_isi, x_nil, x_cons, x_star, x_sE, x_sEn, x_sZp, x_sR1, y_skip, y_seq, y_asgN, y_asgT, y_par, y_par3, y_ife, y_ret, y_retS, y_exp, y_app, y_set, y_for, evT, asg_nm, asg_t, asgs_n, asgs_c, fr_0, fr_s, fo_n, fo_s, ↓reduceIte, List.map_cons, List.map_nil, List.replicate, Nat.sub_self, Nat.reduceSub, List.append_nil, List.cons_append, List.nil_append, readAt, viewAt, ownAt, hasAt, Option.bind_some, Option.bind_none, List.getElem?_cons_zero, List.getElem?_cons_succ, List.set_cons_zero, List.set_cons_succ, Bool.false_eq_true, Bool.not_false, Bool.not_true, b_ok, o_some, f_int, f_tup, f_lst, f_bl, f_non, f_own, fs_nil, fs_cons, pn_int, pn_tup, pn_lst, pn_bl, pn_non, pn_own, tr_bl, t0, t1, t2, add_, sub_, lt_, le_, gt_, ge_, Option.map_some, List.length_cons, List.length_nil, ln0, ln1, ln2, ln3, itemsOf, eq_int, ne_int, retC, outR, f_P, pn_P, f_3, pn_3, f_W, pn_W, f_Ws, pn_Ws, frzs_P, frzs_3, frzs_3]
    rw [← e0]
    rfl
  have q4 := y_for_ok hs1 q2
  rw [call_eq (fn := ⟨9, 1, false, b_crossings_of⟩) rfl rfl]
  show outR false (evS (callN tab gl (k + 4)) gl b_crossings_of [some (encWs W), none, none, none, none, none, none, none, none]) = _
  have s2 : evS (callN tab gl (k + 4)) gl (sq1 (sq2 b_crossings_of)) [some (encWs W), some (.own false ((allH W).map enc3)), none, none, none, none, none, none, none] = .ok .nx [some (encWs W), some (.own false ((allH W).map enc3)), some (.own false []), none, none, none, none, none, none] := by
    simp only [b_crossings_of, sq1, sq2, x_lc, x_gl, x_cst, x_bin, x_neg, x_cmp, x_chn, x_cmpR, x_and, x_or, x_not, x_ite, x_tup, x_lst, x_sub, x_subB, x_slc, x_no, x_yes, x_rev, x_callF, x_callIO, x_callB, x_callBB, x_isi, x_nil, x_cons, x_star, x_sE, x_sEn, x_sZp, x_sR1, y_skip, y_seq, y_asgN, y_asgT, y_par, y_par3, y_ife, y_ret, y_retS, y_exp, y_app, y_set, y_for, evT, asg_nm, asg_t, asgs_n, asgs_c, fr_0, fr_s, fo_n, fo_s, ↓reduceIte, List.map_cons, List.map_nil, List.replicate, Nat.sub_self, Nat.reduceSub, List.append_nil, List.cons_append, List.nil_append, readAt, viewAt, ownAt, hasAt, Option.bind_some, Option.bind_none, List.getElem?_cons_zero, List.getElem?_cons_succ, List.set_cons_zero, List.set_cons_succ, Bool.false_eq_true, Bool.not_false, Bool.not_true, b_ok, o_some, f_int, f_tup, f_lst, f_bl, f_non, f_own, fs_nil, fs_cons, pn_int, pn_tup, pn_lst, pn_bl, pn_non, pn_own, tr_bl, t0, t1, t2, add_, sub_, lt_, le_, gt_, ge_, Option.map_some, List.length_cons, List.length_nil, ln0, ln1, ln2, ln3, itemsOf, eq_int, ne_int, retC, outR, f_P, pn_P, f_3, pn_3, f_W, pn_W, f_Ws, pn_Ws, frzs_P, frzs_3]
  rw [seq_nx rfl q1, seq_nx (s := sq2 b_crossings_of) rfl s2, seq_nx (s := sq2 (sq2 b_crossings_of)) rfl q4]
  have q5 : callN tab gl (k + 4) 16 [.lst ((outC (fun z => (allH W).all fun x => bel x z) [] (allH W)).map encP)] = .ok (.own false (((crn W).foldl (insU bef) []).map encP)) none := q3
  simp only [b_crossings_of, sq2, x_lc, x_gl, x_cst, x_bin, x_neg, x_cmp, x_chn, x_cmpR, x_and, x_or, x_not, x_ite, x_tup, x_lst, x_sub, x_subB, x_slc, x_no, x_yes, x_rev, x_callF, x_callIO, x_callB, x_callBB, x_isi, x_nil, x_cons, x_star, x_sE, x_sEn, x_sZp, x_sR1, y_skip, y_seq, y_asgN, y_asgT, y_par, y_par3, y_ife, y_ret, y_retS, y_exp, y_app, y_set, y_for, evT, asg_nm, asg_t, asgs_n, asgs_c, fr_0, fr_s, fo_n, fo_s, ↓reduceIte, List.map_cons, List.map_nil, List.replicate, Nat.sub_self, Nat.reduceSub, List.append_nil, List.cons_append, List.nil_append, readAt, viewAt, ownAt, hasAt, Option.bind_some, Option.bind_none, List.getElem?_cons_zero, List.getElem?_cons_succ, List.set_cons_zero, List.set_cons_succ, Bool.false_eq_true, Bool.not_false, Bool.not_true, b_ok, o_some, f_int, f_tup, f_lst, f_bl, f_non, f_own, fs_nil, fs_cons, pn_int, pn_tup, pn_lst, pn_bl, pn_non, pn_own, tr_bl, t0, t1, t2, add_, sub_, lt_, le_, gt_, ge_, Option.map_some, List.length_cons, List.length_nil, ln0, ln1, ln2, ln3, itemsOf, eq_int, ne_int, retC, outR, f_P, pn_P, f_3, pn_3, f_W, pn_W, f_Ws, pn_Ws, frzs_P, frzs_3, frzs_P, q5]
def srt (W : List Wd) : List Pl := (crn W).foldl (insU bef) []
theorem tup_l {xs : List D} : biD .tuple [.lst xs] = some (.tup xs) := rfl
theorem s_corners {W : List Wd} (h : OkWs W) : callN tab gl (k + 6) i_corners [encWs W] = .ok (.tup ((srt W).map encP)) none := by
  have q1 := s_require_wedges (k := k) h
  have q2 := s_crossings_of (k := k) h
  rw [call_eq (fn := ⟨1, 1, false, b_corners⟩) rfl rfl]
  simp only [b_corners, x_lc, x_gl, x_cst, x_bin, x_neg, x_cmp, x_chn, x_cmpR, x_and, x_or, x_not, x_ite, x_tup, x_lst, x_sub, x_subB, x_slc, x_no, x_yes, x_rev, x_callF, x_callIO, x_callB, x_callBB, x_isi, x_nil, x_cons, x_star, x_sE, x_sEn, x_sZp, x_sR1, y_skip, y_seq, y_asgN, y_asgT, y_par, y_par3, y_ife, y_ret, y_retS, y_exp, y_app, y_set, y_for, evT, asg_nm, asg_t, asgs_n, asgs_c, fr_0, fr_s, fo_n, fo_s, ↓reduceIte, List.map_cons, List.map_nil, List.replicate, Nat.sub_self, Nat.reduceSub, List.append_nil, List.cons_append, List.nil_append, readAt, viewAt, ownAt, hasAt, Option.bind_some, Option.bind_none, List.getElem?_cons_zero, List.getElem?_cons_succ, List.set_cons_zero, List.set_cons_succ, Bool.false_eq_true, Bool.not_false, Bool.not_true, b_ok, o_some, f_int, f_tup, f_lst, f_bl, f_non, f_own, fs_nil, fs_cons, pn_int, pn_tup, pn_lst, pn_bl, pn_non, pn_own, tr_bl, t0, t1, t2, add_, sub_, lt_, le_, gt_, ge_, Option.map_some, List.length_cons, List.length_nil, ln0, ln1, ln2, ln3, itemsOf, eq_int, ne_int, retC, outR, f_P, pn_P, f_3, pn_3, f_W, pn_W, f_Ws, pn_Ws, frzs_P, frzs_3, pn_Ws, f_Ws, q1, q2, frzs_P, tup_l, srt]
end
end K74

set_option Elab.async false
set_option linter.all false
set_option maxRecDepth 100000
namespace K74
open PySem PySem.Spec L2 PD PyProof.Rows
theorem frzs_own3 : ∀ l : List Wd, D.frzs (l.map fun w => D.own false ((hv w).map enc3)) = l.map fun w => D.lst ((hv w).map enc3)
  | [] => rfl
  | w :: l => by
    show D.frz (.own false ((hv w).map enc3)) :: D.frzs (l.map _) = _
    rw [frzs_own3 l, f_own, frzs_3]
    rfl
theorem lists_3 : ∀ l : List Wd, listsOf (l.map fun w => D.lst ((hv w).map enc3)) = some (l.map fun w => (hv w).map enc3)
  | [] => rfl
  | w :: l => by
    simp only [List.map_cons, listsOf, lists_3 l, Option.map_some]
theorem flat_3 (W : List Wd) : (W.map fun w => (hv w).map enc3).flatten = (allH W).map enc3 := by
  rw [allH_eq, ← List.flatMap_def, List.map_flatMap]
theorem list_t {xs : List D} : biD .list [.tup xs] = some (.own false xs) := rfl
theorem it_Ws {W : List Wd} : itemsOf (encWs W) = some (W.map encW) := rfl
theorem frzs_1 {α : Type} : ∀ m : List α, D.frzs (m.map fun _ => D.int 1) = m.map fun _ => D.int 1
  | [] => rfl
  | w :: l => by
    show D.frz (.int 1) :: D.frzs (l.map _) = _
    rw [frzs_1 l]
    rfl
theorem lay_1 {α : Type} : ∀ l : List α, PyData.canLayAll0 (D.pys (l.map fun _ => D.int 1)) = true
  | [] => by rfl
  | z :: l => by
    rw [List.map_cons]
    simp only [D.pys, PyData.canLayAll0]
    rw [lay_1 l]
    rfl
theorem dep_1 {α : Type} : ∀ l : List α, PyData.depthAll (D.pys (l.map fun _ => D.int 1)) ≤ 2
  | [] => by simp only [List.map_nil, D.pys, PyData.depthAll]; omega
  | z :: l => by
    rw [List.map_cons]
    simp only [D.pys, PyData.depthAll]
    have : (D.int 1).py.depth = 0 := by rfl
    have := dep_1 l
    omega
theorem eq_ones {α : Type} {m : List α} : cmpD .Eq (.lst (m.map fun _ => D.int 1)) (.lst []) = some m.isEmpty := by
  have h1 : shapedD (.lst (m.map fun _ => D.int 1)) = true := by
    show ((PyData.list (D.pys (m.map fun _ => D.int 1))).canLay0 && decide ((PyData.list (D.pys (m.map fun _ => D.int 1))).depth ≤ 64)) = true
    have h1 := lay_1 m
    have h2 := dep_1 m
    rw [Bool.and_eq_true]
    refine ⟨by simp only [PyData.canLay0]; exact h1, decide_eq_true ?_⟩
    simp only [PyData.depth]
    omega
  show (if shapedD (.lst (m.map fun _ => D.int 1)) = true ∧ shapedD (.lst []) = true then some (PyData.eqv (D.lst (m.map fun _ => D.int 1)).py (D.lst []).py) else none) = _
  rw [if_pos ⟨h1, by rfl⟩]
  cases m <;> rfl
theorem ne_ones {α : Type} {m : List α} : cmpD .NotEq (.lst (m.map fun _ => D.int 1)) (.lst []) = some !m.isEmpty := by
  have h1 : shapedD (.lst (m.map fun _ => D.int 1)) = true := by
    show ((PyData.list (D.pys (m.map fun _ => D.int 1))).canLay0 && decide ((PyData.list (D.pys (m.map fun _ => D.int 1))).depth ≤ 64)) = true
    have h1 := lay_1 m
    have h2 := dep_1 m
    rw [Bool.and_eq_true]
    refine ⟨by simp only [PyData.canLay0]; exact h1, decide_eq_true ?_⟩
    simp only [PyData.depth]
    omega
  show (if shapedD (.lst (m.map fun _ => D.int 1)) = true ∧ shapedD (.lst []) = true then some (!PyData.eqv (D.lst (m.map fun _ => D.int 1)).py (D.lst []).py) else none) = _
  rw [if_pos ⟨h1, by rfl⟩]
  cases m <;> rfl
theorem flat_ones {α : Type} {c : α → Bool} : ∀ l : List α, l.flatMap (fun x => if c x then [D.int 1] else []) = (l.filter c).map fun _ => D.int 1
  | [] => rfl
  | x :: l => by
    rw [List.flatMap_cons, flat_ones l, List.filter_cons]
    by_cases hc : c x = true
    · rw [if_pos hc, if_pos hc]; rfl
    · rw [if_neg hc, if_neg hc]; rfl
section
variable {k n : Nat}
theorem s_law_all_planes {W : List Wd} (h : OkWs W) : callN tab gl (k + 3) i_law_all_planes [encWs W] = .ok (.own false ((allH W).map enc3)) none := by
  have key : ev (callN tab gl (k + 2)) gl (.comp (.callB .list (.cons (.callF i_law_planes (.cons (.lc 1) (.nil))) (.nil))) (.nm 1) (.sE (.lc 0)) (.yes) [1]) [some (encWs W), none] = .ok (.own false (W.map fun w => D.own false ((hv w).map enc3))) [some (encWs W), none] := by
    refine ev_map (enc := encW) (l := W) (f := fun w => D.own false ((hv w).map enc3)) (e1 := [some (encWs W), none]) rfl rfl (fun w hw => ?_) h.line
    have hs := (h.ok w hw).sm
    have hq := s_law_planes (k := k) (w := w) ⟨hs.p.mono (by decide), hs.q.mono (by decide), hs.a.mono (by decide), hs.b.mono (by decide), hs.c.mono (by decide), hs.d.mono (by decide)⟩
    refine ⟨[some (encWs W), some (encW w)], ?_, rfl, rfl⟩
    simp only [compF, wipeE, x_lc, x_gl, x_cst, x_bin, x_neg, x_cmp, x_chn, x_cmpR, x_and, x_or, x_not, x_ite, x_tup, x_lst, x_sub, x_subB, x_slc, x_no, x_yes, x_rev, x_callF, x_callIO, x_callB, x_callBB, x_isi, x_nil, x_cons, x_star, x_sE, x_sEn, x_sZp, x_sR1, y_skip, y_seq, y_asgN, y_asgT, y_par, y_par3, y_ife, y_ret, y_retS, y_exp, y_app, y_set, y_for, evT, asg_nm, asg_t, asgs_n, asgs_c, fr_0, fr_s, fo_n, fo_s, ↓reduceIte, List.map_cons, List.map_nil, List.replicate, Nat.sub_self, Nat.reduceSub, List.append_nil, List.cons_append, List.nil_append, readAt, viewAt, ownAt, hasAt, Option.bind_some, Option.bind_none, List.getElem?_cons_zero, List.getElem?_cons_succ, List.set_cons_zero, List.set_cons_succ, Bool.false_eq_true, Bool.not_false, Bool.not_true, b_ok, o_some, f_int, f_tup, f_lst, f_bl, f_non, f_own, fs_nil, fs_cons, pn_int, pn_tup, pn_lst, pn_bl, pn_non, pn_own, tr_bl, t0, t1, t2, add_, sub_, lt_, le_, gt_, ge_, Option.map_some, List.length_cons, List.length_nil, ln0, ln1, ln2, ln3, itemsOf, eq_int, ne_int, retC, outR, f_P, pn_P, f_3, pn_3, f_W, pn_W, f_Ws, pn_Ws, frzs_P, frzs_3, pn_W, f_W, hq, list_t, R.noex]
  have hln : (W.map fun w => (hv w).map enc3) ≠ [] ∧ (W.map fun w => (hv w).map enc3).flatten.length ≤ line := by
    refine ⟨fun hc => ?_, ?_⟩
    · have := congrArg List.length hc
      rw [List.length_map, List.length_nil] at this
      have := h.lo
      omega
    · rw [flat_3, List.length_map]
      exact Nat.le_trans (allH_len h) (by decide)
  have hsum : biD .sumL [.lst (W.map fun w => D.lst ((hv w).map enc3)), .lst []] = some (.own false ((allH W).map enc3)) := by
    show ((listsOf (W.map fun w => D.lst ((hv w).map enc3))).bind fun xss => if xss ≠ [] ∧ xss.flatten.length ≤ line then some (D.own false xss.flatten) else none) = _
    rw [lists_3, Option.bind_some, if_pos hln, flat_3]
  rw [call_eq (fn := ⟨2, 1, false, b_law_all_planes⟩) rfl rfl]
  simp only [b_law_all_planes, x_lc, x_gl, x_cst, x_bin, x_neg, x_cmp, x_chn, x_cmpR, x_and, x_or, x_not, x_ite, x_tup, x_lst, x_sub, x_subB, x_slc, x_no, x_yes, x_rev, x_callF, x_callIO, x_callB, x_callBB, x_isi, x_nil, x_cons, x_star, x_sE, x_sEn, x_sZp, x_sR1, y_skip, y_seq, y_asgN, y_asgT, y_par, y_par3, y_ife, y_ret, y_retS, y_exp, y_app, y_set, y_for, evT, asg_nm, asg_t, asgs_n, asgs_c, fr_0, fr_s, fo_n, fo_s, ↓reduceIte, List.map_cons, List.map_nil, List.replicate, Nat.sub_self, Nat.reduceSub, List.append_nil, List.cons_append, List.nil_append, readAt, viewAt, ownAt, hasAt, Option.bind_some, Option.bind_none, List.getElem?_cons_zero, List.getElem?_cons_succ, List.set_cons_zero, List.set_cons_succ, Bool.false_eq_true, Bool.not_false, Bool.not_true, b_ok, o_some, f_int, f_tup, f_lst, f_bl, f_non, f_own, fs_nil, fs_cons, pn_int, pn_tup, pn_lst, pn_bl, pn_non, pn_own, tr_bl, t0, t1, t2, add_, sub_, lt_, le_, gt_, ge_, Option.map_some, List.length_cons, List.length_nil, ln0, ln1, ln2, ln3, itemsOf, eq_int, ne_int, retC, outR, f_P, pn_P, f_3, pn_3, f_W, pn_W, f_Ws, pn_Ws, frzs_P, frzs_3, key, frzs_own3, hsum]
def okL (W : List Wd) (z : Pl) : Bool := W.all fun w => dh w z
theorem emp_all {α : Type} {c : α → Bool} : ∀ l : List α, (l.filter fun x => !c x).isEmpty = l.all c
  | [] => rfl
  | x :: l => by
    rw [List.filter_cons, List.all_cons]
    by_cases h : c x = true
    · rw [h]
      exact emp_all l
    · rw [Bool.not_eq_true] at h
      rw [h]
      rfl
/-- the body of the inner loop -/
def bodyL : IS := .seq (.asg (.nm 6) (.callF i_law_crossing (.cons (.lc 4) (.cons (.lc 5) (.nil))))) (.ife (.and_ (.cmp .IsNot (.lc 6) (.cst .non)) (.and_ (.cmpR .NotIn (.lc 6) 2) (.cmp .Eq (.comp (.cst (.int 1)) (.nm 7) (.sE (.lc 0)) (.not_ (.callF i_law_does_hold (.cons (.lc 7) (.cons (.lc 6) (.nil))))) [7]) (.lst (.nil))))) (.app 2 (.lc 6)) (.skip))
theorem all_L {W : List Wd} {hs : List H3} {found : List Pl} {a b c : Option D} {z : Pl} (hW : OkWs W) (hz : SmP 300 z) :
    ev (callN tab gl (k + 2)) gl (.comp (.cst (.int 1)) (.nm 7) (.sE (.lc 0)) (.not_ (.callF i_law_does_hold (.cons (.lc 7) (.cons (.lc 6) (.nil))))) [7]) [some (encWs W), some (.lst (hs.map enc3)), some (.own false (found.map encP)), a, b, c, some (encP z), none] =
      .ok (.own false ((W.filter fun w => !dh w z).map fun _ => .int 1)) [some (encWs W), some (.lst (hs.map enc3)), some (.own false (found.map encP)), a, b, c, some (encP z), none] := by
  have hs1 : evI (callN tab gl (k + 2)) gl (.sE (.lc 0)) [some (encWs W), some (.lst (hs.map enc3)), some (.own false (found.map encP)), a, b, c, some (encP z), none] = .ok (W.map encW) [some (encWs W), some (.lst (hs.map enc3)), some (.own false (found.map encP)), a, b, c, some (encP z), none] := by
    rfl
  rw [← flat_ones (c := fun w => !dh w z)]
  refine ev_comp (enc := encW) (g := fun w => if !dh w z then [D.int 1] else []) (l := W) hs1 rfl (fun x hx => ?_) ?_
  · have q := s_law_does_hold (k := k) (w := x) (z := z) (hW.ok x hx).sm hz
    refine ⟨[some (encWs W), some (.lst (hs.map enc3)), some (.own false (found.map encP)), a, b, c, some (encP z), some (encW x)], ?_, rfl, rfl⟩
    by_cases hd : dh x z = true
    · rw [hd] at q
      simp only [compF, wipeE, x_lc, x_gl, x_cst, x_bin, x_neg, x_cmp, x_chn, x_cmpR, x_and, x_or, x_not, x_ite, x_tup, x_lst, x_sub, x_subB, x_slc, x_no, x_yes, x_rev, x_callF, x_callIO, x_callB, x_callBB, x_isi, x_nil, x_cons, x_star, x_sE, x_sEn, x_sZp, x_sR1, y_skip, y_seq, y_asgN, y_asgT, y_par, y_par3, y_ife, y_ret, y_retS, y_exp, y_app, y_set, y_for, evT, asg_nm, asg_t, asgs_n, asgs_c, fr_0, fr_s, fo_n, fo_s, ↓reduceIte, List.map_cons, List.map_nil, List.replicate, Nat.sub_self, Nat.reduceSub, List.append_nil, List.cons_append, List.nil_append, readAt, viewAt, ownAt, hasAt, Option.bind_some, Option.bind_none, List.getElem?_cons_zero, List.getElem?_cons_succ, List.set_cons_zero, List.set_cons_succ, Bool.false_eq_true, Bool.not_false, Bool.not_true, b_ok, o_some, f_int, f_tup, f_lst, f_bl, f_non, f_own, fs_nil, fs_cons, pn_int, pn_tup, pn_lst, pn_bl, pn_non, pn_own, tr_bl, t0, t1, t2, add_, sub_, lt_, le_, gt_, ge_, Option.map_some, List.length_cons, List.length_nil, ln0, ln1, ln2, ln3, itemsOf, eq_int, ne_int, retC, outR, f_P, pn_P, f_3, pn_3, f_W, pn_W, f_Ws, pn_Ws, frzs_P, frzs_3, pn_P, f_P, pn_W, f_W, q, R.noex, hd]
    · rw [Bool.not_eq_true] at hd
      rw [hd] at q
      simp only [compF, wipeE, x_lc, x_gl, x_cst, x_bin, x_neg, x_cmp, x_chn, x_cmpR, x_and, x_or, x_not, x_ite, x_tup, x_lst, x_sub, x_subB, x_slc, x_no, x_yes, x_rev, x_callF, x_callIO, x_callB, x_callBB, x_isi, x_nil, x_cons, x_star, x_sE, x_sEn, x_sZp, x_sR1, y_skip, y_seq, y_asgN, y_asgT, y_par, y_par3, y_ife, y_ret, y_retS, y_exp, y_app, y_set, y_for, evT, asg_nm, asg_t, asgs_n, asgs_c, fr_0, fr_s, fo_n, fo_s, ↓reduceIte, List.map_cons, List.map_nil, List.replicate, Nat.sub_self, Nat.reduceSub, List.append_nil, List.cons_append, List.nil_append, readAt, viewAt, ownAt, hasAt, Option.bind_some, Option.bind_none, List.getElem?_cons_zero, List.getElem?_cons_succ, List.set_cons_zero, List.set_cons_succ, Bool.false_eq_true, Bool.not_false, Bool.not_true, b_ok, o_some, f_int, f_tup, f_lst, f_bl, f_non, f_own, fs_nil, fs_cons, pn_int, pn_tup, pn_lst, pn_bl, pn_non, pn_own, tr_bl, t0, t1, t2, add_, sub_, lt_, le_, gt_, ge_, Option.map_some, List.length_cons, List.length_nil, ln0, ln1, ln2, ln3, itemsOf, eq_int, ne_int, retC, outR, f_P, pn_P, f_3, pn_3, f_W, pn_W, f_Ws, pn_Ws, frzs_P, frzs_3, pn_P, f_P, pn_W, f_W, q, R.noex, hd]
  · rw [flat_ones, List.length_map]
    exact Nat.le_trans (List.length_filter_le _ _) hW.line
theorem turn_L {W : List Wd} {hs : List H3} {found : List Pl} {at_ : Int} {g h : H3} {j5 j6 : Option D} (hW : OkWs W) (f5 : freeO j5 = true) (f6 : freeO j6 = true) (hg : Sm3 130 g) (hh : Sm3 130 h) (hf : found.length < 10000) :
    ((asg (.nm 5) (enc3 h) [some (encWs W), some (.lst (hs.map enc3)), some (.own false (found.map encP)), some (.int at_), some (enc3 g), j5, j6, none]).bind fun _ e => evS (callN tab gl (k + 2)) gl bodyL e) =
      .ok .nx [some (encWs W), some (.lst (hs.map enc3)), some (.own false ((addC (okL W) found (crs g h)).map encP)), some (.int at_), some (enc3 g), some (enc3 h), some (encO (crs g h)), none] := by
  have q1 := s_law_crossing (k := k) (g := g) (h := h) ⟨hg.a.mono (by decide), hg.b.mono (by decide), hg.c.mono (by decide)⟩ ⟨hh.a.mono (by decide), hh.b.mono (by decide), hh.c.mono (by decide)⟩
  have hln : (found.map encP).length < line := by rw [List.length_map]; exact Nat.lt_trans hf (by decide)
  cases hc : crs g h with
  | none =>
    rw [hc] at q1
    simp only [encO] at q1
    simp only [bodyL, encO, addC, x_lc, x_gl, x_cst, x_bin, x_neg, x_cmp, x_chn, x_cmpR, x_and, x_or, x_not, x_ite, x_tup, x_lst, x_sub, x_subB, x_slc, x_no, x_yes, x_rev, x_callF, x_callIO, x_callB, x_callBB, x_isi, x_nil, x_cons, x_star, x_sE, x_sEn, x_sZp, x_sR1, y_skip, y_seq, y_asgN, y_asgT, y_par, y_par3, y_ife, y_ret, y_retS, y_exp, y_app, y_set, y_for, evT, asg_nm, asg_t, asgs_n, asgs_c, fr_0, fr_s, fo_n, fo_s, ↓reduceIte, List.map_cons, List.map_nil, List.replicate, Nat.sub_self, Nat.reduceSub, List.append_nil, List.cons_append, List.nil_append, readAt, viewAt, ownAt, hasAt, Option.bind_some, Option.bind_none, List.getElem?_cons_zero, List.getElem?_cons_succ, List.set_cons_zero, List.set_cons_succ, Bool.false_eq_true, Bool.not_false, Bool.not_true, b_ok, o_some, f_int, f_tup, f_lst, f_bl, f_non, f_own, fs_nil, fs_cons, pn_int, pn_tup, pn_lst, pn_bl, pn_non, pn_own, tr_bl, t0, t1, t2, add_, sub_, lt_, le_, gt_, ge_, Option.map_some, List.length_cons, List.length_nil, ln0, ln1, ln2, ln3, itemsOf, eq_int, ne_int, retC, outR, f_P, pn_P, f_3, pn_3, f_W, pn_W, f_Ws, pn_Ws, frzs_P, frzs_3, asg_nm, fr_0, fr_s, fo_n, fo_s, f5, f6, pn_3, f_3, q1, isn_non]
  | some z =>
    rw [hc] at q1
    simp only [encO] at q1
    have hz := crs_sm hg hh hc
    have key := all_L (k := k) (W := W) (hs := hs) (found := found) (a := some (.int at_)) (b := some (enc3 g)) (c := some (enc3 h)) hW hz
    have he : (W.filter fun w => !dh w z).isEmpty = okL W z := emp_all W
    by_cases hm : z ∈ found
    · have hn : cmpD .NotIn (encP z) (.lst (found.map encP)) = some false := by rw [notin_P, decide_eq_true hm]; rfl
      simp only [bodyL, encO, addC, x_lc, x_gl, x_cst, x_bin, x_neg, x_cmp, x_chn, x_cmpR, x_and, x_or, x_not, x_ite, x_tup, x_lst, x_sub, x_subB, x_slc, x_no, x_yes, x_rev, x_callF, x_callIO, x_callB, x_callBB, x_isi, x_nil, x_cons, x_star, x_sE, x_sEn, x_sZp, x_sR1, y_skip, y_seq, y_asgN, y_asgT, y_par, y_par3, y_ife, y_ret, y_retS, y_exp, y_app, y_set, y_for, evT, asg_nm, asg_t, asgs_n, asgs_c, fr_0, fr_s, fo_n, fo_s, ↓reduceIte, List.map_cons, List.map_nil, List.replicate, Nat.sub_self, Nat.reduceSub, List.append_nil, List.cons_append, List.nil_append, readAt, viewAt, ownAt, hasAt, Option.bind_some, Option.bind_none, List.getElem?_cons_zero, List.getElem?_cons_succ, List.set_cons_zero, List.set_cons_succ, Bool.false_eq_true, Bool.not_false, Bool.not_true, b_ok, o_some, f_int, f_tup, f_lst, f_bl, f_non, f_own, fs_nil, fs_cons, pn_int, pn_tup, pn_lst, pn_bl, pn_non, pn_own, tr_bl, t0, t1, t2, add_, sub_, lt_, le_, gt_, ge_, Option.map_some, List.length_cons, List.length_nil, ln0, ln1, ln2, ln3, itemsOf, eq_int, ne_int, retC, outR, f_P, pn_P, f_3, pn_3, f_W, pn_W, f_Ws, pn_Ws, frzs_P, frzs_3, asg_nm, fr_0, fr_s, fo_n, fo_s, f5, f6, pn_3, f_3, pn_P, f_P, q1, isn_P, viewAt, Option.bind_some, frzs_P, hn, if_pos hm]
    · have hn : cmpD .NotIn (encP z) (.lst (found.map encP)) = some true := by rw [notin_P, decide_eq_false hm]; rfl
      by_cases ho : okL W z = true
      · simp only [bodyL, encO, addC, x_lc, x_gl, x_cst, x_bin, x_neg, x_cmp, x_chn, x_cmpR, x_and, x_or, x_not, x_ite, x_tup, x_lst, x_sub, x_subB, x_slc, x_no, x_yes, x_rev, x_callF, x_callIO, x_callB, x_callBB, x_isi, x_nil, x_cons, x_star, x_sE, x_sEn, x_sZp, x_sR1, y_skip, y_seq, y_asgN, y_asgT, y_par, y_par3, y_ife, y_ret, y_retS, y_exp, y_app, y_set, y_for, evT, asg_nm, asg_t, asgs_n, asgs_c, fr_0, fr_s, fo_n, fo_s, ↓reduceIte, List.map_cons, List.map_nil, List.replicate, Nat.sub_self, Nat.reduceSub, List.append_nil, List.cons_append, List.nil_append, readAt, viewAt, ownAt, hasAt, Option.bind_some, Option.bind_none, List.getElem?_cons_zero, List.getElem?_cons_succ, List.set_cons_zero, List.set_cons_succ, Bool.false_eq_true, Bool.not_false, Bool.not_true, b_ok, o_some, f_int, f_tup, f_lst, f_bl, f_non, f_own, fs_nil, fs_cons, pn_int, pn_tup, pn_lst, pn_bl, pn_non, pn_own, tr_bl, t0, t1, t2, add_, sub_, lt_, le_, gt_, ge_, Option.map_some, List.length_cons, List.length_nil, ln0, ln1, ln2, ln3, itemsOf, eq_int, ne_int, retC, outR, f_P, pn_P, f_3, pn_3, f_W, pn_W, f_Ws, pn_Ws, frzs_P, frzs_3, asg_nm, fr_0, fr_s, fo_n, fo_s, f5, f6, pn_3, f_3, pn_P, f_P, q1, isn_P, viewAt, Option.bind_some, frzs_P, hn, if_neg hm, key, frzs_1, eq_ones, he, ho, ownAt, hln, List.map_append]
      · rw [Bool.not_eq_true] at ho
        simp only [bodyL, encO, addC, x_lc, x_gl, x_cst, x_bin, x_neg, x_cmp, x_chn, x_cmpR, x_and, x_or, x_not, x_ite, x_tup, x_lst, x_sub, x_subB, x_slc, x_no, x_yes, x_rev, x_callF, x_callIO, x_callB, x_callBB, x_isi, x_nil, x_cons, x_star, x_sE, x_sEn, x_sZp, x_sR1, y_skip, y_seq, y_asgN, y_asgT, y_par, y_par3, y_ife, y_ret, y_retS, y_exp, y_app, y_set, y_for, evT, asg_nm, asg_t, asgs_n, asgs_c, fr_0, fr_s, fo_n, fo_s, ↓reduceIte, List.map_cons, List.map_nil, List.replicate, Nat.sub_self, Nat.reduceSub, List.append_nil, List.cons_append, List.nil_append, readAt, viewAt, ownAt, hasAt, Option.bind_some, Option.bind_none, List.getElem?_cons_zero, List.getElem?_cons_succ, List.set_cons_zero, List.set_cons_succ, Bool.false_eq_true, Bool.not_false, Bool.not_true, b_ok, o_some, f_int, f_tup, f_lst, f_bl, f_non, f_own, fs_nil, fs_cons, pn_int, pn_tup, pn_lst, pn_bl, pn_non, pn_own, tr_bl, t0, t1, t2, add_, sub_, lt_, le_, gt_, ge_, Option.map_some, List.length_cons, List.length_nil, ln0, ln1, ln2, ln3, itemsOf, eq_int, ne_int, retC, outR, f_P, pn_P, f_3, pn_3, f_W, pn_W, f_Ws, pn_Ws, frzs_P, frzs_3, asg_nm, fr_0, fr_s, fo_n, fo_s, f5, f6, pn_3, f_3, pn_P, f_P, q1, isn_P, viewAt, Option.bind_some, frzs_P, hn, if_neg hm, key, frzs_1, eq_ones, he, ho]
theorem in_L {W : List Wd} {hs : List H3} {found : List Pl} {at_ : Int} {g : H3} {j5 j6 : Option D} (hW : OkWs W) (l : List H3) (f5 : freeO j5 = true) (f6 : freeO j6 = true) (hg : Sm3 130 g) (hll : ∀ x ∈ l, Sm3 130 x) (hl2 : l.length ≤ 36) (hf : found.length < 9000) :
    ∃ j5' j6', freeO j5' = true ∧ freeO j6' = true ∧ forL (fun d e => (asg (.nm 5) d e).bind fun _ e => evS (callN tab gl (k + 2)) gl bodyL e) (l.map enc3) [some (encWs W), some (.lst (hs.map enc3)), some (.own false (found.map encP)), some (.int at_), some (enc3 g), j5, j6, none] =
      .ok .nx [some (encWs W), some (.lst (hs.map enc3)), some (.own false ((inC (okL W) g found l).map encP)), some (.int at_), some (enc3 g), j5', j6', none] := by
  obtain ⟨e, h1, a, b, fa, fb, h2⟩ := forL_pre (enc := enc3) (F := fun d e => (asg (.nm 5) d e).bind fun _ e => evS (callN tab gl (k + 2)) gl bodyL e)
    (I := fun pre e => ∃ j5 j6, freeO j5 = true ∧ freeO j6 = true ∧ e = [some (encWs W), some (.lst (hs.map enc3)), some (.own false ((inC (okL W) g found pre).map encP)), some (.int at_), some (enc3 g), j5, j6, none])
    l [] _ ⟨j5, j6, f5, f6, rfl⟩ (fun pre x post e he ⟨a, b, fa, fb, hE⟩ => by
      have hx : x ∈ l := by rw [show l = pre ++ x :: post from he]; simp
      have hlen : pre.length ≤ l.length := by rw [show l = pre ++ x :: post from he, List.length_append]; omega
      have h3 := inC_len (ok := okL W) (g := g) pre found
      have t := turn_L (k := k) (W := W) (hs := hs) (found := inC (okL W) g found pre) (at_ := at_) (g := g) (h := x) hW fa fb hg (hll x hx) (by omega)
      rw [← inC_snoc] at t
      refine ⟨_, by rw [hE]; exact t, _, _, ?_, ?_, rfl⟩
      · rfl
      · cases crs g x <;> rfl)
  rw [h2] at h1
  exact ⟨a, b, fa, fb, h1⟩
/-- the outer loop's body -/
def bodyM : IS := .for_ (.nm 5) (.sE (.slc (.lc 1) (.bin .Add (.lc 3) (.cst (.int 1))) (.no))) bodyL
theorem outer_L {W : List Wd} {hs : List H3} (hW : OkWs W) (hhs : ∀ x ∈ hs, Sm3 130 x) (hl : hs.length ≤ 36) :
    ∃ j3 j4 j5 j6, forL (fun d e => (asg (.tup (.cons (.nm 3) (.cons (.nm 4) (.nil)))) d e).bind fun _ e => evS (callN tab gl (k + 2)) gl bodyM e) (hs.zipIdx.map fun p => .tup [.int (p.2 : Int), enc3 p.1]) [some (encWs W), some (.lst (hs.map enc3)), some (.own false []), none, none, none, none, none] =
      .ok .nx [some (encWs W), some (.lst (hs.map enc3)), some (.own false ((outC (okL W) [] hs).map encP)), j3, j4, j5, j6, none] := by
  obtain ⟨e, h1, found, j3, j4, j5, j6, f3, f4, f5, f6, h2, h3, h4⟩ := forL_pre (enc := fun p : H3 × Nat => D.tup [.int (p.2 : Int), enc3 p.1]) (F := fun d e => (asg (.tup (.cons (.nm 3) (.cons (.nm 4) (.nil)))) d e).bind fun _ e => evS (callN tab gl (k + 2)) gl bodyM e)
    (I := fun pre e => ∃ found j3 j4 j5 j6, freeO j3 = true ∧ freeO j4 = true ∧ freeO j5 = true ∧ freeO j6 = true ∧ outC (okL W) [] hs = outC (okL W) found (hs.drop pre.length) ∧ found.length ≤ 36 * pre.length ∧ e = [some (encWs W), some (.lst (hs.map enc3)), some (.own false (found.map encP)), j3, j4, j5, j6, none])
    hs.zipIdx [] [some (encWs W), some (.lst (hs.map enc3)), some (.own false []), none, none, none, none, none] ⟨[], none, none, none, none, rfl, rfl, rfl, rfl, rfl, Nat.le_refl _, rfl⟩ (fun pre p post e he ⟨found, j3, j4, j5, j6, f3, f4, f5, f6, ho, hn, hE⟩ => by
      have he : hs.zipIdx = pre ++ p :: post := he
      obtain ⟨hp, hd⟩ := zip_split he
      have hlen : pre.length + 1 ≤ hs.length := by
        have := congrArg List.length he
        rw [List.length_zipIdx, List.length_append, List.length_cons] at this
        omega
      have hg : Sm3 130 p.1 := hhs _ (by
        have : p.1 ∈ hs.drop pre.length := by rw [hd]; exact List.mem_cons_self
        exact List.mem_of_mem_drop this)
      obtain ⟨a5, a6, fa, fb, t⟩ := in_L (k := k) (W := W) (hs := hs) (found := found) (at_ := (pre.length : Int)) (g := p.1) (j5 := j5) (j6 := j6) hW (hs.drop (pre.length + 1)) f5 f6 hg (fun x hx => hhs x (List.mem_of_mem_drop hx)) (by rw [List.length_drop]; omega) (by omega)
      have hs1 : evI (callN tab gl (k + 2)) gl (.sE (.slc (.lc 1) (.bin .Add (.lc 3) (.cst (.int 1))) (.no))) [some (encWs W), some (.lst (hs.map enc3)), some (.own false (found.map encP)), some (.int (pre.length : Int)), some (enc3 p.1), j5, j6, none] = .ok ((hs.drop (pre.length + 1)).map enc3) [some (encWs W), some (.lst (hs.map enc3)), some (.own false (found.map encP)), some (.int (pre.length : Int)), some (enc3 p.1), j5, j6, none] := by
        simp only [x_lc, x_gl, x_cst, x_bin, x_neg, x_cmp, x_chn, x_cmpR, x_and, x_or, x_not, x_ite, x_tup, x_lst, x_sub, x_subB, x_slc, x_no, x_yes, x_rev, x_callF, x_callIO, x_callB, x_callBB, x_isi, x_nil, x_cons, x_star, x_sE, x_sEn, x_sZp, x_sR1, y_skip, y_seq, y_asgN, y_asgT, y_par, y_par3, y_ife, y_ret, y_retS, y_exp, y_app, y_set, y_for, evT, asg_nm, asg_t, asgs_n, asgs_c, fr_0, fr_s, fo_n, fo_s, ↓reduceIte, List.map_cons, List.map_nil, List.replicate, Nat.sub_self, Nat.reduceSub, List.append_nil, List.cons_append, List.nil_append, readAt, viewAt, ownAt, hasAt, Option.bind_some, Option.bind_none, List.getElem?_cons_zero, List.getElem?_cons_succ, List.set_cons_zero, List.set_cons_succ, Bool.false_eq_true, Bool.not_false, Bool.not_true, b_ok, o_some, f_int, f_tup, f_lst, f_bl, f_non, f_own, fs_nil, fs_cons, pn_int, pn_tup, pn_lst, pn_bl, pn_non, pn_own, tr_bl, t0, t1, t2, add_, sub_, lt_, le_, gt_, ge_, Option.map_some, List.length_cons, List.length_nil, ln0, ln1, ln2, ln3, itemsOf, eq_int, ne_int, retC, outR, f_P, pn_P, f_3, pn_3, f_W, pn_W, f_Ws, pn_Ws, frzs_P, frzs_3, pd_i, pd_h, slc_l, cut_from, ← List.map_drop, frzs_3]
      have t2 := y_for_ok hs1 t
      have h5 := inC_len (ok := okL W) (g := p.1) (hs.drop (pre.length + 1)) found
      refine ⟨_, ?_, inC (okL W) p.1 found (hs.drop (pre.length + 1)), some (.int (pre.length : Int)), some (enc3 p.1), a5, a6, rfl, rfl, fa, fb, ?_, ?_, rfl⟩
      · rw [hE, hp]
        simp only [asg_t, asgs_c, asgs_n, asg_nm, fr_0, fr_s, f3, f4, b_ok, List.set_cons_zero, List.set_cons_succ, if_true]
        exact t2
      · rw [ho, hd, List.length_append]
        rfl
      · rw [List.length_append, List.length_singleton]
        rw [List.length_drop] at h5
        omega)
  rw [h4] at h1
  have e0 : ([] ++ hs.zipIdx : List (H3 × Nat)).length = hs.length := by rw [List.nil_append, List.length_zipIdx]
  rw [e0, List.drop_length] at h2
  have h2 : outC (okL W) [] hs = found := h2
  rw [← h2] at h1
  exact ⟨j3, j4, j5, j6, h1⟩
/-- all corners by the law, unsorted -/
def crL (W : List Wd) : List Pl := outC (okL W) [] (allH W)
theorem s_law_corners {W : List Wd} (h : OkWs W) : callN tab gl (k + 4) i_law_corners [encWs W] = .ok (.own false ((crL W).map encP)) none := by
  have q1 := s_law_all_planes (k := k) h
  obtain ⟨j3, j4, j5, j6, q2⟩ := outer_L (k := k + 1) (W := W) (hs := allH W) h (allH_sm h) (allH_len h)
  have e0 := enumD_map (enc := enc3) (allH W) 0
  have hs1 : evI (callN tab gl (k + 3)) gl (.sEn (.lc 1)) [some (encWs W), some (.own false ((allH W).map enc3)), some (.own false []), none, none, none, none, none] = .ok ((allH W).zipIdx.map fun p => .tup [.int (p.2 : Int), enc3 p.1]) [some (encWs W), some (.lst ((allH W).map enc3)), some (.own false []), none, none, none, none, none] := by
    simp only [x_lc, x_gl, x_cst, x_bin, x_neg, x_cmp, x_chn, x_cmpR, x_and, x_or, x_not, x_ite, x_tup, x_lst, x_sub, x_subB, x_slc, x_no, x_yes, x_rev, x_callF, x_callIO, x_callB, x_callBB, x_isi, x_nil, x_cons, x_star, x_sE, x_sEn, x_sZp, x_sR1, y_skip, y_seq, y_asgN, y_asgT, y_par, y_par3, y_ife, y_ret, y_retS, y_exp, y_app, y_set, y_for, evT, asg_nm, asg_t, asgs_n, asgs_c, fr_0, fr_s, fo_n, fo_s, ↓reduceIte, List.map_cons, List.map_nil, List.replicate, Nat.sub_self, Nat.reduceSub, List.append_nil, List.cons_append, List.nil_append, readAt, viewAt, ownAt, hasAt, Option.bind_some, Option.bind_none, List.getElem?_cons_zero, List.getElem?_cons_succ, List.set_cons_zero, List.set_cons_succ, Bool.false_eq_true, Bool.not_false, Bool.not_true, b_ok, o_some, f_int, f_tup, f_lst, f_bl, f_non, f_own, fs_nil, fs_cons, pn_int, pn_tup, pn_lst, pn_bl, pn_non, pn_own, tr_bl, t0, t1, t2, add_, sub_, lt_, le_, gt_, ge_, Option.map_some, List.length_cons, List.length_nil, ln0, ln1, ln2, ln3, itemsOf, eq_int, ne_int, retC, outR, f_P, pn_P, f_3, pn_3, f_W, pn_W, f_Ws, pn_Ws, frzs_P, frzs_3, frzs_3]
    rw [← e0]
    rfl
  have q4 := y_for_ok hs1 q2
  rw [call_eq (fn := ⟨8, 1, false, b_law_corners⟩) rfl rfl]
  show outR false (evS (callN tab gl (k + 3)) gl b_law_corners [some (encWs W), none, none, none, none, none, none, none]) = _
  have s1 : evS (callN tab gl (k + 3)) gl (sq1 b_law_corners) [some (encWs W), none, none, none, none, none, none, none] = .ok .nx [some (encWs W), some (.own false ((allH W).map enc3)), some (.own false []), none, none, none, none, none] := by
    simp only [b_law_corners, sq1, x_lc, x_gl, x_cst, x_bin, x_neg, x_cmp, x_chn, x_cmpR, x_and, x_or, x_not, x_ite, x_tup, x_lst, x_sub, x_subB, x_slc, x_no, x_yes, x_rev, x_callF, x_callIO, x_callB, x_callBB, x_isi, x_nil, x_cons, x_star, x_sE, x_sEn, x_sZp, x_sR1, y_skip, y_seq, y_asgN, y_asgT, y_par, y_par3, y_ife, y_ret, y_retS, y_exp, y_app, y_set, y_for, evT, asg_nm, asg_t, asgs_n, asgs_c, fr_0, fr_s, fo_n, fo_s, ↓reduceIte, List.map_cons, List.map_nil, List.replicate, Nat.sub_self, Nat.reduceSub, List.append_nil, List.cons_append, List.nil_append, readAt, viewAt, ownAt, hasAt, Option.bind_some, Option.bind_none, List.getElem?_cons_zero, List.getElem?_cons_succ, List.set_cons_zero, List.set_cons_succ, Bool.false_eq_true, Bool.not_false, Bool.not_true, b_ok, o_some, f_int, f_tup, f_lst, f_bl, f_non, f_own, fs_nil, fs_cons, pn_int, pn_tup, pn_lst, pn_bl, pn_non, pn_own, tr_bl, t0, t1, t2, add_, sub_, lt_, le_, gt_, ge_, Option.map_some, List.length_cons, List.length_nil, ln0, ln1, ln2, ln3, itemsOf, eq_int, ne_int, retC, outR, f_P, pn_P, f_3, pn_3, f_W, pn_W, f_Ws, pn_Ws, frzs_P, frzs_3, pn_Ws, f_Ws, q1, freeAt, Bool.and_self]
  rw [seq_nx rfl s1, seq_nx (s := sq2 b_law_corners) rfl q4]
  simp only [b_law_corners, sq2, x_lc, x_gl, x_cst, x_bin, x_neg, x_cmp, x_chn, x_cmpR, x_and, x_or, x_not, x_ite, x_tup, x_lst, x_sub, x_subB, x_slc, x_no, x_yes, x_rev, x_callF, x_callIO, x_callB, x_callBB, x_isi, x_nil, x_cons, x_star, x_sE, x_sEn, x_sZp, x_sR1, y_skip, y_seq, y_asgN, y_asgT, y_par, y_par3, y_ife, y_ret, y_retS, y_exp, y_app, y_set, y_for, evT, asg_nm, asg_t, asgs_n, asgs_c, fr_0, fr_s, fo_n, fo_s, ↓reduceIte, List.map_cons, List.map_nil, List.replicate, Nat.sub_self, Nat.reduceSub, List.append_nil, List.cons_append, List.nil_append, readAt, viewAt, ownAt, hasAt, Option.bind_some, Option.bind_none, List.getElem?_cons_zero, List.getElem?_cons_succ, List.set_cons_zero, List.set_cons_succ, Bool.false_eq_true, Bool.not_false, Bool.not_true, b_ok, o_some, f_int, f_tup, f_lst, f_bl, f_non, f_own, fs_nil, fs_cons, pn_int, pn_tup, pn_lst, pn_bl, pn_non, pn_own, tr_bl, t0, t1, t2, add_, sub_, lt_, le_, gt_, ge_, Option.map_some, List.length_cons, List.length_nil, ln0, ln1, ln2, ln3, itemsOf, eq_int, ne_int, retC, outR, f_P, pn_P, f_3, pn_3, f_W, pn_W, f_Ws, pn_Ws, frzs_P, frzs_3, crL]
end
end K74

set_option Elab.async false
set_option linter.all false
set_option maxRecDepth 100000
namespace K74
open PySem PySem.Spec L2 PD
theorem b1_eq (a b p q x u y v : Int) : (b * x * v + -a * y * u ≤ (b * p - a * q) * u * v) ↔ 0 ≤ a * ((y - q * v) * u) - b * ((x - p * u) * v) := by
  have e : (b * p - a * q) * u * v - (b * x * v + -a * y * u) = a * ((y - q * v) * u) - b * ((x - p * u) * v) := by grind
  rw [← e, Int.sub_nonneg]
theorem b2_eq (c d p q x u y v : Int) : (-d * x * v + c * y * u ≤ (c * q - d * p) * u * v) ↔ 0 ≤ (x - p * u) * v * d - (y - q * v) * u * c := by
  have e : (c * q - d * p) * u * v - (-d * x * v + c * y * u) = (x - p * u) * v * d - (y - q * v) * u * c := by grind
  rw [← e, Int.sub_nonneg]
theorem b3_eq (a b p q x u y v : Int) : (-a * x * v + -b * y * u ≤ (-a * p - b * q) * u * v) ↔ 0 ≤ a * ((x - p * u) * v) + b * ((y - q * v) * u) := by
  have e : (-a * p - b * q) * u * v - (-a * x * v + -b * y * u) = a * ((x - p * u) * v) + b * ((y - q * v) * u) := by grind
  rw [← e, Int.sub_nonneg]
theorem sq_pos {a b : Int} (h : ¬ (a = 0 ∧ b = 0)) : 0 < a * a + b * b := by
  have h1 : 0 ≤ a * a := by
    rcases Int.le_total 0 a with h | h
    · exact Int.mul_nonneg h h
    · exact Int.mul_nonneg_of_nonpos_of_nonpos h h
  have h2 : 0 ≤ b * b := by
    rcases Int.le_total 0 b with h | h
    · exact Int.mul_nonneg h h
    · exact Int.mul_nonneg_of_nonpos_of_nonpos h h
  by_cases ha : a = 0
  · have hb : b ≠ 0 := fun hb => h ⟨ha, hb⟩
    have : b * b ≠ 0 := fun hc => by
      rcases Int.mul_eq_zero.mp hc with q | q <;> exact hb q
    omega
  · have : a * a ≠ 0 := fun hc => by
      rcases Int.mul_eq_zero.mp hc with q | q <;> exact ha q
    omega
/-- a ray's left side is its right side -/
theorem ray_eq {a b c d f g : Int} (h0 : ¬ (a = 0 ∧ b = 0)) (h1 : a * d - b * c = 0) (h2 : 0 < a * c + b * d) : (0 ≤ f * d - g * c) ↔ (0 ≤ f * b - g * a) := by
  have h3 := sq_pos h0
  have e : (a * a + b * b) * (f * d - g * c) = (a * c + b * d) * (f * b - g * a) := by grind
  constructor
  · intro h
    by_cases q : 0 ≤ f * b - g * a
    · exact q
    · have h4 : (a * c + b * d) * (f * b - g * a) < 0 := Int.mul_neg_of_pos_of_neg h2 (by omega)
      have h5 := Int.mul_nonneg (Int.le_of_lt h3) h
      omega
  · intro h
    by_cases q : 0 ≤ f * d - g * c
    · exact q
    · have h4 : (a * a + b * b) * (f * d - g * c) < 0 := Int.mul_neg_of_pos_of_neg h3 (by omega)
      have h5 := Int.mul_nonneg (Int.le_of_lt h2) h
      omega
theorem dh_bel {w : Wd} {z : Pl} (hw : OkW w) : ((hv w).all fun h => bel h z) = dh w z := by
  obtain ⟨p, q, a, b, c, d⟩ := w
  obtain ⟨x, u, y, v⟩ := z
  have hr := hw.r
  have ht := hw.t
  simp only at hr ht
  have b1 := b1_eq a b p q x u y v
  have b2 := b2_eq c d p q x u y v
  have b3 := b3_eq a b p q x u y v
  unfold hv dh dhf bel
  simp only
  rcases ht with ht | ⟨ht, ht2⟩
  · rw [if_pos ht, if_neg (by omega)]
    simp only [List.all_cons, List.all_nil, Bool.and_true]
    rw [Bool.eq_iff_iff, Bool.and_eq_true, Bool.and_eq_true, decide_eq_true_eq, decide_eq_true_eq, decide_eq_true_eq, decide_eq_true_eq, b1, b2]
    exact And.comm
  · rw [if_neg (by omega), if_pos ht]
    have r := ray_eq (f := (x - p * u) * v) (g := (y - q * v) * u) hr ht ht2
    simp only [List.all_cons, List.all_nil, Bool.and_true]
    rw [Bool.eq_iff_iff, Bool.and_eq_true, Bool.and_eq_true, Bool.and_eq_true, decide_eq_true_eq, decide_eq_true_eq, decide_eq_true_eq, decide_eq_true_eq, decide_eq_true_eq, b1, b2, b3, r]
    have e1 : (x - p * u) * v * b = b * ((x - p * u) * v) := Int.mul_comm _ _
    have e2 : (y - q * v) * u * a = a * ((y - q * v) * u) := Int.mul_comm _ _
    rw [e1, e2]
    omega
theorem ok_eq {W : List Wd} {z : Pl} (h : OkWs W) : okH W z = okL W z := by
  unfold okH okL
  rw [allH_eq, List.all_flatMap]
  have e : ∀ l : List Wd, (∀ w ∈ l, OkW w) → (l.all fun w => (hv w).all fun h => bel h z) = l.all fun w => dh w z := by
    intro l
    induction l with
    | nil => intro _; rfl
    | cons w l ih =>
      intro hw
      rw [List.all_cons, List.all_cons, ih fun w h => hw w (List.mem_cons_of_mem _ h), dh_bel (hw w List.mem_cons_self)]
  exact e W h.ok
theorem crn_eq {W : List Wd} (h : OkWs W) : crn W = crL W := by
  unfold crn crL
  have : okH W = okL W := funext fun z => ok_eq h
  rw [this]
theorem crn_fr {W : List Wd} : ∀ z ∈ crn W, Fr2 z.x z.u ∧ Fr2 z.y z.v := by
  intro z hz
  unfold crn at hz
  rw [outC_mem] at hz
  rcases hz with hz | ⟨⟨x, h1, y, h2, h3⟩, _⟩
  · cases hz
  · exact crs_fr h3
theorem fr_eq {a b c d : Int} (h : Fr2 a b) (h2 : Fr2 c d) (he : a * d = c * b) : a = c ∧ b = d := by
  have hn : a.natAbs * d.natAbs = c.natAbs * b.natAbs := by rw [← Int.natAbs_mul, ← Int.natAbs_mul, he]
  have d1 : b.natAbs ∣ d.natAbs := by
    have h3 : b.natAbs ∣ a.natAbs * d.natAbs := by rw [hn]; exact Nat.dvd_mul_left _ _
    exact Nat.Coprime.dvd_of_dvd_mul_left (k := b.natAbs) (Nat.Coprime.symm h.2) h3
  have d2 : d.natAbs ∣ b.natAbs := by
    have h3 : d.natAbs ∣ c.natAbs * b.natAbs := by rw [← hn]; exact Nat.dvd_mul_left _ _
    exact Nat.Coprime.dvd_of_dvd_mul_left (k := d.natAbs) (Nat.Coprime.symm h2.2) h3
  have e1 := Nat.dvd_antisymm d1 d2
  have hb := h.1
  have hd := h2.1
  have e2 : b = d := by omega
  subst e2
  exact ⟨Int.eq_of_mul_eq_mul_right (by omega) he, rfl⟩
theorem bef_ahe {g h : Pl} (hg : Fr2 g.x g.u ∧ Fr2 g.y g.v) (hh : Fr2 h.x h.u ∧ Fr2 h.y h.v) : bef g h = ahe g h := by
  unfold bef ahe
  by_cases q : g.x * h.u = h.x * g.u
  · rw [if_pos q, if_pos (fr_eq hg.1 hh.1 q)]
    by_cases q2 : g.y * h.v = h.y * g.v
    · rw [if_pos q2, decide_eq_false (by omega)]
    · rw [if_neg q2]
  · rw [if_neg q, if_neg (fun hc => q (by rw [hc.1, hc.2]))]
theorem insC_cong {le le' : Pl → Pl → Bool} {l : List Pl} {z : Pl} (h : ∀ x ∈ l, le x z = le' x z) : insC le l z = insC le' l z := by
  have e : l.filter (le · z) = l.filter (le' · z) := List.filter_congr h
  unfold insC
  rw [e]
theorem fold_cong {le le' : Pl → Pl → Bool} {P : Pl → Prop} (h : ∀ x z, P x → P z → le x z = le' x z) : ∀ zs l : List Pl, (∀ z ∈ zs, P z) → (∀ z ∈ l, P z) → zs.foldl (insC le) l = zs.foldl (insC le') l
  | [], _, _, _ => rfl
  | z :: zs, l, h1, h2 => by
    rw [List.foldl_cons, List.foldl_cons, insC_cong fun x hx => h x z (h2 x hx) (h1 z List.mem_cons_self)]
    refine fold_cong h zs _ (fun y hy => h1 y (List.mem_cons_of_mem _ hy)) fun y hy => ?_
    rw [insC_mem] at hy
    rcases hy with rfl | hy
    · exact h1 _ List.mem_cons_self
    · exact h2 y hy
theorem fold_U {le : Pl → Pl → Bool} : ∀ zs l : List Pl, zs.Nodup → (∀ z ∈ zs, z ∉ l) → zs.foldl (insU le) l = zs.foldl (insC le) l
  | [], _, _, _ => rfl
  | z :: zs, l, h1, h2 => by
    rw [List.nodup_cons] at h1
    have e : insU le l z = insC le l z := by
      unfold insU
      rw [if_neg (h2 z List.mem_cons_self)]
    rw [List.foldl_cons, List.foldl_cons, e]
    refine fold_U zs _ h1.2 fun y hy => ?_
    rw [insC_mem]
    rintro (rfl | hc)
    · exact h1.1 hy
    · exact h2 y (List.mem_cons_of_mem _ hy) hc
/-- what the law has due is what the program tells -/
theorem srt_due {W : List Wd} (h : OkWs W) : (crL W).foldl (insC ahe) [] = srt W := by
  unfold srt
  have hn : (crn W).Nodup := outC_nodup _ _ List.nodup_nil
  rw [fold_U _ _ hn (fun _ _ => List.not_mem_nil), ← crn_eq h]
  exact (fold_cong (P := fun z => Fr2 z.x z.u ∧ Fr2 z.y z.v) (fun x z hx hz => bef_ahe hx hz) _ _ (fun z hz => crn_fr z hz) (fun z hz => by cases hz)).symm
end K74

set_option Elab.async false
set_option linter.all false
set_option maxRecDepth 100000
namespace K74
open PySem PySem.Spec L2 PD
abbrev FrP (z : Pl) : Prop := Fr2 z.x z.u ∧ Fr2 z.y z.v
theorem fr_le {a b c d e f : Int} (hb : 0 < b) (hd : 0 < d) (hf : 0 < f) (h1 : a * d ≤ c * b) (h2 : c * f ≤ e * d) : a * f ≤ e * b := by
  have q1 := Int.mul_le_mul_of_nonneg_right h1 (Int.le_of_lt hf)
  have q2 := Int.mul_le_mul_of_nonneg_right h2 (Int.le_of_lt hb)
  have e1 : a * d * f = a * f * d := by ac_rfl
  have e2 : c * b * f = c * f * b := by ac_rfl
  have e3 : e * d * b = e * b * d := by ac_rfl
  exact Int.le_of_mul_le_mul_right (by omega : a * f * d ≤ e * b * d) hd
theorem fr_lt {a b c d e f : Int} (hb : 0 < b) (hd : 0 < d) (hf : 0 < f) (h1 : a * d ≤ c * b) (h2 : c * f ≤ e * d) (h3 : a * d < c * b ∨ c * f < e * d) : a * f < e * b := by
  have e1 : a * d * f = a * f * d := by ac_rfl
  have e2 : c * b * f = c * f * b := by ac_rfl
  have e3 : e * d * b = e * b * d := by ac_rfl
  have q : a * f * d < e * b * d := by
    rcases h3 with h3 | h3
    · have q1 := Int.mul_lt_mul_of_pos_right h3 hf
      have q2 := Int.mul_le_mul_of_nonneg_right h2 (Int.le_of_lt hb)
      omega
    · have q1 := Int.mul_le_mul_of_nonneg_right h1 (Int.le_of_lt hf)
      have q2 := Int.mul_lt_mul_of_pos_right h3 hb
      omega
  exact Int.lt_of_mul_lt_mul_right q (Int.le_of_lt hd)
theorem bef_iff {g h : Pl} : bef g h = true ↔ g.x * h.u < h.x * g.u ∨ (g.x * h.u = h.x * g.u ∧ g.y * h.v < h.y * g.v) := by
  unfold bef
  by_cases q : g.x * h.u = h.x * g.u
  · rw [if_pos q]
    by_cases q2 : g.y * h.v = h.y * g.v
    · rw [if_pos q2]
      simp only [Bool.false_eq_true, false_iff]
      omega
    · rw [if_neg q2, decide_eq_true_eq]
      omega
  · rw [if_neg q, decide_eq_true_eq]
    omega
theorem bef_irr (g : Pl) : ¬ bef g g = true := by
  rw [bef_iff]
  omega
theorem bef_trans {g h i : Pl} (hg : FrP g) (hh : FrP h) (hi : FrP i) (h1 : bef g h = true) (h2 : bef h i = true) : bef g i = true := by
  rw [bef_iff] at *
  have a1 := hg.1.1
  have a2 := hh.1.1
  have a3 := hi.1.1
  have b1 := hg.2.1
  have b2 := hh.2.1
  have b3 := hi.2.1
  rcases h1 with h1 | ⟨h1, h3⟩
  · rcases h2 with h2 | ⟨h2, h4⟩
    · exact .inl (fr_lt a1 a2 a3 (by omega) (by omega) (.inl h1))
    · exact .inl (fr_lt a1 a2 a3 (by omega) (by omega) (.inl h1))
  · rcases h2 with h2 | ⟨h2, h4⟩
    · exact .inl (fr_lt a1 a2 a3 (by omega) (by omega) (.inr h2))
    · refine .inr ⟨?_, fr_lt b1 b2 b3 (by omega) (by omega) (.inl h3)⟩
      have q1 := fr_le a1 a2 a3 (Int.le_of_eq h1) (Int.le_of_eq h2)
      have q2 := fr_le a3 a2 a1 (Int.le_of_eq h2.symm) (Int.le_of_eq h1.symm)
      omega
theorem bef_asymm {g h : Pl} (hg : FrP g) (hh : FrP h) (h1 : bef g h = true) : ¬ bef h g = true := fun h2 => bef_irr g (bef_trans hg hh hg h1 h2)
theorem bef_total {g h : Pl} (hg : FrP g) (hh : FrP h) (h1 : ¬ bef g h = true) (h2 : ¬ bef h g = true) : g = h := by
  rw [bef_iff] at *
  have e1 : g.x * h.u = h.x * g.u := by omega
  have e2 : g.y * h.v = h.y * g.v := by omega
  obtain ⟨e3, e4⟩ := fr_eq hg.1 hh.1 e1
  obtain ⟨e5, e6⟩ := fr_eq hg.2 hh.2 e2
  obtain ⟨a, b, c, d⟩ := g
  obtain ⟨a', b', c', d'⟩ := h
  simp only at e3 e4 e5 e6
  rw [e3, e4, e5, e6]
abbrev Srt (l : List Pl) : Prop := l.Pairwise (bef · · = true)
theorem insC_srt {z : Pl} (hz : FrP z) : ∀ l : List Pl, Srt l → z ∉ l → (∀ x ∈ l, FrP x) → Srt (insC bef l z)
  | [], _, _, _ => List.pairwise_singleton _ _
  | a :: t, h1, h2, h3 => by
    rw [Srt, List.pairwise_cons] at h1
    have ha := h3 a List.mem_cons_self
    by_cases hb : bef a z = true
    · have e : insC bef (a :: t) z = a :: insC bef t z := by
        unfold insC
        rw [List.filter_cons, if_pos hb, List.length_cons]
        rfl
      rw [e, Srt, List.pairwise_cons]
      refine ⟨fun y hy => ?_, insC_srt hz t h1.2 (fun hc => h2 (List.mem_cons_of_mem _ hc)) fun x hx => h3 x (List.mem_cons_of_mem _ hx)⟩
      rw [insC_mem] at hy
      rcases hy with rfl | hy
      · exact hb
      · exact h1.1 y hy
    · have hza : bef z a = true := by
        by_cases q : bef z a = true
        · exact q
        · exact absurd (by rw [bef_total hz ha q hb]; exact List.mem_cons_self) h2
      have hlt : ∀ y ∈ t, bef z y = true := fun y hy => bef_trans hz ha (h3 y (List.mem_cons_of_mem _ hy)) hza (h1.1 y hy)
      have e0 : (a :: t).filter (bef · z) = [] := by
        rw [List.filter_eq_nil_iff]
        intro y hy
        rcases List.mem_cons.mp hy with rfl | hy
        · exact hb
        · exact bef_asymm hz (h3 y (List.mem_cons_of_mem _ hy)) (hlt y hy)
      have e : insC bef (a :: t) z = z :: a :: t := by
        unfold insC
        rw [e0]
        rfl
      rw [e, Srt, List.pairwise_cons, List.pairwise_cons]
      refine ⟨fun y hy => ?_, h1⟩
      rcases List.mem_cons.mp hy with rfl | hy
      · exact hza
      · exact hlt y hy
theorem fold_srt : ∀ zs l : List Pl, zs.Nodup → (∀ z ∈ zs, z ∉ l) → Srt l → (∀ z ∈ zs, FrP z) → (∀ z ∈ l, FrP z) → Srt (zs.foldl (insC bef) l)
  | [], _, _, _, h, _, _ => h
  | z :: zs, l, h1, h2, h3, h4, h5 => by
    rw [List.nodup_cons] at h1
    rw [List.foldl_cons]
    refine fold_srt zs _ h1.2 (fun y hy => ?_) (insC_srt (h4 z List.mem_cons_self) l h3 (h2 z List.mem_cons_self) h5) (fun y hy => h4 y (List.mem_cons_of_mem _ hy)) fun y hy => ?_
    · rw [insC_mem]
      rintro (rfl | hc)
      · exact h1.1 hy
      · exact h2 y (List.mem_cons_of_mem _ hy) hc
    · rw [insC_mem] at hy
      rcases hy with rfl | hy
      · exact h4 _ List.mem_cons_self
      · exact h5 y hy
theorem srt_uniq : ∀ l l' : List Pl, Srt l → Srt l' → (∀ z ∈ l, FrP z) → (∀ z, z ∈ l ↔ z ∈ l') → l = l'
  | [], l', _, _, _, h => by
    cases l' with
    | nil => rfl
    | cons a t => cases (h a).mpr List.mem_cons_self
  | a :: t, [], _, _, _, h => by cases (h a).mp List.mem_cons_self
  | a :: t, b :: t', h1, h2, h3, h => by
    rw [Srt, List.pairwise_cons] at h1 h2
    have ha := h3 a List.mem_cons_self
    have hb := h3 b ((h b).mpr List.mem_cons_self)
    have e : a = b := by
      rcases List.mem_cons.mp ((h a).mp List.mem_cons_self) with e | m1
      · exact e
      · rcases List.mem_cons.mp ((h b).mpr List.mem_cons_self) with e | m2
        · exact e.symm
        · exact absurd (h1.1 b m2) (bef_asymm hb ha (h2.1 a m1))
    subst e
    have ht := srt_uniq t t' h1.2 h2.2 (fun z hz => h3 z (List.mem_cons_of_mem _ hz)) fun z => by
      constructor
      · intro hz
        rcases List.mem_cons.mp ((h z).mp (List.mem_cons_of_mem _ hz)) with e | m
        · rw [e] at hz
          exact absurd (h1.1 _ hz) (bef_irr _)
        · exact m
      · intro hz
        rcases List.mem_cons.mp ((h z).mpr (List.mem_cons_of_mem _ hz)) with e | m
        · rw [e] at hz
          exact absurd (h2.1 _ hz) (bef_irr _)
        · exact m
    rw [ht]
theorem srt_mem {W : List Wd} {z : Pl} : z ∈ srt W ↔ z ∈ crn W := by
  unfold srt
  rw [fold_mem fun l z x => insU_mem]
  simp
theorem srt_srt (W : List Wd) : Srt (srt W) := by
  have hn : (crn W).Nodup := outC_nodup _ _ List.nodup_nil
  unfold srt
  rw [fold_U _ _ hn (fun _ _ => List.not_mem_nil)]
  exact fold_srt _ _ hn (fun _ _ => List.not_mem_nil) List.Pairwise.nil crn_fr (fun z hz => by cases hz)
theorem crn_mem {W : List Wd} {z : Pl} : z ∈ crn W ↔ (∃ g ∈ allH W, ∃ h ∈ allH W, crs g h = some z) ∧ okH W z = true := by
  unfold crn
  rw [outC_mem]
  simp
theorem srt_same {W W' : List Wd} (h : ∀ w, w ∈ W ↔ w ∈ W') : srt W = srt W' := by
  have hH : ∀ x, x ∈ allH W ↔ x ∈ allH W' := by
    intro x
    rw [allH_eq, allH_eq, List.mem_flatMap, List.mem_flatMap]
    constructor
    · rintro ⟨w, h1, h2⟩
      exact ⟨w, (h w).mp h1, h2⟩
    · rintro ⟨w, h1, h2⟩
      exact ⟨w, (h w).mpr h1, h2⟩
  have hok : ∀ z, okH W z = okH W' z := by
    intro z
    unfold okH
    rw [Bool.eq_iff_iff, List.all_eq_true, List.all_eq_true]
    constructor
    · intro q x hx
      exact q x ((hH x).mpr hx)
    · intro q x hx
      exact q x ((hH x).mp hx)
  refine srt_uniq _ _ (srt_srt W) (srt_srt W') (fun z hz => crn_fr z (srt_mem.mp hz)) fun z => ?_
  rw [srt_mem, srt_mem, crn_mem, crn_mem, hok]
  constructor
  · rintro ⟨⟨g, h1, i, h2, h3⟩, h4⟩
    exact ⟨⟨g, (hH g).mp h1, i, (hH i).mp h2, h3⟩, h4⟩
  · rintro ⟨⟨g, h1, i, h2, h3⟩, h4⟩
    exact ⟨⟨g, (hH g).mpr h1, i, (hH i).mpr h2, h3⟩, h4⟩
/-- a told corner lies in all wedges -/
theorem srt_held {W : List Wd} {z : Pl} (h : z ∈ srt W) : (W.all fun w => (hv w).all fun x => bel x z) = true := by
  rw [srt_mem, crn_mem] at h
  have := h.2
  unfold okH at this
  rw [allH_eq, List.all_flatMap] at this
  exact this
end K74

set_option Elab.async false
set_option linter.all false
set_option maxRecDepth 100000
namespace K74
open PySem PySem.Spec L2 PD
theorem md_ {i j : Int} (h : 0 < j) : binD .Mod (.int i) (.int j) = some (.int (i % j)) := by
  simp only [binD]
  rw [if_pos h]
theorem pow_10_18 : binD .Pow (.int 10) (.int 18) = some (.int (10 ^ 18)) := by rfl
theorem pow_10_60 : binD .Pow (.int 10) (.int 60) = some (.int (10 ^ 60)) := by rfl
theorem pow_10_12 : binD .Pow (.int 10) (.int 12) = some (.int (10 ^ 12)) := by rfl
theorem pow_2_61 : binD .Pow (.int 2) (.int 61) = some (.int (2 ^ 61)) := by rfl
theorem pow_10_9 : binD .Pow (.int 10) (.int 9) = some (.int (10 ^ 9)) := by rfl
theorem int_i {i : Int} : biD .int [.int i] = some (.int i) := rfl
theorem int_b {b : Bool} : biD .int [.bl b] = some (.int (if b then 1 else 0)) := rfl
theorem max_i {i j : Int} : biD .max2 [.int i, .int j] = some (.int (if j > i then j else i)) := rfl
theorem min_i {i j : Int} : biD .min2 [.int i, .int j] = some (.int (if j < i then j else i)) := rfl
theorem pl_ii {i j : Int} : plains [.int i, .int j] = true := rfl
theorem l0 {a b : D} : subD (.lst [a, b]) (.int 0) = some a := by
  show atI [a, b] 0 = _
  unfold atI ixN
  rw [if_pos (by decide), if_pos (by rw [List.length_cons]; omega)]
  rfl
theorem l1 {a b : D} : subD (.lst [a, b]) (.int 1) = some b := by
  show atI [a, b] 1 = _
  unfold atI ixN
  rw [if_pos (by decide), if_pos (by rw [List.length_cons, List.length_cons]; omega)]
  rfl
theorem ix20 : ixN (0 + 1 + 1) (0 : Int) = some 0 := by rfl
theorem ix21 : ixN (0 + 1 + 1) (1 : Int) = some 1 := by rfl
/-- a bag's two numbers -/
structure Bg (g b : Int) : Prop where
  g0 : 0 ≤ g
  g1 : g < 10 ^ 120
  b0 : 0 ≤ b
  b1 : b < 2 ^ 61
section
variable {k n : Nat} {g b m s : Int}
theorem s_law_draw (h : Bg g b) (hm : 0 < m) (hm2 : m < 2 ^ 60) : ∃ v g' b', Bg g' b' ∧ 0 ≤ v ∧ v < m ∧ callN tab gl (k + 1) i_law_draw [.own true [.int g, .int b], .int m] = .ok (.int v) (some (.own true [.int g', .int b'])) := by
  obtain ⟨h1, h2, h3, h4⟩ := h
  have hl : m.natAbs.log2 < 9000 := by
    have : Sm 60 m := by unfold Sm; omega
    have := this.log
    omega
  have hp : (0 : Int) < 2 ^ 61 - 1 := by decide
  by_cases h0 : 0 < g
  · refine ⟨g % m, g / m, b, ⟨Int.ediv_nonneg h1 (Int.le_of_lt hm), ?_, h3, h4⟩, Int.emod_nonneg _ (by omega), Int.emod_lt_of_pos _ hm, ?_⟩
    · exact Int.lt_of_le_of_lt (Int.ediv_le_self _ h1) h2
    rw [call_eq (fn := ⟨3, 2, true, b_law_draw⟩) rfl rfl]
    simp only [b_law_draw, x_lc, x_gl, x_cst, x_bin, x_neg, x_cmp, x_chn, x_cmpR, x_and, x_or, x_not, x_ite, x_tup, x_lst, x_sub, x_subB, x_slc, x_no, x_yes, x_rev, x_callF, x_callIO, x_callB, x_callBB, x_isi, x_nil, x_cons, x_star, x_sE, x_sEn, x_sZp, x_sR1, y_skip, y_seq, y_asgN, y_asgT, y_par, y_par3, y_ife, y_ret, y_retS, y_exp, y_app, y_set, y_for, evT, asg_nm, asg_t, asgs_n, asgs_c, fr_0, fr_s, fo_n, fo_s, ↓reduceIte, List.map_cons, List.map_nil, List.replicate, Nat.sub_self, Nat.reduceSub, List.append_nil, List.cons_append, List.nil_append, readAt, viewAt, ownAt, hasAt, Option.bind_some, Option.bind_none, List.getElem?_cons_zero, List.getElem?_cons_succ, List.set_cons_zero, List.set_cons_succ, Bool.false_eq_true, Bool.not_false, Bool.not_true, b_ok, o_some, f_int, f_tup, f_lst, f_bl, f_non, f_own, fs_nil, fs_cons, pn_int, pn_tup, pn_lst, pn_bl, pn_non, pn_own, tr_bl, t0, t1, t2, add_, sub_, lt_, le_, gt_, ge_, Option.map_some, List.length_cons, List.length_nil, ln0, ln1, ln2, ln3, itemsOf, eq_int, ne_int, retC, outR, f_P, pn_P, f_3, pn_3, f_W, pn_W, f_Ws, pn_Ws, frzs_P, frzs_3, pl_ii, l0, l1, decide_eq_true h0, int_i, md_ hm, div_ hm hl, ix20, ix21, reduceCtorEq]
  · have sb : Sm 61 b := by unfold Sm; omega
    have sc : Sm 40 (6364136223 : Int) := by unfold Sm; decide
    have sd : (65537 : Int).natAbs.log2 < 9000 := by decide +kernel
    refine ⟨((b * 6364136223 + 1442695041) % (2 ^ 61 - 1) / 65537) % m, g, (b * 6364136223 + 1442695041) % (2 ^ 61 - 1), ⟨h1, h2, Int.emod_nonneg _ (by decide), ?_⟩, Int.emod_nonneg _ (by omega), Int.emod_lt_of_pos _ hm, ?_⟩
    · have := Int.emod_lt_of_pos (b * 6364136223 + 1442695041) hp
      omega
    rw [call_eq (fn := ⟨3, 2, true, b_law_draw⟩) rfl rfl]
    simp only [b_law_draw, x_lc, x_gl, x_cst, x_bin, x_neg, x_cmp, x_chn, x_cmpR, x_and, x_or, x_not, x_ite, x_tup, x_lst, x_sub, x_subB, x_slc, x_no, x_yes, x_rev, x_callF, x_callIO, x_callB, x_callBB, x_isi, x_nil, x_cons, x_star, x_sE, x_sEn, x_sZp, x_sR1, y_skip, y_seq, y_asgN, y_asgT, y_par, y_par3, y_ife, y_ret, y_retS, y_exp, y_app, y_set, y_for, evT, asg_nm, asg_t, asgs_n, asgs_c, fr_0, fr_s, fo_n, fo_s, ↓reduceIte, List.map_cons, List.map_nil, List.replicate, Nat.sub_self, Nat.reduceSub, List.append_nil, List.cons_append, List.nil_append, readAt, viewAt, ownAt, hasAt, Option.bind_some, Option.bind_none, List.getElem?_cons_zero, List.getElem?_cons_succ, List.set_cons_zero, List.set_cons_succ, Bool.false_eq_true, Bool.not_false, Bool.not_true, b_ok, o_some, f_int, f_tup, f_lst, f_bl, f_non, f_own, fs_nil, fs_cons, pn_int, pn_tup, pn_lst, pn_bl, pn_non, pn_own, tr_bl, t0, t1, t2, add_, sub_, lt_, le_, gt_, ge_, Option.map_some, List.length_cons, List.length_nil, ln0, ln1, ln2, ln3, itemsOf, eq_int, ne_int, retC, outR, f_P, pn_P, f_3, pn_3, f_W, pn_W, f_Ws, pn_Ws, frzs_P, frzs_3, pl_ii, l0, l1, decide_eq_false h0, int_i, mul_ sb sc (by decide), pow_2_61, md_ hp, md_ hm, div_ (j := 65537) (by decide) sd, ix20, ix21]
theorem atI_ok {xs : List Int} {v : Int} (h0 : 0 ≤ v) (h1 : v < xs.length) : ∃ x ∈ xs, subD (.lst (xs.map D.int)) (.int v) = some (.int x) := by
  obtain ⟨n, rfl⟩ : ∃ n : Nat, v = n := ⟨v.toNat, by omega⟩
  have hn : n < xs.length := by omega
  refine ⟨xs[n], List.getElem_mem _, ?_⟩
  show atI (xs.map D.int) (n : Int) = _
  unfold atI ixN
  rw [if_pos (by omega), if_pos (by rw [List.length_map]; omega)]
  show (xs.map D.int)[(n : Int).toNat]? = _
  rw [Int.toNat_natCast, List.getElem?_map, List.getElem?_eq_getElem hn]
  rfl
theorem s_law_one_of {xs : List Int} (h : Bg g b) (h0 : 0 < xs.length) (h1 : xs.length < 100) : ∃ x ∈ xs, ∃ g' b', Bg g' b' ∧ callN tab gl (k + 2) i_law_one_of [.own true [.int g, .int b], .lst (xs.map D.int)] = .ok (.int x) (some (.own true [.int g', .int b'])) := by
  obtain ⟨v, g', b', hb, hv0, hv1, he⟩ := s_law_draw (k := k) (m := (xs.length : Int)) h (by omega) (by omega)
  obtain ⟨x, hx, hs⟩ := atI_ok hv0 hv1
  refine ⟨x, hx, g', b', hb, ?_⟩
  rw [call_eq (fn := ⟨2, 2, true, b_law_one_of⟩) rfl rfl]
  simp only [b_law_one_of, x_lc, x_gl, x_cst, x_bin, x_neg, x_cmp, x_chn, x_cmpR, x_and, x_or, x_not, x_ite, x_tup, x_lst, x_sub, x_subB, x_slc, x_no, x_yes, x_rev, x_callF, x_callIO, x_callB, x_callBB, x_isi, x_nil, x_cons, x_star, x_sE, x_sEn, x_sZp, x_sR1, y_skip, y_seq, y_asgN, y_asgT, y_par, y_par3, y_ife, y_ret, y_retS, y_exp, y_app, y_set, y_for, evT, asg_nm, asg_t, asgs_n, asgs_c, fr_0, fr_s, fo_n, fo_s, ↓reduceIte, List.map_cons, List.map_nil, List.replicate, Nat.sub_self, Nat.reduceSub, List.append_nil, List.cons_append, List.nil_append, readAt, viewAt, ownAt, hasAt, Option.bind_some, Option.bind_none, List.getElem?_cons_zero, List.getElem?_cons_succ, List.set_cons_zero, List.set_cons_succ, Bool.false_eq_true, Bool.not_false, Bool.not_true, b_ok, o_some, f_int, f_tup, f_lst, f_bl, f_non, f_own, fs_nil, fs_cons, pn_int, pn_tup, pn_lst, pn_bl, pn_non, pn_own, tr_bl, t0, t1, t2, add_, sub_, lt_, le_, gt_, ge_, Option.map_some, List.length_cons, List.length_nil, ln0, ln1, ln2, ln3, itemsOf, eq_int, ne_int, retC, outR, f_P, pn_P, f_3, pn_3, f_W, pn_W, f_Ws, pn_Ws, frzs_P, frzs_3, len_l, List.length_map, he, retIO, hs]
end
end K74

set_option Elab.async false
set_option linter.all false
set_option maxRecDepth 100000
namespace K74
open PySem PySem.Spec L2 PD
theorem eq_p2 {a b c d : Int} : cmpD .Eq (p2 a b) (p2 c d) = some (decide (a = c ∧ b = d)) := by
  simp only [cmpD]
  rw [if_pos ⟨by rfl, by rfl⟩]
  simp only [D.py, D.pys, PyData.eqv, PyData.eqvAll, Bool.and_true]
  congr 1
  rw [Bool.eq_iff_iff]
  simp
theorem sm_nn {n : Nat} {v m : Int} (h0 : 0 ≤ v) (h : v < m) (hm : Sm n m) : Sm n v := by
  unfold Sm at *
  omega
section
variable {k n : Nat} {g b m s : Int}
def dirB : IS := .ife (.cmp .Eq (.lc 2) (.tup (.cons (.cst (.int 0)) (.cons (.cst (.int 0)) (.nil))))) (.asg (.nm 2) (.tup (.cons (.bin .Sub (.callIO i_law_draw 0 (.cons (.bin .Add (.bin .Mult (.cst (.int 2)) (.lc 1)) (.cst (.int 1))) (.nil))) (.lc 1)) (.cons (.bin .Sub (.callIO i_law_draw 0 (.cons (.bin .Add (.bin .Mult (.cst (.int 2)) (.lc 1)) (.cst (.int 1))) (.nil))) (.lc 1)) (.nil))))) (.skip)
theorem s_law_direction (h : Bg g b) (h0 : 0 < s) (h1 : Sm 30 s) : ∃ x y g' b', Bg g' b' ∧ Sm 33 x ∧ Sm 33 y ∧ ¬ (x = 0 ∧ y = 0) ∧ callN tab gl (k + 2) i_law_direction [.own true [.int g, .int b], .int s] = .ok (p2 x y) (some (.own true [.int g', .int b'])) := by
  have t2 : Sm 2 (2 : Int) := by unfold Sm; decide
  have sm2 : Sm 33 (2 * s + 1) := (((t2.mul h1).add (j := 1) (by unfold Sm; decide))).mono (by decide)
  have hm : 0 < 2 * s + 1 := by omega
  have hm2 : 2 * s + 1 < 2 ^ 60 := by unfold Sm at h1; omega
  have z0 : Sm 33 (0 : Int) := by unfold Sm; decide
  obtain ⟨e, q1, g1, b1, x, y, t, hb, hx, hy, ft, rfl⟩ := forL_ind (enc := fun i : Nat => D.int (i : Int)) (F := fun d e => (asg (.nm 3) d e).bind fun _ e => evS (callN tab gl (k + 1)) gl dirB e)
    (I := fun e => ∃ g b x y t, Bg g b ∧ Sm 33 x ∧ Sm 33 y ∧ freeO t = true ∧ e = [some (.own true [.int g, .int b]), some (.int s), some (p2 x y), t])
    (List.range 9) [some (.own true [.int g, .int b]), some (.int s), some (p2 0 0), none] ⟨g, b, 0, 0, none, h, z0, z0, rfl, rfl⟩ (by
      rintro i _ e ⟨g, b, x, y, t, hb, hx, hy, ft, rfl⟩
      by_cases h3 : x = 0 ∧ y = 0
      · obtain ⟨v1, g1, b1, hb1, v10, v11, e1⟩ := s_law_draw (k := k) hb hm hm2
        obtain ⟨v2, g2, b2, hb2, v20, v21, e2⟩ := s_law_draw (k := k) hb1 hm hm2
        have w1 : Sm 33 (v1 - s) := by unfold Sm at *; omega
        have w2 : Sm 33 (v2 - s) := by unfold Sm at *; omega
        refine ⟨[some (.own true [.int g2, .int b2]), some (.int s), some (p2 (v1 - s) (v2 - s)), some (.int i)], ?_, g2, b2, v1 - s, v2 - s, _, hb2, w1, w2, rfl, rfl⟩
        simp only [dirB, x_lc, x_gl, x_cst, x_bin, x_neg, x_cmp, x_chn, x_cmpR, x_and, x_or, x_not, x_ite, x_tup, x_lst, x_sub, x_subB, x_slc, x_no, x_yes, x_rev, x_callF, x_callIO, x_callB, x_callBB, x_isi, x_nil, x_cons, x_star, x_sE, x_sEn, x_sZp, x_sR1, y_skip, y_seq, y_asgN, y_asgT, y_par, y_par3, y_ife, y_ret, y_retS, y_exp, y_app, y_set, y_for, evT, asg_nm, asg_t, asgs_n, asgs_c, fr_0, fr_s, fo_n, fo_s, ↓reduceIte, List.map_cons, List.map_nil, List.replicate, Nat.sub_self, Nat.reduceSub, List.append_nil, List.cons_append, List.nil_append, readAt, viewAt, ownAt, hasAt, Option.bind_some, Option.bind_none, List.getElem?_cons_zero, List.getElem?_cons_succ, List.set_cons_zero, List.set_cons_succ, Bool.false_eq_true, Bool.not_false, Bool.not_true, b_ok, o_some, f_int, f_tup, f_lst, f_bl, f_non, f_own, fs_nil, fs_cons, pn_int, pn_tup, pn_lst, pn_bl, pn_non, pn_own, tr_bl, t0, t1, t2, add_, sub_, lt_, le_, gt_, ge_, Option.map_some, List.length_cons, List.length_nil, ln0, ln1, ln2, ln3, itemsOf, eq_int, ne_int, retC, outR, f_P, pn_P, f_3, pn_3, f_W, pn_W, f_Ws, pn_Ws, frzs_P, frzs_3, ft, eq_p2, decide_eq_true h3, mul_ t2 h1 (by decide), e1, e2, retIO]
      · refine ⟨[some (.own true [.int g, .int b]), some (.int s), some (p2 x y), some (.int i)], ?_, g, b, x, y, _, hb, hx, hy, rfl, rfl⟩
        simp only [dirB, x_lc, x_gl, x_cst, x_bin, x_neg, x_cmp, x_chn, x_cmpR, x_and, x_or, x_not, x_ite, x_tup, x_lst, x_sub, x_subB, x_slc, x_no, x_yes, x_rev, x_callF, x_callIO, x_callB, x_callBB, x_isi, x_nil, x_cons, x_star, x_sE, x_sEn, x_sZp, x_sR1, y_skip, y_seq, y_asgN, y_asgT, y_par, y_par3, y_ife, y_ret, y_retS, y_exp, y_app, y_set, y_for, evT, asg_nm, asg_t, asgs_n, asgs_c, fr_0, fr_s, fo_n, fo_s, ↓reduceIte, List.map_cons, List.map_nil, List.replicate, Nat.sub_self, Nat.reduceSub, List.append_nil, List.cons_append, List.nil_append, readAt, viewAt, ownAt, hasAt, Option.bind_some, Option.bind_none, List.getElem?_cons_zero, List.getElem?_cons_succ, List.set_cons_zero, List.set_cons_succ, Bool.false_eq_true, Bool.not_false, Bool.not_true, b_ok, o_some, f_int, f_tup, f_lst, f_bl, f_non, f_own, fs_nil, fs_cons, pn_int, pn_tup, pn_lst, pn_bl, pn_non, pn_own, tr_bl, t0, t1, t2, add_, sub_, lt_, le_, gt_, ge_, Option.map_some, List.length_cons, List.length_nil, ln0, ln1, ln2, ln3, itemsOf, eq_int, ne_int, retC, outR, f_P, pn_P, f_3, pn_3, f_W, pn_W, f_Ws, pn_Ws, frzs_P, frzs_3, ft, eq_p2, decide_eq_false h3])
  have hs1 : evI (callN tab gl (k + 1)) gl (.sR1 (.cst (.int 9))) [some (.own true [.int g, .int b]), some (.int s), some (p2 0 0), none] = .ok ((List.range 9).map fun i : Nat => D.int (i : Int)) [some (.own true [.int g, .int b]), some (.int s), some (p2 0 0), none] := sR1_ok (n := 9) rfl (by decide)
  have q2 := y_for_ok hs1 q1
  have s1 : evS (callN tab gl (k + 1)) gl (sq1 b_law_direction) [some (.own true [.int g, .int b]), some (.int s), none, none] = .ok .nx [some (.own true [.int g, .int b]), some (.int s), some (p2 0 0), none] := by
    simp only [b_law_direction, sq1, x_lc, x_gl, x_cst, x_bin, x_neg, x_cmp, x_chn, x_cmpR, x_and, x_or, x_not, x_ite, x_tup, x_lst, x_sub, x_subB, x_slc, x_no, x_yes, x_rev, x_callF, x_callIO, x_callB, x_callBB, x_isi, x_nil, x_cons, x_star, x_sE, x_sEn, x_sZp, x_sR1, y_skip, y_seq, y_asgN, y_asgT, y_par, y_par3, y_ife, y_ret, y_retS, y_exp, y_app, y_set, y_for, evT, asg_nm, asg_t, asgs_n, asgs_c, fr_0, fr_s, fo_n, fo_s, ↓reduceIte, List.map_cons, List.map_nil, List.replicate, Nat.sub_self, Nat.reduceSub, List.append_nil, List.cons_append, List.nil_append, readAt, viewAt, ownAt, hasAt, Option.bind_some, Option.bind_none, List.getElem?_cons_zero, List.getElem?_cons_succ, List.set_cons_zero, List.set_cons_succ, Bool.false_eq_true, Bool.not_false, Bool.not_true, b_ok, o_some, f_int, f_tup, f_lst, f_bl, f_non, f_own, fs_nil, fs_cons, pn_int, pn_tup, pn_lst, pn_bl, pn_non, pn_own, tr_bl, t0, t1, t2, add_, sub_, lt_, le_, gt_, ge_, Option.map_some, List.length_cons, List.length_nil, ln0, ln1, ln2, ln3, itemsOf, eq_int, ne_int, retC, outR, f_P, pn_P, f_3, pn_3, f_W, pn_W, f_Ws, pn_Ws, frzs_P, frzs_3]
  have fin : outR true (evS (callN tab gl (k + 1)) gl b_law_direction [some (.own true [.int g, .int b]), some (.int s), none, none]) = outR true (evS (callN tab gl (k + 1)) gl (sq2 (sq2 b_law_direction)) [some (.own true [.int g1, .int b1]), some (.int s), some (p2 x y), t]) := by
    rw [seq_nx rfl s1, seq_nx (s := sq2 b_law_direction) rfl q2]
  by_cases h3 : x = 0 ∧ y = 0
  · refine ⟨1, 0, g1, b1, hb, by unfold Sm; decide, z0, by decide, ?_⟩
    rw [call_eq (fn := ⟨4, 2, true, b_law_direction⟩) rfl rfl]
    refine fin.trans ?_
    simp only [b_law_direction, sq2, x_lc, x_gl, x_cst, x_bin, x_neg, x_cmp, x_chn, x_cmpR, x_and, x_or, x_not, x_ite, x_tup, x_lst, x_sub, x_subB, x_slc, x_no, x_yes, x_rev, x_callF, x_callIO, x_callB, x_callBB, x_isi, x_nil, x_cons, x_star, x_sE, x_sEn, x_sZp, x_sR1, y_skip, y_seq, y_asgN, y_asgT, y_par, y_par3, y_ife, y_ret, y_retS, y_exp, y_app, y_set, y_for, evT, asg_nm, asg_t, asgs_n, asgs_c, fr_0, fr_s, fo_n, fo_s, ↓reduceIte, List.map_cons, List.map_nil, List.replicate, Nat.sub_self, Nat.reduceSub, List.append_nil, List.cons_append, List.nil_append, readAt, viewAt, ownAt, hasAt, Option.bind_some, Option.bind_none, List.getElem?_cons_zero, List.getElem?_cons_succ, List.set_cons_zero, List.set_cons_succ, Bool.false_eq_true, Bool.not_false, Bool.not_true, b_ok, o_some, f_int, f_tup, f_lst, f_bl, f_non, f_own, fs_nil, fs_cons, pn_int, pn_tup, pn_lst, pn_bl, pn_non, pn_own, tr_bl, t0, t1, t2, add_, sub_, lt_, le_, gt_, ge_, Option.map_some, List.length_cons, List.length_nil, ln0, ln1, ln2, ln3, itemsOf, eq_int, ne_int, retC, outR, f_P, pn_P, f_3, pn_3, f_W, pn_W, f_Ws, pn_Ws, frzs_P, frzs_3, ne_p2, decide_eq_true h3]
  · refine ⟨x, y, g1, b1, hb, hx, hy, h3, ?_⟩
    rw [call_eq (fn := ⟨4, 2, true, b_law_direction⟩) rfl rfl]
    refine fin.trans ?_
    simp only [b_law_direction, sq2, x_lc, x_gl, x_cst, x_bin, x_neg, x_cmp, x_chn, x_cmpR, x_and, x_or, x_not, x_ite, x_tup, x_lst, x_sub, x_subB, x_slc, x_no, x_yes, x_rev, x_callF, x_callIO, x_callB, x_callBB, x_isi, x_nil, x_cons, x_star, x_sE, x_sEn, x_sZp, x_sR1, y_skip, y_seq, y_asgN, y_asgT, y_par, y_par3, y_ife, y_ret, y_retS, y_exp, y_app, y_set, y_for, evT, asg_nm, asg_t, asgs_n, asgs_c, fr_0, fr_s, fo_n, fo_s, ↓reduceIte, List.map_cons, List.map_nil, List.replicate, Nat.sub_self, Nat.reduceSub, List.append_nil, List.cons_append, List.nil_append, readAt, viewAt, ownAt, hasAt, Option.bind_some, Option.bind_none, List.getElem?_cons_zero, List.getElem?_cons_succ, List.set_cons_zero, List.set_cons_succ, Bool.false_eq_true, Bool.not_false, Bool.not_true, b_ok, o_some, f_int, f_tup, f_lst, f_bl, f_non, f_own, fs_nil, fs_cons, pn_int, pn_tup, pn_lst, pn_bl, pn_non, pn_own, tr_bl, t0, t1, t2, add_, sub_, lt_, le_, gt_, ge_, Option.map_some, List.length_cons, List.length_nil, ln0, ln1, ln2, ln3, itemsOf, eq_int, ne_int, retC, outR, f_P, pn_P, f_3, pn_3, f_W, pn_W, f_Ws, pn_Ws, frzs_P, frzs_3, ne_p2, decide_eq_false h3]
end
end K74

set_option Elab.async false
set_option linter.all false
set_option maxRecDepth 100000
namespace K74
open PySem PySem.Spec L2 PD
/-- a drawn wedge's promise -/
structure DrW (w : Wd) : Prop where
  p : Sm 40 w.p
  q : Sm 40 w.q
  a : Sm 40 w.a
  b : Sm 40 w.b
  c : Sm 40 w.c
  d : Sm 40 w.d
  r : ¬ (w.a = 0 ∧ w.b = 0)
  l : ¬ (w.c = 0 ∧ w.d = 0)
  t : 0 < w.a * w.d - w.b * w.c ∨ (w.a * w.d - w.b * w.c = 0 ∧ 0 < w.a * w.c + w.b * w.d)
section
variable {k n : Nat} {g b m s : Int}
theorem s_law_wedge (h : Bg g b) (h0 : 0 < s) (h1 : Sm 30 s) : ∃ w g' b', Bg g' b' ∧ DrW w ∧ callN tab gl (k + 3) i_law_wedge [.own true [.int g, .int b], .int s] = .ok (encW w) (some (.own true [.int g', .int b'])) := by
  have t2 : Sm 2 (2 : Int) := by unfold Sm; decide
  have sm2 : Sm 33 (2 * s + 1) := (((t2.mul h1).add (j := 1) (by unfold Sm; decide))).mono (by decide)
  have hm : 0 < 2 * s + 1 := by omega
  have hm2 : 2 * s + 1 < 2 ^ 60 := by unfold Sm at h1; omega
  obtain ⟨v1, g1, b1, hb1, v10, v11, e1⟩ := s_law_draw (k := k + 1) h hm hm2
  obtain ⟨v2, g2, b2, hb2, v20, v21, e2⟩ := s_law_draw (k := k + 1) hb1 hm hm2
  obtain ⟨x, y, g3, b3, hb3, hx, hy, hxy, e3⟩ := s_law_direction (k := k) hb2 h0 h1
  obtain ⟨v4, g4, b4, hb4, v40, v41, e4⟩ := s_law_draw (k := k + 1) (m := 8) hb3 (by decide) (by decide)
  have w1 : Sm 40 (v1 - s) := by unfold Sm at *; omega
  have w2 : Sm 40 (v2 - s) := by unfold Sm at *; omega
  have x4 := hx.mono (m := 40) (by decide)
  have y4 := hy.mono (m := 40) (by decide)
  have st : callN tab gl (k + 3) i_law_wedge [.own true [.int g, .int b], .int s] = outR true (evS (callN tab gl (k + 2)) gl (sq2 b_law_wedge) [some (.own true [.int g3, .int b3]), some (.int s), some (p2 (v1 - s) (v2 - s)), some (p2 x y), none, none]) := by
    rw [call_eq (fn := ⟨6, 2, true, b_law_wedge⟩) rfl rfl]
    have s1 : evS (callN tab gl (k + 2)) gl (sq1 b_law_wedge) [some (.own true [.int g, .int b]), some (.int s), none, none, none, none] = .ok .nx [some (.own true [.int g3, .int b3]), some (.int s), some (p2 (v1 - s) (v2 - s)), some (p2 x y), none, none] := by
      simp only [b_law_wedge, sq1, x_lc, x_gl, x_cst, x_bin, x_neg, x_cmp, x_chn, x_cmpR, x_and, x_or, x_not, x_ite, x_tup, x_lst, x_sub, x_subB, x_slc, x_no, x_yes, x_rev, x_callF, x_callIO, x_callB, x_callBB, x_isi, x_nil, x_cons, x_star, x_sE, x_sEn, x_sZp, x_sR1, y_skip, y_seq, y_asgN, y_asgT, y_par, y_par3, y_ife, y_ret, y_retS, y_exp, y_app, y_set, y_for, evT, asg_nm, asg_t, asgs_n, asgs_c, fr_0, fr_s, fo_n, fo_s, ↓reduceIte, List.map_cons, List.map_nil, List.replicate, Nat.sub_self, Nat.reduceSub, List.append_nil, List.cons_append, List.nil_append, readAt, viewAt, ownAt, hasAt, Option.bind_some, Option.bind_none, List.getElem?_cons_zero, List.getElem?_cons_succ, List.set_cons_zero, List.set_cons_succ, Bool.false_eq_true, Bool.not_false, Bool.not_true, b_ok, o_some, f_int, f_tup, f_lst, f_bl, f_non, f_own, fs_nil, fs_cons, pn_int, pn_tup, pn_lst, pn_bl, pn_non, pn_own, tr_bl, t0, t1, t2, add_, sub_, lt_, le_, gt_, ge_, Option.map_some, List.length_cons, List.length_nil, ln0, ln1, ln2, ln3, itemsOf, eq_int, ne_int, retC, outR, f_P, pn_P, f_3, pn_3, f_W, pn_W, f_Ws, pn_Ws, frzs_P, frzs_3, mul_ t2 h1 (by decide), e1, e2, e3, retIO, Bool.and_self]
    show outR true (evS (callN tab gl (k + 2)) gl b_law_wedge [some (.own true [.int g, .int b]), some (.int s), none, none, none, none]) = _
    rw [seq_nx rfl s1]
  by_cases h4 : v4 = 0
  · obtain ⟨v5, g5, b5, hb5, v50, v51, e5⟩ := s_law_draw (k := k + 1) (m := 3) hb4 (by decide) (by decide)
    have s5 : Sm 3 (1 + v5) := by unfold Sm; omega
    refine ⟨⟨v1 - s, v2 - s, x, y, (1 + v5) * x, (1 + v5) * y⟩, g5, b5, hb5, ⟨w1, w2, x4, y4, (s5.mul hx).mono (by decide), (s5.mul hy).mono (by decide), hxy, ?_, .inr ⟨?_, ?_⟩⟩, ?_⟩
    · rintro ⟨c1, c2⟩
      have c1 : (1 + v5) * x = 0 := c1
      have c2 : (1 + v5) * y = 0 := c2
      refine hxy ⟨?_, ?_⟩
      · rcases Int.mul_eq_zero.mp c1 with q | q
        · omega
        · exact q
      · rcases Int.mul_eq_zero.mp c2 with q | q
        · omega
        · exact q
    · show x * ((1 + v5) * y) - y * ((1 + v5) * x) = 0
      grind
    · show 0 < x * ((1 + v5) * x) + y * ((1 + v5) * y)
      have e : x * ((1 + v5) * x) + y * ((1 + v5) * y) = (1 + v5) * (x * x + y * y) := by grind
      rw [e]
      exact Int.mul_pos (by omega) (sq_pos hxy)
    · rw [st]
      simp only [b_law_wedge, sq2, x_lc, x_gl, x_cst, x_bin, x_neg, x_cmp, x_chn, x_cmpR, x_and, x_or, x_not, x_ite, x_tup, x_lst, x_sub, x_subB, x_slc, x_no, x_yes, x_rev, x_callF, x_callIO, x_callB, x_callBB, x_isi, x_nil, x_cons, x_star, x_sE, x_sEn, x_sZp, x_sR1, y_skip, y_seq, y_asgN, y_asgT, y_par, y_par3, y_ife, y_ret, y_retS, y_exp, y_app, y_set, y_for, evT, asg_nm, asg_t, asgs_n, asgs_c, fr_0, fr_s, fo_n, fo_s, ↓reduceIte, List.map_cons, List.map_nil, List.replicate, Nat.sub_self, Nat.reduceSub, List.append_nil, List.cons_append, List.nil_append, readAt, viewAt, ownAt, hasAt, Option.bind_some, Option.bind_none, List.getElem?_cons_zero, List.getElem?_cons_succ, List.set_cons_zero, List.set_cons_succ, Bool.false_eq_true, Bool.not_false, Bool.not_true, b_ok, o_some, f_int, f_tup, f_lst, f_bl, f_non, f_own, fs_nil, fs_cons, pn_int, pn_tup, pn_lst, pn_bl, pn_non, pn_own, tr_bl, t0, t1, t2, add_, sub_, lt_, le_, gt_, ge_, Option.map_some, List.length_cons, List.length_nil, ln0, ln1, ln2, ln3, itemsOf, eq_int, ne_int, retC, outR, f_P, pn_P, f_3, pn_3, f_W, pn_W, f_Ws, pn_Ws, frzs_P, frzs_3, e4, eq_int, decide_eq_true h4, e5, retIO, mul_ s5 hx (by decide), mul_ s5 hy (by decide), encW]
  · obtain ⟨x2, y2, g6, b6, hb6, hx2, hy2, hxy2, e6⟩ := s_law_direction (k := k) hb4 h0 h1
    have x24 := hx2.mono (m := 40) (by decide)
    have y24 := hy2.mono (m := 40) (by decide)
    have m9 : ∀ {i : Int}, Sm 33 i → Sm 900 i := fun h => h.mono (by decide)
    have c1 := s_law_turn (k := k + 1) (m9 hx) (m9 hy) (m9 hx2) (m9 hy2)
    by_cases h7 : x * y2 - y * x2 = 0
    · have z0 : Sm 33 (0 - y) := by unfold Sm at *; omega
      have c2 := s_law_turn (k := k + 1) (m9 hx) (m9 hy) (m9 z0) (m9 hx)
      have hp : 0 < x * x - y * (0 - y) := by
        have e : x * x - y * (0 - y) = x * x + y * y := by grind
        rw [e]
        exact sq_pos hxy
      refine ⟨⟨v1 - s, v2 - s, x, y, 0 - y, x⟩, g6, b6, hb6, ⟨w1, w2, x4, y4, z0.mono (by decide), x4, hxy, ?_, .inl hp⟩, ?_⟩
      · rintro ⟨q1, q2⟩
        have q1 : 0 - y = 0 := q1
        exact hxy ⟨q2, by omega⟩
      · rw [st]
        simp only [b_law_wedge, sq2, x_lc, x_gl, x_cst, x_bin, x_neg, x_cmp, x_chn, x_cmpR, x_and, x_or, x_not, x_ite, x_tup, x_lst, x_sub, x_subB, x_slc, x_no, x_yes, x_rev, x_callF, x_callIO, x_callB, x_callBB, x_isi, x_nil, x_cons, x_star, x_sE, x_sEn, x_sZp, x_sR1, y_skip, y_seq, y_asgN, y_asgT, y_par, y_par3, y_ife, y_ret, y_retS, y_exp, y_app, y_set, y_for, evT, asg_nm, asg_t, asgs_n, asgs_c, fr_0, fr_s, fo_n, fo_s, ↓reduceIte, List.map_cons, List.map_nil, List.replicate, Nat.sub_self, Nat.reduceSub, List.append_nil, List.cons_append, List.nil_append, readAt, viewAt, ownAt, hasAt, Option.bind_some, Option.bind_none, List.getElem?_cons_zero, List.getElem?_cons_succ, List.set_cons_zero, List.set_cons_succ, Bool.false_eq_true, Bool.not_false, Bool.not_true, b_ok, o_some, f_int, f_tup, f_lst, f_bl, f_non, f_own, fs_nil, fs_cons, pn_int, pn_tup, pn_lst, pn_bl, pn_non, pn_own, tr_bl, t0, t1, t2, add_, sub_, lt_, le_, gt_, ge_, Option.map_some, List.length_cons, List.length_nil, ln0, ln1, ln2, ln3, itemsOf, eq_int, ne_int, retC, outR, f_P, pn_P, f_3, pn_3, f_W, pn_W, f_Ws, pn_Ws, frzs_P, frzs_3, e4, eq_int, decide_eq_false h4, e6, retIO, c1, decide_eq_true h7, c2, decide_eq_true hp, encW]
    · by_cases h8 : 0 < x * y2 - y * x2
      · refine ⟨⟨v1 - s, v2 - s, x, y, x2, y2⟩, g6, b6, hb6, ⟨w1, w2, x4, y4, x24, y24, hxy, hxy2, .inl h8⟩, ?_⟩
        rw [st]
        simp only [b_law_wedge, sq2, x_lc, x_gl, x_cst, x_bin, x_neg, x_cmp, x_chn, x_cmpR, x_and, x_or, x_not, x_ite, x_tup, x_lst, x_sub, x_subB, x_slc, x_no, x_yes, x_rev, x_callF, x_callIO, x_callB, x_callBB, x_isi, x_nil, x_cons, x_star, x_sE, x_sEn, x_sZp, x_sR1, y_skip, y_seq, y_asgN, y_asgT, y_par, y_par3, y_ife, y_ret, y_retS, y_exp, y_app, y_set, y_for, evT, asg_nm, asg_t, asgs_n, asgs_c, fr_0, fr_s, fo_n, fo_s, ↓reduceIte, List.map_cons, List.map_nil, List.replicate, Nat.sub_self, Nat.reduceSub, List.append_nil, List.cons_append, List.nil_append, readAt, viewAt, ownAt, hasAt, Option.bind_some, Option.bind_none, List.getElem?_cons_zero, List.getElem?_cons_succ, List.set_cons_zero, List.set_cons_succ, Bool.false_eq_true, Bool.not_false, Bool.not_true, b_ok, o_some, f_int, f_tup, f_lst, f_bl, f_non, f_own, fs_nil, fs_cons, pn_int, pn_tup, pn_lst, pn_bl, pn_non, pn_own, tr_bl, t0, t1, t2, add_, sub_, lt_, le_, gt_, ge_, Option.map_some, List.length_cons, List.length_nil, ln0, ln1, ln2, ln3, itemsOf, eq_int, ne_int, retC, outR, f_P, pn_P, f_3, pn_3, f_W, pn_W, f_Ws, pn_Ws, frzs_P, frzs_3, e4, eq_int, decide_eq_false h4, e6, retIO, c1, decide_eq_false h7, decide_eq_true h8, encW]
      · have hp : 0 < x2 * y - y2 * x := by
          have e : x2 * y - y2 * x = -(x * y2 - y * x2) := by grind
          omega
        refine ⟨⟨v1 - s, v2 - s, x2, y2, x, y⟩, g6, b6, hb6, ⟨w1, w2, x24, y24, x4, y4, hxy2, hxy, .inl hp⟩, ?_⟩
        rw [st]
        simp only [b_law_wedge, sq2, x_lc, x_gl, x_cst, x_bin, x_neg, x_cmp, x_chn, x_cmpR, x_and, x_or, x_not, x_ite, x_tup, x_lst, x_sub, x_subB, x_slc, x_no, x_yes, x_rev, x_callF, x_callIO, x_callB, x_callBB, x_isi, x_nil, x_cons, x_star, x_sE, x_sEn, x_sZp, x_sR1, y_skip, y_seq, y_asgN, y_asgT, y_par, y_par3, y_ife, y_ret, y_retS, y_exp, y_app, y_set, y_for, evT, asg_nm, asg_t, asgs_n, asgs_c, fr_0, fr_s, fo_n, fo_s, ↓reduceIte, List.map_cons, List.map_nil, List.replicate, Nat.sub_self, Nat.reduceSub, List.append_nil, List.cons_append, List.nil_append, readAt, viewAt, ownAt, hasAt, Option.bind_some, Option.bind_none, List.getElem?_cons_zero, List.getElem?_cons_succ, List.set_cons_zero, List.set_cons_succ, Bool.false_eq_true, Bool.not_false, Bool.not_true, b_ok, o_some, f_int, f_tup, f_lst, f_bl, f_non, f_own, fs_nil, fs_cons, pn_int, pn_tup, pn_lst, pn_bl, pn_non, pn_own, tr_bl, t0, t1, t2, add_, sub_, lt_, le_, gt_, ge_, Option.map_some, List.length_cons, List.length_nil, ln0, ln1, ln2, ln3, itemsOf, eq_int, ne_int, retC, outR, f_P, pn_P, f_3, pn_3, f_W, pn_W, f_Ws, pn_Ws, frzs_P, frzs_3, e4, eq_int, decide_eq_false h4, e6, retIO, c1, decide_eq_false h7, decide_eq_false h8, encW]
end
end K74

set_option Elab.async false
set_option linter.all false
set_option maxRecDepth 100000
namespace K74
open PySem PySem.Spec L2 PD
def wB1 : IS := .asg (.tup (.cons (.nm 6) (.cons (.nm 7) (.cons (.nm 8) (.nil))))) (.callIO i_law_wedge 0 (.cons (.lc 2) (.nil)))
def wB2 : IS := .asg (.nm 9) (.tup (.cons (.bin .Sub (.sub (.lc 3) (.cst (.int 0))) (.sub (.lc 6) (.cst (.int 0)))) (.cons (.bin .Sub (.sub (.lc 3) (.cst (.int 1))) (.sub (.lc 6) (.cst (.int 1)))) (.nil))))
def wA1 : IS := .asg (.nm 10) (.tup (.cons (.bin .Add (.bin .Mult (.cst (.int 4)) (.sub (.lc 9) (.cst (.int 0)))) (.bin .Mult (.callIO i_law_draw 0 (.cons (.cst (.int 3)) (.nil))) (.sub (.lc 9) (.cst (.int 1))))) (.cons (.bin .Sub (.bin .Mult (.cst (.int 4)) (.sub (.lc 9) (.cst (.int 1)))) (.bin .Mult (.callIO i_law_draw 0 (.cons (.cst (.int 3)) (.nil))) (.sub (.lc 9) (.cst (.int 0))))) (.nil))))
def wA2 : IS := .asg (.nm 7) (.ite (.and_ (.cmp .GtE (.callF i_law_turn (.cons (.lc 10) (.cons (.lc 9) (.nil)))) (.cst (.int 0))) (.cmp .NotEq (.lc 10) (.tup (.cons (.cst (.int 0)) (.cons (.cst (.int 0)) (.nil)))))) (.lc 10) (.lc 9))
def wA3 : IS := .asg (.nm 8) (.tup (.cons (.bin .Sub (.bin .Mult (.cst (.int 3)) (.sub (.lc 9) (.cst (.int 0)))) (.bin .Mult (.callIO i_law_draw 0 (.cons (.cst (.int 4)) (.nil))) (.sub (.lc 9) (.cst (.int 1))))) (.cons (.bin .Add (.bin .Mult (.cst (.int 3)) (.sub (.lc 9) (.cst (.int 1)))) (.bin .Mult (.callIO i_law_draw 0 (.cons (.cst (.int 4)) (.nil))) (.sub (.lc 9) (.cst (.int 0))))) (.nil))))
def wA4 : IS := .asg (.nm 8) (.ite (.and_ (.cmp .GtE (.callF i_law_turn (.cons (.lc 9) (.cons (.lc 8) (.nil)))) (.cst (.int 0))) (.cmp .NotEq (.lc 8) (.tup (.cons (.cst (.int 0)) (.cons (.cst (.int 0)) (.nil)))))) (.lc 8) (.lc 9))
def wB3 : IS := .ife (.and_ (.cmp .Gt (.callIO i_law_draw 0 (.cons (.cst (.int 3)) (.nil))) (.cst (.int 0))) (.cmp .NotEq (.lc 9) (.tup (.cons (.cst (.int 0)) (.cons (.cst (.int 0)) (.nil)))))) (.seq wA1 (.seq wA2 (.seq wA3 wA4))) (.skip)
section
variable {k n : Nat} {g b m s : Int}
theorem seq_ok {cf : CallF} {g : Str → Option D} {s t : IS} {e e' : PD.Env} (h : evS cf g s e = .ok .nx e') : evS cf g (.seq s t) e = evS cf g t e' := by
  simp only [evS]
  rw [h]
  rfl
theorem pick7 {E0 E1 E2 E3 E4 E5 E6 E7 E8 E11 : Option D} {x y f h : Int} (fr : freeO E7 = true) (hx : Sm 60 x) (hy : Sm 60 y) (hf : Sm 60 f) (hh : Sm 60 h) :
    ∃ r1 r2, Sm 60 r1 ∧ Sm 60 r2 ∧ evS (callN tab gl (k + 1)) gl wA2 [E0, E1, E2, E3, E4, E5, E6, E7, E8, some (p2 f h), some (p2 x y), E11] = .ok .nx [E0, E1, E2, E3, E4, E5, E6, some (p2 r1 r2), E8, some (p2 f h), some (p2 x y), E11] := by
  have m9 : ∀ {i : Int}, Sm 60 i → Sm 900 i := fun h => h.mono (by decide)
  have c1 := s_law_turn (k := k) (m9 hx) (m9 hy) (m9 hf) (m9 hh)
  by_cases q1 : 0 ≤ x * h - y * f
  · by_cases q2 : x = 0 ∧ y = 0
    · refine ⟨f, h, hf, hh, ?_⟩
      simp only [wA2, x_lc, x_gl, x_cst, x_bin, x_neg, x_cmp, x_chn, x_cmpR, x_and, x_or, x_not, x_ite, x_tup, x_lst, x_sub, x_subB, x_slc, x_no, x_yes, x_rev, x_callF, x_callIO, x_callB, x_callBB, x_isi, x_nil, x_cons, x_star, x_sE, x_sEn, x_sZp, x_sR1, y_skip, y_seq, y_asgN, y_asgT, y_par, y_par3, y_ife, y_ret, y_retS, y_exp, y_app, y_set, y_for, evT, asg_nm, asg_t, asgs_n, asgs_c, fr_0, fr_s, fo_n, fo_s, ↓reduceIte, List.map_cons, List.map_nil, List.replicate, Nat.sub_self, Nat.reduceSub, List.append_nil, List.cons_append, List.nil_append, readAt, viewAt, ownAt, hasAt, Option.bind_some, Option.bind_none, List.getElem?_cons_zero, List.getElem?_cons_succ, List.set_cons_zero, List.set_cons_succ, Bool.false_eq_true, Bool.not_false, Bool.not_true, b_ok, o_some, f_int, f_tup, f_lst, f_bl, f_non, f_own, fs_nil, fs_cons, pn_int, pn_tup, pn_lst, pn_bl, pn_non, pn_own, tr_bl, t0, t1, t2, add_, sub_, lt_, le_, gt_, ge_, Option.map_some, List.length_cons, List.length_nil, ln0, ln1, ln2, ln3, itemsOf, eq_int, ne_int, retC, outR, f_P, pn_P, f_3, pn_3, f_W, pn_W, f_Ws, pn_Ws, frzs_P, frzs_3, fr, c1, decide_eq_true q1, ne_p2, decide_eq_true q2]
    · refine ⟨x, y, hx, hy, ?_⟩
      simp only [wA2, x_lc, x_gl, x_cst, x_bin, x_neg, x_cmp, x_chn, x_cmpR, x_and, x_or, x_not, x_ite, x_tup, x_lst, x_sub, x_subB, x_slc, x_no, x_yes, x_rev, x_callF, x_callIO, x_callB, x_callBB, x_isi, x_nil, x_cons, x_star, x_sE, x_sEn, x_sZp, x_sR1, y_skip, y_seq, y_asgN, y_asgT, y_par, y_par3, y_ife, y_ret, y_retS, y_exp, y_app, y_set, y_for, evT, asg_nm, asg_t, asgs_n, asgs_c, fr_0, fr_s, fo_n, fo_s, ↓reduceIte, List.map_cons, List.map_nil, List.replicate, Nat.sub_self, Nat.reduceSub, List.append_nil, List.cons_append, List.nil_append, readAt, viewAt, ownAt, hasAt, Option.bind_some, Option.bind_none, List.getElem?_cons_zero, List.getElem?_cons_succ, List.set_cons_zero, List.set_cons_succ, Bool.false_eq_true, Bool.not_false, Bool.not_true, b_ok, o_some, f_int, f_tup, f_lst, f_bl, f_non, f_own, fs_nil, fs_cons, pn_int, pn_tup, pn_lst, pn_bl, pn_non, pn_own, tr_bl, t0, t1, t2, add_, sub_, lt_, le_, gt_, ge_, Option.map_some, List.length_cons, List.length_nil, ln0, ln1, ln2, ln3, itemsOf, eq_int, ne_int, retC, outR, f_P, pn_P, f_3, pn_3, f_W, pn_W, f_Ws, pn_Ws, frzs_P, frzs_3, fr, c1, decide_eq_true q1, ne_p2, decide_eq_false q2]
  · refine ⟨f, h, hf, hh, ?_⟩
    simp only [wA2, x_lc, x_gl, x_cst, x_bin, x_neg, x_cmp, x_chn, x_cmpR, x_and, x_or, x_not, x_ite, x_tup, x_lst, x_sub, x_subB, x_slc, x_no, x_yes, x_rev, x_callF, x_callIO, x_callB, x_callBB, x_isi, x_nil, x_cons, x_star, x_sE, x_sEn, x_sZp, x_sR1, y_skip, y_seq, y_asgN, y_asgT, y_par, y_par3, y_ife, y_ret, y_retS, y_exp, y_app, y_set, y_for, evT, asg_nm, asg_t, asgs_n, asgs_c, fr_0, fr_s, fo_n, fo_s, ↓reduceIte, List.map_cons, List.map_nil, List.replicate, Nat.sub_self, Nat.reduceSub, List.append_nil, List.cons_append, List.nil_append, readAt, viewAt, ownAt, hasAt, Option.bind_some, Option.bind_none, List.getElem?_cons_zero, List.getElem?_cons_succ, List.set_cons_zero, List.set_cons_succ, Bool.false_eq_true, Bool.not_false, Bool.not_true, b_ok, o_some, f_int, f_tup, f_lst, f_bl, f_non, f_own, fs_nil, fs_cons, pn_int, pn_tup, pn_lst, pn_bl, pn_non, pn_own, tr_bl, t0, t1, t2, add_, sub_, lt_, le_, gt_, ge_, Option.map_some, List.length_cons, List.length_nil, ln0, ln1, ln2, ln3, itemsOf, eq_int, ne_int, retC, outR, f_P, pn_P, f_3, pn_3, f_W, pn_W, f_Ws, pn_Ws, frzs_P, frzs_3, fr, c1, decide_eq_false q1]
theorem pick8 {E0 E1 E2 E3 E4 E5 E6 E7 E10 E11 : Option D} {x y f h : Int} (hx : Sm 60 x) (hy : Sm 60 y) (hf : Sm 60 f) (hh : Sm 60 h) :
    ∃ r1 r2, Sm 60 r1 ∧ Sm 60 r2 ∧ evS (callN tab gl (k + 1)) gl wA4 [E0, E1, E2, E3, E4, E5, E6, E7, some (p2 x y), some (p2 f h), E10, E11] = .ok .nx [E0, E1, E2, E3, E4, E5, E6, E7, some (p2 r1 r2), some (p2 f h), E10, E11] := by
  have m9 : ∀ {i : Int}, Sm 60 i → Sm 900 i := fun h => h.mono (by decide)
  have c1 := s_law_turn (k := k) (m9 hf) (m9 hh) (m9 hx) (m9 hy)
  by_cases q1 : 0 ≤ f * y - h * x
  · by_cases q2 : x = 0 ∧ y = 0
    · refine ⟨f, h, hf, hh, ?_⟩
      simp only [wA4, x_lc, x_gl, x_cst, x_bin, x_neg, x_cmp, x_chn, x_cmpR, x_and, x_or, x_not, x_ite, x_tup, x_lst, x_sub, x_subB, x_slc, x_no, x_yes, x_rev, x_callF, x_callIO, x_callB, x_callBB, x_isi, x_nil, x_cons, x_star, x_sE, x_sEn, x_sZp, x_sR1, y_skip, y_seq, y_asgN, y_asgT, y_par, y_par3, y_ife, y_ret, y_retS, y_exp, y_app, y_set, y_for, evT, asg_nm, asg_t, asgs_n, asgs_c, fr_0, fr_s, fo_n, fo_s, ↓reduceIte, List.map_cons, List.map_nil, List.replicate, Nat.sub_self, Nat.reduceSub, List.append_nil, List.cons_append, List.nil_append, readAt, viewAt, ownAt, hasAt, Option.bind_some, Option.bind_none, List.getElem?_cons_zero, List.getElem?_cons_succ, List.set_cons_zero, List.set_cons_succ, Bool.false_eq_true, Bool.not_false, Bool.not_true, b_ok, o_some, f_int, f_tup, f_lst, f_bl, f_non, f_own, fs_nil, fs_cons, pn_int, pn_tup, pn_lst, pn_bl, pn_non, pn_own, tr_bl, t0, t1, t2, add_, sub_, lt_, le_, gt_, ge_, Option.map_some, List.length_cons, List.length_nil, ln0, ln1, ln2, ln3, itemsOf, eq_int, ne_int, retC, outR, f_P, pn_P, f_3, pn_3, f_W, pn_W, f_Ws, pn_Ws, frzs_P, frzs_3, c1, decide_eq_true q1, ne_p2, decide_eq_true q2]
    · refine ⟨x, y, hx, hy, ?_⟩
      simp only [wA4, x_lc, x_gl, x_cst, x_bin, x_neg, x_cmp, x_chn, x_cmpR, x_and, x_or, x_not, x_ite, x_tup, x_lst, x_sub, x_subB, x_slc, x_no, x_yes, x_rev, x_callF, x_callIO, x_callB, x_callBB, x_isi, x_nil, x_cons, x_star, x_sE, x_sEn, x_sZp, x_sR1, y_skip, y_seq, y_asgN, y_asgT, y_par, y_par3, y_ife, y_ret, y_retS, y_exp, y_app, y_set, y_for, evT, asg_nm, asg_t, asgs_n, asgs_c, fr_0, fr_s, fo_n, fo_s, ↓reduceIte, List.map_cons, List.map_nil, List.replicate, Nat.sub_self, Nat.reduceSub, List.append_nil, List.cons_append, List.nil_append, readAt, viewAt, ownAt, hasAt, Option.bind_some, Option.bind_none, List.getElem?_cons_zero, List.getElem?_cons_succ, List.set_cons_zero, List.set_cons_succ, Bool.false_eq_true, Bool.not_false, Bool.not_true, b_ok, o_some, f_int, f_tup, f_lst, f_bl, f_non, f_own, fs_nil, fs_cons, pn_int, pn_tup, pn_lst, pn_bl, pn_non, pn_own, tr_bl, t0, t1, t2, add_, sub_, lt_, le_, gt_, ge_, Option.map_some, List.length_cons, List.length_nil, ln0, ln1, ln2, ln3, itemsOf, eq_int, ne_int, retC, outR, f_P, pn_P, f_3, pn_3, f_W, pn_W, f_Ws, pn_Ws, frzs_P, frzs_3, c1, decide_eq_true q1, ne_p2, decide_eq_false q2]
  · refine ⟨f, h, hf, hh, ?_⟩
    simp only [wA4, x_lc, x_gl, x_cst, x_bin, x_neg, x_cmp, x_chn, x_cmpR, x_and, x_or, x_not, x_ite, x_tup, x_lst, x_sub, x_subB, x_slc, x_no, x_yes, x_rev, x_callF, x_callIO, x_callB, x_callBB, x_isi, x_nil, x_cons, x_star, x_sE, x_sEn, x_sZp, x_sR1, y_skip, y_seq, y_asgN, y_asgT, y_par, y_par3, y_ife, y_ret, y_retS, y_exp, y_app, y_set, y_for, evT, asg_nm, asg_t, asgs_n, asgs_c, fr_0, fr_s, fo_n, fo_s, ↓reduceIte, List.map_cons, List.map_nil, List.replicate, Nat.sub_self, Nat.reduceSub, List.append_nil, List.cons_append, List.nil_append, readAt, viewAt, ownAt, hasAt, Option.bind_some, Option.bind_none, List.getElem?_cons_zero, List.getElem?_cons_succ, List.set_cons_zero, List.set_cons_succ, Bool.false_eq_true, Bool.not_false, Bool.not_true, b_ok, o_some, f_int, f_tup, f_lst, f_bl, f_non, f_own, fs_nil, fs_cons, pn_int, pn_tup, pn_lst, pn_bl, pn_non, pn_own, tr_bl, t0, t1, t2, add_, sub_, lt_, le_, gt_, ge_, Option.map_some, List.length_cons, List.length_nil, ln0, ln1, ln2, ln3, itemsOf, eq_int, ne_int, retC, outR, f_P, pn_P, f_3, pn_3, f_W, pn_W, f_Ws, pn_Ws, frzs_P, frzs_3, c1, decide_eq_false q1]
theorem then_3 {E1 E2 E3 E4 E5 E6 E7 E8 E10 E11 : Option D} {f h : Int} (hB : Bg g b) (f7 : freeO E7 = true) (f8 : freeO E8 = true) (f10 : freeO E10 = true) (hf : Sm 41 f) (hh : Sm 41 h) :
    ∃ g' b' r1 r2 l1 l2 E10', Bg g' b' ∧ Sm 60 r1 ∧ Sm 60 r2 ∧ Sm 60 l1 ∧ Sm 60 l2 ∧ freeO E10' = true ∧ evS (callN tab gl (k + 1)) gl (.seq wA1 (.seq wA2 (.seq wA3 wA4))) [some (.own true [.int g, .int b]), E1, E2, E3, E4, E5, E6, E7, E8, some (p2 f h), E10, E11] =
      .ok .nx [some (.own true [.int g', .int b']), E1, E2, E3, E4, E5, E6, some (p2 r1 r2), some (p2 l1 l2), some (p2 f h), E10', E11] := by
  obtain ⟨v1, g1, b1, hb1, v10, v11, e1⟩ := s_law_draw (k := k) (m := 3) hB (by decide) (by decide)
  obtain ⟨v2, g2, b2, hb2, v20, v21, e2⟩ := s_law_draw (k := k) (m := 3) hb1 (by decide) (by decide)
  obtain ⟨v3, g3, b3, hb3, v30, v31, e3⟩ := s_law_draw (k := k) (m := 4) hb2 (by decide) (by decide)
  obtain ⟨v4, g4, b4, hb4, v40, v41, e4⟩ := s_law_draw (k := k) (m := 4) hb3 (by decide) (by decide)
  have t4 : Sm 3 (4 : Int) := by unfold Sm; decide
  have t3 : Sm 3 (3 : Int) := by unfold Sm; decide
  have w1 : Sm 3 v1 := by unfold Sm; omega
  have w2 : Sm 3 v2 := by unfold Sm; omega
  have w3 : Sm 3 v3 := by unfold Sm; omega
  have w4 : Sm 3 v4 := by unfold Sm; omega
  have hf6 : Sm 60 f := hf.mono (by decide)
  have hh6 : Sm 60 h := hh.mono (by decide)
  have x1 : Sm 60 (4 * f + v1 * h) := ((t4.mul hf).add (w1.mul hh)).mono (by decide)
  have x2 : Sm 60 (4 * h - v2 * f) := ((t4.mul hh).sub (w2.mul hf)).mono (by decide)
  have x3 : Sm 60 (3 * f - v3 * h) := ((t3.mul hf).sub (w3.mul hh)).mono (by decide)
  have x4 : Sm 60 (3 * h + v4 * f) := ((t3.mul hh).add (w4.mul hf)).mono (by decide)
  have q1 : evS (callN tab gl (k + 1)) gl wA1 [some (.own true [.int g, .int b]), E1, E2, E3, E4, E5, E6, E7, E8, some (p2 f h), E10, E11] = .ok .nx [some (.own true [.int g2, .int b2]), E1, E2, E3, E4, E5, E6, E7, E8, some (p2 f h), some (p2 (4 * f + v1 * h) (4 * h - v2 * f)), E11] := by
    simp only [wA1, x_lc, x_gl, x_cst, x_bin, x_neg, x_cmp, x_chn, x_cmpR, x_and, x_or, x_not, x_ite, x_tup, x_lst, x_sub, x_subB, x_slc, x_no, x_yes, x_rev, x_callF, x_callIO, x_callB, x_callBB, x_isi, x_nil, x_cons, x_star, x_sE, x_sEn, x_sZp, x_sR1, y_skip, y_seq, y_asgN, y_asgT, y_par, y_par3, y_ife, y_ret, y_retS, y_exp, y_app, y_set, y_for, evT, asg_nm, asg_t, asgs_n, asgs_c, fr_0, fr_s, fo_n, fo_s, ↓reduceIte, List.map_cons, List.map_nil, List.replicate, Nat.sub_self, Nat.reduceSub, List.append_nil, List.cons_append, List.nil_append, readAt, viewAt, ownAt, hasAt, Option.bind_some, Option.bind_none, List.getElem?_cons_zero, List.getElem?_cons_succ, List.set_cons_zero, List.set_cons_succ, Bool.false_eq_true, Bool.not_false, Bool.not_true, b_ok, o_some, f_int, f_tup, f_lst, f_bl, f_non, f_own, fs_nil, fs_cons, pn_int, pn_tup, pn_lst, pn_bl, pn_non, pn_own, tr_bl, t0, t1, t2, add_, sub_, lt_, le_, gt_, ge_, Option.map_some, List.length_cons, List.length_nil, ln0, ln1, ln2, ln3, itemsOf, eq_int, ne_int, retC, outR, f_P, pn_P, f_3, pn_3, f_W, pn_W, f_Ws, pn_Ws, frzs_P, frzs_3, f10, mul_ t4 hf (by decide), mul_ t4 hh (by decide), e1, e2, retIO, mul_ w1 hh (by decide), mul_ w2 hf (by decide)]
  obtain ⟨r1, r2, hr1, hr2, q2⟩ := pick7 (k := k) (E0 := some (.own true [.int g2, .int b2])) (E1 := E1) (E2 := E2) (E3 := E3) (E4 := E4) (E5 := E5) (E6 := E6) (E8 := E8) (E11 := E11) f7 x1 x2 hf6 hh6
  have q3 : evS (callN tab gl (k + 1)) gl wA3 [some (.own true [.int g2, .int b2]), E1, E2, E3, E4, E5, E6, some (p2 r1 r2), E8, some (p2 f h), some (p2 (4 * f + v1 * h) (4 * h - v2 * f)), E11] = .ok .nx [some (.own true [.int g4, .int b4]), E1, E2, E3, E4, E5, E6, some (p2 r1 r2), some (p2 (3 * f - v3 * h) (3 * h + v4 * f)), some (p2 f h), some (p2 (4 * f + v1 * h) (4 * h - v2 * f)), E11] := by
    simp only [wA3, x_lc, x_gl, x_cst, x_bin, x_neg, x_cmp, x_chn, x_cmpR, x_and, x_or, x_not, x_ite, x_tup, x_lst, x_sub, x_subB, x_slc, x_no, x_yes, x_rev, x_callF, x_callIO, x_callB, x_callBB, x_isi, x_nil, x_cons, x_star, x_sE, x_sEn, x_sZp, x_sR1, y_skip, y_seq, y_asgN, y_asgT, y_par, y_par3, y_ife, y_ret, y_retS, y_exp, y_app, y_set, y_for, evT, asg_nm, asg_t, asgs_n, asgs_c, fr_0, fr_s, fo_n, fo_s, ↓reduceIte, List.map_cons, List.map_nil, List.replicate, Nat.sub_self, Nat.reduceSub, List.append_nil, List.cons_append, List.nil_append, readAt, viewAt, ownAt, hasAt, Option.bind_some, Option.bind_none, List.getElem?_cons_zero, List.getElem?_cons_succ, List.set_cons_zero, List.set_cons_succ, Bool.false_eq_true, Bool.not_false, Bool.not_true, b_ok, o_some, f_int, f_tup, f_lst, f_bl, f_non, f_own, fs_nil, fs_cons, pn_int, pn_tup, pn_lst, pn_bl, pn_non, pn_own, tr_bl, t0, t1, t2, add_, sub_, lt_, le_, gt_, ge_, Option.map_some, List.length_cons, List.length_nil, ln0, ln1, ln2, ln3, itemsOf, eq_int, ne_int, retC, outR, f_P, pn_P, f_3, pn_3, f_W, pn_W, f_Ws, pn_Ws, frzs_P, frzs_3, f8, mul_ t3 hf (by decide), mul_ t3 hh (by decide), e3, e4, retIO, mul_ w3 hh (by decide), mul_ w4 hf (by decide)]
  obtain ⟨l1, l2, hl1, hl2, q4⟩ := pick8 (k := k) (E0 := some (.own true [.int g4, .int b4])) (E1 := E1) (E2 := E2) (E3 := E3) (E4 := E4) (E5 := E5) (E6 := E6) (E7 := some (p2 r1 r2)) (E10 := some (p2 (4 * f + v1 * h) (4 * h - v2 * f))) (E11 := E11) x3 x4 hf6 hh6
  refine ⟨g4, b4, r1, r2, l1, l2, some (p2 (4 * f + v1 * h) (4 * h - v2 * f)), hb4, hr1, hr2, hl1, hl2, rfl, ?_⟩
  rw [seq_ok q1, seq_ok q2, seq_ok q3, q4]
theorem turn_W1 {E1 E4 E5 E6 E7 E8 E9 E10 E11 : Option D} {gx gy : Int} (hB : Bg g b) (h0 : 0 < s) (h1 : Sm 30 s) (hx : Sm 40 gx) (hy : Sm 40 gy) (f6 : freeO E6 = true) (f7 : freeO E7 = true) (f8 : freeO E8 = true) (f9 : freeO E9 = true) (f10 : freeO E10 = true) (T : IS) :
    ∃ g' b' p q r1 r2 l1 l2 E9' E10', Bg g' b' ∧ Sm 60 p ∧ Sm 60 q ∧ Sm 60 r1 ∧ Sm 60 r2 ∧ Sm 60 l1 ∧ Sm 60 l2 ∧ freeO E9' = true ∧ freeO E10' = true ∧ evS (callN tab gl (k + 3)) gl (.seq wB1 (.seq wB2 (.seq wB3 T))) [some (.own true [.int g, .int b]), E1, some (.int s), some (p2 gx gy), E4, E5, E6, E7, E8, E9, E10, E11] =
      evS (callN tab gl (k + 3)) gl T [some (.own true [.int g', .int b']), E1, some (.int s), some (p2 gx gy), E4, E5, some (p2 p q), some (p2 r1 r2), some (p2 l1 l2), E9', E10', E11] := by
  obtain ⟨w, g1, b1, hb1, hw, e1⟩ := s_law_wedge (k := k) hB h0 h1
  have m6 : ∀ {i : Int}, Sm 40 i → Sm 60 i := fun h => h.mono (by decide)
  have q1 : evS (callN tab gl (k + 3)) gl wB1 [some (.own true [.int g, .int b]), E1, some (.int s), some (p2 gx gy), E4, E5, E6, E7, E8, E9, E10, E11] = .ok .nx [some (.own true [.int g1, .int b1]), E1, some (.int s), some (p2 gx gy), E4, E5, some (p2 w.p w.q), some (p2 w.a w.b), some (p2 w.c w.d), E9, E10, E11] := by
    simp only [wB1, x_lc, x_gl, x_cst, x_bin, x_neg, x_cmp, x_chn, x_cmpR, x_and, x_or, x_not, x_ite, x_tup, x_lst, x_sub, x_subB, x_slc, x_no, x_yes, x_rev, x_callF, x_callIO, x_callB, x_callBB, x_isi, x_nil, x_cons, x_star, x_sE, x_sEn, x_sZp, x_sR1, y_skip, y_seq, y_asgN, y_asgT, y_par, y_par3, y_ife, y_ret, y_retS, y_exp, y_app, y_set, y_for, evT, asg_nm, asg_t, asgs_n, asgs_c, fr_0, fr_s, fo_n, fo_s, ↓reduceIte, List.map_cons, List.map_nil, List.replicate, Nat.sub_self, Nat.reduceSub, List.append_nil, List.cons_append, List.nil_append, readAt, viewAt, ownAt, hasAt, Option.bind_some, Option.bind_none, List.getElem?_cons_zero, List.getElem?_cons_succ, List.set_cons_zero, List.set_cons_succ, Bool.false_eq_true, Bool.not_false, Bool.not_true, b_ok, o_some, f_int, f_tup, f_lst, f_bl, f_non, f_own, fs_nil, fs_cons, pn_int, pn_tup, pn_lst, pn_bl, pn_non, pn_own, tr_bl, t0, t1, t2, add_, sub_, lt_, le_, gt_, ge_, Option.map_some, List.length_cons, List.length_nil, ln0, ln1, ln2, ln3, itemsOf, eq_int, ne_int, retC, outR, f_P, pn_P, f_3, pn_3, f_W, pn_W, f_Ws, pn_Ws, frzs_P, frzs_3, f6, f7, f8, e1, retIO, encW]
  have q2 : evS (callN tab gl (k + 3)) gl wB2 [some (.own true [.int g1, .int b1]), E1, some (.int s), some (p2 gx gy), E4, E5, some (p2 w.p w.q), some (p2 w.a w.b), some (p2 w.c w.d), E9, E10, E11] = .ok .nx [some (.own true [.int g1, .int b1]), E1, some (.int s), some (p2 gx gy), E4, E5, some (p2 w.p w.q), some (p2 w.a w.b), some (p2 w.c w.d), some (p2 (gx - w.p) (gy - w.q)), E10, E11] := by
    simp only [wB2, x_lc, x_gl, x_cst, x_bin, x_neg, x_cmp, x_chn, x_cmpR, x_and, x_or, x_not, x_ite, x_tup, x_lst, x_sub, x_subB, x_slc, x_no, x_yes, x_rev, x_callF, x_callIO, x_callB, x_callBB, x_isi, x_nil, x_cons, x_star, x_sE, x_sEn, x_sZp, x_sR1, y_skip, y_seq, y_asgN, y_asgT, y_par, y_par3, y_ife, y_ret, y_retS, y_exp, y_app, y_set, y_for, evT, asg_nm, asg_t, asgs_n, asgs_c, fr_0, fr_s, fo_n, fo_s, ↓reduceIte, List.map_cons, List.map_nil, List.replicate, Nat.sub_self, Nat.reduceSub, List.append_nil, List.cons_append, List.nil_append, readAt, viewAt, ownAt, hasAt, Option.bind_some, Option.bind_none, List.getElem?_cons_zero, List.getElem?_cons_succ, List.set_cons_zero, List.set_cons_succ, Bool.false_eq_true, Bool.not_false, Bool.not_true, b_ok, o_some, f_int, f_tup, f_lst, f_bl, f_non, f_own, fs_nil, fs_cons, pn_int, pn_tup, pn_lst, pn_bl, pn_non, pn_own, tr_bl, t0, t1, t2, add_, sub_, lt_, le_, gt_, ge_, Option.map_some, List.length_cons, List.length_nil, ln0, ln1, ln2, ln3, itemsOf, eq_int, ne_int, retC, outR, f_P, pn_P, f_3, pn_3, f_W, pn_W, f_Ws, pn_Ws, frzs_P, frzs_3, f9]
  obtain ⟨v2, g2, b2, hb2, v20, v21, e2⟩ := s_law_draw (k := k + 2) (m := 3) hb1 (by decide) (by decide)
  by_cases hv : 0 < v2
  · by_cases hf : gx - w.p = 0 ∧ gy - w.q = 0
    · refine ⟨g2, b2, w.p, w.q, w.a, w.b, w.c, w.d, some (p2 (gx - w.p) (gy - w.q)), E10, hb2, m6 hw.p, m6 hw.q, m6 hw.a, m6 hw.b, m6 hw.c, m6 hw.d, rfl, f10, ?_⟩
      rw [seq_ok q1, seq_ok q2]
      refine seq_ok ?_
      simp only [wB3, x_lc, x_gl, x_cst, x_bin, x_neg, x_cmp, x_chn, x_cmpR, x_and, x_or, x_not, x_ite, x_tup, x_lst, x_sub, x_subB, x_slc, x_no, x_yes, x_rev, x_callF, x_callIO, x_callB, x_callBB, x_isi, x_nil, x_cons, x_star, x_sE, x_sEn, x_sZp, x_sR1, y_skip, y_seq, y_asgN, y_asgT, y_par, y_par3, y_ife, y_ret, y_retS, y_exp, y_app, y_set, y_for, evT, asg_nm, asg_t, asgs_n, asgs_c, fr_0, fr_s, fo_n, fo_s, ↓reduceIte, List.map_cons, List.map_nil, List.replicate, Nat.sub_self, Nat.reduceSub, List.append_nil, List.cons_append, List.nil_append, readAt, viewAt, ownAt, hasAt, Option.bind_some, Option.bind_none, List.getElem?_cons_zero, List.getElem?_cons_succ, List.set_cons_zero, List.set_cons_succ, Bool.false_eq_true, Bool.not_false, Bool.not_true, b_ok, o_some, f_int, f_tup, f_lst, f_bl, f_non, f_own, fs_nil, fs_cons, pn_int, pn_tup, pn_lst, pn_bl, pn_non, pn_own, tr_bl, t0, t1, t2, add_, sub_, lt_, le_, gt_, ge_, Option.map_some, List.length_cons, List.length_nil, ln0, ln1, ln2, ln3, itemsOf, eq_int, ne_int, retC, outR, f_P, pn_P, f_3, pn_3, f_W, pn_W, f_Ws, pn_Ws, frzs_P, frzs_3, e2, retIO, decide_eq_true hv, ne_p2, decide_eq_true hf]
    · obtain ⟨g3, b3, r1, r2, l1, l2, E10', hb3, hr1, hr2, hl1, hl2, f10', e3⟩ := then_3 (k := k + 2) (E1 := E1) (E2 := some (.int s)) (E3 := some (p2 gx gy)) (E4 := E4) (E5 := E5) (E6 := some (p2 w.p w.q)) (E7 := some (p2 w.a w.b)) (E8 := some (p2 w.c w.d)) (E10 := E10) (E11 := E11) hb2 rfl rfl f10 (hx.sub hw.p) (hy.sub hw.q)
      refine ⟨g3, b3, w.p, w.q, r1, r2, l1, l2, some (p2 (gx - w.p) (gy - w.q)), E10', hb3, m6 hw.p, m6 hw.q, hr1, hr2, hl1, hl2, rfl, f10', ?_⟩
      rw [seq_ok q1, seq_ok q2]
      refine seq_ok ?_
      unfold wB3
      rw [y_ife]
      simp only [x_and, x_cmp, x_callIO, x_cons, x_nil, x_cst, x_lc, x_tup, x_lc, x_gl, x_cst, x_bin, x_neg, x_cmp, x_chn, x_cmpR, x_and, x_or, x_not, x_ite, x_tup, x_lst, x_sub, x_subB, x_slc, x_no, x_yes, x_rev, x_callF, x_callIO, x_callB, x_callBB, x_isi, x_nil, x_cons, x_star, x_sE, x_sEn, x_sZp, x_sR1, y_skip, y_seq, y_asgN, y_asgT, y_par, y_par3, y_ife, y_ret, y_retS, y_exp, y_app, y_set, y_for, evT, asg_nm, asg_t, asgs_n, asgs_c, fr_0, fr_s, fo_n, fo_s, ↓reduceIte, List.map_cons, List.map_nil, List.replicate, Nat.sub_self, Nat.reduceSub, List.append_nil, List.cons_append, List.nil_append, readAt, viewAt, ownAt, hasAt, Option.bind_some, Option.bind_none, List.getElem?_cons_zero, List.getElem?_cons_succ, List.set_cons_zero, List.set_cons_succ, Bool.false_eq_true, Bool.not_false, Bool.not_true, b_ok, o_some, f_int, f_tup, f_lst, f_bl, f_non, f_own, fs_nil, fs_cons, pn_int, pn_tup, pn_lst, pn_bl, pn_non, pn_own, tr_bl, t0, t1, t2, add_, sub_, lt_, le_, gt_, ge_, Option.map_some, List.length_cons, List.length_nil, ln0, ln1, ln2, ln3, itemsOf, eq_int, ne_int, retC, outR, f_P, pn_P, f_3, pn_3, f_W, pn_W, f_Ws, pn_Ws, frzs_P, frzs_3, e2, retIO, decide_eq_true hv, ne_p2, decide_eq_false hf]
      exact e3
  · refine ⟨g2, b2, w.p, w.q, w.a, w.b, w.c, w.d, some (p2 (gx - w.p) (gy - w.q)), E10, hb2, m6 hw.p, m6 hw.q, m6 hw.a, m6 hw.b, m6 hw.c, m6 hw.d, rfl, f10, ?_⟩
    rw [seq_ok q1, seq_ok q2]
    refine seq_ok ?_
    simp only [wB3, x_lc, x_gl, x_cst, x_bin, x_neg, x_cmp, x_chn, x_cmpR, x_and, x_or, x_not, x_ite, x_tup, x_lst, x_sub, x_subB, x_slc, x_no, x_yes, x_rev, x_callF, x_callIO, x_callB, x_callBB, x_isi, x_nil, x_cons, x_star, x_sE, x_sEn, x_sZp, x_sR1, y_skip, y_seq, y_asgN, y_asgT, y_par, y_par3, y_ife, y_ret, y_retS, y_exp, y_app, y_set, y_for, evT, asg_nm, asg_t, asgs_n, asgs_c, fr_0, fr_s, fo_n, fo_s, ↓reduceIte, List.map_cons, List.map_nil, List.replicate, Nat.sub_self, Nat.reduceSub, List.append_nil, List.cons_append, List.nil_append, readAt, viewAt, ownAt, hasAt, Option.bind_some, Option.bind_none, List.getElem?_cons_zero, List.getElem?_cons_succ, List.set_cons_zero, List.set_cons_succ, Bool.false_eq_true, Bool.not_false, Bool.not_true, b_ok, o_some, f_int, f_tup, f_lst, f_bl, f_non, f_own, fs_nil, fs_cons, pn_int, pn_tup, pn_lst, pn_bl, pn_non, pn_own, tr_bl, t0, t1, t2, add_, sub_, lt_, le_, gt_, ge_, Option.map_some, List.length_cons, List.length_nil, ln0, ln1, ln2, ln3, itemsOf, eq_int, ne_int, retC, outR, f_P, pn_P, f_3, pn_3, f_W, pn_W, f_Ws, pn_Ws, frzs_P, frzs_3, e2, retIO, decide_eq_false hv]
end
end K74

set_option Elab.async false
set_option linter.all false
set_option maxRecDepth 100000
namespace K74
open PySem PySem.Spec L2 PD
theorem DrW.ok {w : Wd} (h : DrW w) : OkW w := ⟨⟨h.p.mono (by decide), h.q.mono (by decide), h.a.mono (by decide), h.b.mono (by decide), h.c.mono (by decide), h.d.mono (by decide)⟩, h.r, h.l, h.t⟩
theorem plains_W : ∀ l : List Wd, plains (l.map encW) = true
  | [] => rfl
  | z :: l => plains_W l
def wB4 : IS := .asg (.nm 11) (.or_ (.cmp .Gt (.callF i_law_turn (.cons (.lc 7) (.cons (.lc 8) (.nil)))) (.cst (.int 0))) (.and_ (.cmp .Eq (.callF i_law_turn (.cons (.lc 7) (.cons (.lc 8) (.nil)))) (.cst (.int 0))) (.cmp .Gt (.callF i_law_dot (.cons (.lc 7) (.cons (.lc 8) (.nil)))) (.cst (.int 0)))))
def wB5 : IS := .app 4 (.ite (.lc 11) (.tup (.cons (.lc 6) (.cons (.lc 7) (.cons (.lc 8) (.nil))))) (.callIO i_law_wedge 0 (.cons (.lc 2) (.nil))))
section
variable {k n : Nat} {g b m s : Int}
theorem turn_W2 {E1 E3 E5 E9 E10 E11 : Option D} {W : List Wd} {p q r1 r2 l1 l2 : Int} (hB : Bg g b) (h0 : 0 < s) (h1 : Sm 30 s) (f11 : freeO E11 = true) (hp : Sm 60 p) (hq : Sm 60 q) (hr1 : Sm 60 r1) (hr2 : Sm 60 r2) (hl1 : Sm 60 l1) (hl2 : Sm 60 l2) (hW : W.length < 1000) :
    ∃ g' b' w E11', Bg g' b' ∧ OkW w ∧ freeO E11' = true ∧ evS (callN tab gl (k + 3)) gl (.seq wB4 wB5) [some (.own true [.int g, .int b]), E1, some (.int s), E3, some (.own false (W.map encW)), E5, some (p2 p q), some (p2 r1 r2), some (p2 l1 l2), E9, E10, E11] =
      .ok .nx [some (.own true [.int g', .int b']), E1, some (.int s), E3, some (.own false ((W ++ [w]).map encW)), E5, some (p2 p q), some (p2 r1 r2), some (p2 l1 l2), E9, E10, E11'] := by
  have m9 : ∀ {i : Int}, Sm 60 i → Sm 900 i := fun h => h.mono (by decide)
  have c1 := s_law_turn (k := k + 2) (m9 hr1) (m9 hr2) (m9 hl1) (m9 hl2)
  have c2 := s_law_dot (k := k + 2) (m9 hr1) (m9 hr2) (m9 hl1) (m9 hl2)
  have hln : (W.map encW).length < line := by rw [List.length_map]; exact Nat.lt_trans hW (by decide)
  have hln2 : W.length < line := Nat.lt_trans hW (by decide)
  have no : ∀ E : PD.Env, E = [some (.own true [.int g, .int b]), E1, some (.int s), E3, some (.own false (W.map encW)), E5, some (p2 p q), some (p2 r1 r2), some (p2 l1 l2), E9, E10, some (.bl false)] → ∃ g' b' w, Bg g' b' ∧ OkW w ∧ evS (callN tab gl (k + 3)) gl wB5 E =
      .ok .nx [some (.own true [.int g', .int b']), E1, some (.int s), E3, some (.own false ((W ++ [w]).map encW)), E5, some (p2 p q), some (p2 r1 r2), some (p2 l1 l2), E9, E10, some (.bl false)] := by
    rintro E rfl
    obtain ⟨w, g1, b1, hb1, hw, e1⟩ := s_law_wedge (k := k) hB h0 h1
    refine ⟨g1, b1, w, hb1, hw.ok, ?_⟩
    simp only [wB5, x_lc, x_gl, x_cst, x_bin, x_neg, x_cmp, x_chn, x_cmpR, x_and, x_or, x_not, x_ite, x_tup, x_lst, x_sub, x_subB, x_slc, x_no, x_yes, x_rev, x_callF, x_callIO, x_callB, x_callBB, x_isi, x_nil, x_cons, x_star, x_sE, x_sEn, x_sZp, x_sR1, y_skip, y_seq, y_asgN, y_asgT, y_par, y_par3, y_ife, y_ret, y_retS, y_exp, y_app, y_set, y_for, evT, asg_nm, asg_t, asgs_n, asgs_c, fr_0, fr_s, fo_n, fo_s, ↓reduceIte, List.map_cons, List.map_nil, List.replicate, Nat.sub_self, Nat.reduceSub, List.append_nil, List.cons_append, List.nil_append, readAt, viewAt, ownAt, hasAt, Option.bind_some, Option.bind_none, List.getElem?_cons_zero, List.getElem?_cons_succ, List.set_cons_zero, List.set_cons_succ, Bool.false_eq_true, Bool.not_false, Bool.not_true, b_ok, o_some, f_int, f_tup, f_lst, f_bl, f_non, f_own, fs_nil, fs_cons, pn_int, pn_tup, pn_lst, pn_bl, pn_non, pn_own, tr_bl, t0, t1, t2, add_, sub_, lt_, le_, gt_, ge_, Option.map_some, List.length_cons, List.length_nil, ln0, ln1, ln2, ln3, itemsOf, eq_int, ne_int, retC, outR, f_P, pn_P, f_3, pn_3, f_W, pn_W, f_Ws, pn_Ws, frzs_P, frzs_3, e1, retIO, hln, List.map_append]
  have yes : ∀ E : PD.Env, E = [some (.own true [.int g, .int b]), E1, some (.int s), E3, some (.own false (W.map encW)), E5, some (p2 p q), some (p2 r1 r2), some (p2 l1 l2), E9, E10, some (.bl true)] → evS (callN tab gl (k + 3)) gl wB5 E =
      .ok .nx [some (.own true [.int g, .int b]), E1, some (.int s), E3, some (.own false ((W ++ [(⟨p, q, r1, r2, l1, l2⟩ : Wd)]).map encW)), E5, some (p2 p q), some (p2 r1 r2), some (p2 l1 l2), E9, E10, some (.bl true)] := by
    rintro E rfl
    simp only [wB5, x_lc, x_gl, x_cst, x_bin, x_neg, x_cmp, x_chn, x_cmpR, x_and, x_or, x_not, x_ite, x_tup, x_lst, x_sub, x_subB, x_slc, x_no, x_yes, x_rev, x_callF, x_callIO, x_callB, x_callBB, x_isi, x_nil, x_cons, x_star, x_sE, x_sEn, x_sZp, x_sR1, y_skip, y_seq, y_asgN, y_asgT, y_par, y_par3, y_ife, y_ret, y_retS, y_exp, y_app, y_set, y_for, evT, asg_nm, asg_t, asgs_n, asgs_c, fr_0, fr_s, fo_n, fo_s, ↓reduceIte, List.map_cons, List.map_nil, List.replicate, Nat.sub_self, Nat.reduceSub, List.append_nil, List.cons_append, List.nil_append, readAt, viewAt, ownAt, hasAt, Option.bind_some, Option.bind_none, List.getElem?_cons_zero, List.getElem?_cons_succ, List.set_cons_zero, List.set_cons_succ, Bool.false_eq_true, Bool.not_false, Bool.not_true, b_ok, o_some, f_int, f_tup, f_lst, f_bl, f_non, f_own, fs_nil, fs_cons, pn_int, pn_tup, pn_lst, pn_bl, pn_non, pn_own, tr_bl, t0, t1, t2, add_, sub_, lt_, le_, gt_, ge_, Option.map_some, List.length_cons, List.length_nil, ln0, ln1, ln2, ln3, itemsOf, eq_int, ne_int, retC, outR, f_P, pn_P, f_3, pn_3, f_W, pn_W, f_Ws, pn_Ws, frzs_P, frzs_3, hln, List.map_append, encW]
  by_cases q1 : 0 < r1 * l2 - r2 * l1
  · have e4 : evS (callN tab gl (k + 3)) gl wB4 [some (.own true [.int g, .int b]), E1, some (.int s), E3, some (.own false (W.map encW)), E5, some (p2 p q), some (p2 r1 r2), some (p2 l1 l2), E9, E10, E11] = .ok .nx [some (.own true [.int g, .int b]), E1, some (.int s), E3, some (.own false (W.map encW)), E5, some (p2 p q), some (p2 r1 r2), some (p2 l1 l2), E9, E10, some (.bl true)] := by
      simp only [wB4, x_lc, x_gl, x_cst, x_bin, x_neg, x_cmp, x_chn, x_cmpR, x_and, x_or, x_not, x_ite, x_tup, x_lst, x_sub, x_subB, x_slc, x_no, x_yes, x_rev, x_callF, x_callIO, x_callB, x_callBB, x_isi, x_nil, x_cons, x_star, x_sE, x_sEn, x_sZp, x_sR1, y_skip, y_seq, y_asgN, y_asgT, y_par, y_par3, y_ife, y_ret, y_retS, y_exp, y_app, y_set, y_for, evT, asg_nm, asg_t, asgs_n, asgs_c, fr_0, fr_s, fo_n, fo_s, ↓reduceIte, List.map_cons, List.map_nil, List.replicate, Nat.sub_self, Nat.reduceSub, List.append_nil, List.cons_append, List.nil_append, readAt, viewAt, ownAt, hasAt, Option.bind_some, Option.bind_none, List.getElem?_cons_zero, List.getElem?_cons_succ, List.set_cons_zero, List.set_cons_succ, Bool.false_eq_true, Bool.not_false, Bool.not_true, b_ok, o_some, f_int, f_tup, f_lst, f_bl, f_non, f_own, fs_nil, fs_cons, pn_int, pn_tup, pn_lst, pn_bl, pn_non, pn_own, tr_bl, t0, t1, t2, add_, sub_, lt_, le_, gt_, ge_, Option.map_some, List.length_cons, List.length_nil, ln0, ln1, ln2, ln3, itemsOf, eq_int, ne_int, retC, outR, f_P, pn_P, f_3, pn_3, f_W, pn_W, f_Ws, pn_Ws, frzs_P, frzs_3, f11, c1, decide_eq_true q1]
    refine ⟨g, b, ⟨p, q, r1, r2, l1, l2⟩, some (.bl true), hB, ⟨⟨hp, hq, hr1, hr2, hl1, hl2⟩, ?_, ?_, .inl q1⟩, rfl, ?_⟩
    · rintro ⟨c1, c2⟩
      have c1 : r1 = 0 := c1
      have c2 : r2 = 0 := c2
      rw [c1, c2] at q1
      omega
    · rintro ⟨c1, c2⟩
      have c1 : l1 = 0 := c1
      have c2 : l2 = 0 := c2
      rw [c1, c2] at q1
      omega
    · rw [seq_ok e4]
      exact yes _ rfl
  · by_cases q2 : r1 * l2 - r2 * l1 = 0
    · by_cases q3 : 0 < r1 * l1 + r2 * l2
      · have e4 : evS (callN tab gl (k + 3)) gl wB4 [some (.own true [.int g, .int b]), E1, some (.int s), E3, some (.own false (W.map encW)), E5, some (p2 p q), some (p2 r1 r2), some (p2 l1 l2), E9, E10, E11] = .ok .nx [some (.own true [.int g, .int b]), E1, some (.int s), E3, some (.own false (W.map encW)), E5, some (p2 p q), some (p2 r1 r2), some (p2 l1 l2), E9, E10, some (.bl true)] := by
          simp only [wB4, x_lc, x_gl, x_cst, x_bin, x_neg, x_cmp, x_chn, x_cmpR, x_and, x_or, x_not, x_ite, x_tup, x_lst, x_sub, x_subB, x_slc, x_no, x_yes, x_rev, x_callF, x_callIO, x_callB, x_callBB, x_isi, x_nil, x_cons, x_star, x_sE, x_sEn, x_sZp, x_sR1, y_skip, y_seq, y_asgN, y_asgT, y_par, y_par3, y_ife, y_ret, y_retS, y_exp, y_app, y_set, y_for, evT, asg_nm, asg_t, asgs_n, asgs_c, fr_0, fr_s, fo_n, fo_s, ↓reduceIte, List.map_cons, List.map_nil, List.replicate, Nat.sub_self, Nat.reduceSub, List.append_nil, List.cons_append, List.nil_append, readAt, viewAt, ownAt, hasAt, Option.bind_some, Option.bind_none, List.getElem?_cons_zero, List.getElem?_cons_succ, List.set_cons_zero, List.set_cons_succ, Bool.false_eq_true, Bool.not_false, Bool.not_true, b_ok, o_some, f_int, f_tup, f_lst, f_bl, f_non, f_own, fs_nil, fs_cons, pn_int, pn_tup, pn_lst, pn_bl, pn_non, pn_own, tr_bl, t0, t1, t2, add_, sub_, lt_, le_, gt_, ge_, Option.map_some, List.length_cons, List.length_nil, ln0, ln1, ln2, ln3, itemsOf, eq_int, ne_int, retC, outR, f_P, pn_P, f_3, pn_3, f_W, pn_W, f_Ws, pn_Ws, frzs_P, frzs_3, f11, c1, c2, decide_eq_false q1, decide_eq_true q2, decide_eq_true q3]
        refine ⟨g, b, ⟨p, q, r1, r2, l1, l2⟩, some (.bl true), hB, ⟨⟨hp, hq, hr1, hr2, hl1, hl2⟩, ?_, ?_, .inr ⟨q2, q3⟩⟩, rfl, ?_⟩
        · rintro ⟨c1, c2⟩
          have c1 : r1 = 0 := c1
          have c2 : r2 = 0 := c2
          rw [c1, c2] at q3
          omega
        · rintro ⟨c1, c2⟩
          have c1 : l1 = 0 := c1
          have c2 : l2 = 0 := c2
          rw [c1, c2] at q3
          omega
        · rw [seq_ok e4]
          exact yes _ rfl
      · have e4 : evS (callN tab gl (k + 3)) gl wB4 [some (.own true [.int g, .int b]), E1, some (.int s), E3, some (.own false (W.map encW)), E5, some (p2 p q), some (p2 r1 r2), some (p2 l1 l2), E9, E10, E11] = .ok .nx [some (.own true [.int g, .int b]), E1, some (.int s), E3, some (.own false (W.map encW)), E5, some (p2 p q), some (p2 r1 r2), some (p2 l1 l2), E9, E10, some (.bl false)] := by
          simp only [wB4, x_lc, x_gl, x_cst, x_bin, x_neg, x_cmp, x_chn, x_cmpR, x_and, x_or, x_not, x_ite, x_tup, x_lst, x_sub, x_subB, x_slc, x_no, x_yes, x_rev, x_callF, x_callIO, x_callB, x_callBB, x_isi, x_nil, x_cons, x_star, x_sE, x_sEn, x_sZp, x_sR1, y_skip, y_seq, y_asgN, y_asgT, y_par, y_par3, y_ife, y_ret, y_retS, y_exp, y_app, y_set, y_for, evT, asg_nm, asg_t, asgs_n, asgs_c, fr_0, fr_s, fo_n, fo_s, ↓reduceIte, List.map_cons, List.map_nil, List.replicate, Nat.sub_self, Nat.reduceSub, List.append_nil, List.cons_append, List.nil_append, readAt, viewAt, ownAt, hasAt, Option.bind_some, Option.bind_none, List.getElem?_cons_zero, List.getElem?_cons_succ, List.set_cons_zero, List.set_cons_succ, Bool.false_eq_true, Bool.not_false, Bool.not_true, b_ok, o_some, f_int, f_tup, f_lst, f_bl, f_non, f_own, fs_nil, fs_cons, pn_int, pn_tup, pn_lst, pn_bl, pn_non, pn_own, tr_bl, t0, t1, t2, add_, sub_, lt_, le_, gt_, ge_, Option.map_some, List.length_cons, List.length_nil, ln0, ln1, ln2, ln3, itemsOf, eq_int, ne_int, retC, outR, f_P, pn_P, f_3, pn_3, f_W, pn_W, f_Ws, pn_Ws, frzs_P, frzs_3, f11, c1, c2, decide_eq_false q1, decide_eq_true q2, decide_eq_false q3]
        obtain ⟨g1, b1, w, hb, hw, e5⟩ := no _ rfl
        exact ⟨g1, b1, w, some (.bl false), hb, hw, rfl, by rw [seq_ok e4]; exact e5⟩
    · have e4 : evS (callN tab gl (k + 3)) gl wB4 [some (.own true [.int g, .int b]), E1, some (.int s), E3, some (.own false (W.map encW)), E5, some (p2 p q), some (p2 r1 r2), some (p2 l1 l2), E9, E10, E11] = .ok .nx [some (.own true [.int g, .int b]), E1, some (.int s), E3, some (.own false (W.map encW)), E5, some (p2 p q), some (p2 r1 r2), some (p2 l1 l2), E9, E10, some (.bl false)] := by
        simp only [wB4, x_lc, x_gl, x_cst, x_bin, x_neg, x_cmp, x_chn, x_cmpR, x_and, x_or, x_not, x_ite, x_tup, x_lst, x_sub, x_subB, x_slc, x_no, x_yes, x_rev, x_callF, x_callIO, x_callB, x_callBB, x_isi, x_nil, x_cons, x_star, x_sE, x_sEn, x_sZp, x_sR1, y_skip, y_seq, y_asgN, y_asgT, y_par, y_par3, y_ife, y_ret, y_retS, y_exp, y_app, y_set, y_for, evT, asg_nm, asg_t, asgs_n, asgs_c, fr_0, fr_s, fo_n, fo_s, ↓reduceIte, List.map_cons, List.map_nil, List.replicate, Nat.sub_self, Nat.reduceSub, List.append_nil, List.cons_append, List.nil_append, readAt, viewAt, ownAt, hasAt, Option.bind_some, Option.bind_none, List.getElem?_cons_zero, List.getElem?_cons_succ, List.set_cons_zero, List.set_cons_succ, Bool.false_eq_true, Bool.not_false, Bool.not_true, b_ok, o_some, f_int, f_tup, f_lst, f_bl, f_non, f_own, fs_nil, fs_cons, pn_int, pn_tup, pn_lst, pn_bl, pn_non, pn_own, tr_bl, t0, t1, t2, add_, sub_, lt_, le_, gt_, ge_, Option.map_some, List.length_cons, List.length_nil, ln0, ln1, ln2, ln3, itemsOf, eq_int, ne_int, retC, outR, f_P, pn_P, f_3, pn_3, f_W, pn_W, f_Ws, pn_Ws, frzs_P, frzs_3, f11, c1, decide_eq_false q1, decide_eq_false q2]
      obtain ⟨g1, b1, w, hb, hw, e5⟩ := no _ rfl
      exact ⟨g1, b1, w, some (.bl false), hb, hw, rfl, by rw [seq_ok e4]; exact e5⟩
def wBody : IS := .seq wB1 (.seq wB2 (.seq wB3 (.seq wB4 wB5)))
/-- a loop's invariant -/
def InvW (m s gx gy : Int) (n : Nat) (e : PD.Env) : Prop := ∃ (g b : Int) (W : List Wd) (E5 E6 E7 E8 E9 E10 E11 : Option D), Bg g b ∧ W.length = n ∧ (∀ w ∈ W, OkW w) ∧ freeO E5 = true ∧ freeO E6 = true ∧ freeO E7 = true ∧ freeO E8 = true ∧ freeO E9 = true ∧ freeO E10 = true ∧ freeO E11 = true ∧
  e = [some (.own true [.int g, .int b]), some (.int m), some (.int s), some (p2 gx gy), some (.own false (W.map encW)), E5, E6, E7, E8, E9, E10, E11]
theorem asg5 {i : Int} {E0 E1 E2 E3 E4 E5 E6 E7 E8 E9 E10 E11 : Option D} (f5 : freeO E5 = true) : asg (.nm 5) (.int i) [E0, E1, E2, E3, E4, E5, E6, E7, E8, E9, E10, E11] = .ok () [E0, E1, E2, E3, E4, some (.int i), E6, E7, E8, E9, E10, E11] := by
  simp only [x_lc, x_gl, x_cst, x_bin, x_neg, x_cmp, x_chn, x_cmpR, x_and, x_or, x_not, x_ite, x_tup, x_lst, x_sub, x_subB, x_slc, x_no, x_yes, x_rev, x_callF, x_callIO, x_callB, x_callBB, x_isi, x_nil, x_cons, x_star, x_sE, x_sEn, x_sZp, x_sR1, y_skip, y_seq, y_asgN, y_asgT, y_par, y_par3, y_ife, y_ret, y_retS, y_exp, y_app, y_set, y_for, evT, asg_nm, asg_t, asgs_n, asgs_c, fr_0, fr_s, fo_n, fo_s, ↓reduceIte, List.map_cons, List.map_nil, List.replicate, Nat.sub_self, Nat.reduceSub, List.append_nil, List.cons_append, List.nil_append, readAt, viewAt, ownAt, hasAt, Option.bind_some, Option.bind_none, List.getElem?_cons_zero, List.getElem?_cons_succ, List.set_cons_zero, List.set_cons_succ, Bool.false_eq_true, Bool.not_false, Bool.not_true, b_ok, o_some, f_int, f_tup, f_lst, f_bl, f_non, f_own, fs_nil, fs_cons, pn_int, pn_tup, pn_lst, pn_bl, pn_non, pn_own, tr_bl, t0, t1, t2, add_, sub_, lt_, le_, gt_, ge_, Option.map_some, List.length_cons, List.length_nil, ln0, ln1, ln2, ln3, itemsOf, eq_int, ne_int, retC, outR, f_P, pn_P, f_3, pn_3, f_W, pn_W, f_Ws, pn_Ws, frzs_P, frzs_3, f5]
theorem cbb_t4 {xs : List D} {e : PD.Env} {cf : CallF} {a b c d : Option D} (h : plains xs = true) : ev cf gl (.callBB .tuple 4) (a :: b :: c :: d :: some (.own false xs) :: e) = .ok (.tup xs) (a :: b :: c :: d :: some (.own false xs) :: e) := by
  rw [x_callBB]
  show R.op _ ((if plains xs = true then some (D.lst xs) else none).bind fun x => biD .tuple [x]) = _
  rw [if_pos h]
  rfl
theorem s_law_wedges (hB : Bg g b) (h0 : 0 < s) (h1 : Sm 30 s) (hm : 0 < m) (hm2 : m < 11) : ∃ W g' b', Bg g' b' ∧ OkWs W ∧ (W.length : Int) ≤ m ∧ callN tab gl (k + 4) i_law_wedges [.own true [.int g, .int b], .int m, .int s] = .ok (encWs W) (some (.own true [.int g', .int b'])) := by
  have t2 : Sm 2 (2 : Int) := by unfold Sm; decide
  have sm2 : Sm 33 (2 * s + 1) := (((t2.mul h1).add (j := 1) (by unfold Sm; decide))).mono (by decide)
  have hs0 : 0 < 2 * s + 1 := by omega
  have hs2 : 2 * s + 1 < 2 ^ 60 := by unfold Sm at h1; omega
  obtain ⟨v1, g1, b1, hb1, v10, v11, e1⟩ := s_law_draw (k := k + 2) hB hs0 hs2
  obtain ⟨v2, g2, b2, hb2, v20, v21, e2⟩ := s_law_draw (k := k + 2) hb1 hs0 hs2
  obtain ⟨v3, g3, b3, hb3, v30, v31, e3⟩ := s_law_draw (k := k + 2) (m := m) hb2 hm (by omega)
  have w1 : Sm 40 (v1 - s) := by unfold Sm at *; omega
  have w2 : Sm 40 (v2 - s) := by unfold Sm at *; omega
  obtain ⟨N, hN⟩ : ∃ N : Nat, 1 + v3 = N := ⟨(1 + v3).toNat, by omega⟩
  have hN1 : N < 1000000 := by omega
  have q1 : evS (callN tab gl (k + 3)) gl (sq1 b_law_wedges) [some (.own true [.int g, .int b]), some (.int m), some (.int s), none, none, none, none, none, none, none, none, none] = .ok .nx [some (.own true [.int g2, .int b2]), some (.int m), some (.int s), some (p2 (v1 - s) (v2 - s)), some (.own false []), none, none, none, none, none, none, none] := by
    simp only [b_law_wedges, sq1, x_lc, x_gl, x_cst, x_bin, x_neg, x_cmp, x_chn, x_cmpR, x_and, x_or, x_not, x_ite, x_tup, x_lst, x_sub, x_subB, x_slc, x_no, x_yes, x_rev, x_callF, x_callIO, x_callB, x_callBB, x_isi, x_nil, x_cons, x_star, x_sE, x_sEn, x_sZp, x_sR1, y_skip, y_seq, y_asgN, y_asgT, y_par, y_par3, y_ife, y_ret, y_retS, y_exp, y_app, y_set, y_for, evT, asg_nm, asg_t, asgs_n, asgs_c, fr_0, fr_s, fo_n, fo_s, ↓reduceIte, List.map_cons, List.map_nil, List.replicate, Nat.sub_self, Nat.reduceSub, List.append_nil, List.cons_append, List.nil_append, readAt, viewAt, ownAt, hasAt, Option.bind_some, Option.bind_none, List.getElem?_cons_zero, List.getElem?_cons_succ, List.set_cons_zero, List.set_cons_succ, Bool.false_eq_true, Bool.not_false, Bool.not_true, b_ok, o_some, f_int, f_tup, f_lst, f_bl, f_non, f_own, fs_nil, fs_cons, pn_int, pn_tup, pn_lst, pn_bl, pn_non, pn_own, tr_bl, t0, t1, t2, add_, sub_, lt_, le_, gt_, ge_, Option.map_some, List.length_cons, List.length_nil, ln0, ln1, ln2, ln3, itemsOf, eq_int, ne_int, retC, outR, f_P, pn_P, f_3, pn_3, f_W, pn_W, f_Ws, pn_Ws, frzs_P, frzs_3, mul_ t2 h1 (by decide), e1, e2, retIO, Bool.and_self]
  have hs1 : evI (callN tab gl (k + 3)) gl (.sR1 (.bin .Add (.cst (.int 1)) (.callIO i_law_draw 0 (.cons (.lc 1) (.nil))))) [some (.own true [.int g2, .int b2]), some (.int m), some (.int s), some (p2 (v1 - s) (v2 - s)), some (.own false []), none, none, none, none, none, none, none] = .ok ((List.range N).map fun i : Nat => D.int (i : Int)) [some (.own true [.int g3, .int b3]), some (.int m), some (.int s), some (p2 (v1 - s) (v2 - s)), some (.own false []), none, none, none, none, none, none, none] := by
    refine sR1_ok ?_ hN1
    simp only [x_lc, x_gl, x_cst, x_bin, x_neg, x_cmp, x_chn, x_cmpR, x_and, x_or, x_not, x_ite, x_tup, x_lst, x_sub, x_subB, x_slc, x_no, x_yes, x_rev, x_callF, x_callIO, x_callB, x_callBB, x_isi, x_nil, x_cons, x_star, x_sE, x_sEn, x_sZp, x_sR1, y_skip, y_seq, y_asgN, y_asgT, y_par, y_par3, y_ife, y_ret, y_retS, y_exp, y_app, y_set, y_for, evT, asg_nm, asg_t, asgs_n, asgs_c, fr_0, fr_s, fo_n, fo_s, ↓reduceIte, List.map_cons, List.map_nil, List.replicate, Nat.sub_self, Nat.reduceSub, List.append_nil, List.cons_append, List.nil_append, readAt, viewAt, ownAt, hasAt, Option.bind_some, Option.bind_none, List.getElem?_cons_zero, List.getElem?_cons_succ, List.set_cons_zero, List.set_cons_succ, Bool.false_eq_true, Bool.not_false, Bool.not_true, b_ok, o_some, f_int, f_tup, f_lst, f_bl, f_non, f_own, fs_nil, fs_cons, pn_int, pn_tup, pn_lst, pn_bl, pn_non, pn_own, tr_bl, t0, t1, t2, add_, sub_, lt_, le_, gt_, ge_, Option.map_some, List.length_cons, List.length_nil, ln0, ln1, ln2, ln3, itemsOf, eq_int, ne_int, retC, outR, f_P, pn_P, f_3, pn_3, f_W, pn_W, f_Ws, pn_Ws, frzs_P, frzs_3, e3, retIO, hN]
  obtain ⟨e, h3, g4, b4, W, E5, E6, E7, E8, E9, E10, E11, hb4, hlen, hW, f5, f6, f7, f8, f9, f10, f11, rfl⟩ := forL_pre (enc := fun i : Nat => D.int (i : Int)) (F := fun d e => (asg (.nm 5) d e).bind fun _ e => evS (callN tab gl (k + 3)) gl wBody e)
    (I := fun pre e => InvW m s (v1 - s) (v2 - s) pre.length e) (List.range N) [] [some (.own true [.int g3, .int b3]), some (.int m), some (.int s), some (p2 (v1 - s) (v2 - s)), some (.own false []), none, none, none, none, none, none, none]
    ⟨g3, b3, [], none, none, none, none, none, none, none, hb3, rfl, (fun _ h => by cases h), rfl, rfl, rfl, rfl, rfl, rfl, rfl, rfl⟩ (by
      rintro pre x post e he ⟨g, b, W, E5, E6, E7, E8, E9, E10, E11, hB, hlen, hW, f5, f6, f7, f8, f9, f10, f11, rfl⟩
      have he : List.range N = pre ++ x :: post := he
      have hpre : pre.length ≤ N := by
        have := congrArg List.length he
        rw [List.length_range, List.length_append] at this
        omega
      obtain ⟨g1, b1, p, q, r1, r2, l1, l2, E9', E10', hb1, hp, hq, hr1, hr2, hl1, hl2, f9', f10', q1⟩ := turn_W1 (k := k) (E1 := some (.int m)) (E4 := some (.own false (W.map encW))) (E5 := some (.int x)) (E11 := E11) hB h0 h1 w1 w2 f6 f7 f8 f9 f10 (.seq wB4 wB5)
      obtain ⟨g2, b2, w, E11', hb2, hw, f11', q2⟩ := turn_W2 (k := k) (E1 := some (.int m)) (E3 := some (p2 (v1 - s) (v2 - s))) (E5 := some (.int x)) (E9 := E9') (E10 := E10') (W := W) hb1 h0 h1 f11 hp hq hr1 hr2 hl1 hl2 (by omega)
      refine ⟨_, ?_, g2, b2, W ++ [w], some (.int x), some (p2 p q), some (p2 r1 r2), some (p2 l1 l2), E9', E10', E11', hb2, ?_, ?_, rfl, rfl, rfl, rfl, f9', f10', f11', rfl⟩
      · rw [asg5 f5]
        exact q1.trans q2
      · rw [List.length_append, List.length_append, hlen]
        rfl
      · intro y hy
        rcases List.mem_append.mp hy with hy | hy
        · exact hW y hy
        · rw [List.mem_singleton.mp hy]
          exact hw)
  have hlen : W.length = N := by
    rw [hlen, List.nil_append, List.length_range]
  have q2 := y_for_ok hs1 h3
  refine ⟨W, g4, b4, hb4, ⟨hW, by omega, by omega⟩, by omega, ?_⟩
  rw [call_eq (fn := ⟨12, 3, true, b_law_wedges⟩) rfl rfl]
  show outR true (evS (callN tab gl (k + 3)) gl b_law_wedges [some (.own true [.int g, .int b]), some (.int m), some (.int s), none, none, none, none, none, none, none, none, none]) = _
  rw [seq_nx rfl q1, seq_nx (s := sq2 b_law_wedges) rfl q2]
  have hr := cbb_t4 (xs := W.map encW) (e := [E5, E6, E7, E8, E9, E10, E11]) (cf := callN tab gl (k + 3)) (a := some (.own true [.int g4, .int b4])) (b := some (.int m)) (c := some (.int s)) (d := some (p2 (v1 - s) (v2 - s))) (plains_W _)
  simp only [b_law_wedges, sq2, y_ret, hr, b_ok, outR, if_true, encWs, List.getElem?_cons_zero]
end
end K74

set_option Elab.async false
set_option linter.all false
set_option maxRecDepth 100000
namespace K74
open PySem PySem.Spec L2 PD PyProof.Rows
theorem bare_Ps : ∀ l : List Pl, bareAll (D.pys (l.map encP)) = true
  | [] => by simp only [List.map_nil, D.pys, bareAll]
  | z :: l => by
    simp only [List.map_cons, D.pys, bareAll, bare_Ps l, Bool.and_true]
    rfl
theorem shb_int {i : Int} (h : Sm 300 i) : PyData.showable (.int i) = true := by
  simp only [PyData.showable, decide_eq_true_eq]
  have := h.log
  omega
theorem shb_Ps : ∀ l : List Pl, SmPs l → PyData.showableAll (D.pys (l.map encP)) = true
  | [], _ => by simp only [List.map_nil, D.pys, PyData.showableAll]
  | z :: l, h => by
    have hz := h z List.mem_cons_self
    simp only [List.map_cons, D.pys, PyData.showableAll, shb_Ps l fun y hy => h y (List.mem_cons_of_mem _ hy), encP, D.py, PyData.showable, Bool.and_true]
    rw [decide_eq_true (by have := hz.x.log; omega), decide_eq_true (by have := hz.u.log; omega), decide_eq_true (by have := hz.y.log; omega), decide_eq_true (by have := hz.v.log; omega)]
    rfl
theorem lvs_int {i : Int} (h : Sm 300 i) : (PyData.shown (.int i)).length ≤ 400 := by
  show (Str.ofString (toString i)).length ≤ 400
  rw [PySem.ofString_length]
  have h2 := h.log
  have := int_text_length_le (a := i) (k := 301) (by decide) (by omega)
  omega
theorem lvs_Ps : ∀ l : List Pl, SmPs l → PyData.leavesShortAll 400 (D.pys (l.map encP)) = true
  | [], _ => by simp only [List.map_nil, D.pys, PyData.leavesShortAll]
  | z :: l, h => by
    have hz := h z List.mem_cons_self
    simp only [List.map_cons, D.pys, PyData.leavesShortAll, lvs_Ps l fun y hy => h y (List.mem_cons_of_mem _ hy), encP, D.py, PyData.leavesShort, Bool.and_true]
    rw [decide_eq_true (lvs_int hz.x), decide_eq_true (lvs_int hz.u), decide_eq_true (lvs_int hz.y), decide_eq_true (lvs_int hz.v)]
    rfl
theorem blk_Ps : ∀ l : List Pl, PyData.bulkAll (D.pys (l.map encP)) = 7 * l.length
  | [] => by simp only [List.map_nil, D.pys, PyData.bulkAll, List.length_nil]
  | z :: l => by
    simp only [List.map_cons, D.pys, PyData.bulkAll, blk_Ps l, encP, D.py, PyData.bulk, List.length_cons]
    omega
def txt (l : List Pl) : Str := (D.tup (l.map encP)).py.shown
theorem repr_Ps {l : List Pl} (h : SmPs l) (h2 : l.length ≤ 1300) : biD .repr [.tup (l.map encP)] = some (.str (txt l)) := by
  refine repr_ok ?_ ?_ ?_ ?_
  · simp only [D.py, PyData.showable, shb_Ps l h]
  · have := dep_Ps l
    simp only [D.py, PyData.depth]
    omega
  · simp only [D.py, PyData.leavesShort, lvs_Ps l h]
  · have := blk_Ps l
    simp only [D.py, PyData.bulk]
    omega
theorem ne_txt {l : List Pl} : cmpD .NotEq (.str (txt l)) (.str (txt l)) = some false := by
  have h : PyData.strOk (txt l) = true := ok_shown _ (by simp only [D.py, bare, bare_Ps l])
  rw [ne_str h h]
  have : (txt l == txt l) = true := beq_self_eq_true _
  rw [this]
  rfl
theorem foldU_len (W : List Wd) (h : OkWs W) : (srt W).length ≤ 1300 := by
  have h1 := crn_len h
  have h2 := fold_len (f := insU bef) (fun l z => insU_len) (crn W) []
  unfold srt
  rw [List.length_nil] at h2
  omega
theorem srt_sm {W : List Wd} (h : OkWs W) : SmPs (srt W) := fun z hz => crn_sm h z (srt_mem.mp hz)
end K74

set_option Elab.async false
set_option linter.all false
set_option maxRecDepth 100000
namespace K74
open PySem PySem.Spec L2 PD PyProof.Rows
theorem rev_t {cf : CallF} {a : IE} {e e1 : PD.Env} {ds : List D} (h : ev cf gl a e = .ok (.tup ds) e1) : ev cf gl (.rev a) e = .ok (.tup ds.reverse) e1 := by
  rw [x_rev, h]
  rfl
theorem slc_t1 {xs : List D} : slcD (.tup xs) none (some 1) = some (.tup (xs.take 1)) := by
  show some (D.tup (PD.cutD xs none (some 1))) = _
  unfold PD.cutD
  rw [show (1 : Int) = ((1 : Nat) : Int) from rfl, HT.sIx_nat, HT.sIx_none, Nat.sub_zero, List.drop_zero]
  congr 2
  by_cases h : 1 ≤ xs.length
  · rw [Nat.min_eq_left h]
  · rw [Nat.min_eq_right (by omega), List.take_of_length_le (Nat.le_refl _), List.take_of_length_le (by omega)]
theorem add_t {xs ys : List D} (h : xs.length + ys.length ≤ line) : binD .Add (.tup xs) (.tup ys) = some (.tup (xs ++ ys)) := if_pos h
theorem f_str {x : Str} : D.frz (.str x) = .str x := rfl
theorem eq_nil : cmpD .Eq (.lst []) (.lst []) = some true := by rfl
theorem isn_b {a b : Bool} : cmpD .IsNot (.bl a) (.bl b) = some (!decide (a = b)) := rfl
def rB1 : IS := .asg (.nm 1) (.callIO i_law_wedges 0 (.cons (.cst (.int 7)) (.cons (.callIO i_law_one_of 0 (.cons (.lst (.cons (.cst (.int 2)) (.cons (.cst (.int 5)) (.cons (.cst (.int 9)) (.cons (.cst (.int 100)) (.cons (.bin .Pow (.cst (.int 10)) (.cst (.int 9))) (.nil))))))) (.nil))) (.nil))))
section
variable {k n : Nat} {g b m s : Int}
theorem right_1 (hB : Bg g b) {E2 E3 E4 : Option D} : ∃ W g' b', Bg g' b' ∧ OkWs W ∧ W.length ≤ 7 ∧ evS (callN tab gl (k + 4)) gl (sq1 b_law_right) [some (.own true [.int g, .int b]), none, E2, E3, E4] = .ok .nx [some (.own true [.int g', .int b']), some (encWs W), E2, E3, E4] := by
  obtain ⟨x, hx, g1, b1, hb1, e1⟩ := s_law_one_of (k := k + 2) (xs := [2, 5, 9, 100, 10 ^ 9]) hB (by decide) (by decide)
  have hx1 : 0 < x ∧ Sm 30 x := by
    unfold Sm
    simp only [List.mem_cons, List.not_mem_nil, or_false] at hx
    rcases hx with rfl | rfl | rfl | rfl | rfl <;> decide
  obtain ⟨W, g2, b2, hb2, hW, hlen, e2⟩ := s_law_wedges (k := k) (m := 7) hb1 hx1.1 hx1.2 (by decide) (by decide)
  refine ⟨W, g2, b2, hb2, hW, by omega, ?_⟩
  have l5 : ((0 + 1 + 1 + 1 + 1 + 1 : Nat) ≤ line) = True := eq_true (by decide)
  simp only [List.map_cons, List.map_nil] at e1
  simp only [b_law_right, sq1, x_lc, x_gl, x_cst, x_bin, x_neg, x_cmp, x_chn, x_cmpR, x_and, x_or, x_not, x_ite, x_tup, x_lst, x_sub, x_subB, x_slc, x_no, x_yes, x_rev, x_callF, x_callIO, x_callB, x_callBB, x_isi, x_nil, x_cons, x_star, x_sE, x_sEn, x_sZp, x_sR1, y_skip, y_seq, y_asgN, y_asgT, y_par, y_par3, y_ife, y_ret, y_retS, y_exp, y_app, y_set, y_for, evT, asg_nm, asg_t, asgs_n, asgs_c, fr_0, fr_s, fo_n, fo_s, ↓reduceIte, List.map_cons, List.map_nil, List.replicate, Nat.sub_self, Nat.reduceSub, List.append_nil, List.cons_append, List.nil_append, readAt, viewAt, ownAt, hasAt, Option.bind_some, Option.bind_none, List.getElem?_cons_zero, List.getElem?_cons_succ, List.set_cons_zero, List.set_cons_succ, Bool.false_eq_true, Bool.not_false, Bool.not_true, b_ok, o_some, f_int, f_tup, f_lst, f_bl, f_non, f_own, fs_nil, fs_cons, pn_int, pn_tup, pn_lst, pn_bl, pn_non, pn_own, tr_bl, t0, t1, t2, add_, sub_, lt_, le_, gt_, ge_, Option.map_some, List.length_cons, List.length_nil, ln0, ln1, ln2, ln3, itemsOf, eq_int, ne_int, retC, outR, f_P, pn_P, f_3, pn_3, f_W, pn_W, f_Ws, pn_Ws, frzs_P, frzs_3, pow_10_9, l5, e1, retIO, e2]
theorem right_all {W : List Wd} (h : OkWs W) {a d : Option D} :
    ev (callN tab gl (k + 6)) gl (.comp (.lc 4) (.nm 4) (.sE (.lc 3)) (.cmp .IsNot (.callF i_is_common (.cons (.lc 1) (.cons (.lc 4) (.nil)))) (.cst (.bl true))) [4]) [a, some (encWs W), d, some (.tup ((srt W).map encP)), none] = .ok (.own false []) [a, some (encWs W), d, some (.tup ((srt W).map encP)), none] := by
  have e0 : (srt W).flatMap (fun _ => ([] : List D)) = [] := by simp
  have := ev_comp (cf := callN tab gl (k + 6)) (gl := gl) (elt := .lc 4) (src := .sE (.lc 3)) (cond := .cmp .IsNot (.callF i_is_common (.cons (.lc 1) (.cons (.lc 4) (.nil)))) (.cst (.bl true))) (t := .nm 4) (vs := [4]) (enc := encP) (l := srt W) (g := fun _ => ([] : List D)) (e := [a, some (encWs W), d, some (.tup ((srt W).map encP)), none]) (e1 := [a, some (encWs W), d, some (.tup ((srt W).map encP)), none]) rfl rfl (fun z hz => by
    have hf := crn_fr z (srt_mem.mp hz)
    have q := s_is_common (k := k) h (srt_sm h z hz) hf.1 hf.2
    rw [srt_held hz] at q
    refine ⟨[a, some (encWs W), d, some (.tup ((srt W).map encP)), some (encP z)], ?_, rfl, rfl⟩
    simp only [compF, wipeE, x_lc, x_gl, x_cst, x_bin, x_neg, x_cmp, x_chn, x_cmpR, x_and, x_or, x_not, x_ite, x_tup, x_lst, x_sub, x_subB, x_slc, x_no, x_yes, x_rev, x_callF, x_callIO, x_callB, x_callBB, x_isi, x_nil, x_cons, x_star, x_sE, x_sEn, x_sZp, x_sR1, y_skip, y_seq, y_asgN, y_asgT, y_par, y_par3, y_ife, y_ret, y_retS, y_exp, y_app, y_set, y_for, evT, asg_nm, asg_t, asgs_n, asgs_c, fr_0, fr_s, fo_n, fo_s, ↓reduceIte, List.map_cons, List.map_nil, List.replicate, Nat.sub_self, Nat.reduceSub, List.append_nil, List.cons_append, List.nil_append, readAt, viewAt, ownAt, hasAt, Option.bind_some, Option.bind_none, List.getElem?_cons_zero, List.getElem?_cons_succ, List.set_cons_zero, List.set_cons_succ, Bool.false_eq_true, Bool.not_false, Bool.not_true, b_ok, o_some, f_int, f_tup, f_lst, f_bl, f_non, f_own, fs_nil, fs_cons, pn_int, pn_tup, pn_lst, pn_bl, pn_non, pn_own, tr_bl, t0, t1, t2, add_, sub_, lt_, le_, gt_, ge_, Option.map_some, List.length_cons, List.length_nil, ln0, ln1, ln2, ln3, itemsOf, eq_int, ne_int, retC, outR, f_P, pn_P, f_3, pn_3, f_W, pn_W, f_Ws, pn_Ws, frzs_P, frzs_3, q, isn_b, R.noex, decide_true]) (by rw [e0]; decide)
  rw [e0] at this
  exact this
theorem s_law_right (hB : Bg g b) : ∃ g' b', Bg g' b' ∧ callN tab gl (k + 7) i_law_right [.own true [.int g, .int b]] = .ok (.bl true) (some (.own true [.int g', .int b'])) := by
  obtain ⟨W, g1, b1, hb1, hW, hlen, e1⟩ := right_1 (k := k + 2) (E2 := none) (E3 := none) (E4 := none) hB
  have hW' : OkWs (W.reverse ++ W.take 1) := by
    refine ⟨fun w hw => ?_, ?_, ?_⟩
    · rcases List.mem_append.mp hw with hw | hw
      · exact hW.ok w (List.mem_reverse.mp hw)
      · exact hW.ok w (List.mem_of_mem_take hw)
    · rw [List.length_append, List.length_reverse]
      have := hW.lo
      omega
    · rw [List.length_append, List.length_reverse, List.length_take]
      omega
  have hsame : srt (W.reverse ++ W.take 1) = srt W := srt_same fun w => by
    rw [List.mem_append, List.mem_reverse]
    constructor
    · rintro (h | h)
      · exact h
      · exact List.mem_of_mem_take h
    · exact .inl
  have q1 := s_law_corners (k := k + 2) hW
  have hsm : SmPs (crL W) := by rw [← crn_eq hW]; exact crn_sm hW
  have hln : (crL W).length < 10000 := by
    have := crn_len hW
    rw [crn_eq hW] at this
    omega
  have q2 := s_law_sorted (k := k + 4) hsm hln
  rw [srt_due hW] at q2
  have q3 := s_corners (k := k) hW
  have q4 := s_corners (k := k) hW'
  rw [hsame] at q4
  have q5 := repr_Ps (srt_sm hW) (foldU_len W hW)
  have q6 := right_all (k := k) hW (a := some (.own true [.int g1, .int b1])) (d := some (.tup ((srt W).map encP)))
  have e2 : evS (callN tab gl (k + 6)) gl (sq1 (sq2 b_law_right)) [some (.own true [.int g1, .int b1]), some (encWs W), none, none, none] = .ok .nx [some (.own true [.int g1, .int b1]), some (encWs W), some (.tup ((srt W).map encP)), none, none] := by
    simp only [b_law_right, sq1, sq2, x_lc, x_gl, x_cst, x_bin, x_neg, x_cmp, x_chn, x_cmpR, x_and, x_or, x_not, x_ite, x_tup, x_lst, x_sub, x_subB, x_slc, x_no, x_yes, x_rev, x_callF, x_callIO, x_callB, x_callBB, x_isi, x_nil, x_cons, x_star, x_sE, x_sEn, x_sZp, x_sR1, y_skip, y_seq, y_asgN, y_asgT, y_par, y_par3, y_ife, y_ret, y_retS, y_exp, y_app, y_set, y_for, evT, asg_nm, asg_t, asgs_n, asgs_c, fr_0, fr_s, fo_n, fo_s, ↓reduceIte, List.map_cons, List.map_nil, List.replicate, Nat.sub_self, Nat.reduceSub, List.append_nil, List.cons_append, List.nil_append, readAt, viewAt, ownAt, hasAt, Option.bind_some, Option.bind_none, List.getElem?_cons_zero, List.getElem?_cons_succ, List.set_cons_zero, List.set_cons_succ, Bool.false_eq_true, Bool.not_false, Bool.not_true, b_ok, o_some, f_int, f_tup, f_lst, f_bl, f_non, f_own, fs_nil, fs_cons, pn_int, pn_tup, pn_lst, pn_bl, pn_non, pn_own, tr_bl, t0, t1, t2, add_, sub_, lt_, le_, gt_, ge_, Option.map_some, List.length_cons, List.length_nil, ln0, ln1, ln2, ln3, itemsOf, eq_int, ne_int, retC, outR, f_P, pn_P, f_3, pn_3, f_W, pn_W, f_Ws, pn_Ws, frzs_P, frzs_3, q1, q2]
  have e3 : evS (callN tab gl (k + 6)) gl (sq1 (sq2 (sq2 b_law_right))) [some (.own true [.int g1, .int b1]), some (encWs W), some (.tup ((srt W).map encP)), none, none] = .ok .nx [some (.own true [.int g1, .int b1]), some (encWs W), some (.tup ((srt W).map encP)), some (.tup ((srt W).map encP)), none] := by
    simp only [b_law_right, sq1, sq2, x_lc, x_gl, x_cst, x_bin, x_neg, x_cmp, x_chn, x_cmpR, x_and, x_or, x_not, x_ite, x_tup, x_lst, x_sub, x_subB, x_slc, x_no, x_yes, x_rev, x_callF, x_callIO, x_callB, x_callBB, x_isi, x_nil, x_cons, x_star, x_sE, x_sEn, x_sZp, x_sR1, y_skip, y_seq, y_asgN, y_asgT, y_par, y_par3, y_ife, y_ret, y_retS, y_exp, y_app, y_set, y_for, evT, asg_nm, asg_t, asgs_n, asgs_c, fr_0, fr_s, fo_n, fo_s, ↓reduceIte, List.map_cons, List.map_nil, List.replicate, Nat.sub_self, Nat.reduceSub, List.append_nil, List.cons_append, List.nil_append, readAt, viewAt, ownAt, hasAt, Option.bind_some, Option.bind_none, List.getElem?_cons_zero, List.getElem?_cons_succ, List.set_cons_zero, List.set_cons_succ, Bool.false_eq_true, Bool.not_false, Bool.not_true, b_ok, o_some, f_int, f_tup, f_lst, f_bl, f_non, f_own, fs_nil, fs_cons, pn_int, pn_tup, pn_lst, pn_bl, pn_non, pn_own, tr_bl, t0, t1, t2, add_, sub_, lt_, le_, gt_, ge_, Option.map_some, List.length_cons, List.length_nil, ln0, ln1, ln2, ln3, itemsOf, eq_int, ne_int, retC, outR, f_P, pn_P, f_3, pn_3, f_W, pn_W, f_Ws, pn_Ws, frzs_P, frzs_3, q3]
  have hadd : binD .Add (.tup (W.map encW).reverse) (.tup ((W.map encW).take 1)) = some (encWs (W.reverse ++ W.take 1)) := by
    rw [add_t]
    · unfold encWs
      rw [List.map_append, List.map_reverse, List.map_take]
    · rw [List.length_reverse, List.length_take, List.length_map]
      have : line = 16777216 := rfl
      omega
  have e4 : evS (callN tab gl (k + 6)) gl (sq1 (sq2 (sq2 (sq2 b_law_right)))) [some (.own true [.int g1, .int b1]), some (encWs W), some (.tup ((srt W).map encP)), some (.tup ((srt W).map encP)), none] = .ok .nx [some (.own true [.int g1, .int b1]), some (encWs W), some (.tup ((srt W).map encP)), some (.tup ((srt W).map encP)), none] := by
    have fW : encWs W = .tup (W.map encW) := rfl
    rw [fW]
    simp only [b_law_right, sq1, sq2, x_lc, x_gl, x_cst, x_bin, x_neg, x_cmp, x_chn, x_cmpR, x_and, x_or, x_not, x_ite, x_tup, x_lst, x_sub, x_subB, x_slc, x_no, x_yes, x_rev, x_callF, x_callIO, x_callB, x_callBB, x_isi, x_nil, x_cons, x_star, x_sE, x_sEn, x_sZp, x_sR1, y_skip, y_seq, y_asgN, y_asgT, y_par, y_par3, y_ife, y_ret, y_retS, y_exp, y_app, y_set, y_for, evT, asg_nm, asg_t, asgs_n, asgs_c, fr_0, fr_s, fo_n, fo_s, ↓reduceIte, List.map_cons, List.map_nil, List.replicate, Nat.sub_self, Nat.reduceSub, List.append_nil, List.cons_append, List.nil_append, readAt, viewAt, ownAt, hasAt, Option.bind_some, Option.bind_none, List.getElem?_cons_zero, List.getElem?_cons_succ, List.set_cons_zero, List.set_cons_succ, Bool.false_eq_true, Bool.not_false, Bool.not_true, b_ok, o_some, f_int, f_tup, f_lst, f_bl, f_non, f_own, fs_nil, fs_cons, pn_int, pn_tup, pn_lst, pn_bl, pn_non, pn_own, tr_bl, t0, t1, t2, add_, sub_, lt_, le_, gt_, ge_, Option.map_some, List.length_cons, List.length_nil, ln0, ln1, ln2, ln3, itemsOf, eq_int, ne_int, retC, outR, f_P, pn_P, f_3, pn_3, f_W, pn_W, f_Ws, pn_Ws, frzs_P, frzs_3, f_str, q5, ne_txt, pd_i, pd_h, slc_t1, hadd, q4]
  refine ⟨g1, b1, hb1, ?_⟩
  rw [call_eq (fn := ⟨5, 1, true, b_law_right⟩) rfl rfl]
  show outR true (evS (callN tab gl (k + 6)) gl b_law_right [some (.own true [.int g, .int b]), none, none, none, none]) = _
  rw [seq_nx rfl e1, seq_nx (s := sq2 b_law_right) rfl e2, seq_nx (s := sq2 (sq2 b_law_right)) rfl e3, seq_nx (s := sq2 (sq2 (sq2 b_law_right))) rfl e4]
  simp only [b_law_right, sq2, x_lc, x_gl, x_cst, x_bin, x_neg, x_cmp, x_chn, x_cmpR, x_and, x_or, x_not, x_ite, x_tup, x_lst, x_sub, x_subB, x_slc, x_no, x_yes, x_rev, x_callF, x_callIO, x_callB, x_callBB, x_isi, x_nil, x_cons, x_star, x_sE, x_sEn, x_sZp, x_sR1, y_skip, y_seq, y_asgN, y_asgT, y_par, y_par3, y_ife, y_ret, y_retS, y_exp, y_app, y_set, y_for, evT, asg_nm, asg_t, asgs_n, asgs_c, fr_0, fr_s, fo_n, fo_s, ↓reduceIte, List.map_cons, List.map_nil, List.replicate, Nat.sub_self, Nat.reduceSub, List.append_nil, List.cons_append, List.nil_append, readAt, viewAt, ownAt, hasAt, Option.bind_some, Option.bind_none, List.getElem?_cons_zero, List.getElem?_cons_succ, List.set_cons_zero, List.set_cons_succ, Bool.false_eq_true, Bool.not_false, Bool.not_true, b_ok, o_some, f_int, f_tup, f_lst, f_bl, f_non, f_own, fs_nil, fs_cons, pn_int, pn_tup, pn_lst, pn_bl, pn_non, pn_own, tr_bl, t0, t1, t2, add_, sub_, lt_, le_, gt_, ge_, Option.map_some, List.length_cons, List.length_nil, ln0, ln1, ln2, ln3, itemsOf, eq_int, ne_int, retC, outR, f_P, pn_P, f_3, pn_3, f_W, pn_W, f_Ws, pn_Ws, frzs_P, frzs_3, q6, eq_nil]
end
end K74

set_option Elab.async false
set_option linter.all false
set_option maxRecDepth 100000
namespace K74
open PySem PySem.Spec L2 PD PyProof.Rows
theorem sub_nth {ns : List Int} {n : Nat} (h : n < ns.length) : subD (.lst (ns.map D.int)) (.int (n : Int)) = some (.int ns[n]) := by
  show atI (ns.map D.int) (n : Int) = _
  unfold atI ixN
  rw [if_pos (by omega), if_pos (by rw [List.length_map]; omega)]
  show (ns.map D.int)[(n : Int).toNat]? = _
  rw [Int.toNat_natCast, List.getElem?_map, List.getElem?_eq_getElem h]
  rfl
def bagT : IS := sq2 b_law_bag
section
variable {k n : Nat} {g b m s : Int}
theorem bag_2 {E0 : Option D} {at_ : Nat} {c : Int} (ha : at_ < 3) : ∃ g b, Bg g b ∧ outR false (evS (callN tab gl k) gl bagT [E0, some (.int (at_ : Int)), some (.int c), none, none]) = .ok (.own false [.int g, .int b]) none := by
  have p1 : Sm 200 (10 ^ 60 : Int) := by unfold Sm; decide
  have hp : (0 : Int) < 10 ^ 60 * 10 ^ 60 := by decide
  have hq : (0 : Int) < 10 ^ 12 + 39 := by decide
  have hr : (0 : Int) < 2 ^ 61 - 1 := by decide
  have m1 : Sm 50 ((c.natAbs : Int) % (10 ^ 12 + 39)) := by
    have h1 := Int.emod_nonneg (c.natAbs : Int) (b := 10 ^ 12 + 39) (by decide)
    have h2 := Int.emod_lt_of_pos (c.natAbs : Int) hq
    unfold Sm
    omega
  have t1 : Sm 20 (10007 : Int) := by unfold Sm; decide
  have t2 : Sm 20 (509 : Int) := by unfold Sm; decide
  have t3 : Sm 20 (17 : Int) := by unfold Sm; decide
  have t4 : Sm 20 (at_ : Int) := by unfold Sm; omega
  have t5 : Sm 20 (if decide (c < 0) = true then 1 else 0 : Int) := by unfold Sm; split <;> decide
  refine ⟨(if (c.natAbs : Int) - 10 ^ 18 > 0 then (c.natAbs : Int) - 10 ^ 18 else 0) % (10 ^ 60 * 10 ^ 60), ((c.natAbs : Int) % (10 ^ 12 + 39) * 10007 + 509 * at_ + 17 * (if decide (c < 0) = true then 1 else 0) + 1) % (2 ^ 61 - 1), ⟨Int.emod_nonneg _ (by decide), ?_, Int.emod_nonneg _ (by decide), ?_⟩, ?_⟩
  · refine Int.lt_of_lt_of_le (Int.emod_lt_of_pos _ hp) (by decide)
  · refine Int.lt_of_lt_of_le (Int.emod_lt_of_pos _ hr) (by decide)
  simp only [bagT, sq2, b_law_bag, x_lc, x_gl, x_cst, x_bin, x_neg, x_cmp, x_chn, x_cmpR, x_and, x_or, x_not, x_ite, x_tup, x_lst, x_sub, x_subB, x_slc, x_no, x_yes, x_rev, x_callF, x_callIO, x_callB, x_callBB, x_isi, x_nil, x_cons, x_star, x_sE, x_sEn, x_sZp, x_sR1, y_skip, y_seq, y_asgN, y_asgT, y_par, y_par3, y_ife, y_ret, y_retS, y_exp, y_app, y_set, y_for, evT, asg_nm, asg_t, asgs_n, asgs_c, fr_0, fr_s, fo_n, fo_s, ↓reduceIte, List.map_cons, List.map_nil, List.replicate, Nat.sub_self, Nat.reduceSub, List.append_nil, List.cons_append, List.nil_append, readAt, viewAt, ownAt, hasAt, Option.bind_some, Option.bind_none, List.getElem?_cons_zero, List.getElem?_cons_succ, List.set_cons_zero, List.set_cons_succ, Bool.false_eq_true, Bool.not_false, Bool.not_true, b_ok, o_some, f_int, f_tup, f_lst, f_bl, f_non, f_own, fs_nil, fs_cons, pn_int, pn_tup, pn_lst, pn_bl, pn_non, pn_own, tr_bl, t0, t1, t2, add_, sub_, lt_, le_, gt_, ge_, Option.map_some, List.length_cons, List.length_nil, ln0, ln1, ln2, ln3, itemsOf, eq_int, ne_int, retC, outR, f_P, pn_P, f_3, pn_3, f_W, pn_W, f_Ws, pn_Ws, frzs_P, frzs_3, abs_, pow_10_18, pow_10_60, pow_10_12, pow_2_61, max_i, mul_ p1 p1 (by decide), md_ hp, int_i, md_ hq, mul_ m1 t1 (by decide), mul_ t2 t4 (by decide), int_b, mul_ t3 t5 (by decide), md_ hr]
theorem s_law_bag {ns : List Int} {at_ : Nat} (ha : at_ < 3) : ∃ g b, Bg g b ∧ callN tab gl (k + 1) i_law_bag [.lst (ns.map D.int), .int (at_ : Int)] = .ok (.own false [.int g, .int b]) none := by
  have key : ∃ c : Int, evS (callN tab gl k) gl (sq1 b_law_bag) [some (.lst (ns.map D.int)), some (.int (at_ : Int)), none, none, none] = .ok .nx [some (.lst (ns.map D.int)), some (.int (at_ : Int)), some (.int c), none, none] := by
    by_cases h : at_ < ns.length
    · have h2 : decide ((at_ : Int) < ((ns.map D.int).length : Int)) = true := by rw [List.length_map]; exact decide_eq_true (by omega)
      refine ⟨ns[at_], ?_⟩
      simp only [b_law_bag, sq1, x_lc, x_gl, x_cst, x_bin, x_neg, x_cmp, x_chn, x_cmpR, x_and, x_or, x_not, x_ite, x_tup, x_lst, x_sub, x_subB, x_slc, x_no, x_yes, x_rev, x_callF, x_callIO, x_callB, x_callBB, x_isi, x_nil, x_cons, x_star, x_sE, x_sEn, x_sZp, x_sR1, y_skip, y_seq, y_asgN, y_asgT, y_par, y_par3, y_ife, y_ret, y_retS, y_exp, y_app, y_set, y_for, evT, asg_nm, asg_t, asgs_n, asgs_c, fr_0, fr_s, fo_n, fo_s, ↓reduceIte, List.map_cons, List.map_nil, List.replicate, Nat.sub_self, Nat.reduceSub, List.append_nil, List.cons_append, List.nil_append, readAt, viewAt, ownAt, hasAt, Option.bind_some, Option.bind_none, List.getElem?_cons_zero, List.getElem?_cons_succ, List.set_cons_zero, List.set_cons_succ, Bool.false_eq_true, Bool.not_false, Bool.not_true, b_ok, o_some, f_int, f_tup, f_lst, f_bl, f_non, f_own, fs_nil, fs_cons, pn_int, pn_tup, pn_lst, pn_bl, pn_non, pn_own, tr_bl, t0, t1, t2, add_, sub_, lt_, le_, gt_, ge_, Option.map_some, List.length_cons, List.length_nil, ln0, ln1, ln2, ln3, itemsOf, eq_int, ne_int, retC, outR, f_P, pn_P, f_3, pn_3, f_W, pn_W, f_Ws, pn_Ws, frzs_P, frzs_3, len_l, h2, sub_nth h, int_i]
    · have h2 : decide ((at_ : Int) < ((ns.map D.int).length : Int)) = false := by rw [List.length_map]; exact decide_eq_false (by omega)
      have t1 : Sm 20 (89 : Int) := by unfold Sm; decide
      have t4 : Sm 20 (at_ : Int) := by unfold Sm; omega
      refine ⟨89 * at_ + 41, ?_⟩
      simp only [b_law_bag, sq1, x_lc, x_gl, x_cst, x_bin, x_neg, x_cmp, x_chn, x_cmpR, x_and, x_or, x_not, x_ite, x_tup, x_lst, x_sub, x_subB, x_slc, x_no, x_yes, x_rev, x_callF, x_callIO, x_callB, x_callBB, x_isi, x_nil, x_cons, x_star, x_sE, x_sEn, x_sZp, x_sR1, y_skip, y_seq, y_asgN, y_asgT, y_par, y_par3, y_ife, y_ret, y_retS, y_exp, y_app, y_set, y_for, evT, asg_nm, asg_t, asgs_n, asgs_c, fr_0, fr_s, fo_n, fo_s, ↓reduceIte, List.map_cons, List.map_nil, List.replicate, Nat.sub_self, Nat.reduceSub, List.append_nil, List.cons_append, List.nil_append, readAt, viewAt, ownAt, hasAt, Option.bind_some, Option.bind_none, List.getElem?_cons_zero, List.getElem?_cons_succ, List.set_cons_zero, List.set_cons_succ, Bool.false_eq_true, Bool.not_false, Bool.not_true, b_ok, o_some, f_int, f_tup, f_lst, f_bl, f_non, f_own, fs_nil, fs_cons, pn_int, pn_tup, pn_lst, pn_bl, pn_non, pn_own, tr_bl, t0, t1, t2, add_, sub_, lt_, le_, gt_, ge_, Option.map_some, List.length_cons, List.length_nil, ln0, ln1, ln2, ln3, itemsOf, eq_int, ne_int, retC, outR, f_P, pn_P, f_3, pn_3, f_W, pn_W, f_Ws, pn_Ws, frzs_P, frzs_3, len_l, h2, mul_ t1 t4 (by decide)]
  obtain ⟨c, q⟩ := key
  obtain ⟨g, b, hb, e⟩ := bag_2 (k := k) (E0 := some (.lst (ns.map D.int))) (c := c) ha
  refine ⟨g, b, hb, ?_⟩
  rw [call_eq (fn := ⟨5, 2, false, b_law_bag⟩) rfl rfl]
  show outR false (evS (callN tab gl k) gl b_law_bag [some (.lst (ns.map D.int)), some (.int (at_ : Int)), none, none, none]) = _
  rw [seq_nx rfl q]
  exact e
def lawB : IS := .seq (.asg (.nm 2) (.callF i_law_bag (.cons (.lc 0) (.cons (.lc 1) (.nil))))) (.ife (.cmp .NotEq (.comp (.cst (.int 1)) (.nm 8) (.sR1 (.cst (.int 6))) (.not_ (.callIO i_law_right 2 (.nil))) [8]) (.lst (.nil))) (.ret (.cst (.bl false))) (.skip))
theorem ne_nil : cmpD .NotEq (.lst []) (.lst []) = some false := by rfl
theorem cell_turn {E0 E1 : Option D} (hB : Bg g b) : ∃ g' b', Bg g' b' ∧ ev (callN tab gl (k + 7)) gl (.comp (.cst (.int 1)) (.nm 8) (.sR1 (.cst (.int 6))) (.not_ (.callIO i_law_right 2 (.nil))) [8]) [E0, E1, some (.own false [.int g, .int b]), none, none, none, none, none, none] =
    .ok (.own false []) [E0, E1, some (.own false [.int g', .int b']), none, none, none, none, none, none] := by
  obtain ⟨e', ⟨g', b', hb, rfl⟩, he⟩ := ev_comp_none (cf := callN tab gl (k + 7)) (gl := gl) (elt := .cst (.int 1)) (t := .nm 8) (src := .sR1 (.cst (.int 6))) (cond := .not_ (.callIO i_law_right 2 (.nil))) (vs := [8]) (enc := fun i : Nat => D.int (i : Int)) (l := List.range 6)
    (e := [E0, E1, some (.own false [.int g, .int b]), none, none, none, none, none, none]) (e1 := [E0, E1, some (.own false [.int g, .int b]), none, none, none, none, none, none])
    (I := fun e => ∃ g b, Bg g b ∧ e = [E0, E1, some (.own false [.int g, .int b]), none, none, none, none, none, none])
    (sR1_ok (n := 6) rfl (by decide)) rfl ⟨g, b, hB, rfl⟩ (by
      rintro i _ e ⟨g, b, hb, rfl⟩
      obtain ⟨g1, b1, hb1, q⟩ := s_law_right (k := k) hb
      refine ⟨[E0, E1, some (.own false [.int g1, .int b1]), none, none, none, none, none, some (.int i)], ?_, rfl, g1, b1, hb1, rfl⟩
      simp only [compF, x_lc, x_gl, x_cst, x_bin, x_neg, x_cmp, x_chn, x_cmpR, x_and, x_or, x_not, x_ite, x_tup, x_lst, x_sub, x_subB, x_slc, x_no, x_yes, x_rev, x_callF, x_callIO, x_callB, x_callBB, x_isi, x_nil, x_cons, x_star, x_sE, x_sEn, x_sZp, x_sR1, y_skip, y_seq, y_asgN, y_asgT, y_par, y_par3, y_ife, y_ret, y_retS, y_exp, y_app, y_set, y_for, evT, asg_nm, asg_t, asgs_n, asgs_c, fr_0, fr_s, fo_n, fo_s, ↓reduceIte, List.map_cons, List.map_nil, List.replicate, Nat.sub_self, Nat.reduceSub, List.append_nil, List.cons_append, List.nil_append, readAt, viewAt, ownAt, hasAt, Option.bind_some, Option.bind_none, List.getElem?_cons_zero, List.getElem?_cons_succ, List.set_cons_zero, List.set_cons_succ, Bool.false_eq_true, Bool.not_false, Bool.not_true, b_ok, o_some, f_int, f_tup, f_lst, f_bl, f_non, f_own, fs_nil, fs_cons, pn_int, pn_tup, pn_lst, pn_bl, pn_non, pn_own, tr_bl, t0, t1, t2, add_, sub_, lt_, le_, gt_, ge_, Option.map_some, List.length_cons, List.length_nil, ln0, ln1, ln2, ln3, itemsOf, eq_int, ne_int, retC, outR, f_P, pn_P, f_3, pn_3, f_W, pn_W, f_Ws, pn_Ws, frzs_P, frzs_3, q, retIO, R.noex])
  exact ⟨g', b', hb, he⟩
theorem turn_law {ns : List Int} {at_ : Nat} {E1 E2 : Option D} (ha : at_ < 3) (f1 : freeO E1 = true) (f2 : freeO E2 = true) : ∃ g b, Bg g b ∧ ((asg (.nm 1) (.int (at_ : Int)) [some (.lst (ns.map D.int)), E1, E2, none, none, none, none, none, none]).bind fun _ e => evS (callN tab gl (k + 7)) gl lawB e) =
    .ok .nx [some (.lst (ns.map D.int)), some (.int (at_ : Int)), some (.own false [.int g, .int b]), none, none, none, none, none, none] := by
  obtain ⟨g, b, hb, e1⟩ := s_law_bag (k := k + 6) (ns := ns) ha
  obtain ⟨g1, b1, hb1, e2⟩ := cell_turn (k := k) (E0 := some (.lst (ns.map D.int))) (E1 := some (.int (at_ : Int))) hb
  refine ⟨g1, b1, hb1, ?_⟩
  simp only [lawB, x_lc, x_gl, x_cst, x_bin, x_neg, x_cmp, x_chn, x_cmpR, x_and, x_or, x_not, x_ite, x_tup, x_lst, x_sub, x_subB, x_slc, x_no, x_yes, x_rev, x_callF, x_callIO, x_callB, x_callBB, x_isi, x_nil, x_cons, x_star, x_sE, x_sEn, x_sZp, x_sR1, y_skip, y_seq, y_asgN, y_asgT, y_par, y_par3, y_ife, y_ret, y_retS, y_exp, y_app, y_set, y_for, evT, asg_nm, asg_t, asgs_n, asgs_c, fr_0, fr_s, fo_n, fo_s, ↓reduceIte, List.map_cons, List.map_nil, List.replicate, Nat.sub_self, Nat.reduceSub, List.append_nil, List.cons_append, List.nil_append, readAt, viewAt, ownAt, hasAt, Option.bind_some, Option.bind_none, List.getElem?_cons_zero, List.getElem?_cons_succ, List.set_cons_zero, List.set_cons_succ, Bool.false_eq_true, Bool.not_false, Bool.not_true, b_ok, o_some, f_int, f_tup, f_lst, f_bl, f_non, f_own, fs_nil, fs_cons, pn_int, pn_tup, pn_lst, pn_bl, pn_non, pn_own, tr_bl, t0, t1, t2, add_, sub_, lt_, le_, gt_, ge_, Option.map_some, List.length_cons, List.length_nil, ln0, ln1, ln2, ln3, itemsOf, eq_int, ne_int, retC, outR, f_P, pn_P, f_3, pn_3, f_W, pn_W, f_Ws, pn_Ws, frzs_P, frzs_3, f1, f2, e1, e2, ne_nil]
end
end K74

set_option Elab.async false
set_option linter.all false
set_option maxRecDepth 100000
namespace K74
open PySem PySem.Spec L2 PD PyProof.Rows
abbrev wE : Wd := ⟨0, 0, 4, 1, 1, 4⟩
abbrev wN : Wd := ⟨0, 6, 0, -1, 1, 0⟩
abbrev wW : Wd := ⟨9, 0, 0, 1, -1, 1⟩
abbrev wR : Wd := ⟨3, 3, 1, 0, 2, 0⟩
abbrev wS : Wd := ⟨5, -1, 0, -1, 1, 0⟩
theorem okE : OkW wE := ⟨⟨by unfold Sm; decide, by unfold Sm; decide, by unfold Sm; decide, by unfold Sm; decide, by unfold Sm; decide, by unfold Sm; decide⟩, by decide, by decide, by decide⟩
theorem okN : OkW wN := ⟨⟨by unfold Sm; decide, by unfold Sm; decide, by unfold Sm; decide, by unfold Sm; decide, by unfold Sm; decide, by unfold Sm; decide⟩, by decide, by decide, by decide⟩
theorem okWe : OkW wW := ⟨⟨by unfold Sm; decide, by unfold Sm; decide, by unfold Sm; decide, by unfold Sm; decide, by unfold Sm; decide, by unfold Sm; decide⟩, by decide, by decide, by decide⟩
theorem okR : OkW wR := ⟨⟨by unfold Sm; decide, by unfold Sm; decide, by unfold Sm; decide, by unfold Sm; decide, by unfold Sm; decide, by unfold Sm; decide⟩, by decide, by decide, by decide⟩
theorem okS : OkW wS := ⟨⟨by unfold Sm; decide, by unfold Sm; decide, by unfold Sm; decide, by unfold Sm; decide, by unfold Sm; decide, by unfold Sm; decide⟩, by decide, by decide, by decide⟩
theorem ok1 : OkWs [wE, wN, wW] := ⟨fun w hw => by
  simp only [List.mem_cons, List.not_mem_nil, or_false] at hw
  rcases hw with rfl | rfl | rfl
  · exact okE
  · exact okN
  · exact okWe, by decide, by decide⟩
theorem ok2 : OkWs [wE] := ⟨fun w hw => by
  simp only [List.mem_cons, List.not_mem_nil, or_false] at hw
  rcases hw with rfl
  exact okE, by decide, by decide⟩
theorem ok3 : OkWs [wR] := ⟨fun w hw => by
  simp only [List.mem_cons, List.not_mem_nil, or_false] at hw
  rcases hw with rfl
  exact okR, by decide, by decide⟩
theorem ok4 : OkWs [wE, wS] := ⟨fun w hw => by
  simp only [List.mem_cons, List.not_mem_nil, or_false] at hw
  rcases hw with rfl | rfl
  · exact okE
  · exact okS, by decide, by decide⟩
theorem sr1 : srt [wE, wN, wW] = [⟨3, 1, 6, 1⟩, ⟨36, 5, 9, 5⟩, ⟨9, 1, 9, 4⟩, ⟨9, 1, 6, 1⟩] := by decide +kernel
theorem sr2 : srt [wE] = [⟨0, 1, 0, 1⟩] := by decide +kernel
theorem sr3 : srt [wR] = [⟨3, 1, 3, 1⟩] := by decide +kernel
theorem sr4 : srt [wE, wS] = [] := by decide +kernel
def told : D := .lst [.tup [.tup [p2 3 1, p2 6 1], .tup [p2 36 5, p2 9 5], .tup [p2 9 1, p2 9 4], .tup [p2 9 1, p2 6 1]], .tup [.tup [p2 0 1, p2 0 1]], .tup [.tup [p2 3 1, p2 3 1]], .tup []]
theorem repr_told : biD .repr [told] = some (.str told.py.shown) := repr_ok (by decide +kernel) (by decide +kernel) (by decide +kernel) (by decide +kernel)
theorem eq_told : cmpD .Eq (.str told.py.shown) (.str told.py.shown) = some true := by
  have h : PyData.strOk told.py.shown = true := ok_shown _ (by decide +kernel)
  rw [eq_str h h]
  have : (told.py.shown == told.py.shown) = true := beq_self_eq_true _
  rw [this]
section
variable {k n : Nat} {g b m s : Int}
theorem law_end {E0 E1 E2 : Option D} : outR false (evS (callN tab gl (k + 6)) gl (sq2 b_law) [E0, E1, E2, none, none, none, none, none, none]) = .ok (.bl true) none := by
  have q1 := s_corners (k := k) ok1
  have q2 := s_corners (k := k) ok2
  have q3 := s_corners (k := k) ok3
  have q4 := s_corners (k := k) ok4
  rw [sr1] at q1
  rw [sr2] at q2
  rw [sr3] at q3
  rw [sr4] at q4
  simp only [encWs, encW, encP, List.map_cons, List.map_nil] at q1 q2 q3 q4
  have l4 : ((0 + 1 + 1 + 1 + 1 : Nat) ≤ line) = True := eq_true (by decide)
  have r1 := repr_told
  have r2 := eq_told
  unfold told at r1 r2
  simp only [b_law, sq2, x_lc, x_gl, x_cst, x_bin, x_neg, x_cmp, x_chn, x_cmpR, x_and, x_or, x_not, x_ite, x_tup, x_lst, x_sub, x_subB, x_slc, x_no, x_yes, x_rev, x_callF, x_callIO, x_callB, x_callBB, x_isi, x_nil, x_cons, x_star, x_sE, x_sEn, x_sZp, x_sR1, y_skip, y_seq, y_asgN, y_asgT, y_par, y_par3, y_ife, y_ret, y_retS, y_exp, y_app, y_set, y_for, evT, asg_nm, asg_t, asgs_n, asgs_c, fr_0, fr_s, fo_n, fo_s, ↓reduceIte, List.map_cons, List.map_nil, List.replicate, Nat.sub_self, Nat.reduceSub, List.append_nil, List.cons_append, List.nil_append, readAt, viewAt, ownAt, hasAt, Option.bind_some, Option.bind_none, List.getElem?_cons_zero, List.getElem?_cons_succ, List.set_cons_zero, List.set_cons_succ, Bool.false_eq_true, Bool.not_false, Bool.not_true, b_ok, o_some, f_int, f_tup, f_lst, f_bl, f_non, f_own, fs_nil, fs_cons, pn_int, pn_tup, pn_lst, pn_bl, pn_non, pn_own, tr_bl, t0, t1, t2, add_, sub_, lt_, le_, gt_, ge_, Option.map_some, List.length_cons, List.length_nil, ln0, ln1, ln2, ln3, itemsOf, eq_int, ne_int, retC, outR, f_P, pn_P, f_3, pn_3, f_W, pn_W, f_Ws, pn_Ws, frzs_P, frzs_3, l4, q1, q2, q3, q4, r1, r2, f_str]
theorem s_law {ns : List Int} : callN tab gl (k + 8) i_law [.lst (ns.map D.int)] = .ok (.bl true) none := by
  obtain ⟨N, hN, hN3⟩ : ∃ N : Nat, (if (if ((ns.map D.int).length : Int) < 3 then ((ns.map D.int).length : Int) else 3) > 1 then (if ((ns.map D.int).length : Int) < 3 then ((ns.map D.int).length : Int) else 3) else 1) = N ∧ N ≤ 3 := by
    refine ⟨(if (if ((ns.map D.int).length : Int) < 3 then ((ns.map D.int).length : Int) else 3) > 1 then (if ((ns.map D.int).length : Int) < 3 then ((ns.map D.int).length : Int) else 3) else 1).toNat, ?_, ?_⟩
    · split <;> split <;> omega
    · split <;> split <;> omega
  have hs1 : evI (callN tab gl (k + 7)) gl (.sR1 (.callB .max2 (.cons (.cst (.int 1)) (.cons (.callB .min2 (.cons (.cst (.int 3)) (.cons (.callB .len (.cons (.lc 0) (.nil))) (.nil)))) (.nil))))) [some (.lst (ns.map D.int)), none, none, none, none, none, none, none, none] = .ok ((List.range N).map fun i : Nat => D.int (i : Int)) [some (.lst (ns.map D.int)), none, none, none, none, none, none, none, none] := by
    refine sR1_ok ?_ (by omega)
    simp only [x_callB, x_cons, x_nil, x_cst, x_lc, readAt, List.getElem?_cons_zero, List.set_cons_zero, pn_lst, Bool.false_eq_true, if_false, b_ok, f_lst, fs_nil, fs_cons, f_int, len_l, o_some, min_i, max_i, hN]
  obtain ⟨e, q1, E1, E2, f1, f2, rfl⟩ := forL_ind (enc := fun i : Nat => D.int (i : Int)) (F := fun d e => (asg (.nm 1) d e).bind fun _ e => evS (callN tab gl (k + 7)) gl lawB e)
    (I := fun e => ∃ E1 E2, freeO E1 = true ∧ freeO E2 = true ∧ e = [some (.lst (ns.map D.int)), E1, E2, none, none, none, none, none, none])
    (List.range N) [some (.lst (ns.map D.int)), none, none, none, none, none, none, none, none] ⟨none, none, rfl, rfl, rfl⟩ (by
      rintro i hi e ⟨E1, E2, f1, f2, rfl⟩
      rw [List.mem_range] at hi
      obtain ⟨g, b, hb, t⟩ := turn_law (k := k) (ns := ns) (at_ := i) (by omega) f1 f2
      exact ⟨_, t, some (.int i), some (.own false [.int g, .int b]), rfl, rfl, rfl⟩)
  have q2 := y_for_ok hs1 q1
  rw [call_eq (fn := ⟨9, 1, false, b_law⟩) rfl rfl]
  show outR false (evS (callN tab gl (k + 7)) gl b_law [some (.lst (ns.map D.int)), none, none, none, none, none, none, none, none]) = _
  rw [seq_nx rfl q2]
  exact law_end
end
theorem plain : ∀ ns : List Int, ns.length ≤ 63 → (∀ z ∈ ns, Builtin.Int.intBits z ≤ 1048576) → callN tab TT.gl 12 i_law [.lst (ns.map D.int)] = .ok (.bl true) none := fun ns _ _ => s_law (k := 4)
end K74

set_option Elab.async false
set_option linter.all false
set_option maxRecDepth 100000
set_option maxHeartbeats 0
namespace K74
open PySem PySem.Spec PyProof.Rows L2 PD
abbrev RR : PySem.W.OpenRow := PySem.W.OpenLaw.row PySem.Challenge.rw_leastburn_k74_whole_corners
abbrev hk : PySem.W.Hook := hookE 4 faD fnD gcdE
def ob (s : PySem.W.SharedT) : AlE := obsE 4 faD fnD gcdE (HandSHeadRun.getT s)
theorem ob_eq (s : PySem.W.SharedT) : ob s = hk.obs s.abs := obsE_eq (HandSHeadRun.getT_eq s)
theorem run (w : World) : HandSHeadRun.RunEqI RR (PySem.W.view RR.prog (imps ++ [lawAt])) hk ob 12000 loose w := by
  unfold HandSHeadRun.RunEqI
  kernel_rfl
end K74

set_option Elab.async false
set_option linter.all false
set_option maxRecDepth 100000
set_option maxHeartbeats 0
namespace K74
open PySem PySem.Spec PyProof.Rows L2 PD
theorem facts {P : Program} {w : World} {K : PySem.W.Frag} {h : Heap} {mg : Str → Option Value} {f : Addr} (X : K.In h) (G : h.Ns mainGlobals mg) (hfa : mg ("law" : Str) = some (.ref f)) (c1 : gcdE K = true) (c : He.SaysD faD fnD K) :
    ∃ (fd : FuncData) (m : Nat), (∀ (s : Shared) (v : Value), BindsTo s fd ⟨[v], []⟩ [("script", v)]) ∧ ∀ base : Heap, K.In base → base.Ns mainGlobals mg → FnG P w K mg base 12 f fd ["script"] (spOf K (fun _ _ _ _ => False) m (callN tab TT.gl 12 i_law)) := by
  obtain ⟨fd, F⟩ := c.def_ i_law (d := dd "law" lawAt) rfl
  have e := hfa.symm.trans (He.glo_ok X G (c.fact i_law (f := .glo "law") rfl))
  cases e
  have b := FunD.bindsA (ps := ["script"]) F fun _ _ _ _ _ _ us hl => match us, hl with | [_], _ => rfl
  refine ⟨fd, n_law.length, fun s v => b s [v] rfl, fun base _ _ => ?_⟩
  exact fn_step (fn := ⟨n_law.length, 1, false, b_law⟩) (N := n_law) (w := w) (P := P) (base := base) (tab_facts (defs X G c) (consts X G c) (blts X G c) (fun _ => gcdE_ok X G c1) 11) rfl F c_law.1 rfl rfl c_law.2
end K74
open PySem PySem.W PySem.Calls PyProof.Rows
theorem PySem.Challenge.cw_leastburn_k74_whole_corners_holds : PySem.Challenge.rw_leastburn_k74_whole_corners.Holds := by
  w_on; o_law
  refine HandSHeadRun.head_imp (r := OpenLaw.row PySem.Challenge.rw_leastburn_k74_whole_corners) (q := view (OpenLaw.row PySem.Challenge.rw_leastburn_k74_whole_corners).prog (K74.imps ++ [K74.lawAt])) (H := K74.hk) (ob := K74.ob) (M := 12000) (loose := K74.loose)
    (d := HandSHeadRun.topDef (OpenLaw.row PySem.Challenge.rw_leastburn_k74_whole_corners).prog K74.lawAt) (kwd := []) K74.ob_eq K74.run (by kernel_rfl) (by kernel_rfl) (by kernel_rfl) (by rfl) (by first | assumption | decide +kernel) (by decide +kernel) ⟨rfl, rfl, rfl, rfl, rfl, by decide +kernel⟩ ?hw ?hc
  case hw => w_witness2
  case hc =>
    refine PD.walk_ofG (l := PySem.Challenge.rw_leastburn_k74_whole_corners) (n := 63) (k := 12) (i := K74.i_law) (x := "script") (T := K74.TT) (tab := K74.tab) (XR := fun _ _ _ _ => False) rfl (by decide) (by kernel_rfl) ⟨rfl, by decide, by decide⟩ ?F K74.plain
    intro w mg fa h Y G hmg0
    obtain ⟨K, KX, c1, c⟩ := Y
    have hmg : mg ("law" : PySem.Str) = some (.ref fa) := by
      have e : (HandSHeadRun.topDef (OpenLaw.row PySem.Challenge.rw_leastburn_k74_whole_corners).prog K74.lawAt).name = ("law" : PySem.Str) := by kernel_rfl
      rw [← e]
      exact hmg0
    obtain ⟨fd, m, hb, hF⟩ := K74.facts (P := (PySem.Challenge.rw_leastburn_k74_whole_corners).prog) (w := w) KX G hmg c1 c
    exact ⟨K, fd, m, KX, hb, hF⟩

