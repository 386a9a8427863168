import PyProof.Rows.All
import Wide.All
import OpenK.AllK
import Wide.FinOn
import KE.KDictKeyed
import KE.KDictCopyH
import KE.KDictWalk
import HandS.ForMost
import HandS.ForExc
import HandS.ExcInit
import HandS.TryMany
import HandS.ExcIs
import HandS.ExcField
import HandS.CallSlots
import HandS.CallLocal
import HandS.IsInst
import HandS.Small
import HandS.TupAny
import HandS.More
import HandS.Flow
import HandS.TupLe
import HandS.TupLen
import HandS.NestedK
import HandS.WordsExc
import KE.KExcIs
import HandS.Defaults
import HandS.Ends
import HandS.HeadHook4
import HandS.Head0
import HandS.Head1
import HandS.Head2
import HandS.HeadEnd
import PySem.Challenge.RW_copybooks_k00_errors
set_option Elab.async false
set_option linter.all false
set_option maxRecDepth 100000
set_option maxHeartbeats 4000000
/-! MP1: a small Python: values as trees, a heap as a list, core syntax, its meaning (den). -/
namespace MP
open PySem

/-- values; lists, dicts, instances are heap objects by number; fls: a list that nobody writes (the script) -/
inductive W where
  | non | bl (b : Bool) | int (i : Int) | str (x : Str) | tup (ws : List W) | fls (ws : List W)
  | ref (n : Nat) | fn (i : Nat) | cls (i : Nat) | ty (n : String)
  deriving Inhabited
inductive O where
  | lst (ws : List W) | dct (kvs : List (NestedKey × W)) | ins (c : Nat) (fs : List (Str × W)) | clo (j : Nat) (ws : List W) | dead
  deriving Inhabited
abbrev HW := List O
/-- an exception: its class, its fields -/
structure XV where
  c : Nat
  fs : List (Str × W)
inductive Out (α : Type) where
  | ok (a : α) (h : HW) | exc (x : XV) (h : HW) | bad
def Out.bind {α β : Type} (m : Out α) (f : α → HW → Out β) : Out β :=
  match m with
  | .ok a h => f a h
  | .exc x h => .exc x h
  | .bad => .bad
abbrev SW := List (Option W)

/-! ### operations by values -/
def line : Nat := 16777216
def new (o : O) (h : HW) : Out W := .ok (.ref h.length) (h ++ [o])
def okIf {α : Type} (c : Bool) (m : Out α) : Out α := if c then m else .bad

def mapO {α β : Type} (f : α → Option β) : List α → Option (List β)
  | [] => some []
  | a :: as => match f a with
    | some b => (mapO f as).map (b :: ·)
    | none => none
/-- a value as data (for ==): n levels deep -/
def toD (h : HW) : Nat → W → Option PyData
  | _, .non => some .none
  | _, .bl b => some (.bool b)
  | _, .int i => some (.int i)
  | _, .str x => some (.str x)
  | n + 1, .tup ws => (mapO (toD h n) ws).map .tuple
  | n + 1, .fls ws => (mapO (toD h n) ws).map .list
  | n + 1, .ref k => match h[k]? with
    | some (.lst ws) => (mapO (toD h n) ws).map .list
    | _ => none
  | _, _ => none
def eqB (x y : W) (h : HW) : Option Bool :=
  match x, y with
  | .str a, .str b => some (decide (a = b))
  | .int a, .int b => some (decide (a = b))
  | .bl a, .bl b => some (decide (a = b))
  | .non, .non => some true
  | x, y => match toD h 40 x, toD h 40 y with
    | some d, some e => if SeqAt.shaped d && SeqAt.shaped e then some (PyData.eqv d e) else none
    | _, _ => none
def addW (x y : W) (h : HW) : Out W :=
  match x, y with
  | .int i, .int j => .ok (.int (i + j)) h
  | .str a, .str b => okIf (decide (a.length + b.length ≤ line)) (.ok (.str (a ++ b)) h)
  | .tup a, .tup b => okIf (decide (a.length + b.length ≤ line)) (.ok (.tup (a ++ b)) h)
  | .ref m, .ref n => match h[m]?, h[n]? with
    | some (.lst a), some (.lst b) => okIf (decide (a.length + b.length ≤ line)) (new (.lst (a ++ b)) h)
    | _, _ => .bad
  | _, _ => .bad
def mulOk (i j : Int) : Bool := decide ((-(2 ^ 64) < i ∧ i < 2 ^ 64) ∨ (-(2 ^ 64) < j ∧ j < 2 ^ 64))
def binW (o : Operator) (x y : W) (h : HW) : Out W :=
  match o with
  | .Add => addW x y h
  | .Sub => match x, y with | .int i, .int j => .ok (.int (i - j)) h | _, _ => .bad
  | .Mult => match x, y with | .int i, .int j => okIf (mulOk i j) (.ok (.int (i * j)) h) | _, _ => .bad
  | .FloorDiv => match x, y with | .int i, .int j => okIf (decide (0 < j ∧ j < 1073741824)) (.ok (.int (i / j)) h) | _, _ => .bad
  | .Mod => match x, y with | .int i, .int j => okIf (decide (0 < j)) (.ok (.int (i % j)) h) | _, _ => .bad
  | .Pow => match x, y with | .int i, .int j => okIf (decide (0 ≤ j ∧ j ≤ 1000000 ∧ i.natAbs < 2 ^ 64)) (.ok (.int (i ^ j.toNat)) h) | _, _ => .bad
  | _ => .bad
def isFlat : W → Bool
  | .non | .bl _ | .int _ | .str _ => true
  | _ => false
/-- == of flat values -/
def flatEq : W → W → Bool
  | .non, .non => true
  | .bl a, .bl b => decide (a = b)
  | .int a, .int b => decide (a = b)
  | .str a, .str b => decide (a = b)
  | .bl a, .int b => decide ((if a then (1 : Int) else 0) = b)
  | .int a, .bl b => decide (a = (if b then (1 : Int) else 0))
  | _, _ => false
/-- a key of a dict: none, a number, a text, a tuple of such -/
def toK : Nat → W → Option NestedKey
  | _, .non => some .none
  | _, .int i => some (.num i)
  | _, .str x => some (.text x)
  | n + 1, .tup ws => (mapO (toK n) ws).map .tup
  | _, _ => none
def isLeaf : NestedKey → Bool
  | .tup _ => false
  | _ => true
def aget {κ α : Type} [DecidableEq κ] (k : κ) (l : List (κ × α)) : Option α := (l.find? fun kv => decide (kv.1 = k)).map (·.2)
def aput {κ α : Type} [DecidableEq κ] (k : κ) (w : α) (l : List (κ × α)) : List (κ × α) :=
  if l.any (fun kv => decide (kv.1 = k)) then l.map (fun kv => if kv.1 = k then (kv.1, w) else kv) else l ++ [(k, w)]
/-- the dict's keys and this key are of one sort -/
def oneSort {α : Type} (k : NestedKey) (kvs : List (NestedKey × α)) : Bool := kvs.all fun p => isLeaf p.1 == isLeaf k
def inW (x y : W) (h : HW) : Option Bool :=
  match y with
  | .str z => match x with
    | .str a => match a.cps.toList with
      | [c] => some (decide (c ∈ z.cps.toList))
      | _ => none
    | _ => none
  | .tup ws => if isFlat x && ws.all isFlat then some (ws.any (fun w => flatEq w x)) else none
  | .ref n => match h[n]? with
    | some (.lst ws) => if isFlat x && ws.all isFlat then some (ws.any (fun w => flatEq w x)) else none
    | some (.dct kvs) => match toK 8 x with
      | some k => if oneSort k kvs then some (aget k kvs).isSome else none
      | none => none
    | _ => none
  | _ => none
def obl (o : Option Bool) (neg : Bool) (h : HW) : Out W :=
  match o with
  | some b => .ok (.bl (if neg then !b else b)) h
  | none => .bad
def isNon : W → Bool
  | .non => true
  | _ => false
def cmpW (o : CmpOp) (x y : W) (h : HW) : Out W :=
  match o with
  | .Eq => obl (eqB x y h) false h
  | .NotEq => obl (eqB x y h) true h
  | .Lt => match x, y with | .int i, .int j => .ok (.bl (decide (i < j))) h | _, _ => .bad
  | .LtE => match x, y with | .int i, .int j => .ok (.bl (decide (i ≤ j))) h | _, _ => .bad
  | .Gt => match x, y with | .int i, .int j => .ok (.bl (decide (j < i))) h | _, _ => .bad
  | .GtE => match x, y with | .int i, .int j => .ok (.bl (decide (j ≤ i))) h | _, _ => .bad
  | .Is => match y with | .non => .ok (.bl (isNon x)) h | _ => .bad
  | .IsNot => match y with | .non => .ok (.bl (!isNon x)) h | _ => .bad
  | .In => obl (inW x y h) false h
  | .NotIn => obl (inW x y h) true h
def truW (x : W) (h : HW) : Out Bool :=
  match x with
  | .bl b => .ok b h
  | .non => .ok false h
  | .int i => .ok (i != 0) h
  | .tup ws => .ok (!ws.isEmpty) h
  | .ref n => match h[n]? with
    | some (.lst ws) => .ok (!ws.isEmpty) h
    | _ => .bad
  | _ => .bad
def subW (x y : W) (h : HW) : Out W :=
  match x with
  | .tup ws => match y with
    | .int i => match L2.atI ws i with | some w => .ok w h | none => .bad
    | _ => .bad
  | .fls ws => match y with
    | .int i => match L2.atI ws i with | some w => .ok w h | none => .bad
    | _ => .bad
  | .str z => match y with
    | .int i => okIf (decide (z.length ≤ line)) (match L2.atI z.cps.toList i with | some c => .ok (.str ⟨#[c]⟩) h | none => .bad)
    | _ => .bad
  | .ref n => match h[n]? with
    | some (.lst ws) => match y with
      | .int i => match L2.atI ws i with | some w => .ok w h | none => .bad
      | _ => .bad
    | some (.dct kvs) => match toK 8 y with
      | some k => if oneSort k kvs then (match aget k kvs with | some w => .ok w h | none => .bad) else .bad
      | none => .bad
    | _ => .bad
  | _ => .bad
def cutL {α : Type} (xs : List α) (lo hi : Option Int) : List α := (xs.drop (HT.sIx xs.length 0 lo)).take (HT.sIx xs.length xs.length hi - HT.sIx xs.length 0 lo)
def partW (w : W) (h : HW) : Out (Option Int) :=
  match w with
  | .int i => .ok (some i) h
  | _ => .bad
def slcW (x : W) (lo hi : Option Int) (h : HW) : Out W :=
  match x with
  | .tup ws => .ok (.tup (cutL ws lo hi)) h
  | .fls ws => new (.lst (cutL ws lo hi)) h
  | .str z => okIf (decide (z.length ≤ line)) (.ok (.str (L2.cutS z lo hi)) h)
  | .ref n => match h[n]? with
    | some (.lst ws) => new (.lst (cutL ws lo hi)) h
    | _ => .bad
  | _ => .bad
/-- the items of what is walked -/
def itemsW (x : W) (h : HW) : Option (List W) :=
  match x with
  | .tup ws => some ws
  | .fls ws => some ws
  | .ref n => match h[n]? with
    | some (.lst ws) => some ws
    | _ => none
  | _ => none
def lenW (x : W) (h : HW) : Option Nat :=
  match x with
  | .tup ws => some ws.length
  | .fls ws => some ws.length
  | .str z => if z.length ≤ line then some z.length else none
  | .ref n => match h[n]? with
    | some (.lst ws) => some ws.length
    | some (.dct kvs) => some kvs.length
    | _ => none
  | _ => none
/-- the class of a value: a built-in one or an own one -/
inductive Ty where
  | t (n : String) | c (i : Nat)
  deriving DecidableEq
def tyW (x : W) (h : HW) : Option Ty :=
  match x with
  | .non => some (.t "NoneType")
  | .bl _ => some (.t "bool")
  | .int _ => some (.t "int")
  | .str _ => some (.t "str")
  | .tup _ => some (.t "tuple")
  | .fls _ => some (.t "list")
  | .ref n => match h[n]? with
    | some (.lst _) => some (.t "list")
    | some (.dct _) => some (.t "dict")
    | some (.ins c _) => some (.c c)
    | _ => none
  | _ => none
inductive Blt where
  | len | int | list | tuple
  deriving DecidableEq, Inhabited
def tnames : List String := ["NoneType", "bool", "int", "str", "tuple", "list", "dict"]
def bnames : List String := ["bool", "int", "str", "tuple", "list", "dict"]
def bltW (b : Blt) (xs : List W) (h : HW) : Out W :=
  match b with
  | .len => match xs with
    | [x] => match lenW x h with | some n => .ok (.int n) h | none => .bad
    | _ => .bad
  | .int => match xs with
    | [.int i] => .ok (.int i) h
    | [.bl b] => .ok (.int (if b then 1 else 0)) h
    | _ => .bad
  | .list => match xs with
    | [x] => match itemsW x h with | some ws => new (.lst ws) h | none => .bad
    | _ => .bad
  | .tuple => match xs with
    | [x] => match itemsW x h with | some ws => .ok (.tup ws) h | none => .bad
    | _ => .bad

/-! ### core syntax -/
/-- a target of names: one, or several of a tuple -/
inductive Tg where
  | nm (i : Nat) | tp (is : List Nat)
  deriving Inhabited
inductive Met where
  | append | insert | pop0 | pop1 | extend | find | get1 | get2 | index | join | split1 | startswith | reverse
  deriving DecidableEq, Inhabited
mutual
inductive E where
  | var (i : Nat) | con (w : W)
  | bin (o : Operator) (a b : E) | neg (a : E) | not (a : E)
  | cmp (o : CmpOp) (a b : E) | chain (o p : CmpOp) (a b c : E)
  | and (a b : E) | or (a b : E) | ite (c a b : E)
  | tup (es : Es) | lst (es : Es) | dct (es : Es)
  | att (a : E) (f : Str) | xatt (f : Str) | xisi (c : E) | isi (a c : E)
  | sub (a i : E) | slc (a : E) (lo hi : Oe)
  | call (f : Nat) (es : Es) | callv (i : Nat) (es : Es) | make (c : Nat) (es : Es)
  | blt (b : Blt) (es : Es) | met (m : Met) (a : E) (es : Es) | omet (m : Str) (a : E) (es : Es)
  | lc (own : List Nat) (t : Tg) (it : It) (c : E) (e : E)
  | lam (j : Nat) (caps : List Nat)
inductive Es where
  | nil | cons (e : E) (es : Es)
inductive Oe where
  | no | so (e : E)
inductive It where
  | seq (e : E) | rng (lo hi : E) | enum (e : E) | zip (a b : E)
end
instance : Inhabited E := ⟨.con .non⟩
instance : Inhabited Es := ⟨.nil⟩
instance : Inhabited Oe := ⟨.no⟩
instance : Inhabited It := ⟨.seq (.con .non)⟩
mutual
inductive S where
  | asg (t : Tg) (e : E) | sub (a i e : E) | att (a : E) (f : Str) (e : E)
  | aug (i : Nat) (o : Operator) (e : E)
  | ex (e : E) | ret (e : E) | iff (c : E) (a b : Ss) | forr (t : Tg) (it : It) (b : Ss) | whl (c : E) (b : Ss)
  | rse (c : Nat) (es : Es) | tr (b : Ss) (hs : Hs) (els : Ss) | pas | brk | cnt
inductive Ss where
  | nil | cons (s : S) (ss : Ss)
inductive Hs where
  | nil | cons (c : Nat) (x : Option Nat) (b : Ss) (hs : Hs)
end
instance : Inhabited S := ⟨.pas⟩
instance : Inhabited Ss := ⟨.nil⟩
instance : Inhabited Hs := ⟨.nil⟩

/-! ### meaning -/
/-- how a statement ends; xc: an exception, with the slots of that time -/
inductive Fl where
  | nx (σ : SW) | rt (w : W) | bk (σ : SW) | ct (σ : SW) | xc (σ : SW) (x : XV)
def Out.st {α : Type} (m : Out α) (σ : SW) (f : α → HW → Out Fl) : Out Fl :=
  match m with
  | .ok a h => f a h
  | .exc x h => .ok (.xc σ x) h
  | .bad => .bad
inductive Src where
  | vals (ws : List W) | rng (lo : Int) (n : Nat) | obj (k : Nat) | enum (s : Src) | zip (a b : Src)
  deriving Inhabited
/-- the i-th item: none: it cannot be told; some none: no more -/
def Src.at : Src → Nat → HW → Option (Option W)
  | .vals ws, i, _ => some ws[i]?
  | .rng lo n, i, _ => some (if i < n then some (.int (lo + i)) else none)
  | .obj k, i, h => match h[k]? with
    | some (.lst ws) => some ws[i]?
    | _ => none
  | .enum s, i, h => match s.at i h with
    | some (some w) => some (some (.tup [.int i, w]))
    | some none => some none
    | none => none
  | .zip a b, i, h => match a.at i h, b.at i h with
    | some (some x), some (some y) => some (some (.tup [x, y]))
    | some none, some _ => some none
    | some _, some none => some none
    | _, _ => none
def Src.count : Src → HW → Nat
  | .vals ws, _ => ws.length
  | .rng _ n, _ => n
  | .obj k, h => match h[k]? with
    | some (.lst ws) => ws.length
    | _ => 0
  | .enum s, h => s.count h
  | .zip a _, h => a.count h
def srcOf (x : W) (h : HW) : Out Src :=
  match x with
  | .tup ws => .ok (.vals ws) h
  | .fls ws => .ok (.vals ws) h
  | .ref n => match h[n]? with
    | some (.lst _) => .ok (.obj n) h
    | _ => .bad
  | _ => .bad
/-- what enumerate and zip walk: a list -/
def srcOfL (x : W) (h : HW) : Out Src :=
  match x with
  | .fls ws => .ok (.vals ws) h
  | .ref n => match h[n]? with
    | some (.lst _) => .ok (.obj n) h
    | _ => .bad
  | _ => .bad
def setMany : List Nat → List W → SW → Option SW
  | [], [], σ => some σ
  | i :: is, w :: ws, σ => setMany is ws (σ.set i (some w))
  | _, _, _ => none
def tgW (t : Tg) (w : W) (σ : SW) : Option SW :=
  match t with
  | .nm i => some (σ.set i (some w))
  | .tp is => match w with
    | .tup ws => setMany is ws σ
    | _ => none
def wipeW (σ : SW) : List Nat → SW
  | [] => σ
  | v :: vs => (wipeW σ vs).set v none
/-- a list comprehension's turns: D the new list -/
def lcLoop (elt : SW → HW → Out W) (tst : SW → HW → Out Bool) (t : Tg) (s : Src) (σ : SW) (D : Nat) : Nat → Nat → HW → Out W
  | 0, _, _ => .bad
  | n + 1, i, h => match s.at i h with
    | none => .bad
    | some none => .ok (.ref D) h
    | some (some w) => match tgW t w σ with
      | none => .bad
      | some σ2 => match tst σ2 h with
        | .ok b h2 => if b then (match elt σ2 h2 with
            | .ok y h3 => match h3[D]? with
              | some (.lst acc) => if acc.length < line then lcLoop elt tst t s σ D n (i + 1) (h3.set D (.lst (acc ++ [y]))) else .bad
              | _ => .bad
            | _ => .bad) else lcLoop elt tst t s σ D n (i + 1) h2
        | _ => .bad
def forLoop (body : SW → HW → Out Fl) (t : Tg) (s : Src) : Nat → Nat → SW → HW → Out Fl
  | 0, _, _, _ => .bad
  | n + 1, i, σ, h => match s.at i h with
    | none => .bad
    | some none => .ok (.nx σ) h
    | some (some w) => match tgW t w σ with
      | none => .bad
      | some σ2 => match body σ2 h with
        | .ok (.nx σ3) h3 => forLoop body t s n (i + 1) σ3 h3
        | .ok (.ct σ3) h3 => forLoop body t s n (i + 1) σ3 h3
        | .ok (.bk σ3) h3 => .ok (.nx σ3) h3
        | .ok (.rt w) h3 => .ok (.rt w) h3
        | .ok (.xc σ3 x) h3 => .ok (.xc σ3 x) h3
        | _ => .bad
def whileLoop (test : SW → HW → Out Bool) (body : SW → HW → Out Fl) : Nat → SW → HW → Out Fl
  | 0, _, _ => .bad
  | n + 1, σ, h => match test σ h with
    | .ok true h2 => match body σ h2 with
      | .ok (.nx σ3) h3 => whileLoop test body n σ3 h3
      | .ok (.ct σ3) h3 => whileLoop test body n σ3 h3
      | .ok (.bk σ3) h3 => .ok (.nx σ3) h3
      | .ok (.rt w) h3 => .ok (.rt w) h3
      | .ok (.xc σ3 x) h3 => .ok (.xc σ3 x) h3
      | _ => .bad
    | .ok false h2 => .ok (.nx σ) h2
    | .exc x h3 => .ok (.xc σ x) h3
    | .bad => .bad
def wfuel : Nat := 1000000

/-- a class: its __init__ by number (own classes that are no exceptions), the fields of an exception, its methods -/
structure CDef where
  init : Option Nat
  exf : Option (List Str)
  sup : List Nat
  flds : List Str
  meths : List (Str × Nat)
  deriving Inhabited
/-- call: the defs, as deep as there is room; mkc: one less (an instance's making takes room); lv: the room -/
structure Env where
  call : Nat → List W → HW → Out W
  mkc : Nat → List W → HW → Out W
  cd : Nat → Option CDef
  xv : Option XV
  lv : Nat
/-- an own class that is no exception -/
def ownC (cd : Nat → Option CDef) (i : Nat) : Bool := match cd i with | some d => d.exf.isNone | none => false
/-- isinstance -/
def isiTy (cd : Nat → Option CDef) (t : Ty) (c : W) : Option Bool :=
  match c with
  | .ty n => if bnames.contains n then (match t with
    | .t m => some (m == n || (m == "bool" && n == "int"))
    | .c j => if ownC cd j then some false else none) else none
  | .cls i => if (cd i).isSome then (match t with
    | .t _ => some false
    | .c j => if ownC cd j then some (i == j) else none) else none
  | _ => none
def isiW (cd : Nat → Option CDef) (x c : W) (h : HW) : Out W :=
  match tyW x h with
  | some t => match isiTy cd t c with | some b => .ok (.bl b) h | none => .bad
  | none => .bad
def isSub (cd : Nat → Option CDef) (i c : Nat) : Bool := match cd i with | some d => d.sup.contains c | none => false
def isExc (cd : Nat → Option CDef) (i : Nat) : Bool := match cd i with | some d => d.exf.isSome | none => false
/-- a field of an exception's class -/
def hasX (cd : Nat → Option CDef) (c : Nat) (f : Str) : Bool := match cd c with | some d => (match d.exf with | some ns => ns.contains f | none => false) | none => false
/-- isinstance of the exception at hand -/
def xisiW (e : Env) (k : W) (h : HW) : Out Bool :=
  match e.xv, k with
  | some x, .cls i => okIf ((e.cd i).isSome && isExc e.cd x.c) (.ok (isSub e.cd x.c i) h)
  | some x, .ty n => okIf (n == "ValueError" && isExc e.cd x.c) (.ok true h)
  | _, _ => .bad
def hasF (cd : Nat → Option CDef) (c : Nat) (f : Str) : Bool := match cd c with | some d => d.exf.isNone && d.flds.contains f | none => false
def attW (cd : Nat → Option CDef) (x : W) (f : Str) (h : HW) : Out W :=
  match x with
  | .ref n => match h[n]? with
    | some (.ins c fs) => if hasF cd c f then (match fs.lookup f with | some w => .ok w h | none => .bad) else .bad
    | _ => .bad
  | _ => .bad
def putF (f : Str) (w : W) : List (Str × W) → List (Str × W)
  | [] => [(f, w)]
  | (g, v) :: r => if g = f then (g, w) :: r else (g, v) :: putF f w r
def setAtt (cd : Nat → Option CDef) (x : W) (f : Str) (w : W) (h : HW) : Out Unit :=
  match x with
  | .ref n => match h[n]? with
    | some (.ins c fs) => if hasF cd c f && decide (fs.length < 1000) then .ok () (h.set n (.ins c (putF f w fs))) else .bad
    | _ => .bad
  | _ => .bad
def setSub (x i w : W) (h : HW) : Out Unit :=
  match x with
  | .ref n => match h[n]? with
    | some (.lst ws) => match i with
      | .int k => match L2.ixN ws.length k with | some j => .ok () (h.set n (.lst (ws.set j w))) | none => .bad
      | _ => .bad
    | some (.dct kvs) => match toK 8 i with
      | some k => if oneSort k kvs && decide (kvs.length < line) then .ok () (h.set n (.dct (aput k w kvs))) else .bad
      | none => .bad
    | _ => .bad
  | _ => .bad
def strsOf : List W → Option (List Str)
  | [] => some []
  | .str x :: r => (strsOf r).map (x :: ·)
  | _ :: _ => none
def metW (m : Met) (x : W) (xs : List W) (h : HW) : Out W :=
  match m with
  | .append => match x, xs with
    | .ref n, [w] => match h[n]? with
      | some (.lst ws) => okIf (decide (ws.length < line)) (.ok .non (h.set n (.lst (ws ++ [w]))))
      | _ => .bad
    | _, _ => .bad
  | .insert => match x, xs with
    | .ref n, [.int i, w] => match h[n]? with
      | some (.lst ws) => okIf (decide (ws.length < line ∧ 0 ≤ i ∧ i < 2 ^ 63)) (.ok .non (h.set n (.lst (ws.take i.toNat ++ [w] ++ ws.drop i.toNat))))
      | _ => .bad
    | _, _ => .bad
  | .extend => match x, xs with
    | .ref n, [.ref m] => match h[n]?, h[m]? with
      | some (.lst ws), some (.lst us) => okIf (decide (ws.length + us.length ≤ line)) (.ok .non (h.set n (.lst (ws ++ us))))
      | _, _ => .bad
    | _, _ => .bad
  | .pop0 => match x, xs with
    | .ref n, [] => match h[n]? with
      | some (.lst ws) => match ws[ws.length - 1]? with
        | some w => .ok w (h.set n (.lst ws.dropLast))
        | none => .bad
      | _ => .bad
    | _, _ => .bad
  | .pop1 => match x, xs with
    | .ref n, [.int i] => match h[n]? with
      | some (.lst ws) => match L2.ixN ws.length i with
        | some k => match ws[k]? with
          | some w => .ok w (h.set n (.lst (ws.eraseIdx k)))
          | none => .bad
        | none => .bad
      | _ => .bad
    | _, _ => .bad
  | .reverse => match x, xs with
    | .ref n, [] => match h[n]? with
      | some (.lst ws) => .ok .non (h.set n (.lst ws.reverse))
      | _ => .bad
    | _, _ => .bad
  | .find => match x, xs with
    | .str a, [.str b] => .ok (.int (Txt.find a b)) h
    | _, _ => .bad
  | .startswith => match x, xs with
    | .str a, [.str b] => .ok (.bl (Txt.startswith a b)) h
    | _, _ => .bad
  | .join => match x, xs with
    | .str a, [y] => match (itemsW y h).bind strsOf with
      | some ys => okIf (decide ((ys.map (·.length)).sum + ys.length * a.length ≤ 16777216)) (.ok (.str (Txt.join a ys)) h)
      | none => .bad
    | _, _ => .bad
  | .split1 => match x, xs with
    | .str a, [.str b] => okIf ((b.length != 0) && decide (a.length + 2 ≤ line)) (new (.lst ((Txt.split a b).map W.str)) h)
    | _, _ => .bad
  | _ => .bad
/-- whose method it is -/
def metTy : Met → String
  | .find | .startswith | .join | .split1 => "str"
  | _ => "list"
def recvOk (m : Met) (x : W) (h : HW) : Bool :=
  if metTy m = "str" then (match x with | .str _ => true | _ => false)
  else (match x with
    | .ref n => (match h[n]? with | some (.lst _) => true | _ => false)
    | _ => false)
/-- a class that can be made -/
def madeC (cd : Nat → Option CDef) (c : Nat) : Bool := match cd c with | some d => d.exf.isNone && d.init.isSome | none => false
def makeW (e : Env) (c : Nat) (xs : List W) (h : HW) : Out W :=
  match e.cd c with
  | some d => match d.init with
    | some f => if d.exf.isNone then (e.mkc f (.ref h.length :: xs) (h ++ [.ins c []])).bind fun r h2 => (match r with | .non => .ok (.ref h.length) h2 | _ => .bad) else .bad
    | none => .bad
  | none => .bad
/-- the def behind o.m -/
def calleeO (e : Env) (m : Str) (x : W) (h : HW) : Option Nat :=
  match x with
  | .ref n => match h[n]? with
    | some (.ins c fs) => if (fs.lookup m).isNone then (e.cd c).bind fun d => if d.exf.isNone then d.meths.lookup m else none else none
    | _ => none
  | _ => none
/-- what is called: a def of the module -/
def calleeW (v : Option W) : Option Nat :=
  match v with
  | some (.fn f) => some f
  | _ => none
def boolW : W → Option Bool
  | .bl b => some b
  | _ => none
def slotW (σ : SW) (i : Nat) : Option W := match σ[i]? with | some (some w) => some w | _ => none
/-- the pairs of a display, from the left -/
def dictOf : List (NestedKey × W) → List W → Option (List (NestedKey × W))
  | acc, [] => some acc
  | acc, k :: w :: r => match toK 8 k with
    | some k' => if isLeaf k' then dictOf (aput k' w acc) r else none
    | none => none
  | _, _ => none
mutual
def denE (e : Env) : E → SW → HW → Out W
  | .var i, σ, h => match slotW σ i with | some w => .ok w h | none => .bad
  | .con w, _, h => .ok w h
  | .bin o a b, σ, h => (denE e a σ h).bind fun x h1 => (denE e b σ h1).bind fun y h2 => binW o x y h2
  | .neg a, σ, h => (denE e a σ h).bind fun x h1 => match x with | .int i => .ok (.int (-i)) h1 | _ => .bad
  | .not a, σ, h => (denE e a σ h).bind fun x h1 => (truW x h1).bind fun b h2 => .ok (.bl (!b)) h2
  | .cmp o a b, σ, h => (denE e a σ h).bind fun x h1 => (denE e b σ h1).bind fun y h2 => cmpW o x y h2
  | .chain o p a b c, σ, h => (denE e a σ h).bind fun x h1 => (denE e b σ h1).bind fun y h2 => (cmpW o x y h2).bind fun r h3 =>
      match r with
      | .bl true => (denE e c σ h3).bind fun z h4 => cmpW p y z h4
      | .bl false => .ok (.bl false) h3
      | _ => .bad
  | .and a b, σ, h => (denE e a σ h).bind fun x h1 => match x with
      | .bl true => denE e b σ h1
      | .bl false => .ok (.bl false) h1
      | _ => .bad
  | .or a b, σ, h => (denE e a σ h).bind fun x h1 => match x with
      | .bl true => .ok (.bl true) h1
      | .bl false => denE e b σ h1
      | _ => .bad
  | .ite c a b, σ, h => (denT e c σ h).bind fun t h1 => if t then denE e a σ h1 else denE e b σ h1
  | .tup es, σ, h => (denEs e es σ h).bind fun ws h1 => okIf (decide (ws.length ≤ line)) (.ok (.tup ws) h1)
  | .lst es, σ, h => (denEs e es σ h).bind fun ws h1 => okIf (decide (ws.length ≤ line)) (new (.lst ws) h1)
  | .dct es, σ, h => (denEs e es σ (h ++ [.dct []])).bind fun ws h1 => match h1[h.length]?, dictOf [] ws with
      | some (.dct []), some kvs => okIf (decide (ws.length ≤ 30)) (.ok (.ref h.length) (h1.set h.length (.dct kvs)))
      | _, _ => .bad
  | .att a f, σ, h => (denE e a σ h).bind fun x h1 => attW e.cd x f h1
  | .xatt f, _, h => match e.xv with | some x => okIf (hasX e.cd x.c f) (match x.fs.lookup f with | some w => .ok w h | none => .bad) | none => .bad
  | .xisi c, σ, h => ((denE e c σ h).bind (xisiW e)).bind fun b h1 => .ok (.bl b) h1
  | .isi a c, σ, h => (denE e a σ h).bind fun x h1 => (denE e c σ h1).bind fun y h2 => isiW e.cd x y h2
  | .sub a i, σ, h => (denE e a σ h).bind fun x h1 => (denE e i σ h1).bind fun y h2 => subW x y h2
  | .slc a lo hi, σ, h => (denE e a σ h).bind fun x h1 => (denO e lo σ h1).bind fun l h2 => (denO e hi σ h2).bind fun u h3 => slcW x l u h3
  | .call f es, σ, h => (denEs e es σ h).bind fun ws h1 => e.call f ws h1
  | .callv i es, σ, h => match calleeW (slotW σ i) with
      | some f => (denEs e es σ h).bind fun ws h1 => e.call f ws h1
      | none => .bad
  | .make c es, σ, h => if madeC e.cd c then (denEs e es σ h).bind fun ws h1 => makeW e c ws h1 else .bad
  | .blt b es, σ, h => (denEs e es σ h).bind fun ws h1 => bltW b ws h1
  | .met m a es, σ, h => (denE e a σ h).bind fun x h1 => if recvOk m x h1 then (denEs e es σ h1).bind fun ws h2 => metW m x ws h2 else .bad
  | .omet m a es, σ, h => (denE e a σ h).bind fun x h1 => match calleeO e m x h1 with
      | some f => (denEs e es σ h1).bind fun ws h2 => e.call f (x :: ws) h2
      | none => .bad
  | .lc own t it c el, σ, h => (denI e it σ h).bind fun s h1 =>
      lcLoop (denE e el) (denT e c) t s (wipeW σ own) h1.length (s.count h1 + 1) 0 (h1 ++ [.lst []])
  | .lam j caps, σ, h => match mapO (slotW σ) caps with
      | some ws => new (.clo j ws) h
      | none => .bad
def denT (e : Env) : E → SW → HW → Out Bool
  | .not a, σ, h => (denT e a σ h).bind fun b h1 => .ok (!b) h1
  | .and a b, σ, h => (denT e a σ h).bind fun t h1 => if t then denT e b σ h1 else .ok false h1
  | .or a b, σ, h => (denT e a σ h).bind fun t h1 => if t then .ok true h1 else denT e b σ h1
  | .cmp o a b, σ, h => (denE e a σ h).bind fun x h1 => (denE e b σ h1).bind fun y h2 => (cmpW o x y h2).bind truW
  | .chain o p a b c, σ, h => (denE e a σ h).bind fun x h1 => (denE e b σ h1).bind fun y h2 => (cmpW o x y h2).bind fun r h3 =>
      match r with
      | .bl true => (denE e c σ h3).bind fun z h4 => (cmpW p y z h4).bind truW
      | .bl false => .ok false h3
      | _ => .bad
  | .ite c a b, σ, h => (denT e c σ h).bind fun t h1 => if t then denT e a σ h1 else denT e b σ h1
  | .var i, σ, h => match slotW σ i with | some w => truW w h | none => .bad
  | .con w, _, h => truW w h
  | .att a f, σ, h => ((denE e a σ h).bind fun x h1 => attW e.cd x f h1).bind truW
  | .xisi c, σ, h => (((denE e c σ h).bind (xisiW e)).bind fun b h1 => .ok (.bl b) h1).bind truW
  | .isi a c, σ, h => ((denE e a σ h).bind fun x h1 => (denE e c σ h1).bind fun y h2 => isiW e.cd x y h2).bind truW
  | .sub a i, σ, h => ((denE e a σ h).bind fun x h1 => (denE e i σ h1).bind fun y h2 => subW x y h2).bind truW
  | .call f es, σ, h => ((denEs e es σ h).bind fun ws h1 => e.call f ws h1).bind truW
  | .callv i es, σ, h => (match calleeW (slotW σ i) with
      | some f => (denEs e es σ h).bind fun ws h1 => e.call f ws h1
      | none => .bad).bind truW
  | .blt b es, σ, h => ((denEs e es σ h).bind fun ws h1 => bltW b ws h1).bind truW
  | .omet m a es, σ, h => ((denE e a σ h).bind fun x h1 => match calleeO e m x h1 with
      | some f => (denEs e es σ h1).bind fun ws h2 => e.call f (x :: ws) h2
      | none => .bad).bind truW
  | _, _, _ => .bad
def denEs (e : Env) : Es → SW → HW → Out (List W)
  | .nil, _, h => .ok [] h
  | .cons a es, σ, h => (denE e a σ h).bind fun x h1 => (denEs e es σ h1).bind fun ws h2 => .ok (x :: ws) h2
def denO (e : Env) : Oe → SW → HW → Out (Option Int)
  | .no, _, h => .ok none h
  | .so a, σ, h => (denE e a σ h).bind partW
def denI (e : Env) : It → SW → HW → Out Src
  | .seq a, σ, h => (denE e a σ h).bind srcOf
  | .rng lo hi, σ, h => (denE e lo σ h).bind fun x h1 => (denE e hi σ h1).bind fun y h2 => match x, y with
      | .int i, .int j => okIf (decide (-(2 ^ 62) ≤ i ∧ i < 2 ^ 62 ∧ -(2 ^ 62) ≤ j ∧ j < 2 ^ 62)) (.ok (.rng i (j - i).toNat) h2)
      | _, _ => .bad
  | .enum a, σ, h => ((denE e a σ h).bind srcOfL).bind fun s h1 => .ok (.enum s) h1
  | .zip a b, σ, h => (denE e a σ h).bind fun x h1 => (denE e b σ h1).bind fun y h2 => (srcOfL x h2).bind fun s h3 => (srcOfL y h3).bind fun t h4 => .ok (.zip s t) h4
end
/-- the name of an except clause comes and goes -/
def clr (n : Option Nat) (σ : SW) : SW := match n with
  | some i => σ.set i none
  | none => σ
def augW (o : Operator) (x y : W) : Option W :=
  match o with
  | .Add => match x, y with | .int i, .int j => some (.int (i + j)) | _, _ => none
  | .Sub => match x, y with | .int i, .int j => some (.int (i - j)) | _, _ => none
  | _ => none
def slotIn (n : Option Nat) (σ : SW) : Bool := match n with
  | some i => decide (i < σ.length)
  | none => true
def suiteEnd (n : Option Nat) (r : Out Fl) : Out Fl := match r with
  | .ok (.nx σ) h => .ok (.nx (clr n σ)) h
  | .ok (.bk σ) h => .ok (.bk (clr n σ)) h
  | .ok (.ct σ) h => .ok (.ct (clr n σ)) h
  | .ok (.rt w) h => .ok (.rt w) h
  | _ => .bad
mutual
def denS (e : Env) : S → SW → HW → Out Fl
  | .asg t a, σ, h => (denE e a σ h).st σ fun w h1 => match tgW t w σ with
      | some σ2 => .ok (.nx σ2) h1
      | none => .bad
  | .sub a i v, σ, h => (denE e v σ h).st σ fun w h1 => (denE e a σ h1).st σ fun x h2 => (denE e i σ h2).st σ fun y h3 => (setSub x y w h3).st σ fun _ h4 => .ok (.nx σ) h4
  | .att a f v, σ, h => (denE e v σ h).st σ fun w h1 => (denE e a σ h1).st σ fun x h2 => (setAtt e.cd x f w h2).st σ fun _ h3 => .ok (.nx σ) h3
  | .aug i o a, σ, h => match slotW σ i with
      | some x => (denE e a σ h).st σ fun y h1 => match augW o x y with
        | some z => .ok (.nx (σ.set i (some z))) h1
        | none => .bad
      | none => .bad
  | .ex a, σ, h => (denE e a σ h).st σ fun _ h1 => .ok (.nx σ) h1
  | .ret a, σ, h => (denE e a σ h).st σ fun w h1 => .ok (.rt w) h1
  | .iff c a b, σ, h => (denT e c σ h).st σ fun t h1 => if t then denSs e a σ h1 else denSs e b σ h1
  | .forr t it b, σ, h => (denI e it σ h).st σ fun s h1 => forLoop (denSs e b) t s (s.count h1 + 1) 0 σ h1
  | .whl c b, σ, h => whileLoop (denT e c) (denSs e b) wfuel σ h
  | .rse c es, σ, h => match (e.cd c).bind (·.exf) with
      | some [] => (denEs e es σ h).st σ fun ws h1 => okIf (decide (ws.length ≤ line)) (.ok (.xc σ ⟨c, []⟩) h1)
      | some (n :: ns) => if ns.length < 100 ∧ 2 ≤ e.lv then (denEs e es σ h).st σ fun ws h1 => okIf (decide (ns.length + 1 = ws.length)) (.ok (.xc σ ⟨c, (n :: ns).zip ws⟩) h1) else .bad
      | none => .bad
  | .tr b hs els, σ, h => match denSs e b σ h with
      | .ok (.xc σ1 x) h1 => denHs e hs x σ1 h1
      | .ok (.nx σ1) h1 => denSs e els σ1 h1
      | r => r
  | .pas, σ, h => .ok (.nx σ) h
  | .brk, σ, h => .ok (.bk σ) h
  | .cnt, σ, h => .ok (.ct σ) h
def denSs (e : Env) : Ss → SW → HW → Out Fl
  | .nil, σ, h => .ok (.nx σ) h
  | .cons s ss, σ, h => match denS e s σ h with
      | .ok (.nx σ1) h1 => denSs e ss σ1 h1
      | r => r
def denHs (e : Env) : Hs → XV → SW → HW → Out Fl
  | .nil, x, σ, h => .ok (.xc σ x) h
  | .cons c n b hs, x, σ, h => if isExc e.cd x.c && isExc e.cd c && slotIn n σ then (if isSub e.cd x.c c then suiteEnd n (denSs { e with xv := some x } b (clr n σ) h) else denHs e hs x σ h) else .bad
end
structure FDef where
  np : Nat
  nN : Nat
  body : Ss
  deriving Inhabited
def start (d : FDef) (ws : List W) : SW := ws.map some ++ List.replicate (d.nN - ws.length) none
def runF (tab : List FDef) (e : Env) (f : Nat) (ws : List W) (h : HW) : Out W :=
  match tab[f]? with
  | some d => if ws.length = d.np then (match denSs e d.body (start d ws) h with
      | .ok (.rt w) h1 => .ok w h1
      | .ok (.nx _) h1 => .ok .non h1
      | .ok (.xc _ x) h1 => .exc x h1
      | _ => .bad) else .bad
  | none => .bad
def noCall : Nat → List W → HW → Out W := fun _ _ _ => .bad
/-- calls, k deep -/
def callN (tab : List FDef) (cd : Nat → Option CDef) : Nat → Nat → List W → HW → Out W
  | 0 => noCall
  | 1 => runF tab ⟨callN tab cd 0, noCall, cd, none, 0⟩
  | k + 2 => runF tab ⟨callN tab cd (k + 1), callN tab cd k, cd, none, k + 1⟩
end MP

set_option maxHeartbeats 4000000
/-! MP2: how values and heaps of MP1 stand in the abstract heap of the layer. -/
namespace MP
open PySem L2

/-- the exception that an except suite holds: its name's slot, its place, its class and dict -/
structure XI where
  i : Nat
  a : Addr
  x : XV
  cls : Value
  d : Option Addr
/-- what stays the same through a law: the program, the world, the written part, where defs and classes stand -/
structure Gm where
  P : Program
  w : World
  K : PySem.W.Frag
  mg : Str → Option Value
  base : Heap
  fa : Nat → Addr
  ca : Nat → Addr
  xs : Option XI

/-- a list that nobody writes -/
def FzL (K : PySem.W.Frag) (H : Hp) (a : Addr) (xs : List V) : Prop :=
  (∃ o, H a = some (.frz o (.lst xs))) ∨
    ∃ (o : Obj) (its : Array Value) (n : Nat), K.lookup a = some o ∧ o.cls = .type "list" ∧ o.dict = none ∧ o.data = .seq its n ∧ its.size ≤ sizeLine ∧ Vals xs its.toList
theorem FzL.sq {K : PySem.W.Frag} {H : Hp} {a : Addr} {xs : List V} (h : FzL K H a xs) : SqL K H a xs := by
  rcases h with ⟨o, h⟩ | h
  · exact .inl (.inr ⟨o, h⟩)
  · exact .inr h

mutual
def Rep (g : Gm) (ρ : List Addr) (H : Hp) : W → V → Prop
  | .non, v => v = .non
  | .bl b, v => v = .bl b
  | .int i, v => v = .int i
  | .str x, v => v = .str x
  | .tup ws, v => ∃ a xs, v = .ref a ∧ SqT g.K H a xs ∧ Reps g ρ H ws xs
  | .fls ws, v => ∃ a xs, v = .ref a ∧ FzL g.K H a xs ∧ Reps g ρ H ws xs
  | .ref n, v => ∃ a, v = .ref a ∧ ρ[n]? = some a
  | .fn i, v => v = .ref (g.fa i)
  | .cls i, v => v = .ref (g.ca i)
  | .ty n, v => v = .ty n
def Reps (g : Gm) (ρ : List Addr) (H : Hp) : List W → List V → Prop
  | [], xs => xs = []
  | w :: ws, xs => ∃ x r, xs = x :: r ∧ Rep g ρ H w x ∧ Reps g ρ H ws r
end

structure Ext (g : Gm) (ρ ρ' : List Addr) (H H' : Hp) : Prop where
  pre : ∃ r, ρ' = ρ ++ r
  new : ∀ a ∈ ρ', a ∉ ρ → H a = none
  out : ∀ a o, a ∉ ρ → H a = some o → H' a = some o
  tup : ∀ a xs, SqT g.K H a xs → SqT g.K H' a xs
  fz : ∀ a xs, FzL g.K H a xs → FzL g.K H' a xs
theorem Ext.refl {g : Gm} {ρ : List Addr} {H : Hp} : Ext g ρ ρ H H := ⟨⟨[], by simp⟩, fun _ h k => absurd h k, fun _ _ _ h => h, fun _ _ h => h, fun _ _ h => h⟩
theorem Ext.notIn {g : Gm} {ρ ρ' : List Addr} {H H' : Hp} (e : Ext g ρ ρ' H H') {a : Addr} {o : HO} (h : a ∉ ρ) (k : H a = some o) : a ∉ ρ' := fun z => by
  have := e.new a z h
  rw [k] at this
  cases this
theorem Ext.trans {g : Gm} {ρ ρ1 ρ2 : List Addr} {H H1 H2 : Hp} (a : Ext g ρ ρ1 H H1) (b : Ext g ρ1 ρ2 H1 H2) : Ext g ρ ρ2 H H2 := by
  have a0 := a
  obtain ⟨r, rfl⟩ := a.pre
  obtain ⟨r2, e2⟩ := b.pre
  refine ⟨⟨r ++ r2, by rw [e2, List.append_assoc]⟩, fun x hx hn => ?_, fun x o hn k => ?_, fun x xs h => b.tup _ _ (a.tup _ _ h), fun x xs h => b.fz _ _ (a.fz _ _ h)⟩
  · by_cases h1 : x ∈ ρ ++ r
    · exact a0.new x h1 hn
    · have q := b.new x hx h1
      cases k : H x with
      | none => rfl
      | some o =>
        rw [a0.out x o hn k] at q
        cases q
  · exact b.out x o (a0.notIn hn k) (a0.out x o hn k)
theorem Ext.at {g : Gm} {ρ ρ' : List Addr} {H H' : Hp} (e : Ext g ρ ρ' H H') {n : Nat} {a : Addr} (h : ρ[n]? = some a) : ρ'[n]? = some a := by
  obtain ⟨r, rfl⟩ := e.pre
  rw [List.getElem?_append_left (List.getElem?_eq_some_iff.mp h).1]
  exact h
mutual
theorem Rep.ext {g : Gm} {ρ ρ' : List Addr} {H H' : Hp} (e : Ext g ρ ρ' H H') : ∀ {w : W} {v : V}, Rep g ρ H w v → Rep g ρ' H' w v
  | .non, _, h => by simpa [Rep] using h
  | .bl _, _, h => by simpa [Rep] using h
  | .int _, _, h => by simpa [Rep] using h
  | .str _, _, h => by simpa [Rep] using h
  | .fn _, _, h => by simpa [Rep] using h
  | .cls _, _, h => by simpa [Rep] using h
  | .ty _, _, h => by simpa [Rep] using h
  | .ref n, _, h => by
    rw [Rep] at h ⊢
    obtain ⟨a, ev, ea⟩ := h
    exact ⟨a, ev, e.at ea⟩
  | .tup ws, _, h => by
    rw [Rep] at h ⊢
    obtain ⟨a, xs, ev, sq, r⟩ := h
    exact ⟨a, xs, ev, e.tup _ _ sq, Reps.ext e r⟩
  | .fls ws, _, h => by
    rw [Rep] at h ⊢
    obtain ⟨a, xs, ev, sq, r⟩ := h
    exact ⟨a, xs, ev, e.fz _ _ sq, Reps.ext e r⟩
theorem Reps.ext {g : Gm} {ρ ρ' : List Addr} {H H' : Hp} (e : Ext g ρ ρ' H H') : ∀ {ws : List W} {xs : List V}, Reps g ρ H ws xs → Reps g ρ' H' ws xs
  | [], _, h => by simpa [Reps] using h
  | w :: ws, _, h => by
    rw [Reps] at h ⊢
    obtain ⟨x, r, ex, rw', rr⟩ := h
    exact ⟨x, r, ex, Rep.ext e rw', Reps.ext e rr⟩
end
section
variable {g : Gm} {ρ : List Addr} {H : Hp}
theorem Reps.nil : Reps g ρ H [] [] := by rw [Reps]
theorem Reps.cons {w : W} {ws : List W} {x : V} {xs : List V} (h : Rep g ρ H w x) (r : Reps g ρ H ws xs) : Reps g ρ H (w :: ws) (x :: xs) := by
  rw [Reps]
  exact ⟨x, xs, rfl, h, r⟩
theorem Reps.length : ∀ {ws : List W} {xs : List V}, Reps g ρ H ws xs → xs.length = ws.length
  | [], xs, h => by rw [Reps] at h; rw [h]; rfl
  | w :: ws, xs, h => by
    rw [Reps] at h
    obtain ⟨x, r, rfl, _, rr⟩ := h
    rw [List.length_cons, List.length_cons, Reps.length rr]
theorem Reps.get : ∀ {ws : List W} {xs : List V} {i : Nat} {w : W}, Reps g ρ H ws xs → ws[i]? = some w → ∃ x, xs[i]? = some x ∧ Rep g ρ H w x
  | [], xs, i, w, h, e => by simp at e
  | w0 :: ws, xs, i, w, h, e => by
    rw [Reps] at h
    obtain ⟨x, r, rfl, h1, rr⟩ := h
    cases i with
    | zero => simp at e; subst e; exact ⟨x, rfl, h1⟩
    | succ i =>
      obtain ⟨y, e1, e2⟩ := Reps.get (i := i) rr (by simpa using e)
      exact ⟨y, by simpa using e1, e2⟩
theorem Reps.append : ∀ {ws us : List W} {xs ys : List V}, Reps g ρ H ws xs → Reps g ρ H us ys → Reps g ρ H (ws ++ us) (xs ++ ys)
  | [], us, xs, ys, h, k => by rw [Reps] at h; subst h; exact k
  | w :: ws, us, xs, ys, h, k => by
    rw [Reps] at h
    obtain ⟨x, r, rfl, h1, rr⟩ := h
    exact Reps.cons h1 (Reps.append rr k)
theorem Reps.set {w : W} {x : V} (hx : Rep g ρ H w x) : ∀ {ws : List W} {xs : List V} (i : Nat), Reps g ρ H ws xs → Reps g ρ H (ws.set i w) (xs.set i x)
  | [], xs, i, h => by rw [Reps] at h; subst h; exact Reps.nil
  | w0 :: ws, xs, 0, h => by
    rw [Reps] at h
    obtain ⟨y, r, rfl, _, rr⟩ := h
    exact Reps.cons hx rr
  | w0 :: ws, xs, i + 1, h => by
    rw [Reps] at h
    obtain ⟨y, r, rfl, h1, rr⟩ := h
    exact Reps.cons h1 (Reps.set hx i rr)
theorem Reps.take : ∀ {ws : List W} {xs : List V} (n : Nat), Reps g ρ H ws xs → Reps g ρ H (ws.take n) (xs.take n)
  | _, _, 0, _ => Reps.nil
  | [], xs, n + 1, h => by rw [Reps] at h; subst h; exact Reps.nil
  | w :: ws, xs, n + 1, h => by
    rw [Reps] at h
    obtain ⟨y, r, rfl, h1, rr⟩ := h
    exact Reps.cons h1 (Reps.take n rr)
theorem Reps.drop : ∀ {ws : List W} {xs : List V} (n : Nat), Reps g ρ H ws xs → Reps g ρ H (ws.drop n) (xs.drop n)
  | _, _, 0, h => h
  | [], xs, n + 1, h => by rw [Reps] at h; subst h; exact Reps.nil
  | w :: ws, xs, n + 1, h => by
    rw [Reps] at h
    obtain ⟨y, r, rfl, h1, rr⟩ := h
    exact Reps.drop n rr
theorem Reps.cut {ws : List W} {xs : List V} (lo hi : Option Int) (h : Reps g ρ H ws xs) : Reps g ρ H (cutL ws lo hi) (cutV xs lo hi) := by
  unfold cutL cutV
  rw [h.length]
  exact (h.drop _).take _
theorem Reps.at {ws : List W} {xs : List V} {i : Int} {w : W} (h : Reps g ρ H ws xs) (e : L2.atI ws i = some w) : ∃ x, L2.atI xs i = some x ∧ Rep g ρ H w x := by
  unfold L2.atI at e ⊢
  rw [h.length]
  cases q : L2.ixN ws.length i with
  | none => rw [q] at e; cases e
  | some j =>
    rw [q] at e
    exact h.get e
end

/-! ### objects -/
/-- a dict with scalar keys / with tuple keys, by keys and values -/
def FRep (g : Gm) (ρ : List Addr) (H : Hp) (fs : List (Str × W)) (fs' : List (Str × V)) : Prop :=
  ∀ f, match fs.lookup f with
    | some w => ∃ v, fs'.lookup f = some v ∧ Rep g ρ H w v
    | none => fs'.lookup f = none
/-- a dict with scalar keys -/
def LD (g : Gm) (a : Addr) (ls : List (Leaf × V)) : HO := .ext fun h =>
  (a == sysModules) = false ∧ ls.length ≤ sizeLine ∧ ∃ us, KV ls us ∧ h.DictOf (leafKind g.P g.w) a us
/-- a dict with tuple keys -/
def TD (g : Gm) (a : Addr) (xs : List (NestedKey × Addr × V)) : HO := .ext fun h =>
  (a == sysModules) = false ∧ xs.length ≤ sizeLine ∧ ∃ us : List (NestedKey × Addr × Value), Paired (fun (p : NestedKey × Addr × V) (q : NestedKey × Addr × Value) => p.1 = q.1 ∧ p.2.1 = q.2.1 ∧ RelV p.2.2 q.2.2) xs us ∧
    ∃ o es ep, h.get? a = some o ∧ o.ExactDict ∧ o.data = .dict es ep ∧ es.toList = us.map (entryOfKey (nestedKind g.P g.w)) ∧ (us.map (·.1)).Nodup
mutual
/-- the value of a key -/
def keyW : NestedKey → W
  | .none => .non
  | .num i => .int i
  | .text x => .str x
  | .tup ks => .tup (keysW ks)
def keysW : List NestedKey → List W
  | [] => []
  | k :: ks => keyW k :: keysW ks
end
def DRep (g : Gm) (ρ : List Addr) (H : Hp) (a : Addr) (kvs : List (NestedKey × W)) : Prop :=
  (∃ ls : List (Leaf × V), H a = some (LD g a ls) ∧ Paired (fun (p : NestedKey × W) (q : Leaf × V) => p.1 = q.1.key ∧ Rep g ρ H p.2 q.2) kvs ls) ∨
  (∃ xs : List (NestedKey × Addr × V), H a = some (TD g a xs) ∧ Paired (fun (p : NestedKey × W) (q : NestedKey × Addr × V) => p.1 = q.1 ∧ p.1.depth ≤ 8 ∧ isLeaf p.1 = false ∧ Rep g ρ H (keyW p.1) (.ref q.2.1) ∧ Rep g ρ H p.2 q.2.2) kvs xs)
def ORep (g : Gm) (ρ : List Addr) (H : Hp) (a : Addr) : O → Prop
  | .lst ws => ∃ xs, H a = some (.lst xs) ∧ Reps g ρ H ws xs
  | .dct kvs => DRep g ρ H a kvs
  | .ins c fs => ∃ dx fs', H a = some (.ins (g.ca c) dx fs') ∧ fs'.length = fs.length ∧ FRep g ρ H fs fs'
  | .clo _ _ => H a ≠ none
  | .dead => H a ≠ none
structure HRep (g : Gm) (ρ : List Addr) (H : Hp) (h : HW) : Prop where
  len : ρ.length = h.length
  nd : ρ.Nodup
  obj : ∀ (n : Nat) (a : Addr) (o : O), ρ[n]? = some a → h[n]? = some o → ORep g ρ H a o
end MP

set_option maxHeartbeats 4000000
/-! MP3: heaps that grow and change. -/
namespace MP
open PySem L2
section
variable {g : Gm} {ρ ρ' : List Addr} {H H' : Hp} {a p : Addr} {o : HO} {ob : O} {h : HW}
theorem FRep.ext (e : Ext g ρ ρ' H H') {fs : List (Str × W)} {fs' : List (Str × V)} (r : FRep g ρ H fs fs') : FRep g ρ' H' fs fs' := fun f => by
  have q := r f
  cases l : fs.lookup f with
  | none => rw [l] at q; exact q
  | some w =>
    rw [l] at q
    obtain ⟨v, e1, e2⟩ := q
    exact ⟨v, e1, e2.ext e⟩
theorem Paired.imp {α β : Type} {F G : α → β → Prop} (f : ∀ a b, F a b → G a b) : ∀ {l₁ : List α} {l₂ : List β}, Paired F l₁ l₂ → Paired G l₁ l₂
  | _, _, .nil => .nil
  | _, _, .cons r t => .cons (f _ _ r) (Paired.imp f t)
theorem DRep.ext (e : Ext g ρ ρ' H H') (ha : H' a = H a) {kvs : List (NestedKey × W)} (r : DRep g ρ H a kvs) : DRep g ρ' H' a kvs := by
  rcases r with ⟨ls, e1, e2⟩ | ⟨xs, e1, e2⟩
  · exact .inl ⟨ls, by rw [ha]; exact e1, Paired.imp (fun _ _ z => ⟨z.1, z.2.ext e⟩) e2⟩
  · exact .inr ⟨xs, by rw [ha]; exact e1, Paired.imp (fun _ _ z => ⟨z.1, z.2.1, z.2.2.1, z.2.2.2.1.ext e, z.2.2.2.2.ext e⟩) e2⟩
theorem ORep.ext (e : Ext g ρ ρ' H H') (ha : H' a = H a) (r : ORep g ρ H a ob) : ORep g ρ' H' a ob := by
  cases ob with
  | lst ws =>
    obtain ⟨xs, e1, e2⟩ := r
    exact ⟨xs, by rw [ha]; exact e1, e2.ext e⟩
  | dct kvs => exact DRep.ext e ha r
  | ins c fs =>
    obtain ⟨dx, fs', e1, e2, e3⟩ := r
    exact ⟨dx, fs', by rw [ha]; exact e1, e2, e3.ext e⟩
  | clo j ws => show H' a ≠ none; rw [ha]; exact r
  | dead => show H' a ≠ none; rw [ha]; exact r
theorem ORep.there (r : ORep g ρ H a ob) : H a ≠ none := by
  cases ob with
  | lst ws => obtain ⟨xs, e1, _⟩ := r; rw [e1]; simp
  | dct kvs =>
    rcases r with ⟨ls, e1, _⟩ | ⟨xs, e1, _⟩
    · rw [e1]; simp
    · rw [e1]; simp
  | ins c fs => obtain ⟨dx, fs', e1, _⟩ := r; rw [e1]; simp
  | clo j ws => exact r
  | dead => exact r
theorem HRep.there (r : HRep g ρ H h) (ha : a ∈ ρ) : H a ≠ none := by
  obtain ⟨n, hn, e⟩ := List.getElem_of_mem ha
  have hl : n < h.length := by rw [← r.len]; exact hn
  exact (r.obj n a h[n] (by rw [List.getElem?_eq_getElem hn, e]) (List.getElem?_eq_getElem hl)).there
theorem HRep.ne (r : HRep g ρ H h) (hp : H p = none) (ha : a ∈ ρ) : a ≠ p := fun e => r.there ha (by rw [e]; exact hp)
theorem HRep.mono (r : HRep g ρ H h) (e : Ext g ρ ρ H H') (k : ∀ a ∈ ρ, H' a = H a) : HRep g ρ H' h :=
  ⟨r.len, r.nd, fun n a o ha ho => (r.obj n a o ha ho).ext e (k a (List.mem_of_getElem? ha))⟩
theorem Ext.fresh (hp : H p = none) : Ext g ρ ρ H (upd H p o) := by
  refine ⟨⟨[], by simp⟩, fun a h k => absurd h k, fun a ob _ q => by rw [upd_ne (ne_of_none q hp)]; exact q, fun a xs s => ?_, fun a xs s => ?_⟩
  · rcases s with (s | ⟨ob, s⟩) | s
    · exact .inl (.inl (by rw [upd_ne (ne_of_none s hp)]; exact s))
    · exact .inl (.inr ⟨ob, by rw [upd_ne (ne_of_none s hp)]; exact s⟩)
    · exact .inr s
  · rcases s with ⟨ob, s⟩ | s
    · exact .inl ⟨ob, by rw [upd_ne (ne_of_none s hp)]; exact s⟩
    · exact .inr s
theorem HRep.fresh (r : HRep g ρ H h) (hp : H p = none) : HRep g ρ (upd H p o) h :=
  r.mono (Ext.fresh hp) fun a ha => upd_ne (r.ne hp ha)
theorem Ext.snoc (e : Ext g ρ ρ H H') (hp : H p = none) : Ext g ρ (ρ ++ [p]) H H' := ⟨⟨[p], rfl⟩, fun a h k => by
  rcases List.mem_append.mp h with h | h
  · exact absurd h k
  · rw [List.mem_singleton.mp h]; exact hp, e.out, e.tup, e.fz⟩
theorem HRep.alloc (r : HRep g ρ H h) (hp : H p = none) (new : ORep g (ρ ++ [p]) (upd H p o) p ob) : HRep g (ρ ++ [p]) (upd H p o) (h ++ [ob]) := by
  have E : Ext g ρ (ρ ++ [p]) H (upd H p o) := (Ext.fresh hp).snoc hp
  refine ⟨by simp [r.len], ?_, fun n a o' ha ho => ?_⟩
  · rw [List.nodup_append]
    exact ⟨r.nd, by simp, fun x hx y hy => by simp at hy; rw [hy]; exact r.ne hp hx⟩
  · by_cases hn : n < ρ.length
    · rw [List.getElem?_append_left hn] at ha
      rw [List.getElem?_append_left (by rw [← r.len]; exact hn)] at ho
      exact (r.obj n a o' ha ho).ext E (upd_ne (r.ne hp (List.mem_of_getElem? ha)))
    · rw [List.getElem?_append_right (by omega)] at ha
      rw [List.getElem?_append_right (by rw [← r.len]; omega)] at ho
      rw [← r.len] at ho
      have hz : n - ρ.length = 0 := by
        have := (List.getElem?_eq_some_iff.mp ha).1
        simpa using this
      rw [hz] at ha ho
      simp at ha ho
      subst ha ho
      exact new
theorem HRep.at_new (r : HRep g ρ H h) : (ρ ++ [p])[h.length]? = some p := by
  rw [← r.len]
  simp
/-- what is written is no tuple and no locked thing -/
def Soft : HO → Prop
  | .tup _ => False
  | .frz _ _ => False
  | _ => True
theorem Ext.write {old : HO} (hm : a ∈ ρ) (ha : H a = some old) (s : Soft old) : Ext g ρ ρ H (upd H a o) := by
  refine ⟨⟨[], by simp⟩, fun b h k => absurd h k, fun b ob hb q => by rw [upd_ne (fun z => hb (by rw [z]; exact hm))]; exact q, fun b xs q => ?_, fun b xs q => ?_⟩
  · rcases q with (q | ⟨x, q⟩) | q
    · refine .inl (.inl ?_)
      rw [upd_ne (fun z => by rw [z, ha] at q; cases q; exact s)]
      exact q
    · refine .inl (.inr ⟨x, ?_⟩)
      rw [upd_ne (fun z => by rw [z, ha] at q; cases q; exact s)]
      exact q
    · exact .inr q
  · rcases q with ⟨x, q⟩ | q
    · refine .inl ⟨x, ?_⟩
      rw [upd_ne (fun z => by rw [z, ha] at q; cases q; exact s)]
      exact q
    · exact .inr q
theorem HRep.write {n : Nat} {old : HO} (r : HRep g ρ H h) (hn : ρ[n]? = some a) (ha : H a = some old) (s : Soft old) (new : ORep g ρ (upd H a o) a ob) : HRep g ρ (upd H a o) (h.set n ob) := by
  have E : Ext g ρ ρ H (upd H a o) := Ext.write (List.mem_of_getElem? hn) ha s
  refine ⟨by simp [r.len], r.nd, fun m b o' hb ho => ?_⟩
  by_cases e : m = n
  · subst e
    rw [hn] at hb
    cases hb
    rw [List.getElem?_set_self (by have := (List.getElem?_eq_some_iff.mp hn).1; rw [r.len] at this; exact this)] at ho
    cases ho
    exact new
  · rw [List.getElem?_set_ne (Ne.symm e)] at ho
    refine (r.obj m b o' hb ho).ext E (upd_ne ?_)
    intro z
    subst z
    exact e (by
      obtain ⟨h1, e1⟩ := List.getElem?_eq_some_iff.mp hb
      obtain ⟨h2, e2⟩ := List.getElem?_eq_some_iff.mp hn
      exact (List.getElem_inj r.nd).mp (e1.trans e2.symm))
theorem HRep.get {n : Nat} (r : HRep g ρ H h) (ho : h[n]? = some ob) : ∃ a, ρ[n]? = some a ∧ ORep g ρ H a ob := by
  have hl : n < ρ.length := by rw [r.len]; exact (List.getElem?_eq_some_iff.mp ho).1
  exact ⟨ρ[n], List.getElem?_eq_getElem hl, r.obj n _ ob (List.getElem?_eq_getElem hl) ho⟩
theorem HRep.at {n : Nat} (r : HRep g ρ H h) (ha : ρ[n]? = some a) (ho : h[n]? = some ob) : ORep g ρ H a ob := r.obj n a ob ha ho
/-- two objects by one address -/
theorem HRep.inj {m n : Nat} (r : HRep g ρ H h) (h1 : ρ[m]? = some a) (h2 : ρ[n]? = some a) : m = n := by
  obtain ⟨q1, e1⟩ := List.getElem?_eq_some_iff.mp h1
  obtain ⟨q2, e2⟩ := List.getElem?_eq_some_iff.mp h2
  exact (List.getElem_inj r.nd).mp (e1.trans e2.symm)
end

/-! ### slots -/
def XRep (g : Gm) (ρ : List Addr) (H : Hp) (x : XV) (cls : Value) (d : Option Addr) : Prop :=
  cls = .ref (g.ca x.c) ∧ (match d with | none => x.fs = [] | some dd => dd ∉ ρ ∧ ∃ fs', H dd = some (.xd fs') ∧ FRep g ρ H x.fs fs')
def SRep (g : Gm) (ρ : List Addr) (H : Hp) (sw : SW) (σ : St) : Prop :=
  sw.length = σ.length ∧ (∀ (i : Nat) (w : W), sw[i]? = some (some w) → ∃ v, σ[i]? = some (some v) ∧ Rep g ρ H w v) ∧
    ∀ xi, g.xs = some xi → σ[xi.i]? = some (some (.ref xi.a)) ∧ XRep g ρ H xi.x xi.cls xi.d
/-- the slot is not that of the exception's name -/
def Free (g : Gm) (i : Nat) : Prop := ∀ xi, g.xs = some xi → xi.i ≠ i
section
variable {g : Gm} {ρ ρ' : List Addr} {H H' : Hp} {sw : SW} {σ : St}
theorem XRep.ext {x : XV} {cls : Value} {d : Option Addr} (e : Ext g ρ ρ' H H') (r : XRep g ρ H x cls d) : XRep g ρ' H' x cls d := by
  refine ⟨r.1, ?_⟩
  cases d with
  | none => exact r.2
  | some dd =>
    obtain ⟨n, fs', h1, h2⟩ := r.2
    exact ⟨e.notIn n h1, fs', e.out _ _ n h1, h2.ext e⟩
theorem SRep.ext (e : Ext g ρ ρ' H H') (r : SRep g ρ H sw σ) : SRep g ρ' H' sw σ :=
  ⟨r.1, fun i w q => by
    obtain ⟨v, e1, e2⟩ := r.2.1 i w q
    exact ⟨v, e1, e2.ext e⟩, fun xi q => ⟨(r.2.2 xi q).1, (r.2.2 xi q).2.ext e⟩⟩
theorem SRep.set {i : Nat} {w : W} {v : V} (f : Free g i) (r : SRep g ρ H sw σ) (hv : Rep g ρ H w v) : SRep g ρ H (sw.set i (some w)) (σ.set i (some v)) := by
  refine ⟨by simp [r.1], fun j w' q => ?_, fun xi q => ⟨by rw [List.getElem?_set_ne (Ne.symm (f xi q))]; exact (r.2.2 xi q).1, (r.2.2 xi q).2⟩⟩
  by_cases e : i = j
  · subst e
    by_cases hi : i < sw.length
    · rw [List.getElem?_set_self hi] at q
      cases q
      exact ⟨v, List.getElem?_set_self (by rw [← r.1]; exact hi), hv⟩
    · rw [List.getElem?_eq_none (by simpa using hi)] at q
      cases q
  · rw [List.getElem?_set_ne e] at q
    obtain ⟨v', e1, e2⟩ := r.2.1 j w' q
    exact ⟨v', by rw [List.getElem?_set_ne e]; exact e1, e2⟩
theorem SRep.unset {i : Nat} {o : Option V} (f : Free g i) (r : SRep g ρ H sw σ) : SRep g ρ H (sw.set i none) (σ.set i o) := by
  refine ⟨by simp [r.1], fun j w' q => ?_, fun xi q => ⟨by rw [List.getElem?_set_ne (Ne.symm (f xi q))]; exact (r.2.2 xi q).1, (r.2.2 xi q).2⟩⟩
  by_cases e : i = j
  · subst e
    by_cases hi : i < sw.length
    · rw [List.getElem?_set_self hi] at q
      cases q
    · rw [List.getElem?_eq_none (by simpa using hi)] at q
      cases q
  · rw [List.getElem?_set_ne e] at q
    obtain ⟨v', e1, e2⟩ := r.2.1 j w' q
    exact ⟨v', by rw [List.getElem?_set_ne e]; exact e1, e2⟩
theorem SRep.wipe (f : g.xs = none) (r : SRep g ρ H sw σ) : ∀ vs : List Nat, SRep g ρ H (wipeW sw vs) (L2.wipe σ vs)
  | [] => r
  | v :: vs => (SRep.wipe f r vs).unset (fun xi q => by rw [f] at q; cases q)
theorem SRep.slot {i : Nat} {w : W} (r : SRep g ρ H sw σ) (e : slotW sw i = some w) : ∃ v, σ[i]? = some (some v) ∧ Rep g ρ H w v := by
  unfold slotW at e
  cases q : sw[i]? with
  | none => rw [q] at e; cases e
  | some o =>
    cases o with
    | none => rw [q] at e; cases e
    | some w' =>
      rw [q] at e
      cases e
      exact r.2.1 i w q
theorem SRep.many : ∀ {is : List Nat} {ws : List W} {xs : List V} {sw sw2 : SW} {σ : St}, (∀ i ∈ is, Free g i) → SRep g ρ H sw σ → Reps g ρ H ws xs → setMany is ws sw = some sw2 →
    ∃ σ2, SRep g ρ H sw2 σ2 ∧ σ2 = (is.zip xs).foldl (fun s p => s.set p.1 (some p.2)) σ
  | [], [], xs, sw, sw2, σ, fr, r, rx, e => by
    rw [setMany] at e
    cases e
    exact ⟨σ, r, by simp⟩
  | i :: is, w :: ws, xs, sw, sw2, σ, fr, r, rx, e => by
    rw [setMany] at e
    rw [Reps] at rx
    obtain ⟨x, xr, rfl, h1, h2⟩ := rx
    obtain ⟨σ2, q1, q2⟩ := SRep.many (fun j hj => fr j (List.mem_cons_of_mem _ hj)) (r.set (i := i) (fr i (List.mem_cons_self ..)) h1) h2 e
    exact ⟨σ2, q1, by rw [q2]; rfl⟩
  | [], _ :: _, _, _, _, _, _, _, _, e => by simp [setMany] at e
  | _ :: _, [], _, _, _, _, _, _, _, e => by simp [setMany] at e
end
end MP

set_option maxHeartbeats 4000000
/-! MP4: readings made of meanings. -/
namespace MP
open PySem L2
abbrev KK (α : Type) := α → HW → List Addr → Hp → Prop
abbrev EK := XV → HW → List Addr → Hp → Prop
def Run {α : Type} (g : Gm) (ρ : List Addr) (H : Hp) (m : Out α) (K : KK α) (E : EK) : Prop :=
  match m with
  | .ok a h' => ∀ ρ' H', Ext g ρ ρ' H H' → HRep g ρ' H' h' → K a h' ρ' H'
  | .exc x h' => ∀ ρ' H', Ext g ρ ρ' H H' → HRep g ρ' H' h' → E x h' ρ' H'
  | .bad => False
section
variable {α β : Type} {g : Gm} {ρ ρ1 : List Addr} {H H1 : Hp} {m : Out α} {f : α → HW → Out β} {K K' : KK α} {K2 : KK β} {E E' : EK}
theorem Run.imp (r : Run g ρ H m K E) (k : ∀ a h' ρ' H', Ext g ρ ρ' H H' → HRep g ρ' H' h' → K a h' ρ' H' → K' a h' ρ' H') (e : ∀ x h' ρ' H', Ext g ρ ρ' H H' → HRep g ρ' H' h' → E x h' ρ' H' → E' x h' ρ' H') : Run g ρ H m K' E' := by
  cases m with
  | ok a h => exact fun ρ' H' x y => k a h ρ' H' x y (r ρ' H' x y)
  | exc z h => exact fun ρ' H' x y => e z h ρ' H' x y (r ρ' H' x y)
  | bad => exact r
theorem Run.ext (r : Run g ρ H m K E) (e : Ext g ρ ρ1 H H1) : Run g ρ1 H1 m K E := by
  cases m with
  | ok a h => exact fun ρ' H' x y => r ρ' H' (e.trans x) y
  | exc z h => exact fun ρ' H' x y => r ρ' H' (e.trans x) y
  | bad => exact r
theorem Run.bind (r : Run g ρ H (m.bind f) K2 E) : Run g ρ H m (fun a h1 ρ1 H1 => Run g ρ1 H1 (f a h1) K2 E) E := by
  cases m with
  | ok a h =>
    intro ρ' H' x y
    exact Run.ext (show Run g ρ H (f a h) K2 E from r) x
  | exc z h => exact r
  | bad => exact r
theorem Run.ok {a : α} {h : HW} (r : Run g ρ H (.ok a h) K E) (y : HRep g ρ H h) : K a h ρ H := r ρ H Ext.refl y
end
/-- an expression's reading by its meaning -/
def tE (g : Gm) (W : WX) (d : SW → HW → Out MP.W) : TE := fun σ H Q => ∃ ρ sw h, SRep g ρ H sw σ ∧ HRep g ρ H h ∧
  Run g ρ H (d sw h) (fun w _ ρ' H' => ∀ v, Rep g ρ' H' w v → Q v H') (fun x _ ρ' H' => ∀ cls dd, XRep g ρ' H' x cls dd → W cls dd σ H')
def tT (g : Gm) (W : WX) (d : SW → HW → Out Bool) : TT := fun σ H Q => ∃ ρ sw h, SRep g ρ H sw σ ∧ HRep g ρ H h ∧
  Run g ρ H (d sw h) (fun b _ _ H' => Q b H') (fun x _ ρ' H' => ∀ cls dd, XRep g ρ' H' x cls dd → W cls dd σ H')
def tAs (g : Gm) (W : WX) (d : SW → HW → Out (List MP.W)) : TA := fun σ H Q => ∃ ρ sw h, SRep g ρ H sw σ ∧ HRep g ρ H h ∧
  Run g ρ H (d sw h) (fun ws _ ρ' H' => ∀ vs, Reps g ρ' H' ws vs → Q vs H') (fun x _ ρ' H' => ∀ cls dd, XRep g ρ' H' x cls dd → W cls dd σ H')
/-- two values, by an operation -/
def tO2 (g : Gm) (d : MP.W → MP.W → HW → Out MP.W) : R2 := fun x y H Q => ∃ ρ h wx wy, Rep g ρ H wx x ∧ Rep g ρ H wy y ∧ HRep g ρ H h ∧
  Run g ρ H (d wx wy h) (fun w _ ρ' H' => ∀ v, Rep g ρ' H' w v → Q v H') (fun _ _ _ _ => False)
/-- how a statement ends, by its meaning -/
def KS (g : Gm) (W : WX) (D : Ends) : KK Fl := fun f _ ρ' H' => match f with
  | .nx sw' => ∀ σ', SRep g ρ' H' sw' σ' → D.nx σ' H'
  | .bk sw' => ∀ σ', SRep g ρ' H' sw' σ' → D.bk σ' H'
  | .ct sw' => ∀ σ', SRep g ρ' H' sw' σ' → D.ct σ' H'
  | .rt w => ∀ v, Rep g ρ' H' w v → D.rt v H'
  | .xc sw' x => ∀ σ' cls dd, SRep g ρ' H' sw' σ' → XRep g ρ' H' x cls dd → W cls dd σ' H'
abbrev noE : EK := fun _ _ _ _ => False
def tS (g : Gm) (W : WX) (d : SW → HW → Out Fl) : TS := fun D σ H => ∃ ρ sw h, SRep g ρ H sw σ ∧ HRep g ρ H h ∧ Run g ρ H (d sw h) (KS g W D) noE
theorem Run.st {α : Type} {g : Gm} {W : WX} {D : Ends} {ρ : List Addr} {H : Hp} {sw : SW} {σ : St} {m : Out α} {f : α → HW → Out Fl} (S : SRep g ρ H sw σ) (r : Run g ρ H (m.st sw f) (KS g W D) noE) :
    Run g ρ H m (fun a h1 ρ1 H1 => Run g ρ1 H1 (f a h1) (KS g W D) noE) (fun x _ ρ' H' => ∀ cls dd, XRep g ρ' H' x cls dd → W cls dd σ H') := by
  cases m with
  | ok a h => exact fun ρ' H' x y => Run.ext (show Run g ρ H (f a h) _ _ from r) x
  | exc z h => exact fun ρ' H' x y cls dd q => (show Run g ρ H (Out.ok (Fl.xc sw z) h) _ _ from r) ρ' H' x y σ cls dd (S.ext x) q
  | bad => exact r

section
variable {X : Cx}
theorem _root_.L2.PE.imp {e : Expr} {t t' : TE} (h : PE X e t) (i : ∀ σ H Q, t' σ H Q → t σ H Q) : PE X e t' := ⟨fun pins s σ H Q I q => h.run pins s σ H Q I (i σ H Q q)⟩
theorem _root_.L2.PT.imp {e : Expr} {t t' : TT} (h : PT X e t) (i : ∀ σ H Q, t' σ H Q → t σ H Q) : PT X e t' := ⟨fun pins s σ H Q I q => h.run pins s σ H Q I (i σ H Q q)⟩
theorem _root_.L2.PW.imp {e : Expr} {t t' : TT} (h : PW X e t) (i : ∀ σ H Q, t' σ H Q → t σ H Q) : PW X e t' := ⟨fun wh pins s σ H Q I q => h.run wh pins s σ H Q I (i σ H Q q)⟩
theorem _root_.L2.PA.imp {e : List Expr} {t t' : TA} (h : PA X e t) (i : ∀ σ H Q, t' σ H Q → t σ H Q) : PA X e t' := ⟨fun pos pins s σ H Q I q => h.run pos pins s σ H Q I (i σ H Q q)⟩
theorem _root_.L2.PS.imp {e : Stmt} {t t' : TS} (h : PS X e t) (i : ∀ D σ H, t' D σ H → t D σ H) : PS X e t' := ⟨fun pins s σ H Q I q => h.run pins s σ H Q I (i Q σ H q)⟩
theorem _root_.L2.PSs.imp {e : List Stmt} {t t' : TS} (h : PSs X e t) (i : ∀ D σ H, t' D σ H → t D σ H) : PSs X e t' := ⟨fun pins s σ H Q I q => h.run pins s σ H Q I (i Q σ H q)⟩
theorem _root_.L2.OpR.imp {f : Value → Value → Sem Value} {r r' : R2} (h : OpR X f r) (i : ∀ x y H Q, r' x y H Q → r x y H Q) : OpR X f r' := fun pins s σ H x y v u Q I rx ry q => h pins s σ H x y v u Q I rx ry (i x y H Q q)
end

section
variable {g : Gm} {X : Cx} {W : WX}
theorem s_var {i : Nat} {x : Str} {pos : Pos} (hN : X.N[i]? = some x) (hv : Vis X.env.scope x) (hd : (x == ("__debug__" : Str)) = false) (hcd : (x == ("__classdict__" : Str)) = false) :
    PE X (.Name x pos) (tE g W fun sw h => match slotW sw i with | some w => .ok w h | none => .bad) :=
  (pe_var hN hv hd hcd).imp fun σ H Q ⟨ρ, sw, h, S, R, run⟩ => by
    cases e : slotW sw i with
    | none => simp only [e] at run; exact run.elim
    | some w =>
      simp only [e] at run
      obtain ⟨v, e1, e2⟩ := S.slot e
      exact ⟨v, e1, Run.ok run R v e2⟩
theorem s_con {e : Expr} {v : V} {w : MP.W} (h : PE X e (tC v)) (r : ∀ ρ H, Rep g ρ H w v) : PE X e (tE g W fun _ h => .ok w h) :=
  h.imp fun σ H Q ⟨ρ, sw, h, S, R, run⟩ => Run.ok run R v (r ρ H)
/-- two parts in a row -/
theorem two {da db : SW → HW → Out MP.W} {d : MP.W → MP.W → HW → Out MP.W} {σ : St} {H : Hp} {Q : VK} {r : R2} (hd : ∀ x y h, ∀ z h', d x y h ≠ .exc z h')
    (t : tE g W (fun sw h => (da sw h).bind fun x h1 => (db sw h1).bind fun y h2 => d x y h2) σ H Q) (hr : ∀ x y H Q, tO2 g d x y H Q → r x y H Q) : tOp r (tE g W da) (tE g W db) σ H Q := by
  obtain ⟨ρ, sw, h, S, R, run⟩ := t
  refine ⟨ρ, sw, h, S, R, run.bind.imp (fun x h1 ρ1 H1 e1 R1 r1 v rv => ?_) fun x h' ρ' H' _ _ q => q⟩
  refine ⟨ρ1, sw, h1, S.ext e1, R1, r1.bind.imp (fun y h2 ρ2 H2 e2 R2 r2 u ru => ?_) fun x h' ρ' H' _ _ q => q⟩
  refine hr v u H2 Q ⟨ρ2, h2, x, y, rv.ext e2, ru, R2, ?_⟩
  cases q : d x y h2 with
  | ok w h3 => rw [q] at r2; exact r2
  | exc z h3 => exact absurd q (hd _ _ _ _ _)
  | bad => rw [q] at r2; exact r2
theorem s_bin {a b : Expr} {op : Operator} {pos : Pos} {da db : SW → HW → Out MP.W} (hd : ∀ x y h, ∀ z h', binW op x y h ≠ .exc z h') (ho : OpR X (binaryOp op) (tO2 g (binW op))) (ha : PE X a (tE g W da)) (hb : PE X b (tE g W db)) :
    PE X (.BinOp a op b pos) (tE g W fun sw h => (da sw h).bind fun x h1 => (db sw h1).bind fun y h2 => binW op x y h2) :=
  (pe_op ho ha hb).imp fun σ H Q t => two hd t fun _ _ _ _ q => q
theorem s_cmp {a b : Expr} {op : CmpOp} {pos : Pos} {da db : SW → HW → Out MP.W} (hd : ∀ x y h, ∀ z h', cmpW op x y h ≠ .exc z h') (ho : OpR X (compareOp op) (tO2 g (cmpW op))) (ha : PE X a (tE g W da)) (hb : PE X b (tE g W db)) (hm : behindInMarks op b = false) :
    PE X (.Compare a [op] [b] pos) (tE g W fun sw h => (da sw h).bind fun x h1 => (db sw h1).bind fun y h2 => cmpW op x y h2) :=
  (pe_cmpR ho ha hb hm).imp fun σ H Q t => two hd t fun _ _ _ _ q => q
end
end MP

set_option maxHeartbeats 4000000
/-! MP5: operators. -/
namespace MP
open PySem L2
theorem line_eq : line = sizeLine := by rw [sizeLine_eq]; rfl
section
variable {g : Gm} {X : Cx} {ρ : List Addr} {H : Hp} {h : HW}
theorem Rep.tupI {ws : List W} {v : V} (r : Rep g ρ H (.tup ws) v) : ∃ a xs, v = .ref a ∧ SqT g.K H a xs ∧ Reps g ρ H ws xs := by rw [Rep] at r; exact r
theorem Rep.flsI {ws : List W} {v : V} (r : Rep g ρ H (.fls ws) v) : ∃ a xs, v = .ref a ∧ FzL g.K H a xs ∧ Reps g ρ H ws xs := by rw [Rep] at r; exact r
theorem Rep.refI {n : Nat} {v : V} (r : Rep g ρ H (.ref n) v) : ∃ a, v = .ref a ∧ ρ[n]? = some a := by rw [Rep] at r; exact r
theorem Rep.intI {i : Int} {v : V} (r : Rep g ρ H (.int i) v) : v = .int i := by rw [Rep] at r; exact r
theorem Rep.strI {i : Str} {v : V} (r : Rep g ρ H (.str i) v) : v = .str i := by rw [Rep] at r; exact r
theorem Rep.blI {i : Bool} {v : V} (r : Rep g ρ H (.bl i) v) : v = .bl i := by rw [Rep] at r; exact r
theorem Rep.nonI {v : V} (r : Rep g ρ H .non v) : v = .non := by rw [Rep] at r; exact r
theorem Rep.mkInt {i : Int} : Rep g ρ H (.int i) (.int i) := by rw [Rep]
theorem Rep.mkStr {i : Str} : Rep g ρ H (.str i) (.str i) := by rw [Rep]
theorem Rep.mkBl {i : Bool} : Rep g ρ H (.bl i) (.bl i) := by rw [Rep]
theorem Rep.mkNon : Rep g ρ H .non .non := by rw [Rep]
theorem Rep.mkRef {n : Nat} {a : Addr} (e : ρ[n]? = some a) : Rep g ρ H (.ref n) (.ref a) := by rw [Rep]; exact ⟨a, rfl, e⟩
theorem Rep.mkTup {ws : List W} {a : Addr} {xs : List V} (s : SqT g.K H a xs) (r : Reps g ρ H ws xs) : Rep g ρ H (.tup ws) (.ref a) := by rw [Rep]; exact ⟨a, xs, rfl, s, r⟩
/-- a new tuple -/
theorem new_tup {ws : List W} {xs : List V} {K : KK W} {E : EK} (run : Run g ρ H (.ok (.tup ws) h) K E) (R : HRep g ρ H h) (r : Reps g ρ H ws xs) {p : Addr} (hp : H p = none) :
    Rep g ρ (upd H p (.tup xs)) (.tup ws) (.ref p) ∧ K (.tup ws) h ρ (upd H p (.tup xs)) :=
  ⟨Rep.mkTup (.inl (.inl upd_same)) (r.ext (Ext.fresh hp)), run ρ _ (Ext.fresh hp) (R.fresh hp)⟩
/-- a new list -/
theorem new_lst {ws : List W} {xs : List V} {K : KK W} {E : EK} (run : Run g ρ H (new (.lst ws) h) K E) (R : HRep g ρ H h) (r : Reps g ρ H ws xs) {p : Addr} (hp : H p = none) :
    Rep g (ρ ++ [p]) (upd H p (.lst xs)) (.ref h.length) (.ref p) ∧ K (.ref h.length) (h ++ [.lst ws]) (ρ ++ [p]) (upd H p (.lst xs)) := by
  have E : Ext g ρ (ρ ++ [p]) H (upd H p (.lst xs)) := (Ext.fresh hp).snoc hp
  exact ⟨Rep.mkRef R.at_new, run _ _ E (R.alloc hp ⟨xs, upd_same, r.ext E⟩)⟩
theorem HRep.lst {n : Nat} {a : Addr} {ws : List W} (R : HRep g ρ H h) (e : ρ[n]? = some a) (q : h[n]? = some (.lst ws)) : ∃ xs, H a = some (.lst xs) ∧ Reps g ρ H ws xs := R.at e q

theorem op_addW (c : X.K = g.K) : OpR X (binaryOp .Add) (tO2 g (binW .Add)) := by
  intro pins s σ H x y v u Q I rx ry t
  obtain ⟨ρ, hh, wx, wy, r1, r2, R, run⟩ := t
  simp only [binW] at run
  unfold addW at run
  split at run
  · cases r1.intI; cases r2.intI
    exact op_add pins s σ H _ _ v u Q I rx ry ⟨_, _, rfl, rfl, run.ok R _ Rep.mkInt⟩
  · cases r1.strI; cases r2.strI
    unfold okIf at run
    split at run
    · rename_i hl
      exact op_add_str pins s σ H _ _ v u Q I rx ry ⟨_, _, rfl, rfl, by rw [← line_eq]; exact of_decide_eq_true hl, run.ok R _ Rep.mkStr⟩
    · exact run.elim
  · obtain ⟨a, xs, rfl, s1, q1⟩ := r1.tupI
    obtain ⟨b, ys, rfl, s2, q2⟩ := r2.tupI
    unfold okIf at run
    split at run
    · rename_i hl
      have hl' := of_decide_eq_true hl
      rw [← c] at s1 s2
      refine op_catA pins s σ H _ _ v u Q I rx ry ⟨a, b, xs, ys, rfl, rfl, s1, s2, by rw [q1.length, q2.length, ← line_eq]; exact hl', fun e => ?_, fun _ e => ?_, fun _ _ p hp => ?_⟩
      · subst e
        have e1 := q1.length
        have : _ = [] := List.eq_nil_of_length_eq_zero e1.symm
        subst this
        exact run.ok R _ (by rw [c] at s2; exact Rep.mkTup s2 (by simpa using q2))
      · subst e
        have e1 := q2.length
        have : _ = [] := List.eq_nil_of_length_eq_zero e1.symm
        subst this
        exact run.ok R _ (by rw [c] at s1; exact Rep.mkTup s1 (by simpa using q1))
      · obtain ⟨k1, k2⟩ := new_tup run R (q1.append q2) hp
        exact k2 _ k1
    · exact run.elim
  · rename_i m n
    obtain ⟨a, rfl, e1⟩ := r1.refI
    obtain ⟨b, rfl, e2⟩ := r2.refI
    split at run
    · rename_i wa wb g1 g2
      obtain ⟨xs, h1, q1⟩ := R.lst e1 g1
      obtain ⟨ys, h2, q2⟩ := R.lst e2 g2
      unfold okIf at run
      split at run
      · rename_i hl
        have hl' := of_decide_eq_true hl
        refine op_cat pins s σ H _ _ v u Q I rx ry ⟨a, b, xs, ys, rfl, rfl, h1, h2, by rw [q1.length, q2.length, ← line_eq]; exact hl', fun p hp => ?_⟩
        obtain ⟨k1, k2⟩ := new_lst run R (q1.append q2) hp
        exact k2 _ k1
      · exact run.elim
    · exact run.elim
  · exact run.elim
theorem twoI {o : Operator} {C : Int → Int → Prop} {f : Int → Int → Int} {x y : V} {Q : VK} (t : tO2 g (binW o) x y H Q)
    (hb : ∀ wx wy h, (∀ i j, wx = .int i → wy = .int j → ∃ b : Bool, (b = true → C i j) ∧ binW o wx wy h = okIf b (.ok (.int (f i j)) h)) ∧ ((∀ i j, ¬ (wx = .int i ∧ wy = .int j)) → binW o wx wy h = .bad)) :
    rI C (fun i j => .int (f i j)) x y H Q := by
  obtain ⟨ρ, hh, wx, wy, r1, r2, R, run⟩ := t
  by_cases hx : ∃ i j, wx = .int i ∧ wy = .int j
  · obtain ⟨i, j, rfl, rfl⟩ := hx
    obtain ⟨b, hc, e⟩ := (hb _ _ hh).1 i j rfl rfl
    rw [e] at run
    cases r1.intI; cases r2.intI
    cases b with
    | true => exact ⟨i, j, rfl, rfl, hc rfl, run.ok R _ Rep.mkInt⟩
    | false => exact run.elim
  · rw [(hb _ _ hh).2 (fun i j z => hx ⟨i, j, z⟩)] at run
    exact run.elim
theorem okIf_t {α : Type} {m : Out α} : okIf true m = m := rfl
theorem op_subW : OpR X (binaryOp .Sub) (tO2 g (binW .Sub)) := op_sub.imp fun x y H Q t => by
  obtain ⟨i, j, e1, e2, _, q⟩ := twoI (C := fun _ _ => True) (f := fun i j => i - j) t fun wx wy h => ⟨fun i j e1 e2 => ⟨true, fun _ => trivial, by subst e1 e2; rfl⟩, fun n => by cases wx <;> cases wy <;> first | rfl | exact absurd ⟨rfl, rfl⟩ (n _ _)⟩
  exact ⟨i, j, e1, e2, q⟩
theorem op_mulW : OpR X (binaryOp .Mult) (tO2 g (binW .Mult)) := op_mul.imp fun x y H Q t =>
  twoI (C := CMul) (f := fun i j => i * j) t fun wx wy h => ⟨fun i j e1 e2 => ⟨mulOk i j, fun z => (of_decide_eq_true z : (-(2 ^ 64) < i ∧ i < 2 ^ 64) ∨ (-(2 ^ 64) < j ∧ j < 2 ^ 64)), by subst e1 e2; rfl⟩, fun n => by cases wx <;> cases wy <;> first | rfl | exact absurd ⟨rfl, rfl⟩ (n _ _)⟩
theorem op_fdivW : OpR X (binaryOp .FloorDiv) (tO2 g (binW .FloorDiv)) := op_fdiv.imp fun x y H Q t =>
  twoI (C := CDiv) (f := fun i j => i / j) t fun wx wy h => ⟨fun i j e1 e2 => ⟨decide (0 < j ∧ j < 1073741824), fun z => (of_decide_eq_true z : 0 < j ∧ j < 1073741824), by subst e1 e2; rfl⟩, fun n => by cases wx <;> cases wy <;> first | rfl | exact absurd ⟨rfl, rfl⟩ (n _ _)⟩
theorem op_modW : OpR X (binaryOp .Mod) (tO2 g (binW .Mod)) := op_mod.imp fun x y H Q t =>
  twoI (C := fun _ j => 0 < j) (f := fun i j => i % j) t fun wx wy h => ⟨fun i j e1 e2 => ⟨_, fun z => of_decide_eq_true z, by subst e1 e2; rfl⟩, fun n => by cases wx <;> cases wy <;> first | rfl | exact absurd ⟨rfl, rfl⟩ (n _ _)⟩
theorem op_powW : OpR X (binaryOp .Pow) (tO2 g (binW .Pow)) := op_pow.imp fun x y H Q t =>
  twoI (C := CPow) (f := fun i j => i ^ j.toNat) t fun wx wy h => ⟨fun i j e1 e2 => ⟨decide (0 ≤ j ∧ j ≤ 1000000 ∧ i.natAbs < 2 ^ 64), fun z => (of_decide_eq_true z : 0 ≤ j ∧ j ≤ 1000000 ∧ i.natAbs < 2 ^ 64), by subst e1 e2; rfl⟩, fun n => by cases wx <;> cases wy <;> first | rfl | exact absurd ⟨rfl, rfl⟩ (n _ _)⟩
theorem addW_noexc {x y : W} {h : HW} {z : XV} {h' : HW} : addW x y h ≠ .exc z h' := by
  unfold addW okIf new
  intro e
  split at e <;> first | cases e | (split at e <;> first | cases e | (split at e <;> cases e))
theorem binW_noexc (o : Operator) (x y : W) (h : HW) (z : XV) (h' : HW) : binW o x y h ≠ .exc z h' := by
  intro e
  unfold binW okIf at e
  split at e
  · exact addW_noexc e
  all_goals first | cases e | (split at e <;> first | cases e | (split at e <;> cases e))
/-- the operators served -/
theorem op_bin (c : X.K = g.K) : ∀ o : Operator, OpR X (binaryOp o) (tO2 g (binW o))
  | .Add => op_addW c
  | .Sub => op_subW
  | .Mult => op_mulW
  | .FloorDiv => op_fdivW
  | .Mod => op_modW
  | .Pow => op_powW
  | .MatMult | .Div | .LShift | .RShift | .BitOr | .BitXor | .BitAnd => fun pins s σ H x y v u Q I rx ry t => by
    obtain ⟨ρ, hh, wx, wy, r1, r2, R, run⟩ := t
    exact False.elim run

/-! ### comparisons -/
theorem mapO_some {α β : Type} {f : α → Option β} : ∀ {as : List α} {bs : List β}, mapO f as = some bs → Paired (fun a b => f a = some b) as bs
  | [], bs, e => by rw [mapO] at e; cases e; exact .nil
  | a :: as, bs, e => by
    rw [mapO] at e
    cases q : f a with
    | none => rw [q] at e; cases e
    | some b =>
      rw [q] at e
      simp only [Option.map_eq_some_iff] at e
      obtain ⟨bs', e1, rfl⟩ := e
      exact .cons q (mapO_some e1)
theorem toD_Dp (R : HRep g ρ H h) : ∀ (n : Nat) {w : W} {v : V} {d : PyData}, Rep g ρ H w v → toD h n w = some d → Dp g.K H v d := by
  intro n
  induction n with
  | zero =>
    intro w v d r e
    cases w <;> rw [toD] at e <;> first | (cases e; done) | skip
    all_goals first | (cases e; rw [Rep] at r; subst r; constructor; done) | (simp at e; done)
  | succ n ih =>
    have all : ∀ {ws : List W} {xs : List V} {ds : List PyData}, Reps g ρ H ws xs → Paired (fun w d => toD h n w = some d) ws ds → DpAll g.K H xs ds := by
      intro ws
      induction ws with
      | nil =>
        intro xs ds r p
        rw [Reps] at r
        subst r
        cases p
        exact .nil
      | cons w ws ih2 =>
        intro xs ds r p
        rw [Reps] at r
        obtain ⟨x, xr, rfl, h1, h2⟩ := r
        cases p with
        | cons p1 p2 => exact .cons (ih h1 p1) (ih2 h2 p2)
    intro w v d r e
    cases w with
    | non => rw [toD] at e; cases e; cases r.nonI; exact .non
    | bl b => rw [toD] at e; cases e; cases r.blI; exact .bl b
    | int b => rw [toD] at e; cases e; cases r.intI; exact .int b
    | str b => rw [toD] at e; cases e; cases r.strI; exact .str b
    | tup ws =>
      rw [toD] at e
      obtain ⟨ds, e1, rfl⟩ := Option.map_eq_some_iff.mp e
      obtain ⟨a, xs, rfl, s1, q1⟩ := r.tupI
      exact .tup s1 (all q1 (mapO_some e1))
    | fls ws =>
      rw [toD] at e
      obtain ⟨ds, e1, rfl⟩ := Option.map_eq_some_iff.mp e
      obtain ⟨a, xs, rfl, s1, q1⟩ := r.flsI
      exact .lst s1.sq (all q1 (mapO_some e1))
    | ref k =>
      rw [toD] at e
      obtain ⟨a, rfl, ea⟩ := r.refI
      split at e
      · rename_i ws q
        obtain ⟨ds, e1, rfl⟩ := Option.map_eq_some_iff.mp e
        obtain ⟨xs, hx, q1⟩ := R.lst ea q
        exact .lst (SqL.of hx) (all q1 (mapO_some e1))
      · cases e
    | fn i => simp [toD] at e
    | cls i => simp [toD] at e
    | ty n => simp [toD] at e
theorem obl_run {o : Option Bool} {neg : Bool} {Q : VK} (R : HRep g ρ H h) (run : Run g ρ H (obl o neg h) (fun w _ ρ' H' => ∀ v, Rep g ρ' H' w v → Q v H') (fun _ _ _ _ => False)) : ∃ b, o = some b ∧ Q (.bl (if neg then !b else b)) H := by
  cases o with
  | none => exact run.elim
  | some b => exact ⟨b, rfl, run.ok R _ Rep.mkBl⟩
theorem eqB_cases {x y : W} {b : Bool} {vx vy : V} (R : HRep g ρ H h) (r1 : Rep g ρ H x vx) (r2 : Rep g ρ H y vy) (e : eqB x y h = some b) :
    (scal vx vy = true ∧ b = decide (vx = vy)) ∨ ∃ d d', Dp g.K H vx d ∧ Dp g.K H vy d' ∧ SeqAt.shaped d = true ∧ SeqAt.shaped d' = true ∧ b = PyData.eqv d d' := by
  unfold eqB at e
  split at e
  · cases r1.strI; cases r2.strI; cases e; exact .inl ⟨rfl, by simp⟩
  · cases r1.intI; cases r2.intI; cases e; exact .inl ⟨rfl, by simp⟩
  · cases r1.blI; cases r2.blI; cases e; exact .inl ⟨rfl, by simp⟩
  · cases r1.nonI; cases r2.nonI; cases e; exact .inl ⟨rfl, by simp⟩
  · split at e
    · rename_i d d' q1 q2
      split at e
      · rename_i hs
        simp only [Bool.and_eq_true] at hs
        cases e
        exact .inr ⟨d, d', toD_Dp R _ r1 q1, toD_Dp R _ r2 q2, hs.1, hs.2, rfl⟩
      · cases e
    · cases e
theorem op_eqW (c : X.K = g.K) (hu : X.A.units + 64 < cLine) : OpR X (compareOp .Eq) (tO2 g (cmpW .Eq)) := by
  intro pins s σ H x y v u Q I rx ry t
  obtain ⟨ρ, hh, wx, wy, r1, r2, R, run⟩ := t
  obtain ⟨b, e, q⟩ := obl_run R (show Run g ρ H (obl (eqB wx wy hh) false hh) _ _ from run)
  rcases eqB_cases R r1 r2 e with ⟨s1, rfl⟩ | ⟨d, d', p1, p2, s1, s2, rfl⟩
  · exact op_eq pins s σ H x y v u Q I rx ry ⟨s1, q⟩
  · exact op_eqD hu pins s σ H x y v u Q I rx ry ⟨d, d', by rw [c]; exact p1, by rw [c]; exact p2, s1, s2, q⟩
theorem op_neW (c : X.K = g.K) (hu : X.A.units + 64 < cLine) : OpR X (compareOp .NotEq) (tO2 g (cmpW .NotEq)) := by
  intro pins s σ H x y v u Q I rx ry t
  obtain ⟨ρ, hh, wx, wy, r1, r2, R, run⟩ := t
  obtain ⟨b, e, q⟩ := obl_run R (show Run g ρ H (obl (eqB wx wy hh) true hh) _ _ from run)
  rcases eqB_cases R r1 r2 e with ⟨s1, rfl⟩ | ⟨d, d', p1, p2, s1, s2, rfl⟩
  · exact op_ne pins s σ H x y v u Q I rx ry ⟨s1, q⟩
  · exact op_neD hu pins s σ H x y v u Q I rx ry ⟨d, d', by rw [c]; exact p1, by rw [c]; exact p2, s1, s2, q⟩
theorem intsB {o : CmpOp} {f : Int → Int → Bool} {x y : V} {Q : VK} (t : tO2 g (cmpW o) x y H Q)
    (hb : ∀ wx wy h, (∀ i j, wx = .int i → wy = .int j → cmpW o wx wy h = .ok (.bl (f i j)) h) ∧ ((∀ i j, ¬ (wx = .int i ∧ wy = .int j)) → cmpW o wx wy h = .bad)) :
    rI0 (fun i j => .bl (f i j)) x y H Q := by
  obtain ⟨ρ, hh, wx, wy, r1, r2, R, run⟩ := t
  by_cases hx : ∃ i j, wx = .int i ∧ wy = .int j
  · obtain ⟨i, j, rfl, rfl⟩ := hx
    rw [(hb _ _ hh).1 i j rfl rfl] at run
    cases r1.intI; cases r2.intI
    exact ⟨i, j, rfl, rfl, run.ok R _ Rep.mkBl⟩
  · rw [(hb _ _ hh).2 (fun i j z => hx ⟨i, j, z⟩)] at run
    exact run.elim
theorem op_ltW : OpR X (compareOp .Lt) (tO2 g (cmpW .Lt)) := op_lt.imp fun x y H Q t => intsB t fun wx wy h => ⟨fun i j e1 e2 => by subst e1 e2; rfl, fun n => by cases wx <;> cases wy <;> first | rfl | exact absurd ⟨rfl, rfl⟩ (n _ _)⟩
theorem op_leW : OpR X (compareOp .LtE) (tO2 g (cmpW .LtE)) := op_le.imp fun x y H Q t => intsB t fun wx wy h => ⟨fun i j e1 e2 => by subst e1 e2; rfl, fun n => by cases wx <;> cases wy <;> first | rfl | exact absurd ⟨rfl, rfl⟩ (n _ _)⟩
theorem op_gtW : OpR X (compareOp .Gt) (tO2 g (cmpW .Gt)) := op_gt.imp fun x y H Q t => intsB t fun wx wy h => ⟨fun i j e1 e2 => by subst e1 e2; rfl, fun n => by cases wx <;> cases wy <;> first | rfl | exact absurd ⟨rfl, rfl⟩ (n _ _)⟩
theorem op_geW : OpR X (compareOp .GtE) (tO2 g (cmpW .GtE)) := op_ge.imp fun x y H Q t => intsB t fun wx wy h => ⟨fun i j e1 e2 => by subst e1 e2; rfl, fun n => by cases wx <;> cases wy <;> first | rfl | exact absurd ⟨rfl, rfl⟩ (n _ _)⟩
theorem Rep.isNon {w : W} {v : V} (r : Rep g ρ H w v) : isNon w = decide (v = .non) := by
  cases w with
  | non => cases r.nonI; rfl
  | bl b => cases r.blI; rfl
  | int b => cases r.intI; rfl
  | str b => cases r.strI; rfl
  | tup ws => obtain ⟨a, xs, rfl, _⟩ := r.tupI; rfl
  | fls ws => obtain ⟨a, xs, rfl, _⟩ := r.flsI; rfl
  | ref n => obtain ⟨a, rfl, _⟩ := r.refI; rfl
  | fn i => rw [Rep] at r; subst r; rfl
  | cls i => rw [Rep] at r; subst r; rfl
  | ty i => rw [Rep] at r; subst r; rfl
theorem op_isW : OpR X (compareOp .Is) (tO2 g (cmpW .Is)) := op_isN.imp fun x y H Q t => by
  obtain ⟨ρ, hh, wx, wy, r1, r2, R, run⟩ := t
  cases wy <;> simp only [cmpW] at run <;> first | exact run.elim | skip
  exact ⟨r2.nonI, by rw [← r1.isNon]; exact run.ok R _ Rep.mkBl⟩
theorem op_isNotW : OpR X (compareOp .IsNot) (tO2 g (cmpW .IsNot)) := op_notN.imp fun x y H Q t => by
  obtain ⟨ρ, hh, wx, wy, r1, r2, R, run⟩ := t
  cases wy <;> simp only [cmpW] at run <;> first | exact run.elim | skip
  exact ⟨r2.nonI, by rw [← r1.isNon]; exact run.ok R _ Rep.mkBl⟩
theorem cmpW_noexc (o : CmpOp) (x y : W) (h : HW) (z : XV) (h' : HW) : cmpW o x y h ≠ .exc z h' := by
  intro e
  unfold cmpW obl at e
  split at e <;> first | cases e | (split at e <;> first | cases e | (split at e <;> cases e))
end
end MP

set_option maxHeartbeats 4000000
/-! MP6: dicts. -/
namespace MP
open PySem L2
/-! ### tables -/
theorem pair_map {α β γ δ : Type} {F : α → β → Prop} {G : γ → δ → Prop} {f : α → γ} {g : β → δ} (h : ∀ a b, F a b → G (f a) (g b)) : ∀ {l : List α} {m : List β}, Paired F l m → Paired G (l.map f) (m.map g)
  | _, _, .nil => .nil
  | _, _, .cons r t => .cons (h _ _ r) (pair_map h t)
section
variable {κ κ' α β : Type} [DecidableEq κ] [DecidableEq κ'] {f : κ' → κ} {R : α → β → Prop}
theorem aget_nil {k : κ} : aget k ([] : List (κ × α)) = none := rfl
theorem aget_cons {k : κ} {p : κ × α} {l : List (κ × α)} : aget k (p :: l) = if p.1 = k then some p.2 else aget k l := by
  unfold aget
  rw [List.find?_cons]
  by_cases h : p.1 = k <;> simp [h]
theorem any_aget {k : κ} : ∀ {l : List (κ × α)}, (l.any fun kv => decide (kv.1 = k)) = (aget k l).isSome
  | [] => rfl
  | p :: l => by
    rw [List.any_cons, aget_cons, any_aget (l := l)]
    by_cases h : p.1 = k <;> simp [h]
theorem pair_get (inj : ∀ a b, f a = f b → a = b) (k : κ') : ∀ {l : List (κ × α)} {m : List (κ' × β)}, Paired (fun p q => p.1 = f q.1 ∧ R p.2 q.2) l m →
    (aget (f k) l = none ∧ aget k m = none) ∨ ∃ a b, aget (f k) l = some a ∧ aget k m = some b ∧ R a b
  | _, _, .nil => .inl ⟨rfl, rfl⟩
  | _, _, .cons (a := p) (b := q) h t => by
    rw [aget_cons, aget_cons]
    by_cases e : q.1 = k
    · rw [if_pos (by rw [h.1, e]), if_pos e]
      exact .inr ⟨_, _, rfl, rfl, h.2⟩
    · rw [if_neg (fun z => e (inj _ _ (h.1.symm.trans z))), if_neg e]
      exact pair_get inj k t
theorem pair_put (inj : ∀ a b, f a = f b → a = b) (k : κ') {a : α} {b : β} (r : R a b) {l : List (κ × α)} {m : List (κ' × β)} (p : Paired (fun p q => p.1 = f q.1 ∧ R p.2 q.2) l m) :
    Paired (fun p q => p.1 = f q.1 ∧ R p.2 q.2) (aput (f k) a l) (aput k b m) := by
  have e : (l.any fun kv => decide (kv.1 = f k)) = (m.any fun kv => decide (kv.1 = k)) := by
    rw [any_aget, any_aget]
    rcases pair_get inj k p with ⟨h1, h2⟩ | ⟨a, b, h1, h2, _⟩ <;> rw [h1, h2] <;> rfl
  unfold aput
  rw [e]
  split
  · refine pair_map (fun p q h => ?_) p
    by_cases e : q.1 = k
    · rw [if_pos (by rw [h.1, e]), if_pos e]
      exact ⟨h.1, r⟩
    · rw [if_neg (fun z => e (inj _ _ (h.1.symm.trans z))), if_neg e]
      exact h
  · exact Paired.snoc p ⟨rfl, r⟩
theorem length_aput {k : κ} {w : α} {l : List (κ × α)} : (aput k w l).length ≤ l.length + 1 := by
  unfold aput
  split <;> simp
end
theorem leaf_of {k : NestedKey} (h : isLeaf k = true) : ∃ l : Leaf, l.key = k := by
  cases k with
  | none => exact ⟨.none, rfl⟩
  | num i => exact ⟨.num i, rfl⟩
  | text x => exact ⟨.text x, rfl⟩
  | tup ks => cases h
theorem leaf_isLeaf (l : Leaf) : isLeaf l.key = true := by cases l <;> rfl
section
variable {g : Gm} {X : Cx} {ρ : List Addr} {H : Hp} {h : HW} {pins : List (Addr × Obj)} {σ : St} {s : Shared}
mutual
theorem toK_keyW : ∀ (n : Nat) (w : W) (k : NestedKey), toK n w = some k → keyW k = w ∧ k.depth ≤ n
  | n, .non, k, e => by rw [toK] at e; cases e; exact ⟨rfl, Nat.zero_le _⟩
  | n, .int i, k, e => by rw [toK] at e; cases e; exact ⟨rfl, Nat.zero_le _⟩
  | n, .str x, k, e => by rw [toK] at e; cases e; exact ⟨rfl, Nat.zero_le _⟩
  | 0, .tup ws, k, e => by simp [toK] at e
  | n + 1, .tup ws, k, e => by
    rw [toK] at e
    obtain ⟨ks, e1, rfl⟩ := Option.map_eq_some_iff.mp e
    obtain ⟨q1, q2⟩ := toKs_keyW n ws ks e1
    exact ⟨by rw [keyW, q1], by rw [NestedKey.depth]; omega⟩
  | n, .bl _, k, e => by cases n <;> simp [toK] at e
  | n, .fls _, k, e => by cases n <;> simp [toK] at e
  | n, .ref _, k, e => by cases n <;> simp [toK] at e
  | n, .fn _, k, e => by cases n <;> simp [toK] at e
  | n, .cls _, k, e => by cases n <;> simp [toK] at e
  | n, .ty _, k, e => by cases n <;> simp [toK] at e
theorem toKs_keyW : ∀ (n : Nat) (ws : List W) (ks : List NestedKey), mapO (toK n) ws = some ks → keysW ks = ws ∧ NestedKey.depthAll ks ≤ n
  | n, [], ks, e => by rw [mapO] at e; cases e; exact ⟨rfl, Nat.zero_le _⟩
  | n, w :: ws, ks, e => by
    rw [mapO] at e
    cases q : toK n w with
    | none => rw [q] at e; cases e
    | some k =>
      rw [q] at e
      simp only [Option.map_eq_some_iff] at e
      obtain ⟨ks', e1, rfl⟩ := e
      obtain ⟨a1, a2⟩ := toK_keyW n w k q
      obtain ⟨b1, b2⟩ := toKs_keyW n ws ks' e1
      exact ⟨by rw [keysW, a1, b1], by rw [NestedKey.depthAll]; omega⟩
end
mutual
theorem nested_of (c : X.K = g.K) (I : Inv X pins σ H s) : ∀ (k : NestedKey) (v : V) (u : Value), Rep g ρ H (keyW k) v → RelV v u → NestedIs s.heap k u
  | .none, v, u, r, q => by rw [keyW] at r; cases r.nonI; cases q; exact .none
  | .num i, v, u, r, q => by rw [keyW] at r; cases r.intI; obtain ⟨t, rfl⟩ := q; exact .int i t
  | .text x, v, u, r, q => by rw [keyW] at r; cases r.strI; obtain ⟨t, rfl⟩ := q; exact .text x t
  | .tup ks, v, u, r, q => by
    rw [keyW] at r
    obtain ⟨a, xs, rfl, sq, rs⟩ := r.tupI
    cases q
    obtain ⟨its, rv, ⟨o, h1, h2, n, h3⟩, _⟩ := I.tuple (by rw [c]; exact sq)
    exact .tup h1 h2 h3 (by simpa using nesteds_of c I ks xs its rs rv)
theorem nesteds_of (c : X.K = g.K) (I : Inv X pins σ H s) : ∀ (ks : List NestedKey) (vs : List V) (us : List Value), Reps g ρ H (keysW ks) vs → Vals vs us → NestedAll s.heap ks us
  | [], vs, us, r, q => by rw [keysW, Reps] at r; subst r; cases q; exact .nil
  | k :: ks, vs, us, r, q => by
    rw [keysW, Reps] at r
    obtain ⟨x, xr, rfl, r1, r2⟩ := r
    cases q with
    | cons q1 q2 => exact .cons (nested_of c I k x _ r1 q1) (nesteds_of c I ks xr _ r2 q2)
end
theorem leaf_is {l : Leaf} {v : V} {u : Value} (r : Rep g ρ H (keyW l.key) v) (q : RelV v u) : (leafKind g.P g.w).is l u = true := by
  cases l with
  | none => have r' : Rep g ρ H .non v := r; cases r'.nonI; cases q; rfl
  | num i => have r' : Rep g ρ H (.int i) v := r; cases r'.intI; obtain ⟨t, rfl⟩ := q; show decide (i = i) = true; simp
  | text x => have r' : Rep g ρ H (.str x) v := r; cases r'.strI; obtain ⟨t, rfl⟩ := q; show Value.isStrOf x (.str x t) = true; simp [Value.isStrOf]

/-! ### what the objects say -/
theorem ld_at {a : Addr} {ls : List (Leaf × V)} {hp : Heap} (ok : HOk g.P g.w H hp) (e : H a = some (LD g a ls)) : (a == sysModules) = false ∧ ls.length ≤ sizeLine ∧ ∃ us, KV ls us ∧ hp.DictOf (leafKind g.P g.w) a us := by
  have x : ObjOk g.P g.w H hp a (LD g a ls) := ok a _ e
  exact x.1
theorem td_at {a : Addr} {xs : List (NestedKey × Addr × V)} {hp : Heap} (ok : HOk g.P g.w H hp) (e : H a = some (TD g a xs)) : (a == sysModules) = false ∧ xs.length ≤ sizeLine ∧ ∃ us : List (NestedKey × Addr × Value), Paired (fun (p : NestedKey × Addr × V) (q : NestedKey × Addr × Value) => p.1 = q.1 ∧ p.2.1 = q.2.1 ∧ RelV p.2.2 q.2.2) xs us ∧
    ∃ o es ep, hp.get? a = some o ∧ o.ExactDict ∧ o.data = .dict es ep ∧ es.toList = us.map (entryOfKey (nestedKind g.P g.w)) ∧ (us.map (·.1)).Nodup := by
  have x : ObjOk g.P g.w H hp a (TD g a xs) := ok a _ e
  exact x.1
theorem dictOf_at {K : Type} [DecidableEq K] {P : Program} {w : World} {knd : KeyKind P w K} {h1 h2 : Heap} {a : Addr} {us : List (K × Value)} (d : h1.DictOf knd a us) (k : ∀ o, h1.get? a = some o → h2.get? a = some o) : h2.DictOf knd a us := by
  obtain ⟨o, es, ep, e, r⟩ := d
  exact ⟨o, es, ep, k o e, r⟩
theorem ld_ok {a : Addr} {ls : List (Leaf × V)} {us : List (Leaf × Value)} {hp : Heap} {H' : Hp} (h1 : (a == sysModules) = false) (h2 : ls.length ≤ sizeLine) (h3 : KV ls us) (h4 : hp.DictOf (leafKind g.P g.w) a us) : ObjOk g.P g.w H' hp a (LD g a ls) := by
  refine ⟨⟨h1, h2, us, h3, h4⟩, ?_, fun p1 p2 z k => ?_⟩
  · obtain ⟨o, _, _, e, _⟩ := h4
    exact ⟨o, e⟩
  · obtain ⟨a1, a2, us', a3, a4⟩ := z
    exact ⟨a1, a2, us', a3, dictOf_at a4 k⟩
theorem td_ok {a : Addr} {xs : List (NestedKey × Addr × V)} {us : List (NestedKey × Addr × Value)} {hp : Heap} {H' : Hp} (h1 : (a == sysModules) = false) (h2 : xs.length ≤ sizeLine)
    (h3 : Paired (fun (p : NestedKey × Addr × V) (q : NestedKey × Addr × Value) => p.1 = q.1 ∧ p.2.1 = q.2.1 ∧ RelV p.2.2 q.2.2) xs us)
    (h4 : ∃ o es ep, hp.get? a = some o ∧ o.ExactDict ∧ o.data = .dict es ep ∧ es.toList = us.map (entryOfKey (nestedKind g.P g.w)) ∧ (us.map (·.1)).Nodup) : ObjOk g.P g.w H' hp a (TD g a xs) := by
  refine ⟨⟨h1, h2, us, h3, h4⟩, ?_, fun p1 p2 z k => ?_⟩
  · obtain ⟨o, _, _, e, _⟩ := h4
    exact ⟨o, e⟩
  · obtain ⟨a1, a2, us', a3, o, es, ep, e, r⟩ := z
    exact ⟨a1, a2, us', a3, o, es, ep, k o e, r⟩
/-- the dict with tuple keys, as the library tells it -/
theorem td_h (c : X.K = g.K) (cP : X.prog = g.P) (cw : X.w = g.w) (I : Inv X pins σ H s) {a : Addr} {kvs : List (NestedKey × W)} {xs : List (NestedKey × Addr × V)} (e : H a = some (TD g a xs))
    (p : Paired (fun (p : NestedKey × W) (q : NestedKey × Addr × V) => p.1 = q.1 ∧ p.1.depth ≤ 8 ∧ isLeaf p.1 = false ∧ Rep g ρ H (keyW p.1) (.ref q.2.1) ∧ Rep g ρ H p.2 q.2.2) kvs xs) :
    (a == sysModules) = false ∧ xs.length ≤ sizeLine ∧ ∃ us : List (NestedKey × Addr × Value), Paired (fun (p : NestedKey × Addr × V) (q : NestedKey × Addr × Value) => p.1 = q.1 ∧ p.2.1 = q.2.1 ∧ RelV p.2.2 q.2.2) xs us ∧ s.heap.DictOfH (nestedKind g.P g.w) a us := by
  have hok := I.hok
  rw [cP, cw] at hok
  obtain ⟨h1, h2, us, h3, o, es, ep, g1, g2, g3, g4, g5⟩ := td_at hok e
  refine ⟨h1, h2, us, h3, o, es, ep, g1, g2, g3, g4, ?_, g5⟩
  clear g1 g2 g3 g4 g5 e h2
  have all : ∀ {kvs : List (NestedKey × W)} {xs : List (NestedKey × Addr × V)}, Paired (fun (p : NestedKey × W) (q : NestedKey × Addr × V) => p.1 = q.1 ∧ p.1.depth ≤ 8 ∧ isLeaf p.1 = false ∧ Rep g ρ H (keyW p.1) (.ref q.2.1) ∧ Rep g ρ H p.2 q.2.2) kvs xs →
      ∀ {us : List (NestedKey × Addr × Value)}, Paired (fun (p : NestedKey × Addr × V) (q : NestedKey × Addr × Value) => p.1 = q.1 ∧ p.2.1 = q.2.1 ∧ RelV p.2.2 q.2.2) xs us → ∀ x ∈ us, (nestedKind g.P g.w).is s.heap x.1 x.2.1 := by
    intro kvs xs p
    induction p with
    | nil => intro us q x hx; cases q; cases hx
    | cons hp t ih =>
      intro us q x hx
      cases q with
      | cons hq tq =>
        rcases List.mem_cons.mp hx with z | z
        · subst z
          obtain ⟨e1, e2, _, e3, _⟩ := hp
          obtain ⟨f1, f2, _⟩ := hq
          refine ⟨?_, by rw [← f1, ← e1]; exact e2⟩
          rw [← f1, ← e1, ← f2]
          exact nested_of c I _ _ _ e3 rfl
        · exact ih tq x z
  exact all p h3
theorem pairs_nil {K : Type} [DecidableEq K] {P : Program} {w : World} {knd : KeyKind P w K} {l : List DictEntry} (h : Pairs knd l []) : l = [] := by cases h; rfl
/-- an empty dict is of both sorts -/
theorem ld_td {a : Addr} {hp : Heap} (d : hp.DictOf (leafKind g.P g.w) a []) : hp.DictOfH (nestedKind g.P g.w) a [] := by
  obtain ⟨o, es, ep, e1, e2, e3, _, e5, _⟩ := d
  exact ⟨o, es, ep, e1, e2, e3, by rw [pairs_nil e5]; rfl, by simp, by simp⟩
theorem td_ld {a : Addr} {hp : Heap} (d : hp.DictOfH (nestedKind g.P g.w) a []) : hp.DictOf (leafKind g.P g.w) a [] := by
  obtain ⟨o, es, ep, e1, e2, e3, e4, _, _⟩ := d
  have z : es.toList = [] := by simpa using e4
  refine ⟨o, es, ep, e1, e2, e3, fun e he => ?_, by rw [z]; exact .nil, by simp⟩
  have : e ∈ es.toList := by simpa using he
  rw [z] at this
  cases this

/-- what a dict and a key of its sort are to the library -/
inductive DSide (g : Gm) (ρ : List Addr) (H : Hp) (s : Shared) (a : Addr) (kvs : List (NestedKey × W)) (k : NestedKey) (u : Value) : Prop
  | lf (l : Leaf) (ls : List (Leaf × V)) (us : List (Leaf × Value)) (hk : l.key = k) (hu : (leafKind g.P g.w).is l u = true) (hl : ls.length ≤ sizeLine) (kv : KV ls us) (d : s.heap.DictOf (leafKind g.P g.w) a us)
      (p : Paired (fun (p : NestedKey × W) (q : Leaf × V) => p.1 = q.1.key ∧ Rep g ρ H p.2 q.2) kvs ls) : DSide g ρ H s a kvs k u
  | tp (b : Addr) (xs : List (NestedKey × Addr × V)) (us : List (NestedKey × Addr × Value)) (hu : u = .ref b) (hi : (nestedKind g.P g.w).is s.heap k b) (hr : Rep g ρ H (keyW k) (.ref b)) (hd : k.depth ≤ 8) (hf : isLeaf k = false) (hl : xs.length ≤ sizeLine)
      (kv : Paired (fun (p : NestedKey × Addr × V) (q : NestedKey × Addr × Value) => p.1 = q.1 ∧ p.2.1 = q.2.1 ∧ RelV p.2.2 q.2.2) xs us) (d : s.heap.DictOfH (nestedKind g.P g.w) a us)
      (p : Paired (fun (p : NestedKey × W) (q : NestedKey × Addr × V) => p.1 = q.1 ∧ p.1.depth ≤ 8 ∧ isLeaf p.1 = false ∧ Rep g ρ H (keyW p.1) (.ref q.2.1) ∧ Rep g ρ H p.2 q.2.2) kvs xs) : DSide g ρ H s a kvs k u
theorem paired_nil_l {α β : Type} {F : α → β → Prop} {l : List β} (p : Paired F [] l) : l = [] := by cases p; rfl
theorem paired_nil_r {α β : Type} {F : α → β → Prop} {l : List α} (p : Paired F l []) : l = [] := by cases p; rfl
theorem dside (c : X.K = g.K) (cP : X.prog = g.P) (cw : X.w = g.w) (I : Inv X pins σ H s) {a : Addr} {kvs : List (NestedKey × W)} {w : W} {k : NestedKey} {v : V} {u : Value} (d : DRep g ρ H a kvs) (hk : toK 8 w = some k) (r : Rep g ρ H w v) (q : RelV v u) (o : oneSort k kvs = true) :
    (a == sysModules) = false ∧ DSide g ρ H s a kvs k u := by
  obtain ⟨kw, kd⟩ := toK_keyW 8 w k hk
  subst kw
  have hok := I.hok
  rw [cP, cw] at hok
  cases hf : isLeaf k with
  | true =>
    obtain ⟨l, rfl⟩ := leaf_of hf
    have hu := leaf_is r q
    rcases d with ⟨ls, e, p⟩ | ⟨xs, e, p⟩
    · obtain ⟨h1, h2, us, h3, h4⟩ := ld_at hok e
      exact ⟨h1, .lf l ls us rfl hu h2 h3 h4 p⟩
    · have kn : kvs = [] := by
        cases p with
        | nil => rfl
        | cons hp t =>
          have z := List.all_eq_true.mp o _ (List.mem_cons_self ..)
          rw [hp.2.2.1, hf] at z
          cases z
      subst kn
      have xn := paired_nil_l p
      subst xn
      obtain ⟨h1, h2, us, h3, h4⟩ := td_h c cP cw I e p
      have un := paired_nil_l h3
      subst un
      exact ⟨h1, .lf l [] [] rfl hu (Nat.zero_le _) .nil (td_ld h4) .nil⟩
  | false =>
    have ht : ∃ b, v = .ref b := by
      cases k with
      | tup ks => rw [keyW] at r; obtain ⟨b, _, e, _⟩ := r.tupI; exact ⟨b, e⟩
      | none => cases hf
      | num i => cases hf
      | text x => cases hf
    obtain ⟨b, rfl⟩ := ht
    cases q
    have hi : (nestedKind g.P g.w).is s.heap k b := ⟨nested_of c I _ _ _ r rfl, kd⟩
    rcases d with ⟨ls, e, p⟩ | ⟨xs, e, p⟩
    · have kn : kvs = [] := by
        cases p with
        | nil => rfl
        | cons hp t =>
          have z := List.all_eq_true.mp o _ (List.mem_cons_self ..)
          rw [hp.1, leaf_isLeaf, hf] at z
          cases z
      subst kn
      have xn := paired_nil_l p
      subst xn
      obtain ⟨h1, h2, us, h3, h4⟩ := ld_at hok e
      have un := paired_nil_l h3
      subst un
      exact ⟨h1, .tp b [] [] rfl hi r kd hf (Nat.zero_le _) .nil (ld_td h4) .nil⟩
    · obtain ⟨h1, h2, us, h3, h4⟩ := td_h c cP cw I e p
      exact ⟨h1, .tp b xs us rfl hi r kd hf h2 h3 h4 p⟩
theorem atKey_eq {us : List (NestedKey × Addr × Value)} {k : NestedKey} : atKey us k = aget k us := rfl
/-- what is found -/
theorem DSide.look {a : Addr} {kvs : List (NestedKey × W)} {k : NestedKey} {u : Value} (x : DSide g ρ H s a kvs k u) (K : Option Value → Prop) (h : (aget k kvs = none → K none) ∧ (∀ w r v, aget k kvs = some w → Rep g ρ H w v → RelV v r → K (some r))) :
    (∃ l us, (leafKind g.P g.w).is l u = true ∧ s.heap.DictOf (leafKind g.P g.w) a us ∧ K (valueAt us l)) ∨ (∃ b us, u = .ref b ∧ (nestedKind g.P g.w).is s.heap k b ∧ s.heap.DictOfH (nestedKind g.P g.w) a us ∧ K ((atKey us k).map (·.2))) := by
  cases x with
  | lf l ls us hk hu hl kv d p =>
    subst hk
    refine .inl ⟨l, us, hu, d, ?_⟩
    have q := kv.val l
    rcases pair_get (f := Leaf.key) (fun _ _ => Leaf.key_inj) l p with ⟨e1, e2⟩ | ⟨w, v, e1, e2, r⟩
    · have e3 : valV ls l = none := e2
      rw [e3] at q
      rw [RelO.none_of q]
      exact h.1 e1
    · have e3 : valV ls l = some v := e2
      rw [e3] at q
      obtain ⟨y, e4, e5⟩ := RelO.some_of q
      rw [e4]
      exact h.2 w y v e1 r e5
  | tp b xs us hu hi hr hd hf hl kv d p =>
    refine .inr ⟨b, us, hu, hi, d, ?_⟩
    have p1 : Paired (fun (p : NestedKey × W) (q : NestedKey × Addr × V) => p.1 = id q.1 ∧ Rep g ρ H p.2 q.2.2) kvs xs := Paired.imp (fun _ _ z => ⟨z.1, z.2.2.2.2⟩) p
    have p2 : Paired (fun (p : NestedKey × Addr × V) (q : NestedKey × Addr × Value) => p.1 = id q.1 ∧ RelV p.2.2 q.2.2) xs us := Paired.imp (fun _ _ z => ⟨z.1, z.2.2⟩) kv
    rcases pair_get (f := id) (R := fun (w : W) (q : Addr × V) => Rep g ρ H w q.2) (fun _ _ z => z) k p1 with ⟨e1, e2⟩ | ⟨w, v, e1, e2, r⟩
    · rcases pair_get (f := id) (R := fun (p : Addr × V) (q : Addr × Value) => RelV p.2 q.2) (fun _ _ z => z) k p2 with ⟨e3, e4⟩ | ⟨w, v, e3, e4, r⟩
      · rw [atKey_eq, e4]
        exact h.1 e1
      · have e3' : aget k xs = some w := e3
        rw [e2] at e3'
        cases e3'
    · rcases pair_get (f := id) (R := fun (p : Addr × V) (q : Addr × Value) => RelV p.2 q.2) (fun _ _ z => z) k p2 with ⟨e3, e4⟩ | ⟨w', v', e3, e4, r'⟩
      · have e3' : aget k xs = none := e3
        rw [e2] at e3'
        cases e3'
      · have e3' : aget k xs = some w' := e3
        rw [e2] at e3'
        cases e3'
        rw [atKey_eq, e4]
        exact h.2 w v'.2 v.2 e1 r r'
theorem room8 {A : Around} (hu : A.units + 16 < cLine) : (nestedKind g.P g.w).room A.in1 := by
  show A.units + 1 + 8 < cLine
  omega
theorem wd_get (c : X.K = g.K) (cP : X.prog = g.P) (cw : X.w = g.w) {A : Around} {E : Value → Shared → Prop} {Q : Value → Shared → Prop} (hu : A.units + 16 < cLine) (I : Inv X pins σ H s) {a : Addr} {kvs : List (NestedKey × W)} {w y : W} {k : NestedKey} {v : V} {u : Value} (d : DRep g ρ H a kvs) (hk : toK 8 w = some k) (r : Rep g ρ H w v)
    (q : RelV v u) (o : oneSort k kvs = true) (hy : aget k kvs = some y) (h : ∀ r s' v, Inv X pins σ H s' → Rep g ρ H y v → RelV v r → Q r s') : wpAny (model X.prog X.w) A (getItem (.ref a) u) Q E s := by
  obtain ⟨h1, x⟩ := dside c cP cw I d hk r q o
  rw [cP, cw]
  rcases x.look (fun o => ∃ r v, o = some r ∧ Rep g ρ H y v ∧ RelV v r) ⟨(fun z => by rw [hy] at z; simp at z), (fun w r v z r1 r2 => by rw [hy] at z; cases z; exact ⟨r, v, rfl, r1, r2⟩)⟩ with ⟨l, us, e1, e2, r', v', e3, r1, r2⟩ | ⟨b, us, e0, e1, e2, r', v', e3, r1, r2⟩
  · exact wpAny_getItem_of e1 e2.mapOf e3 (h r' _ v' (I.tok _) r1 r2)
  · subst e0
    obtain ⟨p, hp, hp2⟩ := Option.map_eq_some_iff.mp e3
    refine wpAny_getItem_heap (room8 hu) e1 e2 hp ?_
    rw [hp2]
    exact h r' _ v' (I.tok _) r1 r2
theorem wd_in (c : X.K = g.K) (cP : X.prog = g.P) (cw : X.w = g.w) {A : Around} {E : Value → Shared → Prop} {Q : Value → Shared → Prop} (hu : A.units + 16 < cLine) (I : Inv X pins σ H s) {a : Addr} {kvs : List (NestedKey × W)} {w : W} {k : NestedKey} {v : V} {u : Value} (d : DRep g ρ H a kvs) (hk : toK 8 w = some k) (r : Rep g ρ H w v)
    (q : RelV v u) (o : oneSort k kvs = true) (h : ∀ s', Inv X pins σ H s' → Q (.bool (aget k kvs).isSome) s') : wpAny (model X.prog X.w) A (compareOp .In u (.ref a)) Q E s := by
  obtain ⟨h1, x⟩ := dside c cP cw I d hk r q o
  rw [cP, cw]
  rcases x.look (fun o => o.isSome = (aget k kvs).isSome) ⟨(fun z => by rw [z]; rfl), (fun w r v z r1 r2 => by rw [z]; rfl)⟩ with ⟨l, us, e1, e2, e3⟩ | ⟨b, us, e0, e1, e2, e3⟩
  · refine wpAny_in_of e1 h1 e2.mapOf ?_
    rw [e3]
    exact h _ (I.tok _)
  · subst e0
    refine wpAny_in_heap (room8 hu) e1 h1 e2 ?_
    rw [Option.isSome_map] at e3
    rw [e3]
    exact h _ (I.tok _)
theorem wd_notIn (c : X.K = g.K) (cP : X.prog = g.P) (cw : X.w = g.w) {A : Around} {E : Value → Shared → Prop} {Q : Value → Shared → Prop} (hu : A.units + 16 < cLine) (I : Inv X pins σ H s) {a : Addr} {kvs : List (NestedKey × W)} {w : W} {k : NestedKey} {v : V} {u : Value} (d : DRep g ρ H a kvs) (hk : toK 8 w = some k) (r : Rep g ρ H w v)
    (q : RelV v u) (o : oneSort k kvs = true) (h : ∀ s', Inv X pins σ H s' → Q (.bool (!(aget k kvs).isSome)) s') : wpAny (model X.prog X.w) A (compareOp .NotIn u (.ref a)) Q E s := by
  obtain ⟨h1, x⟩ := dside c cP cw I d hk r q o
  rw [cP, cw]
  rcases x.look (fun o => o.isSome = (aget k kvs).isSome) ⟨(fun z => by rw [z]; rfl), (fun w r v z r1 r2 => by rw [z]; rfl)⟩ with ⟨l, us, e1, e2, e3⟩ | ⟨b, us, e0, e1, e2, e3⟩
  · refine wpAny_notIn_of e1 h1 e2.mapOf ?_
    rw [e3]
    exact h _ (I.tok _)
  · subst e0
    refine PyProof.Rows.wpAny_notIn_heap (room8 hu) e1 h1 e2 ?_
    rw [Option.isSome_map] at e3
    rw [e3]
    exact h _ (I.tok _)
theorem DRep.soft {a : Addr} {kvs : List (NestedKey × W)} (d : DRep g ρ H a kvs) : ∃ o, H a = some o ∧ Soft o ∧ Mut (some o) := by
  rcases d with ⟨ls, e, _⟩ | ⟨xs, e, _⟩
  · exact ⟨_, e, True.intro, True.intro⟩
  · exact ⟨_, e, True.intro, True.intro⟩
theorem storedH_pair {xs : List (NestedKey × Addr × V)} {us : List (NestedKey × Addr × Value)} {k : NestedKey} {b : Addr} {y : V} {r : Value} (ry : RelV y r)
    (kv : Paired (fun (p : NestedKey × Addr × V) (q : NestedKey × Addr × Value) => p.1 = q.1 ∧ p.2.1 = q.2.1 ∧ RelV p.2.2 q.2.2) xs us) :
    Paired (fun (p : NestedKey × Addr × V) (q : NestedKey × Addr × Value) => p.1 = q.1 ∧ p.2.1 = q.2.1 ∧ RelV p.2.2 q.2.2) (if (aget k xs).isSome then xs.map (fun x => if x.1 = k then (x.1, x.2.1, y) else x) else xs ++ [(k, b, y)]) (storedH us k b r) := by
  have e : (atKey us k).isSome = (aget k xs).isSome := by
    have p2 : Paired (fun (p : NestedKey × Addr × V) (q : NestedKey × Addr × Value) => p.1 = id q.1 ∧ True) xs us := Paired.imp (fun _ _ z => ⟨z.1, trivial⟩) kv
    rcases pair_get (f := id) (R := fun (p : Addr × V) (q : Addr × Value) => True) (fun _ _ z => z) k p2 with ⟨e3, e4⟩ | ⟨w', v', e3, e4, _⟩
    · have e3' : aget k xs = none := e3
      rw [atKey_eq, e4, e3']
      rfl
    · have e3' : aget k xs = some w' := e3
      rw [atKey_eq, e4, e3']
      rfl
  unfold storedH
  rw [e]
  split
  · refine pair_map (fun p q h => ?_) kv
    unfold putAt
    by_cases e : p.1 = k
    · rw [if_pos e, if_pos (h.1.symm.trans e)]
      exact ⟨h.1, h.2.1, ry⟩
    · rw [if_neg e, if_neg (fun z => e (h.1.trans z))]
      exact h
  · exact Paired.snoc kv ⟨rfl, rfl, ry⟩
/-- d[k] = y -/
theorem wd_set (c : X.K = g.K) (cP : X.prog = g.P) (cw : X.w = g.w) {A : Around} {E : Value → Shared → Prop} {Q : Unit → Shared → Prop} (hu : A.units + 16 < cLine) (I : Inv X pins σ H s) (R : HRep g ρ H h) {n : Nat} {a : Addr} {kvs : List (NestedKey × W)} {w y : W} {k : NestedKey} {v vy : V} {u r : Value} (hn : ρ[n]? = some a) (d : DRep g ρ H a kvs)
    (hk : toK 8 w = some k) (rw' : Rep g ρ H w v) (q : RelV v u) (o : oneSort k kvs = true) (hl : kvs.length < sizeLine) (ry : Rep g ρ H y vy) (rr : RelV vy r)
    (hQ : ∀ s' H', Inv X pins σ H' s' → Ext g ρ ρ H H' → HRep g ρ H' (h.set n (.dct (aput k y kvs))) → Q () s') : wpAny (model X.prog X.w) A (setItem (.ref a) u r) Q E s := by
  obtain ⟨h1, x⟩ := dside c cP cw I d hk rw' q o
  obtain ⟨old, e0, so, mu⟩ := d.soft
  rw [cP, cw]
  cases x with
  | lf l ls us hk' hu' hl' kv dd p =>
    subst hk'
    have lls : ls.length = kvs.length := (Paired.length p).symm
    have hz : us.length ≤ sizeLine := by rw [← kv.length]; exact hl'
    refine wpAny_setItem_pairs (hsz := hz) hu' dd fun h' dd' hs => ?_
    have hE : Ext g ρ ρ H (upd H a (LD g a (putK ls l vy))) := Ext.write (List.mem_of_getElem? hn) e0 so
    have he : ∃ q, h'.get? a = some q := let ⟨q, _, _, hq, _⟩ := dd'; ⟨q, hq⟩
    have ok : ObjOk X.prog X.w (upd H a (LD g a (putK ls l vy))) h' a (LD g a (putK ls l vy)) := by
      rw [cP, cw]
      exact ld_ok h1 (by have := length_putK ls l vy; omega) (kv.put l rr) dd'
    refine hQ _ _ (I.write (t' := s.toks + 1) (x := a) (e := a) (by rw [e0]; exact mu) (.inl rfl) (fun b q hb z => (hs.2 b hb).trans z) he ok) hE (R.write hn e0 so ?_)
    refine .inl ⟨putK ls l vy, upd_same, ?_⟩
    have pp := pair_put (f := Leaf.key) (R := fun w v => Rep g ρ H w v) (fun _ _ => Leaf.key_inj) l ry p
    exact Paired.imp (fun _ _ z => ⟨z.1, z.2.ext hE⟩) pp
  | tp b xs us hu' hi hr hd hf hl' kv dd p =>
    subst hu'
    have lls : xs.length = kvs.length := (Paired.length p).symm
    have hz : us.length ≤ sizeLine := by rw [← Paired.length kv]; exact hl'
    refine wpAny_setItem_heap (hsz := hz) (room8 hu) hi dd fun h' dd' hs => ?_
    have kv' := storedH_pair (k := k) (b := b) rr kv
    generalize hxs : (if (aget k xs).isSome then xs.map (fun x => if x.1 = k then (x.1, x.2.1, vy) else x) else xs ++ [(k, b, vy)]) = xs' at kv'
    have hE : Ext g ρ ρ H (upd H a (TD g a xs')) := Ext.write (List.mem_of_getElem? hn) e0 so
    have hlx : xs'.length ≤ sizeLine := by
      rw [← hxs]
      split <;> simp <;> omega
    obtain ⟨q, es, ep, hq, h2, h3, h4, _, h5⟩ := dd'
    have ok : ObjOk X.prog X.w (upd H a (TD g a xs')) h' a (TD g a xs') := by
      rw [cP, cw]
      exact td_ok h1 hlx kv' ⟨q, es, ep, hq, h2, h3, h4, h5⟩
    refine hQ _ _ (I.write (t' := s.toks + (nestedKind g.P g.w).draws k) (x := a) (e := a) (by rw [e0]; exact mu) (.inl rfl) (fun b q hb z => (hs.2 b hb).trans z) ⟨q, hq⟩ ok) hE (R.write hn e0 so ?_)
    refine .inr ⟨xs', upd_same, ?_⟩
    have ee : (kvs.any fun kv => decide (kv.1 = k)) = (aget k xs).isSome := by
      rw [any_aget]
      have p1 : Paired (fun (p : NestedKey × W) (q : NestedKey × Addr × V) => p.1 = id q.1 ∧ True) kvs xs := Paired.imp (fun _ _ z => ⟨z.1, trivial⟩) p
      rcases pair_get (f := id) (R := fun (w : W) (q : Addr × V) => True) (fun _ _ z => z) k p1 with ⟨e3, e4⟩ | ⟨w', v', e3, e4, _⟩
      · have e3' : aget k kvs = none := e3
        rw [e3', e4]
        rfl
      · have e3' : aget k kvs = some w' := e3
        rw [e3', e4]
        rfl
    unfold aput
    rw [ee]
    revert hE
    rw [← hxs]
    split
    · intro hE
      refine pair_map (fun p q hp => ?_) p
      by_cases e : p.1 = k
      · rw [if_pos e, if_pos (hp.1.symm.trans e)]
        exact ⟨hp.1, hp.2.1, hp.2.2.1, hp.2.2.2.1.ext hE, ry.ext hE⟩
      · rw [if_neg e, if_neg (fun z => e (hp.1.trans z))]
        exact ⟨hp.1, hp.2.1, hp.2.2.1, hp.2.2.2.1.ext hE, hp.2.2.2.2.ext hE⟩
    · intro hE
      exact Paired.snoc (Paired.imp (fun _ _ hp => ⟨hp.1, hp.2.1, hp.2.2.1, hp.2.2.2.1.ext hE, hp.2.2.2.2.ext hE⟩) p) ⟨rfl, hd, hf, hr.ext hE, ry.ext hE⟩
end
end MP

set_option maxHeartbeats 4000000
/-! MP7: in, truth, subscripts, slices, built-in functions and methods. -/
namespace MP
open PySem L2
section
variable {g : Gm} {X : Cx} {ρ : List Addr} {H : Hp} {h : HW} {pins : List (Addr × Obj)} {σ : St} {s : Shared}
theorem Rep.flat {w : W} {v : V} (r : Rep g ρ H w v) (f : isFlat w = true) : flatV v = true := by
  cases w <;> simp [isFlat] at f
  · cases r.nonI; rfl
  · cases r.blI; rfl
  · cases r.intI; rfl
  · cases r.strI; rfl
theorem Reps.flat : ∀ {ws : List W} {xs : List V}, Reps g ρ H ws xs → ws.all isFlat = true → xs.all flatV = true
  | [], xs, r, _ => by rw [Reps] at r; subst r; rfl
  | w :: ws, xs, r, f => by
    rw [Reps] at r
    obtain ⟨x, xr, rfl, r1, r2⟩ := r
    simp only [List.all_cons, Bool.and_eq_true] at f ⊢
    exact ⟨r1.flat f.1, Reps.flat r2 f.2⟩
theorem flat_eq {w u : W} {v y : V} (r1 : Rep g ρ H w v) (r2 : Rep g ρ H u y) (f1 : isFlat w = true) (f2 : isFlat u = true) : flatEq w u = eqV v y := by
  cases w <;> simp [isFlat] at f1 <;> cases u <;> simp [isFlat] at f2
  all_goals first
    | (cases r1.nonI; first | (cases r2.nonI; done) | (cases r2.blI; done) | (cases r2.intI; done) | (cases r2.strI; done))
    | skip
  all_goals first
    | (cases r1.nonI) | (cases r1.blI) | (cases r1.intI) | (cases r1.strI)
  all_goals first
    | (cases r2.nonI) | (cases r2.blI) | (cases r2.intI) | (cases r2.strI)
  all_goals simp [flatEq, eqV]
  all_goals first | done | rfl | (rw [Bool.beq_eq_decide_eq])
theorem any_eq : ∀ {ws : List W} {xs : List V} {u : W} {y : V}, Reps g ρ H ws xs → Rep g ρ H u y → ws.all isFlat = true → isFlat u = true → (ws.any fun w => flatEq w u) = inV y xs
  | [], xs, u, y, r, _, _, _ => by rw [Reps] at r; subst r; rfl
  | w :: ws, xs, u, y, r, ry, f, fu => by
    rw [Reps] at r
    obtain ⟨x, xr, rfl, r1, r2⟩ := r
    simp only [List.all_cons, Bool.and_eq_true] at f
    have e := any_eq r2 ry f.2 fu
    unfold inV at e ⊢
    rw [List.any_cons, List.any_cons, e, flat_eq r1 ry f.1 fu]
theorem str1 {a : Str} {c : Nat} (e : a.cps.toList = [c]) : a = ⟨#[c]⟩ := by
  obtain ⟨l⟩ := a
  congr
  have : l.toList = (#[c] : Array Nat).toList := e
  exact Array.toList_inj.mp this
/-- in, by cases -/
theorem inW_cases (R : HRep g ρ H h) {x y : W} {b : Bool} {vx vy : V} (r1 : Rep g ρ H x vx) (r2 : Rep g ρ H y vy) (e : inW x y h = some b) :
    (∃ (c : Nat) (z : Str), vx = .str ⟨#[c]⟩ ∧ vy = .str z ∧ b = decide (c ∈ z.cps.toList)) ∨
    (∃ p xs, vy = .ref p ∧ (SqL g.K H p xs ∨ SqT g.K H p xs) ∧ flatV vx = true ∧ xs.all flatV = true ∧ b = inV vx xs) ∨
    (∃ a kvs k, vy = .ref a ∧ DRep g ρ H a kvs ∧ toK 8 x = some k ∧ oneSort k kvs = true ∧ b = (aget k kvs).isSome) := by
  unfold inW at e
  split at e
  · cases r2.strI
    split at e
    · cases r1.strI
      split at e
      · rename_i z a c q
        cases e
        rw [str1 q]
        exact .inl ⟨_, _, rfl, rfl, rfl⟩
      · cases e
    · cases e
  · obtain ⟨p, xs, rfl, sq, q⟩ := r2.tupI
    split at e
    · rename_i ws f
      simp only [Bool.and_eq_true] at f
      cases e
      exact .inr (.inl ⟨p, xs, rfl, .inr sq, r1.flat f.1, q.flat f.2, any_eq q r1 f.2 f.1⟩)
    · cases e
  · obtain ⟨a, rfl, ea⟩ := r2.refI
    split at e
    · rename_i n ws q
      obtain ⟨xs, hx, q1⟩ := R.lst ea q
      split at e
      · rename_i f
        simp only [Bool.and_eq_true] at f
        cases e
        exact .inr (.inl ⟨a, xs, rfl, .inl (SqL.of hx), r1.flat f.1, q1.flat f.2, any_eq q1 r1 f.2 f.1⟩)
      · cases e
    · rename_i n kvs q
      have d : DRep g ρ H a kvs := R.at ea q
      split at e
      · rename_i k hk
        split at e
        · rename_i o
          cases e
          exact .inr (.inr ⟨a, kvs, k, rfl, d, hk, o, rfl⟩)
        · cases e
      · cases e
    · cases e
  · cases e
theorem op_inW (c : X.K = g.K) (cP : X.prog = g.P) (cw : X.w = g.w) (hu : X.A.units + 16 < cLine) : OpR X (compareOp .In) (tO2 g (cmpW .In)) := by
  intro pins s σ H x y v u Q I rx ry t
  obtain ⟨ρ, hh, wx, wy, r1, r2, R, run⟩ := t
  obtain ⟨b, e, q⟩ := obl_run R (show Run g ρ H (obl (inW wx wy hh) false hh) _ _ from run)
  rcases inW_cases R r1 r2 e with ⟨c, z, rfl, rfl, rfl⟩ | ⟨p, xs, rfl, sq, f1, f2, rfl⟩ | ⟨a, kvs, k, rfl, d, hk, o, rfl⟩
  · exact op_in_sign pins s σ H _ _ v u Q I rx ry ⟨_, _, rfl, rfl, q⟩
  · exact op_in_seq pins s σ H _ _ v u Q I rx ry ⟨p, xs, rfl, by rw [c]; exact sq, f1, f2, q⟩
  · cases ry
    exact wd_in c cP cw hu I d hk r1 rx o fun s' I' => ⟨.bl _, H, I', rfl, q⟩
theorem op_notInW (c : X.K = g.K) (cP : X.prog = g.P) (cw : X.w = g.w) (hu : X.A.units + 16 < cLine) : OpR X (compareOp .NotIn) (tO2 g (cmpW .NotIn)) := by
  intro pins s σ H x y v u Q I rx ry t
  obtain ⟨ρ, hh, wx, wy, r1, r2, R, run⟩ := t
  obtain ⟨b, e, q⟩ := obl_run R (show Run g ρ H (obl (inW wx wy hh) true hh) _ _ from run)
  rcases inW_cases R r1 r2 e with ⟨c, z, rfl, rfl, rfl⟩ | ⟨p, xs, rfl, sq, f1, f2, rfl⟩ | ⟨a, kvs, k, rfl, d, hk, o, rfl⟩
  · exact op_notIn_sign pins s σ H _ _ v u Q I rx ry ⟨_, _, rfl, rfl, q⟩
  · exact op_notIn_seq pins s σ H _ _ v u Q I rx ry ⟨p, xs, rfl, by rw [c]; exact sq, f1, f2, q⟩
  · cases ry
    exact wd_notIn c cP cw hu I d hk r1 rx o fun s' I' => ⟨.bl _, H, I', rfl, q⟩
theorem op_cmp (c : X.K = g.K) (cP : X.prog = g.P) (cw : X.w = g.w) (hu : X.A.units + 64 < cLine) : ∀ o : CmpOp, OpR X (compareOp o) (tO2 g (cmpW o))
  | .Eq => op_eqW c hu
  | .NotEq => op_neW c hu
  | .Lt => op_ltW
  | .LtE => op_leW
  | .Gt => op_gtW
  | .GtE => op_geW
  | .Is => op_isW
  | .IsNot => op_isNotW
  | .In => op_inW c cP cw (by omega)
  | .NotIn => op_notInW c cP cw (by omega)

/-! ### truth -/
theorem Reps.empty : ∀ {ws : List W} {xs : List V}, Reps g ρ H ws xs → xs.isEmpty = ws.isEmpty
  | [], xs, r => by rw [Reps] at r; subst r; rfl
  | w :: ws, xs, r => by
    rw [Reps] at r
    obtain ⟨x, xr, rfl, r1, r2⟩ := r
    rfl
theorem truW_cases (R : HRep g ρ H h) {x : W} {v : V} {K : KK Bool} {E : EK} (r : Rep g ρ H x v) (run : Run g ρ H (truW x h) K E) : ∃ k, TruV g.K v H k ∧ K k h ρ H := by
  unfold truW at run
  split at run
  · cases r.blI; exact ⟨_, rfl, run.ok R⟩
  · cases r.nonI; exact ⟨_, rfl, run.ok R⟩
  · cases r.intI; exact ⟨_, rfl, run.ok R⟩
  · obtain ⟨p, xs, rfl, sq, q⟩ := r.tupI
    exact ⟨_, .inr (.inl ⟨xs, sq, rfl⟩), by rw [q.empty]; exact run.ok R⟩
  · obtain ⟨a, rfl, ea⟩ := r.refI
    split at run
    · rename_i n ws q
      obtain ⟨xs, hx, q1⟩ := R.lst ea q
      exact ⟨_, .inl ⟨xs, SqL.of hx, rfl⟩, by rw [q1.empty]; exact run.ok R⟩
    · exact run.elim
  · exact run.elim

/-! ### subscripts -/
theorem _root_.L2.IxR.imp {r r' : R2} (k : IxR X r) (i : ∀ x y H Q, r' x y H Q → r x y H Q) : IxR X r' := fun value slice pins s σ H x y v u Q I rx ry q hs => k value slice pins s σ H x y v u Q I rx ry (i x y H Q q) hs
theorem DSide.typeIs {a : Addr} {kvs : List (NestedKey × W)} {k : NestedKey} {u : Value} (x : DSide g ρ H s a kvs k u) : s.TypeIs (.ref a) "dict" := by
  cases x with
  | lf l ls us hk hu hl kv d p => exact d.typeIs
  | tp b xs us hu hi hr hd hf hl kv d p => exact d.typeIs
theorem ix_subW (c : X.K = g.K) (cP : X.prog = g.P) (cw : X.w = g.w) (hu : X.A.units + 16 < cLine) : IxR X (tO2 g subW) := by
  intro value slice pins s σ H x y v u Q I rx ry t hs
  obtain ⟨ρ, hh, wx, wy, r1, r2, R, run⟩ := t
  unfold subW at run
  split at run
  · obtain ⟨p, xs, rfl, sq, q⟩ := r1.tupI
    split at run
    · cases r2.intI
      split at run
      · rename_i w e
        obtain ⟨z, e1, e2⟩ := q.at e
        exact ix_tup value slice pins s σ H _ _ v u Q I rx ry ⟨p, xs, _, z, rfl, rfl, by rw [c]; exact sq, e1, run.ok R _ e2⟩ hs
      · exact run.elim
    · exact run.elim
  · obtain ⟨p, xs, rfl, sq, q⟩ := r1.flsI
    split at run
    · cases r2.intI
      split at run
      · rename_i w e
        obtain ⟨z, e1, e2⟩ := q.at e
        exact ix_list value slice pins s σ H _ _ v u Q I rx ry ⟨p, xs, _, z, rfl, rfl, by rw [c]; exact sq.sq, e1, run.ok R _ e2⟩ hs
      · exact run.elim
    · exact run.elim
  · cases r1.strI
    split at run
    · cases r2.intI
      unfold okIf at run
      split at run
      · rename_i hl
        split at run
        · rename_i ch e
          exact ix_str value slice pins s σ H _ _ v u Q I rx ry ⟨_, _, ch, rfl, rfl, by rw [← line_eq]; exact of_decide_eq_true hl, e, run.ok R _ Rep.mkStr⟩ hs
        · exact run.elim
      · exact run.elim
    · exact run.elim
  · obtain ⟨a, rfl, ea⟩ := r1.refI
    split at run
    · rename_i n ws q
      obtain ⟨xs, hx, q1⟩ := R.lst ea q
      split at run
      · cases r2.intI
        split at run
        · rename_i w e
          obtain ⟨z, e1, e2⟩ := q1.at e
          exact ix_list value slice pins s σ H _ _ v u Q I rx ry ⟨a, xs, _, z, rfl, rfl, SqL.of hx, e1, run.ok R _ e2⟩ hs
        · exact run.elim
      · exact run.elim
    · rename_i n kvs q
      have d : DRep g ρ H a kvs := R.at ea q
      split at run
      · rename_i k hk
        split at run
        · rename_i o
          split at run
          · rename_i w e
            cases rx
            obtain ⟨_, ds⟩ := dside c cP cw I d hk r2 ry o
            exact PyProof.Rows.tail_any ds.typeIs PySem.F.slot_dict_getitem.lookup (wd_get c cP cw hu I d hk r2 ry o e fun r s' v' I' rv rr => ⟨v', H, I', rr, run.ok R _ rv⟩) hs
          · exact run.elim
        · exact run.elim
      · exact run.elim
    · exact run.elim
  · exact run.elim
theorem subW_noexc (x y : W) (h : HW) (z : XV) (h' : HW) : subW x y h ≠ .exc z h' := by
  intro e
  unfold subW okIf at e
  repeat' (first | (cases e; done) | split at e)

/-! ### slices -/
theorem sl_slcW (c : X.K = g.K) : SlR X (fun x lo hi H Q => ∃ ρ h w, Rep g ρ H w x ∧ HRep g ρ H h ∧ Run g ρ H (slcW w lo hi h) (fun w _ ρ' H' => ∀ v, Rep g ρ' H' w v → Q v H') (fun _ _ _ _ => False)) := by
  intro pins s σ H x v vl vu lo hi sl Q I rx hsl pl pu t
  obtain ⟨ρ, hh, w, r, R, run⟩ := t
  unfold slcW at run
  split at run
  · obtain ⟨p, xs, rfl, sq, q⟩ := r.tupI
    refine sl_tupA pins s σ H _ v vl vu lo hi sl Q I rx hsl pl pu ⟨p, xs, rfl, by rw [c]; exact sq, fun e => ?_, fun _ p' hp => ?_⟩
    · refine run.ok R _ (Rep.mkTup sq ?_)
      rename_i ws
      have e1 : cutL ws lo hi = ws := by
        unfold cutL
        rw [← q.length, e.1, e.2]
        simp [q.length]
      rw [e1]
      exact q
    · obtain ⟨k1, k2⟩ := new_tup run R (q.cut lo hi) hp
      exact k2 _ k1
  · obtain ⟨p, xs, rfl, sq, q⟩ := r.flsI
    refine sl_list pins s σ H _ v vl vu lo hi sl Q I rx hsl pl pu ⟨p, xs, rfl, by rw [c]; exact sq.sq, fun p' hp => ?_⟩
    obtain ⟨k1, k2⟩ := new_lst run R (q.cut lo hi) hp
    exact k2 _ k1
  · cases r.strI
    unfold okIf at run
    split at run
    · rename_i hl
      exact sl_str pins s σ H _ v vl vu lo hi sl Q I rx hsl pl pu ⟨_, rfl, by rw [← line_eq]; exact of_decide_eq_true hl, run.ok R _ Rep.mkStr⟩
    · exact run.elim
  · obtain ⟨a, rfl, ea⟩ := r.refI
    split at run
    · rename_i n ws q
      obtain ⟨xs, hx, q1⟩ := R.lst ea q
      refine sl_list pins s σ H _ v vl vu lo hi sl Q I rx hsl pl pu ⟨a, xs, rfl, SqL.of hx, fun p' hp => ?_⟩
      obtain ⟨k1, k2⟩ := new_lst run R (q1.cut lo hi) hp
      exact k2 _ k1
    · exact run.elim
  · exact run.elim
theorem slcW_noexc (x : W) (lo hi : Option Int) (h : HW) (z : XV) (h' : HW) : slcW x lo hi h ≠ .exc z h' := by
  intro e
  unfold slcW okIf new at e
  repeat' (first | (cases e; done) | split at e)

/-! ### built-in functions -/
def tOs (g : Gm) (d : List W → HW → Out W) : List V → Hp → VK → Prop := fun xs H Q => ∃ ρ h ws, Reps g ρ H ws xs ∧ HRep g ρ H h ∧
  Run g ρ H (d ws h) (fun w _ ρ' H' => ∀ v, Rep g ρ' H' w v → Q v H') (fun _ _ _ _ => False)
theorem Reps.one {w : W} {xs : List V} (r : Reps g ρ H [w] xs) : ∃ x, xs = [x] ∧ Rep g ρ H w x := by
  rw [Reps] at r
  obtain ⟨x, xr, rfl, r1, r2⟩ := r
  rw [Reps] at r2
  subst r2
  exact ⟨x, rfl, r1⟩
theorem Reps.two {w u : W} {xs : List V} (r : Reps g ρ H [w, u] xs) : ∃ x y, xs = [x, y] ∧ Rep g ρ H w x ∧ Rep g ρ H u y := by
  rw [Reps] at r
  obtain ⟨x, xr, rfl, r1, r2⟩ := r
  obtain ⟨y, rfl, r3⟩ := r2.one
  exact ⟨x, y, rfl, r1, r3⟩
theorem itemsW_cases (R : HRep g ρ H h) {x : W} {v : V} {ws : List W} (r : Rep g ρ H x v) (e : itemsW x h = some ws) : ∃ p xs, v = .ref p ∧ (SqL g.K H p xs ∨ SqT g.K H p xs) ∧ Reps g ρ H ws xs := by
  unfold itemsW at e
  split at e
  · obtain ⟨p, xs, rfl, sq, q⟩ := r.tupI
    cases e
    exact ⟨p, xs, rfl, .inr sq, q⟩
  · obtain ⟨p, xs, rfl, sq, q⟩ := r.flsI
    cases e
    exact ⟨p, xs, rfl, .inl sq.sq, q⟩
  · obtain ⟨a, rfl, ea⟩ := r.refI
    split at e
    · rename_i n us q
      obtain ⟨xs, hx, q1⟩ := R.lst ea q
      cases e
      exact ⟨a, xs, rfl, .inl (SqL.of hx), q1⟩
    · cases e
  · cases e
theorem cr_int : CallR X (.type "int") (tOs g (bltW .int)) := by
  intro pins s σ H xs us Q I rv t
  obtain ⟨ρ, hh, ws, r, R, run⟩ := t
  simp only [bltW] at run
  split at run
  · obtain ⟨x, rfl, r1⟩ := r.one
    cases r1.intI
    exact call_int1 pins s σ H _ us Q I rv (.inl ⟨_, rfl, run.ok R _ Rep.mkInt⟩)
  · obtain ⟨x, rfl, r1⟩ := r.one
    cases r1.blI
    exact call_int1 pins s σ H _ us Q I rv (.inr ⟨_, rfl, run.ok R _ Rep.mkInt⟩)
  · exact run.elim
theorem cr_list (c : X.K = g.K) : CallR X (.type "list") (tOs g (bltW .list)) := by
  intro pins s σ H xs us Q I rv t
  obtain ⟨ρ, hh, ws, r, R, run⟩ := t
  simp only [bltW] at run
  split at run
  · obtain ⟨x, rfl, r1⟩ := r.one
    split at run
    · rename_i y ws e
      obtain ⟨p, xs, rfl, sq, q⟩ := itemsW_cases R r1 e
      refine call_list_of pins s σ H _ us Q I rv ⟨p, xs, rfl, by rw [c]; exact sq, fun l hl => ?_⟩
      obtain ⟨k1, k2⟩ := new_lst run R q hl
      exact k2 _ k1
    · exact run.elim
  · exact run.elim
theorem cr_tuple (c : X.K = g.K) : CallR X (.type "tuple") (tOs g (bltW .tuple)) := by
  intro pins s σ H xs us Q I rv t
  obtain ⟨ρ, hh, ws, r, R, run⟩ := t
  simp only [bltW] at run
  split at run
  · obtain ⟨x, rfl, r1⟩ := r.one
    split at run
    · rename_i y ws e
      obtain ⟨p, xs, rfl, sq, q⟩ := itemsW_cases R r1 e
      refine call_tuple_of pins s σ H _ us Q I rv ⟨p, xs, rfl, ?_⟩
      rcases sq with sq | sq
      · refine .inl ⟨by rw [c]; exact sq, fun l hl => ?_⟩
        obtain ⟨k1, k2⟩ := new_tup run R q hl
        exact k2 _ k1
      · exact .inr ⟨by rw [c]; exact sq, run.ok R _ (Rep.mkTup sq q)⟩
    · exact run.elim
  · exact run.elim
theorem cr_len (c : X.K = g.K) (cP : X.prog = g.P) (cw : X.w = g.w) : CallR X (.builtin "len") (tOs g (bltW .len)) := by
  intro pins s σ H xs us Q I rv t
  obtain ⟨ρ, hh, ws, r, R, run⟩ := t
  simp only [bltW] at run
  split at run
  · obtain ⟨x, rfl, r1⟩ := r.one
    split at run
    · rename_i y n e
      have q := run.ok R _ Rep.mkInt
      unfold lenW at e
      split at e
      · obtain ⟨p, xs, rfl, sq, rs⟩ := r1.tupI
        cases e
        exact call_len pins s σ H _ us Q I rv ⟨_, _, rfl, .inr ⟨xs, by rw [c]; exact sq, rs.length.symm⟩, q⟩
      · obtain ⟨p, xs, rfl, sq, rs⟩ := r1.flsI
        cases e
        exact call_len pins s σ H _ us Q I rv ⟨_, _, rfl, .inl ⟨xs, by rw [c]; exact sq.sq, rs.length.symm⟩, q⟩
      · cases r1.strI
        split at e
        · rename_i hl
          cases e
          exact call_len pins s σ H _ us Q I rv ⟨_, _, rfl, ⟨by rw [← line_eq]; exact hl, rfl⟩, q⟩
        · cases e
      · obtain ⟨a, rfl, ea⟩ := r1.refI
        split at e
        · rename_i m ws q1
          obtain ⟨xs, hx, q2⟩ := R.lst ea q1
          cases e
          exact call_len pins s σ H _ us Q I rv ⟨_, _, rfl, .inl ⟨xs, SqL.of hx, q2.length.symm⟩, q⟩
        · rename_i m kvs q1
          have d : DRep g ρ H a kvs := R.at ea q1
          cases e
          have hok := I.hok
          rw [cP, cw] at hok
          obtain ⟨u, rfl, ru⟩ := vals1 rv
          cases ru
          rw [cP, cw]
          rcases d with ⟨ls, e, p⟩ | ⟨ys, e, p⟩
          · obtain ⟨h1, h2, us, h3, h4⟩ := ld_at hok e
            have e1 : us.length = kvs.length := by rw [← h3.length]; exact (Paired.length p).symm
            rw [sizeLine_eq] at h2
            refine call_len_dict h1 h4 (by rw [← h3.length]; omega) ?_
            rw [e1]
            exact ⟨.int (kvs.length : Int), H, I.tok _, ⟨_, rfl⟩, q⟩
          · obtain ⟨h1, h2, us, h3, h4⟩ := td_h c cP cw I e p
            have e1 : us.length = kvs.length := by rw [← Paired.length h3]; exact (Paired.length p).symm
            have e2 := Paired.length h3
            rw [sizeLine_eq] at h2
            refine call_len_dictH h1 h4 (by omega) ?_
            rw [e1]
            exact ⟨.int (kvs.length : Int), H, I.tok _, ⟨_, rfl⟩, q⟩
        · cases e
      · cases e
    · exact run.elim
  · exact run.elim
end
end MP

set_option maxHeartbeats 4000000
/-! MP8: isinstance, methods of built-in types, what is known of own classes. -/
namespace MP
open PySem L2
/-- what the head tells of an own class that is no exception -/
structure CFact (g : Gm) (c : Nat) (d : CDef) : Prop where
  cl : Cls g.K (g.ca c)
  ha : PySem.W.findIn g.K (.ref (g.ca c)) "__class__" = some (some (.builtin "object.__class__"))
  hn : PySem.W.specialIn g.K (.builtin "object.__class__") "__get__" = some (some (.builtin "getset_descriptor.__get__"))
  htk : PySem.W.takesIn g.K (.builtin "object.__class__") = some true
  hm : PySem.W.mroIn g.K (g.ca c) (.type "object") = some true
  made : ∀ f, d.init = some f → Mk g.K (g.ca c) (g.fa f)
  meth : ∀ m f, d.meths.lookup m = some f → Meth g.K (g.ca c) m (g.fa f)
  noattr : ∀ f, d.flds.contains f = true → NoAttr g.K (g.ca c) f
  kit : ∀ n, bnames.contains n = true → PySem.W.kitOne g.K (.ref (g.ca c)) (.type n) = some false
/-- what an exception's own __init__ does: a field for each argument -/
def spX (C : Addr) (ns : List Str) : Sp := fun vs H Q _ => ∃ a ys, vs = .ref a :: ys ∧ ys.length = ns.length ∧ H a = some (exo a C none) ∧
  ∀ d, H d = none → d ≠ a → Q .non (upd (upd H d (exd d (ns.zip ys).reverse)) a (exo a C (some d)))
/-- an own exception class, its fields -/
structure XFact (g : Gm) (c : Nat) (ns : List Str) : Prop where
  xf : XfC g.K (g.ca c)
  ex : ExcC g.K (g.ca c)
  ty : PySem.W.typeIn g.K (.ref (g.ca c)) = some (.type "type")
  kp : PySem.W.keepIn g.K (.ref (g.ca c)) = true
  nof : ∀ f, ns.contains f = true → PySem.W.findIn g.K (.ref (g.ca c)) f = some none
  nd : ns.Nodup
  pln : ns = [] → PySem.W.excIn g.K (g.ca c) [.type "ValueError", .type "Exception", .type "BaseException", .type "object"] "ValueError.__new__" = true
  ini : ns ≠ [] → OexC g.K (g.ca c) ∧ ∃ (fI : Addr) (fd : FuncData) (ps : List Str), PySem.W.findIn g.K (.ref (g.ca c)) "__init__" = some (some (.ref fI)) ∧ PySem.W.typeIn g.K (.ref fI) = some (.type "function") ∧ Binds g.K fd ps [] ∧
    FnOk g.P g.w g.K g.mg g.base (L2.CX g.P g.w) 1 fI fd ps (spX (g.ca c) ns)
structure CFacts (g : Gm) (cd : Nat → Option CDef) : Prop where
  own : ∀ c d, cd c = some d → d.exf = none → CFact g c d
  kitB : ∀ c d, cd c = some d → ∀ m, tnames.contains m = true → PySem.W.kitOne g.K (.type m) (.ref (g.ca c)) = some false
  exc : ∀ c d ns, cd c = some d → d.exf = some ns → XFact g c ns
  exm : ∀ c d c' d', cd c = some d → d.exf ≠ none → cd c' = some d' → d'.exf ≠ none → PySem.W.subIn g.K (.ref (g.ca c)) (.ref (g.ca c')) = some (isSub cd c c')
  kitX : ∀ c d c' d', cd c = some d → d.exf ≠ none → cd c' = some d' → PySem.W.kitOne g.K (.ref (g.ca c)) (.ref (g.ca c')) = some (isSub cd c c')
  kitV : ∀ c d, cd c = some d → d.exf ≠ none → PySem.W.kitOne g.K (.ref (g.ca c)) (.type "ValueError") = some true
  kitO : ∀ c d c' d', cd c = some d → d.exf = none → cd c' = some d' → PySem.W.kitOne g.K (.ref (g.ca c)) (.ref (g.ca c')) = some (c' == c)
def tyVal (g : Gm) : Ty → Value
  | .t n => .type n
  | .c i => .ref (g.ca i)
section
variable {g : Gm} {X : Cx} {ρ : List Addr} {H : Hp} {h : HW} {pins : List (Addr × Obj)} {σ : St} {s : Shared} {cd : Nat → Option CDef}
theorem kitB_all : ∀ m ∈ tnames, ∀ n ∈ bnames, kitB m n = some (m == n || (m == "bool" && n == "int")) := by decide +kernel
theorem tyW_names {w : W} {m : String} (e : tyW w h = some (.t m)) : tnames.contains m = true := by
  unfold tyW at e
  split at e <;> first | (cases e; rfl) | (split at e <;> first | (cases e; rfl) | cases e) | cases e
theorem ty_kit (c : X.K = g.K) (cP : X.prog = g.P) (cw : X.w = g.w) (F : CFacts g cd) (R : HRep g ρ H h) (I : Inv X pins σ H s) {w : W} {v : V} {u : Value} {t : Ty} (r : Rep g ρ H w v) (q : RelV v u) (e : tyW w h = some t) (kn : ∀ i, t = .c i → ∃ d, cd i = some d ∧ d.exf = none) :
    ∃ P : Heap → Prop, PySem.W.KitX X.K u (tyVal g t) P ∧ P s.heap ∧ u ≠ .builtin "__main__.__loader__#opaque" := by
  unfold tyW at e
  split at e
  · cases r.nonI; cases e; exact kit_of I q (.base .non)
  · cases r.blI; cases e; exact kit_of I q (.base (.bl _))
  · cases r.intI; cases e; exact kit_of I q (.base (.int _))
  · cases r.strI; cases e; exact kit_of I q (.base (.str _))
  · obtain ⟨a, xs, rfl, sq, _⟩ := r.tupI
    cases e
    rcases sq with (sq | ⟨o, sq⟩) | ⟨o, its, n, h1, h2, _⟩
    · exact kit_of I q (.base (.tup sq))
    · exact kit_of I q (.fTuple sq)
    · exact kit_of I q (.kTuple (by rw [c]; exact h1) h2)
  · obtain ⟨a, xs, rfl, sq, _⟩ := r.flsI
    cases e
    rcases sq with ⟨o, sq⟩ | ⟨o, its, n, h1, h2, _⟩
    · exact kit_of I q (.base (.frz sq))
    · exact kit_of I q (.kList (by rw [c]; exact h1) h2)
  · obtain ⟨a, rfl, ea⟩ := r.refI
    split at e
    · rename_i n ws q1
      obtain ⟨xs, hx, _⟩ := R.lst ea q1
      cases e
      exact kit_of I q (.base (.lst hx))
    · rename_i n kvs q1
      have d : DRep g ρ H a kvs := R.at ea q1
      cases e
      cases q
      have hok := I.hok
      rw [cP, cw] at hok
      have ho : ∃ o, s.heap.get? a = some o ∧ o.cls = .type "dict" := by
        rcases d with ⟨ls, e, p⟩ | ⟨ys, e, p⟩
        · obtain ⟨_, _, us, _, o, es, ep, g1, g2, _⟩ := ld_at hok e
          exact ⟨o, g1, g2.1⟩
        · obtain ⟨_, _, us, _, o, es, ep, g1, g2, _⟩ := td_at hok e
          exact ⟨o, g1, g2.1⟩
      obtain ⟨o, g1, g2⟩ := ho
      exact ⟨_, PySem.W.kitx_dict, ⟨o, g1, g2⟩, fun z => nomatch z⟩
    · rename_i n ci fs q1
      obtain ⟨dx, fs', hx, _, _⟩ := (show ORep g ρ H a (.ins ci fs) from R.at ea q1)
      cases e
      obtain ⟨d, hd1, hd2⟩ := kn ci rfl
      have CF := F.own ci d hd1 hd2
      exact kit_of I q (.base (.ins hx (by rw [c]; exact CF.cl) (by rw [c]; exact CF.ha) (by rw [c]; exact CF.hn) (by rw [c]; exact CF.htk) (by rw [c]; exact CF.hm)))
    · cases e
  · cases e
theorem ownC_of {i : Nat} (o : ownC cd i = true) : ∃ d, cd i = some d ∧ d.exf = none := by
  unfold ownC at o
  split at o
  · rename_i d e
    exact ⟨d, e, by simpa using o⟩
  · cases o
theorem kit_isi (F : CFacts g cd) {w k : W} {vk : V} {t : Ty} {b : Bool} (et : tyW w h = some t) (rk : Rep g ρ H k vk) (e : isiTy cd t k = some b) :
    (∀ i, t = .c i → ∃ d, cd i = some d ∧ d.exf = none) ∧ ∃ uk, PySem.W.kitOne g.K (tyVal g t) uk = some b ∧ ∀ u, RelV vk u → u = uk := by
  unfold isiTy at e
  split at e
  · rw [Rep] at rk
    subst rk
    split at e
    · rename_i n hn
      refine ⟨?_, .type n, ?_, fun u z => z⟩
      · intro i hi
        subst hi
        split at e
        · cases ‹Ty.c i = Ty.t _›
        · rename_i j q
          cases q
          split at e
          · exact ownC_of ‹_›
          · cases e
      · split at e
        · rename_i m
          cases e
          have h1 := tyW_names et
          exact kit_ty (kitB_all m (List.contains_iff_mem.mp h1) n (List.contains_iff_mem.mp hn))
        · split at e
          · rename_i j o
            cases e
            obtain ⟨d, h1, h2⟩ := ownC_of o
            exact (F.own j d h1 h2).kit n hn
          · cases e
    · cases e
  · rw [Rep] at rk
    subst rk
    split at e
    · rename_i i hi
      obtain ⟨di, hdi⟩ := Option.isSome_iff_exists.mp hi
      refine ⟨?_, .ref (g.ca i), ?_, fun u z => z⟩
      · intro j hj
        subst hj
        split at e
        · cases ‹Ty.c j = Ty.t _›
        · rename_i j' q
          cases q
          split at e
          · exact ownC_of ‹_›
          · cases e
      · split at e
        · rename_i m
          cases e
          exact F.kitB i di hdi m (tyW_names et)
        · split at e
          · rename_i j o
            cases e
            obtain ⟨d, h1, h2⟩ := ownC_of o
            exact F.kitO j d i di h1 h2 hdi
          · cases e
    · cases e
  · cases e
theorem cr_isi (c : X.K = g.K) (cP : X.prog = g.P) (cw : X.w = g.w) (F : CFacts g cd) : CallR X (.builtin "isinstance") (tOs g fun ws h => match ws with | [x, k] => isiW cd x k h | _ => .bad) := by
  intro pins s σ H xs us Q I rv t
  obtain ⟨ρ, hh, ws, r, R, run⟩ := t
  dsimp only at run
  split at run
  · obtain ⟨x, y, rfl, r1, r2⟩ := r.two
    obtain ⟨u, w', rfl, ru, rw'⟩ := vals2 rv
    unfold isiW at run
    split at run
    · rename_i t et
      split at run
      · rename_i b eb
        obtain ⟨kn, uk, ek, hk⟩ := kit_isi F et r2 eb
        obtain ⟨P, kx, p, ne⟩ := ty_kit c cP cw F R I r1 ru et kn
        cases hk _ rw'
        exact PySem.W.kia_one kx I.kIn p (by rw [c]; exact ek) ne fun tk => ⟨.bl b, H, I.tok _, rfl, run.ok R _ Rep.mkBl⟩
      · exact run.elim
    · exact run.elim
  · exact run.elim
theorem isiW_noexc (x y : W) (h : HW) (z : XV) (h' : HW) : isiW cd x y h ≠ .exc z h' := by
  intro e
  unfold isiW at e
  repeat' (first | (cases e; done) | split at e)

/-! ### methods of lists and texts -/
def tOm (g : Gm) (d : W → List W → HW → Out W) : V → List V → Hp → VK → Prop := fun x xs H Q => ∃ ρ h w ws, Rep g ρ H w x ∧ Reps g ρ H ws xs ∧ HRep g ρ H h ∧
  Run g ρ H (d w ws h) (fun w _ ρ' H' => ∀ v, Rep g ρ' H' w v → Q v H') (fun _ _ _ _ => False)
theorem HRep.setL {n : Nat} {a : Addr} {ws us : List W} {ys : List V} (R : HRep g ρ H h) (ea : ρ[n]? = some a) (q : h[n]? = some (.lst ws)) (r : Reps g ρ H us ys) : Ext g ρ ρ H (upd H a (.lst ys)) ∧ HRep g ρ (upd H a (.lst ys)) (h.set n (.lst us)) := by
  obtain ⟨xs, hx, _⟩ := R.lst ea q
  have E : Ext g ρ ρ H (upd H a (.lst ys)) := Ext.write (List.mem_of_getElem? ea) hx True.intro
  exact ⟨E, R.write ea hx True.intro ⟨ys, upd_same, r.ext E⟩⟩
theorem mm_append : MtM X "list.append" (tOm g (metW .append)) := by
  intro pins s σ H x xs v us Q I rx rv t
  obtain ⟨ρ, hh, w, ws, r1, r2, R, run⟩ := t
  simp only [metW] at run
  split at run
  · obtain ⟨a, rfl, ea⟩ := r1.refI
    obtain ⟨y, rfl, ry⟩ := r2.one
    split at run
    · rename_i n w' _ zs q
      obtain ⟨ys, hx, q1⟩ := R.lst ea q
      unfold okIf at run
      split at run
      · rename_i hl
        obtain ⟨E, R'⟩ := R.setL ea q (q1.append (Reps.cons ry Reps.nil))
        exact mt_append pins s σ H _ _ v us Q I rx rv ⟨a, ys, y, rfl, rfl, hx, by rw [q1.length, ← line_eq]; exact of_decide_eq_true hl, run ρ _ E R' _ Rep.mkNon⟩
      · exact run.elim
    · exact run.elim
  · exact run.elim
theorem mm_extend : MtM X "list.extend" (tOm g (metW .extend)) := by
  intro pins s σ H x xs v us Q I rx rv t
  obtain ⟨ρ, hh, w, ws, r1, r2, R, run⟩ := t
  simp only [metW] at run
  split at run
  · obtain ⟨a, rfl, ea⟩ := r1.refI
    obtain ⟨y, rfl, ry⟩ := r2.one
    obtain ⟨b, rfl, eb⟩ := ry.refI
    split at run
    · rename_i n m zs1 zs2 q q'
      obtain ⟨ys, hx, q1⟩ := R.lst ea q
      obtain ⟨zs, hz, q2⟩ := R.lst eb q'
      unfold okIf at run
      split at run
      · rename_i hl
        obtain ⟨E, R'⟩ := R.setL ea q (q1.append q2)
        exact mt_extend pins s σ H _ _ v us Q I rx rv ⟨a, b, ys, zs, rfl, rfl, hx, hz, by rw [q1.length, q2.length, ← line_eq]; exact of_decide_eq_true hl, run ρ _ E R' _ Rep.mkNon⟩
      · exact run.elim
    · exact run.elim
  · exact run.elim
theorem mm_insert : MtR X "list.insert" (tOm g (metW .insert)) := by
  intro pins s σ H x xs v us Q I rx rv t
  obtain ⟨ρ, hh, w, ws, r1, r2, R, run⟩ := t
  simp only [metW] at run
  split at run
  · obtain ⟨a, rfl, ea⟩ := r1.refI
    obtain ⟨y, z, rfl, ry, rz⟩ := r2.two
    cases ry.intI
    split at run
    · rename_i n i w' _ zs q
      obtain ⟨ys, hx, q1⟩ := R.lst ea q
      unfold okIf at run
      split at run
      · rename_i hl
        have hl' := of_decide_eq_true hl
        obtain ⟨E, R'⟩ := R.setL ea q (((q1.take i.toNat).append (Reps.cons rz Reps.nil)).append (q1.drop i.toNat))
        exact mt_insert pins s σ H _ _ v us Q I rx rv ⟨a, ys, i, z, rfl, rfl, hx, by rw [q1.length, ← line_eq]; exact hl'.1, hl'.2.1, hl'.2.2, run ρ _ E R' _ Rep.mkNon⟩
      · exact run.elim
    · exact run.elim
  · exact run.elim
theorem Reps.dropLast {ws : List W} {xs : List V} (r : Reps g ρ H ws xs) : Reps g ρ H ws.dropLast xs.dropLast := by
  rw [List.dropLast_eq_take, List.dropLast_eq_take, r.length]
  exact r.take _
theorem Reps.eraseIdx {ws : List W} {xs : List V} (k : Nat) (r : Reps g ρ H ws xs) : Reps g ρ H (ws.eraseIdx k) (xs.eraseIdx k) := by
  rw [List.eraseIdx_eq_take_drop_succ, List.eraseIdx_eq_take_drop_succ]
  exact (r.take _).append (r.drop _)
theorem Reps.reverse : ∀ {ws : List W} {xs : List V}, Reps g ρ H ws xs → Reps g ρ H ws.reverse xs.reverse
  | [], xs, r => by rw [Reps] at r; subst r; exact Reps.nil
  | w :: ws, xs, r => by
    rw [Reps] at r
    obtain ⟨x, xr, rfl, r1, r2⟩ := r
    rw [List.reverse_cons, List.reverse_cons]
    exact (Reps.reverse r2).append (Reps.cons r1 Reps.nil)
theorem mm_pop0 : MtM X "list.pop" (tOm g (metW .pop0)) := by
  intro pins s σ H x xs v us Q I rx rv t
  obtain ⟨ρ, hh, w, ws, r1, r2, R, run⟩ := t
  simp only [metW] at run
  split at run
  · obtain ⟨a, rfl, ea⟩ := r1.refI
    rw [Reps] at r2
    subst r2
    split at run
    · rename_i n _ zs q
      obtain ⟨ys, hx, q1⟩ := R.lst ea q
      split at run
      · rename_i w' e
        obtain ⟨y, e1, e2⟩ := q1.get e
        obtain ⟨E, R'⟩ := R.setL ea q q1.dropLast
        exact mt_pop pins s σ H _ _ v us Q I rx rv ⟨a, ys, y, rfl, rfl, hx, by rw [q1.length]; exact e1, run ρ _ E R' _ (e2.ext E)⟩
      · exact run.elim
    · exact run.elim
  · exact run.elim
theorem mm_pop1 : MtM X "list.pop" (tOm g (metW .pop1)) := by
  intro pins s σ H x xs v us Q I rx rv t
  obtain ⟨ρ, hh, w, ws, r1, r2, R, run⟩ := t
  simp only [metW] at run
  split at run
  · obtain ⟨a, rfl, ea⟩ := r1.refI
    obtain ⟨y, rfl, ry⟩ := r2.one
    cases ry.intI
    split at run
    · rename_i n i _ zs q
      obtain ⟨ys, hx, q1⟩ := R.lst ea q
      split at run
      · rename_i k ek
        split at run
        · rename_i w' e
          obtain ⟨y, e1, e2⟩ := q1.get e
          obtain ⟨E, R'⟩ := R.setL ea q (q1.eraseIdx k)
          obtain ⟨s1, s2, s3, s4⟩ := ixN_seq ek
          have hn : ys.length ≤ sizeLine := by
            obtain ⟨z, _⟩ := (show ObjOk X.prog X.w H s.heap a (.lst ys) from I.hok a _ hx)
            exact z
          rw [sizeLine_eq] at hn
          have hl := q1.length
          exact mt_popAt pins s σ H _ _ v us Q I rx rv ⟨a, ys, i, k, y, rfl, rfl, hx, by omega, by omega, by rw [hl]; exact s1, e1, run ρ _ E R' _ (e2.ext E)⟩
        · exact run.elim
      · exact run.elim
    · exact run.elim
  · exact run.elim
theorem mm_reverse : MtM X "list.reverse" (tOm g (metW .reverse)) := by
  intro pins s σ H x xs v us Q I rx rv t
  obtain ⟨ρ, hh, w, ws, r1, r2, R, run⟩ := t
  simp only [metW] at run
  split at run
  · obtain ⟨a, rfl, ea⟩ := r1.refI
    rw [Reps] at r2
    subst r2
    split at run
    · rename_i n _ zs q
      obtain ⟨ys, hx, q1⟩ := R.lst ea q
      obtain ⟨E, R'⟩ := R.setL ea q q1.reverse
      exact mt_reverse pins s σ H _ _ v us Q I rx rv ⟨a, ys, rfl, rfl, hx, run ρ _ E R' _ Rep.mkNon⟩
    · exact run.elim
  · exact run.elim
theorem mm_find : MtR X "str.find" (tOm g (metW .find)) := by
  intro pins s σ H x xs v us Q I rx rv t
  obtain ⟨ρ, hh, w, ws, r1, r2, R, run⟩ := t
  simp only [metW] at run
  split at run
  · cases r1.strI
    obtain ⟨y, rfl, ry⟩ := r2.one
    cases ry.strI
    exact mt_find pins s σ H _ _ v us Q I rx rv ⟨_, _, rfl, rfl, run.ok R _ Rep.mkInt⟩
  · exact run.elim
theorem mm_startswith : MtR X "str.startswith" (tOm g (metW .startswith)) := by
  intro pins s σ H x xs v us Q I rx rv t
  obtain ⟨ρ, hh, w, ws, r1, r2, R, run⟩ := t
  simp only [metW] at run
  split at run
  · cases r1.strI
    obtain ⟨y, rfl, ry⟩ := r2.one
    cases ry.strI
    exact mt_startswith pins s σ H _ _ v us Q I rx rv ⟨_, _, rfl, rfl, run.ok R _ Rep.mkBl⟩
  · exact run.elim
theorem strs_of : ∀ {ws : List W} {xs : List V} {ys : List Str}, Reps g ρ H ws xs → strsOf ws = some ys → xs = ys.map V.str
  | [], xs, ys, r, e => by rw [Reps] at r; subst r; rw [strsOf] at e; cases e; rfl
  | w :: ws, xs, ys, r, e => by
    rw [Reps] at r
    obtain ⟨x, xr, rfl, r1, r2⟩ := r
    cases w with
    | str z =>
      rw [strsOf] at e
      obtain ⟨ys', e1, rfl⟩ := Option.map_eq_some_iff.mp e
      cases r1.strI
      rw [List.map_cons, ← strs_of r2 e1]
    | _ => simp [strsOf] at e
theorem Reps.strs : ∀ {ys : List Str}, Reps g ρ H (ys.map W.str) (ys.map V.str)
  | [] => Reps.nil
  | y :: ys => Reps.cons Rep.mkStr Reps.strs
theorem mm_join (c : X.K = g.K) : MtR X "str.join" (tOm g (metW .join)) := by
  intro pins s σ H x xs v us Q I rx rv t
  obtain ⟨ρ, hh, w, ws, r1, r2, R, run⟩ := t
  simp only [metW] at run
  split at run
  · cases r1.strI
    obtain ⟨y, rfl, ry⟩ := r2.one
    split at run
    · rename_i ys e
      obtain ⟨zs, e1, e2⟩ := Option.bind_eq_some_iff.mp e
      obtain ⟨p, xs, rfl, sq, q⟩ := itemsW_cases R ry e1
      have ex := strs_of q e2
      subst ex
      unfold okIf at run
      split at run
      · rename_i hl
        exact mt_join pins s σ H _ _ v us Q I rx rv ⟨_, p, ys, rfl, rfl, by rw [c]; exact sq, of_decide_eq_true hl, run.ok R _ Rep.mkStr⟩
      · exact run.elim
    · exact run.elim
  · exact run.elim
theorem mm_split : MtR X "str.split" (tOm g (metW .split1)) := by
  intro pins s σ H x xs v us Q I rx rv t
  obtain ⟨ρ, hh, w, ws, r1, r2, R, run⟩ := t
  simp only [metW] at run
  split at run
  · cases r1.strI
    obtain ⟨y, rfl, ry⟩ := r2.one
    cases ry.strI
    unfold okIf at run
    split at run
    · rename_i hl
      simp only [Bool.and_eq_true, decide_eq_true_eq] at hl
      refine mt_split pins s σ H _ _ v us Q I rx rv ⟨_, _, rfl, rfl, by simpa using hl.1, by rw [← line_eq]; exact hl.2, fun p hp => ?_⟩
      obtain ⟨k1, k2⟩ := new_lst run R Reps.strs hp
      exact k2 _ k1
    · exact run.elim
  · exact run.elim
theorem metW_noexc (m : Met) (x : W) (xs : List W) (h : HW) (z : XV) (h' : HW) : metW m x xs h ≠ .exc z h' := by
  intro e
  unfold metW okIf new at e
  repeat' (first | (cases e; done) | split at e)
end
end MP

set_option maxHeartbeats 4000000
/-! MP9: from the text to core syntax. -/
namespace MP
open PySem L2
/-- what the compiler knows of a def's place: slots, scope, the module's names; the name of the exception at hand; the lambdas' numbers by place -/
structure Sx where
  N : List Str
  sc : Scope
  funs : List Str
  clss : List Str
  cons : List (Str × W)
  xn : Option Str
  lams : List (Nat × Nat × Nat)
  hot : Bool
  top : Bool
def idxOf (x : Str) : List Str → Option Nat
  | [] => none
  | y :: r => if y = x then some 0 else (idxOf x r).map (· + 1)
theorem idxOf_get {x : Str} : ∀ {l : List Str} {i : Nat}, idxOf x l = some i → l[i]? = some x
  | [], i, e => by cases e
  | y :: r, i, e => by
    rw [idxOf] at e
    split at e
    · rename_i h
      cases e
      rw [h]
      rfl
    · obtain ⟨j, e1, rfl⟩ := Option.map_eq_some_iff.mp e
      simpa using idxOf_get e1
def isVis (sc : Scope) (x : Str) : Bool := match sc.names.lookup x with
  | some .local => true
  | some .cell => true
  | some .free => true
  | _ => false
def isLoc (sc : Scope) (x : Str) : Bool := match sc.names.lookup x with
  | some .local => true
  | _ => false
def isCell (sc : Scope) (x : Str) : Bool := match sc.names.lookup x with
  | some .cell => true
  | _ => false
/-- a name that may be stored -/
def isTg (s : Sx) (x : Str) : Bool := isLoc s.sc x || (s.top && isCell s.sc x)
def isGl (sc : Scope) (x : Str) : Bool := match sc.names.lookup x with
  | some .globalImplicit => true
  | _ => false
def okName (x : Str) : Bool := (x == ("__debug__" : Str)) == false && (x == ("__classdict__" : Str)) == false && (x == ("__name__" : Str)) == false
/-- built-in types as values -/
def tyName (x : Str) : Option String :=
  if x = ("bool" : Str) then some "bool" else if x = ("int" : Str) then some "int" else if x = ("str" : Str) then some "str" else
  if x = ("tuple" : Str) then some "tuple" else if x = ("list" : Str) then some "list" else if x = ("dict" : Str) then some "dict" else
  if x = ("ValueError" : Str) then some "ValueError" else none
def cName (s : Sx) (x : Str) : Option E :=
  if okName x then
    if isVis s.sc x then (idxOf x s.N).map E.var
    else if isGl s.sc x then
      match idxOf x s.funs with
      | some i => some (.con (.fn i))
      | none => match idxOf x s.clss with
        | some i => some (.con (.cls i))
        | none => match s.cons.lookup x with
          | some w => some (.con w)
          | none => (tyName x).map fun n => .con (.ty n)
    else none
  else none
def cConst : Const → Option W
  | .none => some .non
  | .bool b => some (.bl b)
  | .int i => some (.int i)
  | .str x => some (.str x)
  | _ => none
def isStar : Expr → Bool
  | .Starred .. => true
  | _ => false
def isSlice : Expr → Bool
  | .Slice .. => true
  | _ => false
def isSetE : Expr → Bool
  | .Set .. => true
  | _ => false
def isTupE : Expr → Bool
  | .Tuple .. => true
  | _ => false
def isComp : Expr → Bool
  | .ListComp .. | .SetComp .. | .DictComp .. => true
  | _ => false
/-- f(..) by name -/
def cCall (s : Sx) (x : Str) (as : Es) : Option E :=
  if okName x && !s.hot then
    if isVis s.sc x then (idxOf x s.N).map fun i => .callv i as
    else if isGl s.sc x then
      match idxOf x s.funs with
      | some i => some (.call i as)
      | none => match idxOf x s.clss with
        | some i => some (.make i as)
        | none =>
          if x = ("len" : Str) then some (.blt .len as) else if x = ("int" : Str) then some (.blt .int as) else
          if x = ("list" : Str) then some (.blt .list as) else if x = ("tuple" : Str) then some (.blt .tuple as) else none
    else none
  else none
def metOf (m : Str) (n : Nat) : Option Met :=
  if m = ("append" : Str) then some .append else if m = ("insert" : Str) then some .insert else if m = ("extend" : Str) then some .extend else
  if m = ("pop" : Str) then (if n = 0 then some .pop0 else some .pop1) else if m = ("reverse" : Str) then some .reverse else
  if m = ("find" : Str) then some .find else if m = ("startswith" : Str) then some .startswith else if m = ("join" : Str) then some .join else
  if m = ("split" : Str) then some .split1 else none
def noSuper (o : Expr) : Bool := match o with
  | .Call (.Name _ _) [] [] _ => false
  | _ => true
def cNames (s : Sx) : List Expr → Option (List Nat)
  | [] => some []
  | .Name x _ :: r => if okName x && isTg s x && s.xn != some x then (idxOf x s.N).bind fun i => (cNames s r).bind fun is => some (i :: is) else none
  | _ => none
def cTg (s : Sx) : Expr → Option Tg
  | .Name x _ => if okName x && isTg s x && s.xn != some x then (idxOf x s.N).map .nm else none
  | .Tuple es _ _ => if s.hot then none else (cNames s es).map .tp
  | _ => none
/-- the block's own names and their slots -/
def ownOf (N : List Str) (sc : Scope) : List (Str × Nat) := sc.names.filterMap fun p => match p.2 with
  | .local => (idxOf p.1 N).map fun i => (p.1, i)
  | .cell => (idxOf p.1 N).map fun i => (p.1, i)
  | _ => none
def tgIn (t : Tg) (is : List Nat) : Bool := match t with
  | .nm i => is.contains i
  | .tp js => js.all is.contains
def isXn (s : Sx) : Expr → Bool
  | .Name x _ => s.xn == some x && okName x
  | _ => false
/-- the pairs of a display, one after another -/
def weave : Es → Es → Option Es
  | .nil, .nil => some .nil
  | .cons k ks, .cons v vs => (weave ks vs).map fun r => .cons k (.cons v r)
  | _, _ => none
mutual
def cE (s : Sx) : Expr → Option E
  | .Starred _ _ => none
  | .Constant c _ _ => (cConst c).map .con
  | .Name x _ => if s.xn == some x then none else cName s x
  | .BinOp a o b _ => (cE s a).bind fun a' => (cE s b).bind fun b' => some (.bin o a' b')
  | .UnaryOp .USub a _ => (cE s a).bind fun a' => some (.neg a')
  | .UnaryOp .Not a _ => (cE s a).bind fun a' => some (.not a')
  | .BoolOp .And vs _ => cAnd s vs
  | .BoolOp .Or vs _ => cOr s vs
  | .Compare a [o] [b] _ => if isSetE b then none else (cE s a).bind fun a' => (cE s b).bind fun b' => some (.cmp o a' b')
  | .Compare a [o, p] [b, c] _ => if isSetE b || isSetE c then none else (cE s a).bind fun a' => (cE s b).bind fun b' => (cE s c).bind fun c' => some (.chain o p a' b' c')
  | .IfExp c a b _ => (cE s c).bind fun c' => (cE s a).bind fun a' => (cE s b).bind fun b' => some (.ite c' a' b')
  | .Tuple es _ _ => (cEs s es).bind fun es' => some (.tup es')
  | .List es _ => (cEs s es).bind fun es' => some (.lst es')
  | .ListComp elt [⟨tg, iter, ifs, 0⟩] scope _ => if s.hot then none else
      (cI s (isTupE tg) iter).bind fun it' => (cTg { s with sc := relS scope s.sc, top := false } tg).bind fun t' => (cIfs { s with sc := relS scope s.sc, top := false } ifs).bind fun c' => (cE { s with sc := relS scope s.sc, top := false } elt).bind fun e' =>
      if blkC s.N s.sc scope (ownOf s.N scope) && tgIn t' ((ownOf s.N scope).map (·.2)) then some (.lc ((ownOf s.N scope).map (·.2)) t' it' c' e') else none
  | .Attribute o f _ => if isXn s o then some (.xatt f) else if noSuper o then (cE s o).bind fun o' => some (.att o' f) else none
  | .Subscript a (.Slice lo hi none _) _ => (cE s a).bind fun a' => (cO s lo).bind fun l' => (cO s hi).bind fun h' => some (.slc a' l' h')
  | .Subscript a i _ => if isSlice i then none else (cE s a).bind fun a' => (cE s i).bind fun i' => some (.sub a' i')
  | .Call (.Name x _) as [] _ => if x = ("isinstance" : Str) && isGl s.sc x then
        (match as with
        | [a, c] => (if isXn s a then (cE s c).bind fun c' => some (.xisi c') else (cE s a).bind fun a' => (cE s c).bind fun c' => some (.isi a' c'))
        | _ => none)
      else (cEs s as).bind fun as' => cCall s x as'
  | .Call (.Attribute o m apos) as [] cpos => if noSuper o && !s.hot && (apos.endLine == cpos.line) && decide (as.length < 20) then
        (cE s o).bind fun o' => (cEs s as).bind fun as' => (match metOf m as.length with
          | some k => some (.met k o' as')
          | none => some (.omet m o' as'))
      else none
  | _ => none
def cEs (s : Sx) : List Expr → Option Es
  | [] => some .nil
  | e :: es => (cE s e).bind fun e' => (cEs s es).bind fun es' => some (.cons e' es')
def cAnd (s : Sx) : List Expr → Option E
  | [] => none
  | [a] => cE s a
  | a :: b :: r => (cE s a).bind fun a' => (cAnd s (b :: r)).bind fun r' => some (.and a' r')
def cOr (s : Sx) : List Expr → Option E
  | [] => none
  | [a] => cE s a
  | a :: b :: r => (cE s a).bind fun a' => (cOr s (b :: r)).bind fun r' => some (.or a' r')
def cO (s : Sx) : Option Expr → Option Oe
  | none => some .no
  | some e => (cE s e).bind fun e' => some (.so e')
/-- what is walked -/
def cI (s : Sx) (tp : Bool) : Expr → Option It
  | .Call (.Name x _) as [] _ =>
      if x = ("range" : Str) && isGl s.sc x then (match as with
        | [a] => (cE s a).bind fun a' => some (.rng (.con (.int 0)) a')
        | [a, b] => (cE s a).bind fun a' => (cE s b).bind fun b' => some (.rng a' b')
        | _ => none)
      else if x = ("enumerate" : Str) && isGl s.sc x && tp then (match as with
        | [a] => (cE s a).bind fun a' => some (.enum a')
        | _ => none)
      else if x = ("zip" : Str) && isGl s.sc x && tp then (match as with
        | [a, b] => (cE s a).bind fun a' => (cE s b).bind fun b' => some (.zip a' b')
        | _ => none)
      else (cEs s as).bind fun as' => (cCall s x as').bind fun c => some (.seq c)
  | .Name x p => (if s.xn == some x then none else cName s x).bind fun c => some (.seq c)
  | .Attribute o f _ => if isXn s o then none else if noSuper o then (cE s o).bind fun o' => some (.seq (.att o' f)) else none
  | .Subscript a (.Slice lo hi none _) _ => (cE s a).bind fun a' => (cO s lo).bind fun l' => (cO s hi).bind fun h' => some (.seq (.slc a' l' h'))
  | .Subscript a i _ => if isSlice i then none else (cE s a).bind fun a' => (cE s i).bind fun i' => some (.seq (.sub a' i'))
  | .Tuple es _ _ => (cEs s es).bind fun es' => some (.seq (.tup es'))
  | .List es _ => (cEs s es).bind fun es' => some (.seq (.lst es'))
  | .BinOp a o b _ => (cE s a).bind fun a' => (cE s b).bind fun b' => some (.seq (.bin o a' b'))
  | .Call (.Attribute o m apos) as [] cpos => if noSuper o && !s.hot && (apos.endLine == cpos.line) && decide (as.length < 20) then
        (cE s o).bind fun o' => (cEs s as).bind fun as' => (match metOf m as.length with
          | some k => some (.seq (.met k o' as'))
          | none => some (.seq (.omet m o' as')))
      else none
  | _ => none
def cIfs (s : Sx) : List Expr → Option E
  | [] => some (.con (.bl true))
  | [c] => cE s c
  | _ => none
end
end MP

set_option maxHeartbeats 4000000
/-! MP10: rules for expressions, by meanings. -/
namespace MP
open PySem L2
/-- a def's promise by its meaning -/
def spF (g : Gm) (call : List W → HW → Out W) : Sp := fun vs H Q E => ∃ ρ h ws, Reps g ρ H ws vs ∧ HRep g ρ H h ∧
  Run g ρ H (call ws h) (fun w _ ρ' H' => ∀ v, Rep g ρ' H' w v → Q v H') (fun x _ ρ' H' => ∀ cls dd, XRep g ρ' H' x cls dd → E cls dd H')
/-- the def with the number f keeps its promise, at level k -/
structure FnG (g : Gm) (k f : Nat) (call : List W → HW → Out W) : Prop where
  ex : ∃ (fd : FuncData) (ps : List Str), FnOk g.P g.w g.K g.mg g.base (L2.CX g.P g.w) k (g.fa f) fd ps (spF g call) ∧ Binds g.K fd ps [] ∧ PySem.W.keepIn g.K (.ref (g.fa f)) = true
def bltNames : List Str := ["len", "int", "list", "tuple", "isinstance", "bool", "str", "dict", "ValueError", "range", "enumerate", "zip"]
/-- the module's names -/
structure GF (g : Gm) (s : Sx) : Prop where
  fn : ∀ i x, s.funs[i]? = some x → g.mg x = some (.ref (g.fa i))
  cl : ∀ i x, s.clss[i]? = some x → g.mg x = some (.ref (g.ca i))
  con : ∀ x w, s.cons.lookup x = some w → ∃ u v, g.mg x = some u ∧ RelV v u ∧ ∀ ρ H, Rep g ρ H w v
  blt : ∀ x, x ∈ bltNames → g.mg x = none
/-- all that the text's place gives -/
structure Good (g : Gm) (e : Env) (s : Sx) (X : Cx) (W : WX) : Prop where
  P : X.prog = g.P
  w : X.w = g.w
  K : X.K = g.K
  mg : X.mg = g.mg
  base : X.base = g.base
  N : X.N = s.N
  sc : X.env.scope = s.sc
  nd : X.N.Nodup
  un : X.A.units + 64 < cLine
  tk : Takes X W
  calm : s.hot = false → X.calm = true ∧ Room e.lv X.A
  gf : GF g s
  fns : s.hot = false → ∀ f, FnG g e.lv f (e.call f)
  mks : s.hot = false → 1 ≤ e.lv → ∀ f, FnG g (e.lv - 1) f (e.mkc f)
  mk0 : e.lv = 0 → e.mkc = noCall
  cf : CFacts g e.cd
  fnc : s.top = true → ∀ x, X.fn x = true
  xz : s.hot = false → g.xs = none
  xsl : ∀ xi, g.xs = some xi → ∃ n, s.xn = some n ∧ X.N[xi.i]? = some n
  xat : ∀ n, s.xn = some n → ∃ xi, g.xs = some xi ∧ X.N[xi.i]? = some n ∧ e.xv = some xi.x ∧ X.env.scope.names.lookup n = some .local ∧
    ∃ (X0 : Cx) (oe : Obj) (pn : List (Addr × Obj)), X = X0.suite xi.a ((xi.a, oe) :: pn) ∧ Zc xi.cls xi.d oe ∧ ∃ vs, oe.data = .fields vs
section
variable {g : Gm} {X : Cx} {W : WX} {e : Env} {s : Sx}
theorem isVis_of {sc : Scope} {x : Str} (h : isVis sc x = true) : Vis sc x := by
  unfold isVis at h
  split at h
  · exact .inl ‹_›
  · exact .inr (.inl ‹_›)
  · exact .inr (.inr ‹_›)
  · cases h
theorem isLoc_of {sc : Scope} {x : Str} (h : isLoc sc x = true) : sc.names.lookup x = some .local := by
  unfold isLoc at h
  split at h
  · assumption
  · cases h
theorem isCell_of {sc : Scope} {x : Str} (h : isCell sc x = true) : sc.names.lookup x = some .cell := by
  unfold isCell at h
  split at h
  · assumption
  · cases h
theorem Good.tg (G : Good g e s X W) {x : Str} (h : isTg s x = true) : Loc X.env.scope x ∧ (X.fn x = true ∨ X.env.scope.names.lookup x = some .local) := by
  unfold isTg at h
  rw [G.sc]
  rcases Bool.or_eq_true_iff.mp h with h | h
  · exact ⟨.inl (isLoc_of h), .inr (isLoc_of h)⟩
  · simp only [Bool.and_eq_true] at h
    exact ⟨.inr (isCell_of h.2), .inl (G.fnc h.1 x)⟩
theorem Good.gl (G : Good g e s X W) {x : Str} (h : isGl s.sc x = true) : Gl X x := by
  unfold isGl at h
  split at h
  · rename_i q
    show X.env.scope.names.lookup x = some .globalImplicit
    rw [G.sc]
    exact q
  · cases h
theorem Good.vis (G : Good g e s X W) {x : Str} (h : isVis s.sc x = true) : Vis X.env.scope x := by
  rw [G.sc]
  exact isVis_of h
theorem Good.slot (G : Good g e s X W) {x : Str} {i : Nat} (h : idxOf x s.N = some i) : X.N[i]? = some x := by
  rw [G.N]
  exact idxOf_get h
theorem okName_of {x : Str} (h : okName x = true) : (x == ("__debug__" : Str)) = false ∧ (x == ("__classdict__" : Str)) = false ∧ x ≠ ("__name__" : Str) := by
  unfold okName at h
  simp only [Bool.and_eq_true] at h
  refine ⟨by simpa using h.1.1, by simpa using h.1.2, fun z => ?_⟩
  have := h.2
  rw [z] at this
  simp at this
/-! ### names -/
theorem r_con {x : Expr} {v : V} {w : MP.W} (h : PE X x (tC v)) (r : ∀ ρ H, Rep g ρ H w v) : PE X x (tE g W (denE e (.con w))) := (s_con h r).imp fun σ H Q t => t
theorem boot_ty {x : Str} {n : String} (h : tyName x = some n) : bootBuiltins x = some (.type n) ∧ x ∈ bltNames := by
  unfold tyName at h
  repeat' (first | (cases h; done) | split at h)
  all_goals (rename_i q; cases h; subst q; exact ⟨by decide +kernel, by decide +kernel⟩)
theorem r_name (G : Good g e s X W) {x : Str} {pos : Pos} {c : E} (h : cName s x = some c) : PE X (.Name x pos) (tE g W (denE e c)) := by
  unfold cName at h
  split at h
  · rename_i ok
    obtain ⟨o1, o2, o3⟩ := okName_of ok
    split at h
    · rename_i vis
      obtain ⟨i, e1, rfl⟩ := Option.map_eq_some_iff.mp h
      exact (s_var (G.slot e1) (G.vis vis) o1 o2).imp fun σ H Q t => t
    · split at h
      · rename_i gl
        have hg := G.gl gl
        split at h
        · rename_i i e1
          cases h
          exact r_con (pe_glob hg (by rw [G.mg]; exact G.gf.fn i x (idxOf_get e1)) (v := .ref (g.fa i)) rfl o1) fun ρ H => by rw [Rep]
        · split at h
          · rename_i i e1
            cases h
            exact r_con (pe_glob hg (by rw [G.mg]; exact G.gf.cl i x (idxOf_get e1)) (v := .ref (g.ca i)) rfl o1) fun ρ H => by rw [Rep]
          · split at h
            · rename_i w e1
              cases h
              obtain ⟨u, v, m1, r1, r2⟩ := G.gf.con x w e1
              exact r_con (pe_glob hg (by rw [G.mg]; exact m1) r1 o1) r2
            · obtain ⟨n, e1, rfl⟩ := Option.map_eq_some_iff.mp h
              obtain ⟨b1, b2⟩ := boot_ty e1
              exact r_con (pe_bltn hg (by rw [G.mg]; exact G.gf.blt x b2) b1 (v := .ty n) rfl o3 o1) fun ρ H => by rw [Rep]
      · cases h
  · cases h
theorem r_const {c : Const} {w : MP.W} {k : Nat} {pos : Pos} (h : cConst c = some w) : PE X (.Constant c k pos) (tE g W (denE e (.con w))) := by
  cases c <;> simp [cConst] at h <;> subst h
  · exact r_con pe_non fun ρ H => Rep.mkNon
  · exact r_con pe_bl fun ρ H => Rep.mkBl
  · exact r_con pe_int fun ρ H => Rep.mkInt
  · exact r_con pe_str fun ρ H => Rep.mkStr
/-! ### operators -/
theorem r_bin (G : Good g e s X W) {a b : Expr} {o : Operator} {pos : Pos} {a' b' : E} (ha : PE X a (tE g W (denE e a'))) (hb : PE X b (tE g W (denE e b'))) : PE X (.BinOp a o b pos) (tE g W (denE e (.bin o a' b'))) :=
  (s_bin (binW_noexc o) (op_bin G.K o) ha hb).imp fun σ H Q t => t
theorem notSet {o : CmpOp} {b : Expr} (h : isSetE b = false) : behindInMarks o b = false := by
  cases b <;> first | rfl | cases h
theorem r_cmp (G : Good g e s X W) {a b : Expr} {o : CmpOp} {pos : Pos} {a' b' : E} (ha : PE X a (tE g W (denE e a'))) (hb : PE X b (tE g W (denE e b'))) (hs : isSetE b = false) : PE X (.Compare a [o] [b] pos) (tE g W (denE e (.cmp o a' b'))) :=
  (s_cmp (cmpW_noexc o) (op_cmp G.K G.P G.w G.un o) ha hb (notSet hs)).imp fun σ H Q t => t
theorem r_neg {a : Expr} {pos : Pos} {a' : E} (ha : PE X a (tE g W (denE e a'))) : PE X (.UnaryOp .USub a pos) (tE g W (denE e (.neg a'))) := by
  refine (pe_un un_neg ha).imp fun σ H Q t => ?_
  obtain ⟨ρ, sw, h, S, R, run⟩ := t
  refine ⟨ρ, sw, h, S, R, (Run.bind (by simpa only [denE] using run)).imp (fun x h1 ρ1 H1 e1 R1 r1 v rv => ?_) fun x h' ρ' H' _ _ q => q⟩
  split at r1
  · cases rv.intI
    exact ⟨_, rfl, r1.ok R1 _ Rep.mkInt⟩
  · exact r1.elim
/-! ### lists of parts -/
theorem notStar {a : Expr} {es : List Expr} {env : PySem.Env} (h : isStar a = false) : starEach (a :: es) env = (false, eval a env) :: starEach es env := by
  cases a <;> first | rfl | cases h
theorem cE_star {a : Expr} {c : E} (h : cE s a = some c) : isStar a = false := by
  cases a with
  | Starred v p => rw [cE] at h; cases h
  | _ => rfl
theorem noStars {pos : Pos} {env : PySem.Env} : ∀ {es : List Expr}, (∀ a ∈ es, isStar a = false) → (backTo pos (starEach es env)).any (·.1) = false
  | [], _ => rfl
  | a :: es, h => by
    rw [notStar (h a (List.mem_cons_self ..))]
    have := noStars (pos := pos) (env := env) fun b hb => h b (List.mem_cons_of_mem _ hb)
    unfold backTo at this ⊢
    rw [List.map_cons, List.any_cons, this]
    rfl
theorem r_nil : PA X [] (tAs g W (denEs e .nil)) := pa_nil.imp fun σ H Q t => by
  obtain ⟨ρ, sw, h, S, R, run⟩ := t
  simp only [denEs] at run
  exact run.ok R _ Reps.nil
theorem r_cons {a : Expr} {es : List Expr} {a' : E} {es' : Es} (hs : isStar a = false) (ha : PE X a (tE g W (denE e a'))) (hr : PA X es (tAs g W (denEs e es'))) : PA X (a :: es) (tAs g W (denEs e (.cons a' es'))) :=
  (pa_cons ha hr (notStar hs)).imp fun σ H Q t => by
    obtain ⟨ρ, sw, h, S, R, run⟩ := t
    refine ⟨ρ, sw, h, S, R, (Run.bind (by simpa only [denEs] using run)).imp (fun x h1 ρ1 H1 e1 R1 r1 v rv => ?_) fun x h' ρ' H' _ _ q => q⟩
    refine ⟨ρ1, sw, h1, S.ext e1, R1, r1.bind.imp (fun ws h2 ρ2 H2 e2 R2 r2 vs rvs => ?_) fun x h' ρ' H' _ _ q => q⟩
    exact r2.ok R2 _ (Reps.cons (rv.ext e2) rvs)
theorem r_tup {es : List Expr} {k : Nat} {pos : Pos} {es' : Es} (h : PA X es (tAs g W (denEs e es'))) : PE X (.Tuple es k pos) (tE g W (denE e (.tup es'))) :=
  (pe_tup h).imp fun σ H Q t => by
    obtain ⟨ρ, sw, h, S, R, run⟩ := t
    refine ⟨ρ, sw, h, S, R, (Run.bind (by simpa only [denE] using run)).imp (fun ws h1 ρ1 H1 e1 R1 r1 vs rvs => ?_) fun x h' ρ' H' _ _ q => q⟩
    unfold okIf at r1
    split at r1
    · rename_i hl
      refine ⟨by rw [rvs.length, ← line_eq]; exact of_decide_eq_true hl, fun p hp => ?_⟩
      obtain ⟨k1, k2⟩ := new_tup r1 R1 rvs hp
      exact k2 _ k1
    · exact r1.elim
theorem r_lst {es : List Expr} {pos : Pos} {es' : Es} (h : PA X es (tAs g W (denEs e es'))) : PE X (.List es pos) (tE g W (denE e (.lst es'))) :=
  (pe_lst h).imp fun σ H Q t => by
    obtain ⟨ρ, sw, h, S, R, run⟩ := t
    refine ⟨ρ, sw, h, S, R, (Run.bind (by simpa only [denE] using run)).imp (fun ws h1 ρ1 H1 e1 R1 r1 vs rvs => ?_) fun x h' ρ' H' _ _ q => q⟩
    unfold okIf at r1
    split at r1
    · rename_i hl
      refine ⟨by rw [rvs.length, ← line_eq]; exact of_decide_eq_true hl, fun p hp => ?_⟩
      obtain ⟨k1, k2⟩ := new_lst r1 R1 rvs hp
      exact k2 _ k1
    · exact r1.elim
/-! ### subscripts, slices, attributes -/
theorem plainIx {i : Expr} (h : isSlice i = false) : PlainIx i := fun o k => by
  cases i <;> first | rfl | cases h
theorem r_sub (G : Good g e s X W) {a i : Expr} {pos : Pos} {a' i' : E} (hs : isSlice i = false) (ha : PE X a (tE g W (denE e a'))) (hi : PE X i (tE g W (denE e i'))) : PE X (.Subscript a i pos) (tE g W (denE e (.sub a' i'))) :=
  (pe_ix (ix_subW G.K G.P G.w (by have := G.un; omega)) ha hi (plainIx hs)).imp fun σ H Q t => two (d := subW) subW_noexc (by simpa only [denE] using t) fun _ _ _ _ q => q
/-- a bound of a slice -/
def tPO (g : Gm) (W : WX) (d : SW → HW → Out (Option Int)) : TO := fun σ H Q => ∃ ρ sw h, SRep g ρ H sw σ ∧ HRep g ρ H h ∧
  Run g ρ H (d sw h) (fun o _ _ H' => Q o H') (fun x _ ρ' H' => ∀ cls dd, XRep g ρ' H' x cls dd → W cls dd σ H')
theorem _root_.L2.PO.imp {o : Option Expr} {t t' : TO} (h : PO X o t) (i : ∀ σ H Q, t' σ H Q → t σ H Q) : PO X o t' := ⟨fun pins s σ H Q I q => h.run pins s σ H Q I (i σ H Q q)⟩
theorem r_no : PO X none (tPO g W (denO e .no)) := po_none.imp fun σ H Q t => by
  obtain ⟨ρ, sw, h, S, R, run⟩ := t
  exact Run.ok (by simpa only [denO] using run) R
theorem r_so {a : Expr} {a' : E} (ha : PE X a (tE g W (denE e a'))) : PO X (some a) (tPO g W (denO e (.so a'))) := (po_some ha).imp fun σ H Q t => by
  obtain ⟨ρ, sw, h, S, R, run⟩ := t
  refine ⟨ρ, sw, h, S, R, (Run.bind (by simpa only [denO] using run)).imp (fun x h1 ρ1 H1 e1 R1 r1 v rv => ?_) fun x h' ρ' H' _ _ q => q⟩
  unfold partW at r1
  split at r1
  · cases rv.intI
    exact ⟨_, rfl, r1.ok R1⟩
  · exact r1.elim
theorem r_slc (G : Good g e s X W) {a : Expr} {lo hi : Option Expr} {p2 pos : Pos} {a' : E} {l' h' : Oe} (ha : PE X a (tE g W (denE e a'))) (hl : PO X lo (tPO g W (denO e l'))) (hh : PO X hi (tPO g W (denO e h'))) :
    PE X (.Subscript a (.Slice lo hi none p2) pos) (tE g W (denE e (.slc a' l' h'))) :=
  (pe_slice (sl_slcW G.K) ha hl hh).imp fun σ H Q t => by
    obtain ⟨ρ, sw, h, S, R, run⟩ := t
    refine ⟨ρ, sw, h, S, R, (Run.bind (by simpa only [denE] using run)).imp (fun x h1 ρ1 H1 e1 R1 r1 v rv => ?_) fun x h' ρ' H' _ _ q => q⟩
    refine ⟨ρ1, sw, h1, S.ext e1, R1, r1.bind.imp (fun l h2 ρ2 H2 e2 R2 r2 => ?_) fun x h' ρ' H' _ _ q => q⟩
    refine ⟨ρ2, sw, h2, (S.ext e1).ext e2, R2, r2.bind.imp (fun u h3 ρ3 H3 e3 R3 r3 => ?_) fun x h' ρ' H' _ _ q => q⟩
    refine ⟨ρ3, h3, x, (rv.ext e2).ext e3, R3, ?_⟩
    cases q : slcW x l u h3 with
    | ok w h4 => rw [q] at r3; exact r3
    | exc z h4 => exact absurd q (slcW_noexc _ _ _ _ _ _)
    | bad => rw [q] at r3; exact r3
theorem attBase {o : Expr} {f : Str} {env : PySem.Env} {w : Sem Value} (h : noSuper o = true) : attributeBase o f env w = w := by
  unfold attributeBase
  split
  · cases h
  · rfl
theorem hasF_of {cd : Nat → Option CDef} {c : Nat} {f : Str} (hf : hasF cd c f = true) : ∃ d, cd c = some d ∧ d.exf = none ∧ d.flds.contains f = true := by
  unfold hasF at hf
  split at hf
  · simp only [Bool.and_eq_true] at hf
    exact ⟨_, ‹_›, by simpa using hf.1, hf.2⟩
  · cases hf
theorem r_att (G : Good g e s X W) {o : Expr} {f : Str} {pos : Pos} {o' : E} (hn : noSuper o = true) (ho : PE X o (tE g W (denE e o'))) : PE X (.Attribute o f pos) (tE g W (denE e (.att o' f))) :=
  (pe_fld ho (attBase hn)).imp fun σ H Q t => by
    obtain ⟨ρ, sw, h, S, R, run⟩ := t
    refine ⟨ρ, sw, h, S, R, (Run.bind (by simpa only [denE] using run)).imp (fun x h1 ρ1 H1 e1 R1 r1 v rv => ?_) fun x h' ρ' H' _ _ q => q⟩
    unfold attW at r1
    split at r1
    · obtain ⟨a, rfl, ea⟩ := rv.refI
      split at r1
      · rename_i n c fs q
        obtain ⟨dx, fs', hx, hl, fr⟩ := (show ORep g ρ1 H1 a (.ins c fs) from R1.at ea q)
        split at r1
        · rename_i hf
          split at r1
          · rename_i w ew
            have q2 := fr f
            rw [ew] at q2
            obtain ⟨v', l1, l2⟩ := q2
            obtain ⟨d, d1, d2, d3⟩ := hasF_of hf
            have CF := G.cf.own c d d1 d2
            exact ⟨a, _, dx, fs', v', rfl, hx, by rw [G.K]; exact CF.cl, by rw [G.K]; exact CF.noattr f d3, l1, r1.ok R1 _ l2⟩
          · exact r1.elim
        · exact r1.elim
      · exact r1.elim
    · exact r1.elim
/-! ### tests -/
def isPlain : Expr → Bool
  | .UnaryOp .Not _ _ => false
  | .BoolOp .. => false
  | .IfExp .. => false
  | .Compare .. => false
  | _ => true
theorem plainTrue {a : Expr} {env : PySem.Env} (h : isPlain a = true) (wh : Sem Value) : isTrue a env wh = (do let v ← wh; standAt a.pos; holding [v] (truthy v)) := by
  cases a with
  | UnaryOp o x p => cases o <;> first | rfl | cases h
  | BoolOp o x p => cases h
  | IfExp c x y p => cases h
  | Compare x o y p => cases h
  | _ => rfl
/-- the truth of a value -/
theorem t_truth {a : Expr} {d : SW → HW → Out MP.W} (c : X.K = g.K) (hp : isPlain a = true) (ha : PE X a (tE g W d)) : PT X a (tT g W fun sw h => (d sw h).bind truW) :=
  (pt_truth ha (plainTrue hp)).imp fun σ H Q t => by
    obtain ⟨ρ, sw, h, S, R, run⟩ := t
    refine ⟨ρ, sw, h, S, R, run.bind.imp (fun x h1 ρ1 H1 e1 R1 r1 v rv => ?_) fun x h' ρ' H' _ _ q => q⟩
    obtain ⟨k, k1, k2⟩ := truW_cases R1 rv r1
    exact ⟨k, by rw [c]; exact k1, k2⟩
theorem t_not {a : Expr} {pos : Pos} {a' : E} (ha : PT X a (tT g W (denT e a'))) : PT X (.UnaryOp .Not a pos) (tT g W (denT e (.not a'))) :=
  (pt_not ha).imp fun σ H Q t => by
    obtain ⟨ρ, sw, h, S, R, run⟩ := t
    refine ⟨ρ, sw, h, S, R, (Run.bind (by simpa only [denT] using run)).imp (fun x h1 ρ1 H1 e1 R1 r1 => ?_) fun x h' ρ' H' _ _ q => q⟩
    exact r1.ok R1
theorem t_and1 {a : Expr} {pos : Pos} {a' : E} (ha : PT X a (tT g W (denT e a'))) : PW X (.BoolOp .And [a] pos) (tT g W (denT e a')) := pw_and1 ha
theorem t_or1 {a : Expr} {pos : Pos} {a' : E} (ha : PT X a (tT g W (denT e a'))) : PW X (.BoolOp .Or [a] pos) (tT g W (denT e a')) := pw_or1 ha
theorem t_and {a b : Expr} {r : List Expr} {pos : Pos} {a' b' : E} (ha : PT X a (tT g W (denT e a'))) (hb : PW X (.BoolOp .And (b :: r) pos) (tT g W (denT e b'))) : PW X (.BoolOp .And (a :: b :: r) pos) (tT g W (denT e (.and a' b'))) :=
  (pw_and ha hb).imp fun σ H Q t => by
    obtain ⟨ρ, sw, h, S, R, run⟩ := t
    refine ⟨ρ, sw, h, S, R, (Run.bind (by simpa only [denT] using run)).imp (fun x h1 ρ1 H1 e1 R1 r1 => ?_) fun x h' ρ' H' _ _ q => q⟩
    cases x with
    | true => simp only [if_true] at r1 ⊢; exact ⟨ρ1, sw, h1, S.ext e1, R1, r1⟩
    | false => simp only [Bool.false_eq_true, if_false] at r1 ⊢; exact r1.ok R1
theorem t_or {a b : Expr} {r : List Expr} {pos : Pos} {a' b' : E} (ha : PT X a (tT g W (denT e a'))) (hb : PW X (.BoolOp .Or (b :: r) pos) (tT g W (denT e b'))) : PW X (.BoolOp .Or (a :: b :: r) pos) (tT g W (denT e (.or a' b'))) :=
  (pw_or ha hb).imp fun σ H Q t => by
    obtain ⟨ρ, sw, h, S, R, run⟩ := t
    refine ⟨ρ, sw, h, S, R, (Run.bind (by simpa only [denT] using run)).imp (fun x h1 ρ1 H1 e1 R1 r1 => ?_) fun x h' ρ' H' _ _ q => q⟩
    cases x with
    | true => simp only [if_true] at r1 ⊢; exact r1.ok R1
    | false => simp only [Bool.false_eq_true, if_false] at r1 ⊢; exact ⟨ρ1, sw, h1, S.ext e1, R1, r1⟩
theorem cmp_tru {o : CmpOp} {x y : MP.W} {h h1 : HW} {r : MP.W} (q : cmpW o x y h = .ok r h1) : ∃ b, r = .bl b := by
  unfold cmpW obl at q
  repeat' (first | (cases q; exact ⟨_, rfl⟩) | (cases q; done) | split at q)
theorem t_cmp (G : Good g e s X W) {a b : Expr} {o : CmpOp} {pos : Pos} {a' b' : E} (ha : PE X a (tE g W (denE e a'))) (hb : PE X b (tE g W (denE e b'))) (hs : isSetE b = false) : PT X (.Compare a [o] [b] pos) (tT g W (denT e (.cmp o a' b'))) :=
  (pt_cmpR (op_cmp G.K G.P G.w G.un o) ha hb (notSet hs)).imp fun σ H Q t => by
    obtain ⟨ρ, sw, h, S, R, run⟩ := t
    refine ⟨ρ, sw, h, S, R, (Run.bind (by simpa only [denT] using run)).imp (fun x h1 ρ1 H1 e1 R1 r1 v rv => ?_) fun x h' ρ' H' _ _ q => q⟩
    refine ⟨ρ1, sw, h1, S.ext e1, R1, r1.bind.imp (fun y h2 ρ2 H2 e2 R2 r2 u ru => ?_) fun x h' ρ' H' _ _ q => q⟩
    refine ⟨ρ2, h2, x, y, rv.ext e2, ru, R2, ?_⟩
    cases q3 : cmpW o x y h2 with
    | bad => rw [q3] at r2; exact r2
    | exc x h1 => exact absurd q3 (cmpW_noexc _ _ _ _ _ _)
    | ok r h3 =>
      obtain ⟨bb, rfl⟩ := cmp_tru q3
      rw [q3] at r2
      intro ρ' H' x1 x2 v rv
      cases rv.blI
      exact ⟨bb, rfl, r2 ρ' H' x1 x2⟩
theorem r_ite {c a b : Expr} {pos : Pos} {c' a' b' : E} (hc : PT X c (tT g W (denT e c'))) (ha : PE X a (tE g W (denE e a'))) (hb : PE X b (tE g W (denE e b'))) : PE X (.IfExp c a b pos) (tE g W (denE e (.ite c' a' b'))) :=
  (pe_ifExp hc ha hb).imp fun σ H Q t => by
    obtain ⟨ρ, sw, h, S, R, run⟩ := t
    refine ⟨ρ, sw, h, S, R, (Run.bind (by simpa only [denE] using run)).imp (fun x h1 ρ1 H1 e1 R1 r1 => ?_) fun x h' ρ' H' _ _ q => q⟩
    cases x with
    | true => simp only [if_true] at r1 ⊢; exact ⟨ρ1, sw, h1, S.ext e1, R1, r1⟩
    | false => simp only [Bool.false_eq_true, if_false] at r1 ⊢; exact ⟨ρ1, sw, h1, S.ext e1, R1, r1⟩
theorem r_not (G : Good g e s X W) {a : Expr} {pos : Pos} {a' : E} (ha : PE X a (tE g W (denE e a'))) : PE X (.UnaryOp .Not a pos) (tE g W (denE e (.not a'))) :=
  (pe_notT ha).imp fun σ H Q t => by
    obtain ⟨ρ, sw, h, S, R, run⟩ := t
    refine ⟨ρ, sw, h, S, R, (Run.bind (by simpa only [denE] using run)).imp (fun x h1 ρ1 H1 e1 R1 r1 v rv => ?_) fun x h' ρ' H' _ _ q => q⟩
    obtain ⟨k, k1, k2⟩ := truW_cases R1 rv r1.bind
    exact ⟨k, by rw [G.K]; exact k1, k2.ok R1 _ Rep.mkBl⟩
theorem r_and {a b : Expr} {r : List Expr} {pos : Pos} {a' b' : E} (ha : PE X a (tE g W (denE e a'))) (hb : PE X (.BoolOp .And (b :: r) pos) (tE g W (denE e b'))) : PE X (.BoolOp .And (a :: b :: r) pos) (tE g W (denE e (.and a' b'))) :=
  (pe_and ha hb).imp fun σ H Q t => by
    obtain ⟨ρ, sw, h, S, R, run⟩ := t
    refine ⟨ρ, sw, h, S, R, (Run.bind (by simpa only [denE] using run)).imp (fun x h1 ρ1 H1 e1 R1 r1 v rv => ?_) fun x h' ρ' H' _ _ q => q⟩
    split at r1
    · cases rv.blI
      exact ⟨true, rfl, ρ1, sw, h1, S.ext e1, R1, r1⟩
    · cases rv.blI
      exact ⟨false, rfl, r1.ok R1 _ Rep.mkBl⟩
    · exact r1.elim
theorem r_or {a b : Expr} {r : List Expr} {pos : Pos} {a' b' : E} (ha : PE X a (tE g W (denE e a'))) (hb : PE X (.BoolOp .Or (b :: r) pos) (tE g W (denE e b'))) : PE X (.BoolOp .Or (a :: b :: r) pos) (tE g W (denE e (.or a' b'))) :=
  (pe_or ha hb).imp fun σ H Q t => by
    obtain ⟨ρ, sw, h, S, R, run⟩ := t
    refine ⟨ρ, sw, h, S, R, (Run.bind (by simpa only [denE] using run)).imp (fun x h1 ρ1 H1 e1 R1 r1 v rv => ?_) fun x h' ρ' H' _ _ q => q⟩
    split at r1
    · cases rv.blI
      exact ⟨true, rfl, r1.ok R1 _ Rep.mkBl⟩
    · cases rv.blI
      exact ⟨false, rfl, ρ1, sw, h1, S.ext e1, R1, r1⟩
    · exact r1.elim
theorem o2 {d : MP.W → MP.W → HW → Out MP.W} (hd : ∀ x y h z h', d x y h ≠ .exc z h') {ρ : List Addr} {H : Hp} {x y : MP.W} {vx vy : V} {h : HW} {Q : VK} {E : EK} (rx : Rep g ρ H x vx) (ry : Rep g ρ H y vy) (R : HRep g ρ H h)
    (run : Run g ρ H (d x y h) (fun w _ ρ' H' => ∀ v, Rep g ρ' H' w v → Q v H') E) : tO2 g d vx vy H Q := by
  refine ⟨ρ, h, x, y, rx, ry, R, ?_⟩
  cases q : d x y h with
  | ok w h3 => rw [q] at run; exact run
  | exc z h3 => exact absurd q (hd _ _ _ _ _)
  | bad => rw [q] at run; exact run
theorem r_chain (G : Good g e s X W) {a b c : Expr} {o p : CmpOp} {pos : Pos} {a' b' c' : E} (ha : PE X a (tE g W (denE e a'))) (hb : PE X b (tE g W (denE e b'))) (hc : PE X c (tE g W (denE e c'))) (hs : isSetE b = false) (hs2 : isSetE c = false) :
    PE X (.Compare a [o, p] [b, c] pos) (tE g W (denE e (.chain o p a' b' c'))) :=
  (pe_chain (op_cmp G.K G.P G.w G.un o) (op_cmp G.K G.P G.w G.un p) ha hb hc (notSet hs2)).imp fun σ H Q t => by
    obtain ⟨ρ, sw, h, S, R, run⟩ := t
    refine ⟨ρ, sw, h, S, R, (Run.bind (by simpa only [denE] using run)).imp (fun x h1 ρ1 H1 e1 R1 r1 v rv => ?_) fun x h' ρ' H' _ _ q => q⟩
    refine ⟨ρ1, sw, h1, S.ext e1, R1, r1.bind.imp (fun y h2 ρ2 H2 e2 R2 r2 u ru => ?_) fun x h' ρ' H' _ _ q => q⟩
    refine o2 (cmpW_noexc o) (rv.ext e2) ru R2 (r2.bind.imp (fun z h3 ρ3 H3 e3 R3 r3 vz rz => ?_) fun x h' ρ' H' _ _ q => q)
    split at r3
    · cases rz.blI
      refine ⟨true, rfl, ?_⟩
      simp only [if_true]
      refine ⟨ρ3, sw, h3, ((S.ext e1).ext e2).ext e3, R3, r3.bind.imp (fun z2 h4 ρ4 H4 e4 R4 r4 v4 rv4 => ?_) fun x h' ρ' H' _ _ q => q⟩
      exact o2 (cmpW_noexc p) ((ru.ext e3).ext e4) rv4 R4 r4
    · cases rz.blI
      refine ⟨false, rfl, ?_⟩
      simp only [Bool.false_eq_true, if_false]
      exact r3.ok R3 _ Rep.mkBl
    · exact r3.elim
theorem t_chain (G : Good g e s X W) {a b c : Expr} {o p : CmpOp} {pos : Pos} {a' b' c' : E} (ha : PE X a (tE g W (denE e a'))) (hb : PE X b (tE g W (denE e b'))) (hc : PE X c (tE g W (denE e c'))) (hs2 : isSetE c = false) :
    PT X (.Compare a [o, p] [b, c] pos) (tT g W (denT e (.chain o p a' b' c'))) :=
  (pt_chain (op_cmp G.K G.P G.w G.un o) (op_cmp G.K G.P G.w G.un p) ha hb hc (notSet hs2)).imp fun σ H Q t => by
    obtain ⟨ρ, sw, h, S, R, run⟩ := t
    refine ⟨ρ, sw, h, S, R, (Run.bind (by simpa only [denT] using run)).imp (fun x h1 ρ1 H1 e1 R1 r1 v rv => ?_) fun x h' ρ' H' _ _ q => q⟩
    refine ⟨ρ1, sw, h1, S.ext e1, R1, r1.bind.imp (fun y h2 ρ2 H2 e2 R2 r2 u ru => ?_) fun x h' ρ' H' _ _ q => q⟩
    refine o2 (cmpW_noexc o) (rv.ext e2) ru R2 (r2.bind.imp (fun z h3 ρ3 H3 e3 R3 r3 vz rz => ?_) fun x h' ρ' H' _ _ q => q)
    split at r3
    · cases rz.blI
      refine ⟨true, rfl, ?_⟩
      simp only [if_true]
      refine ⟨ρ3, sw, h3, ((S.ext e1).ext e2).ext e3, R3, r3.bind.imp (fun z2 h4 ρ4 H4 e4 R4 r4 v4 rv4 => ?_) fun x h' ρ' H' _ _ q => q⟩
      refine ⟨ρ4, h4, y, z2, (ru.ext e3).ext e4, rv4, R4, ?_⟩
      cases q3 : cmpW p y z2 h4 with
      | bad => rw [q3] at r4; exact r4
      | exc x h1 => exact absurd q3 (cmpW_noexc _ _ _ _ _ _)
      | ok r h3 =>
        obtain ⟨bb, rfl⟩ := cmp_tru q3
        rw [q3] at r4
        intro ρ' H' x1 x2 v rv
        cases rv.blI
        exact ⟨bb, rfl, r4 ρ' H' x1 x2⟩
    · cases rz.blI
      refine ⟨false, rfl, ?_⟩
      simp only [Bool.false_eq_true, if_false]
      exact ⟨false, rfl, r3.ok R3⟩
    · exact r3.elim
end
end MP

set_option maxHeartbeats 4000000
/-! MP11: calls. -/
namespace MP
open PySem L2
section
variable {g : Gm} {X : Cx} {W : WX} {e : Env} {s : Sx}
theorem Good.fn (G : Good g e s X W) {k f : Nat} {call : List MP.W → HW → Out MP.W} (F : FnG g k f call) : ∃ (fd : FuncData) (ps : List Str), FnOk X.prog X.w X.K X.mg X.base (L2.CX X.prog X.w) k (g.fa f) fd ps (spF g call) ∧ Binds X.K fd ps [] ∧ PySem.W.keepIn X.K (.ref (g.fa f)) = true := by
  obtain ⟨fd, ps, h1, h2, h3⟩ := F.ex
  exact ⟨fd, ps, by rw [G.P, G.w, G.K, G.mg, G.base]; exact h1, by rw [G.K]; exact h2, by rw [G.K]; exact h3⟩
/-- what a callee's end is to be -/
abbrev KR (g : Gm) (Q : VK) : KK MP.W := fun w _ ρ' H' => ∀ v, Rep g ρ' H' w v → Q v H'
abbrev ER (g : Gm) (W : WX) (σ : St) : EK := fun x _ ρ' H' => ∀ cls dd, XRep g ρ' H' x cls dd → W cls dd σ H'
/-- a def of the module is called with these values -/
theorem run_def (G : Good g e s X W) {k f : Nat} {cl : List MP.W → HW → Out MP.W} (hr : Room k X.A) (F : FnG g k f cl) {pins : List (Addr × Obj)} {σ : St} {ρ : List Addr} {H : Hp} {st : Shared} {h : HW} {ws : List MP.W} {vs : List V} {us : List Value} {Q : VK} (I : Inv X pins σ H st) (rv : Reps g ρ H ws vs) (ru : Vals vs us) (R : HRep g ρ H h)
    (run : Run g ρ H (cl ws h) (KR g Q) (ER g W σ)) : wpAny (model X.prog X.w) X.A (call (.ref (g.fa f)) us) (EP X pins σ Q) X.xe st := by
  obtain ⟨fd, ps, h1, h2, h3⟩ := G.fn F
  exact run_fnS (E := WE W) h1 hr h2 (passAt G.tk σ) I ru ⟨ρ, h, ws, rv, R, run⟩
/-- f(..), f a def of the module -/
theorem r_call (G : Good g e s X W) (hh : s.hot = false) {x : Str} {i : Nat} {as : List Expr} {as' : Es} {p pos : Pos} (gl : isGl s.sc x = true) (hx : s.funs[i]? = some x) (o1 : (x == ("__debug__" : Str)) = false) (ns : ∀ a ∈ as, isStar a = false) (h0 : as = [] → as' = .nil)
    (ha : PA X as (tAs g W (denEs e as'))) : PE X (.Call (.Name x p) as [] pos) (tE g W (denE e (.call i as'))) := by
  obtain ⟨calm, room⟩ := G.calm hh
  obtain ⟨fd, ps, F, hb, hk⟩ := G.fn (G.fns hh i)
  have hm : X.mg x = some (.ref (g.fa i)) := by rw [G.mg]; exact G.gf.fn i x hx
  cases as with
  | nil =>
    rw [h0 rfl]
    refine ⟨fun pins st σ H Q I t => ?_⟩
    obtain ⟨ρ, sw, h, S, R, run⟩ := t
    simp only [denE, denEs, Out.bind] at run
    refine wpAny_Call_Name_kw (ld_glob I (G.gl gl) hm ?_ o1)
    exact PySem.W.callWith_K0 (first := []) I.kIn hk (run_def G room (G.fns hh i) I Reps.nil .nil R run)
  | cons a r =>
    refine (pe_callS (E := WE W) F room (G.gl gl) hm hk hb (fun σ => passAt G.tk σ) ha o1 (notStar (ns a (List.mem_cons_self ..))) (noStars fun b hb => ns b (List.mem_cons_of_mem _ hb))).imp fun σ H Q t => ?_
    obtain ⟨ρ, sw, h, S, R, run⟩ := t
    refine ⟨ρ, sw, h, S, R, (Run.bind (by simpa only [denE] using run)).imp (fun ws h1 ρ1 H1 e1 R1 r1 vs rvs => ?_) fun x h' ρ' H' _ _ q => q⟩
    exact ⟨ρ1, h1, ws, rvs, R1, r1⟩
/-- x(..), x a name that holds a def -/
theorem r_callv (G : Good g e s X W) (hh : s.hot = false) {x : Str} {i : Nat} {as : List Expr} {as' : Es} {p pos : Pos} (vis : isVis s.sc x = true) (hx : idxOf x s.N = some i) (ok : okName x = true) (ns : ∀ a ∈ as, isStar a = false) (h0 : as = [] → as' = .nil)
    (ha : PA X as (tAs g W (denEs e as'))) : PE X (.Call (.Name x p) as [] pos) (tE g W (denE e (.callv i as'))) := by
  obtain ⟨calm, room⟩ := G.calm hh
  obtain ⟨o1, o2, o3⟩ := okName_of ok
  refine ⟨fun pins st σ H Q I t => ?_⟩
  obtain ⟨ρ, sw, h, S, R, run⟩ := t
  simp only [denE] at run
  split at run
  · rename_i f ef
    have ev : slotW sw i = some (.fn f) := by
      unfold calleeW at ef
      split at ef
      · rename_i q; cases ef; exact q
      · cases ef
    obtain ⟨vv, es, rvv⟩ := S.slot ev
    rw [Rep] at rvv
    subst rvv
    have pv := (pe_var (pos := p) (G.slot hx) (G.vis vis) o1 o2).run pins st σ H (fun y H1 => y = .ref (g.fa f) ∧ H1 = H) I ⟨_, es, rfl, rfl⟩
    refine wpAny_Call_Name_kw (thn pv fun u s1 ⟨y, H1, I1, ry, ey, eH⟩ => ?_)
    subst ey eH
    obtain rfl : u = Value.ref (g.fa f) := ry
    obtain ⟨fd, ps, F, hb, hk⟩ := G.fn (G.fns hh f)
    cases as with
    | nil =>
      rw [h0 rfl] at run
      simp only [denEs, Out.bind] at run
      exact PySem.W.callWith_K0 (first := []) I1.kIn hk (run_def G room (G.fns hh f) I1 Reps.nil .nil R run)
    | cons a r =>
      have tt : tAs g W (denEs e as') σ H1 (fun vs H2 => ∃ ρ2 h2 ws, Reps g ρ2 H2 ws vs ∧ HRep g ρ2 H2 h2 ∧ Run g ρ2 H2 (e.call f ws h2) (KR g Q) (ER g W σ)) :=
        ⟨ρ, sw, h, S, R, run.bind.imp (fun ws h2 ρ2 H2 _ R2 r2 vs rvs => ⟨ρ2, h2, ws, rvs, R2, r2⟩) fun x h' ρ' H' _ _ q => q⟩
      refine PySem.W.callWith_K (h₀ := X.base) (first := []) I.ok.mod.kin hk (thn (ha.run pos pins s1 σ _ _ I1 tt) fun us s2 ⟨vs, H2, I2, rus, ρ2, h2, ws, q1, q2, q3⟩ => ⟨I2.kIn, ?_⟩) (notStar (ns a (List.mem_cons_self ..))) (noStars fun b hb => ns b (List.mem_cons_of_mem _ hb))
      exact run_def G room (G.fns hh f) I2 q1 rus q2 q3
  · exact run.elim
theorem madeC_of {cd : Nat → Option CDef} {c : Nat} (h : madeC cd c = true) : ∃ d, cd c = some d ∧ d.exf = none ∧ d.init.isSome = true := by
  unfold madeC at h
  split at h
  · simp only [Bool.and_eq_true] at h
    exact ⟨_, ‹_›, by simpa using h.1, h.2⟩
  · cases h
/-- C(..): a new instance -/
theorem run_mk (G : Good g e s X W) (hh : s.hot = false) {c : Nat} {pins : List (Addr × Obj)} {σ : St} {ρ : List Addr} {H : Hp} {st : Shared} {h : HW} {ws : List MP.W} {vs : List V} {us : List Value} {Q : VK} (I : Inv X pins σ H st) (rv : Reps g ρ H ws vs) (ru : Vals vs us) (R : HRep g ρ H h)
    (run : Run g ρ H (makeW e c ws h) (KR g Q) (ER g W σ)) : wpAny (model X.prog X.w) X.A (call (.ref (g.ca c)) us) (EP X pins σ Q) X.xe st := by
  obtain ⟨calm, room⟩ := G.calm hh
  unfold makeW at run
  split at run
  · rename_i d hd
    split at run
    · rename_i f hf
      split at run
      · rename_i ho
        have CF := G.cf.own c d hd (by simpa using ho)
        have M := CF.made f hf
        rw [← G.K] at M
        cases hl : e.lv with
        | zero =>
          rw [G.mk0 hl] at run
          exact False.elim run
        | succ k =>
          have F : FnG g k f (e.mkc f) := by
            have := G.mks hh (by omega) f
            rw [hl] at this
            exact this
          obtain ⟨fd, ps, F1, hb, hk⟩ := G.fn F
          rw [hl] at room
          have hn1 : H (st.heap.objs.size + 1) = none := I.hok.fresh (Nat.le_succ _)
          have hn0 : H st.heap.objs.size = none := I.hok.fresh (Nat.le_refl _)
          have I2 := Inv.made (C := g.ca c) I
          have hnd : (upd H st.heap.objs.size (.own (st.heap.objs.size + 1))) (st.heap.objs.size + 1) = none := by
            rw [upd_ne (Nat.ne_of_gt (Nat.lt_succ_self _))]
            exact hn1
          have E1 : Ext g ρ ρ H (upd H st.heap.objs.size (.own (st.heap.objs.size + 1))) := Ext.fresh hn0
          have E2 := (Ext.fresh (g := g) (ρ := ρ) (o := .ins (g.ca c) st.heap.objs.size []) hnd).snoc (p := st.heap.objs.size + 1) hnd
          have R1 : HRep g ρ (upd H st.heap.objs.size (.own (st.heap.objs.size + 1))) h := R.fresh hn0
          have R2 := R1.alloc (ob := .ins c []) (o := .ins (g.ca c) st.heap.objs.size []) hnd ⟨_, [], upd_same, rfl, fun f => rfl⟩
          have rself : Rep g (ρ ++ [st.heap.objs.size + 1]) (upd (upd H st.heap.objs.size (.own (st.heap.objs.size + 1))) (st.heap.objs.size + 1) (.ins (g.ca c) st.heap.objs.size [])) (.ref h.length) (.ref (st.heap.objs.size + 1)) := Rep.mkRef R1.at_new
          have rv2 := Reps.cons rself ((rv.ext E1).ext E2)
          have sp : spF g (e.mkc f) (.ref (st.heap.objs.size + 1) :: vs) _ (fun v H2 => v = .non ∧ Q (.ref (st.heap.objs.size + 1)) H2) (WE W σ) :=
            ⟨_, _, _, rv2, R2, ((run.ext (E1.trans E2)).bind).imp (fun r h3 ρ3 H3 e3 R3 r3 v rr => by
              split at r3
              · exact ⟨rr.nonI, r3.ok R3 _ (rself.ext e3)⟩
              · exact r3.elim) fun x h' ρ' H' _ _ q => q⟩
          have r2 : Vals (V.ref (st.heap.objs.size + 1) :: vs) (Value.ref (st.heap.objs.size + 1) :: us) := .cons rfl ru
          have hlen : (Value.ref (st.heap.objs.size + 1) :: us).length = ps.length := by
            rw [← r2.length]
            exact F1.len _ _ _ _ sp
          have bb := hb _ (Value.ref (st.heap.objs.size + 1) :: us) I2.kIn (by rw [List.append_nil]; exact hlen)
          rw [List.append_nil] at bb
          refine wpAny_call (make_map (f := g.fa f) I.kIn M.makes M.init (beq_iff_eq.mp M.fn) (codeAny_mono (F1.run _ X.stack _ _ ⟨Value.ref (st.heap.objs.size + 1) :: us, []⟩ _ _ _ _ (room.make (g.ca c) us []) (I2.env0.make (g.ca c) us []) bb r2 sp) fun r s' hq => ?_))
          cases r with
          | error x => exact passAt G.tk σ pins _ _ x s' I2 hq
          | ok fl =>
            cases fl with
            | ret u =>
              obtain ⟨v, H', I3, rv3, ev, q3⟩ := I2.after hq
              subst ev
              exact ⟨rv3, ⟨V.ref (st.heap.objs.size + 1), H', I3, rfl, q3⟩⟩
            | next => exact False.elim hq
            | brk => exact False.elim hq
            | cont => exact False.elim hq
      · exact run.elim
    · exact run.elim
  · exact run.elim
theorem r_make (G : Good g e s X W) (hh : s.hot = false) {x : Str} {i : Nat} {as : List Expr} {as' : Es} {p pos : Pos} (gl : isGl s.sc x = true) (hx : s.clss[i]? = some x) (o1 : (x == ("__debug__" : Str)) = false) (ns : ∀ a ∈ as, isStar a = false) (h0 : as = [] → as' = .nil)
    (ha : PA X as (tAs g W (denEs e as'))) : PE X (.Call (.Name x p) as [] pos) (tE g W (denE e (.make i as'))) := by
  have hm : X.mg x = some (.ref (g.ca i)) := by rw [G.mg]; exact G.gf.cl i x hx
  refine ⟨fun pins st σ H Q I t => ?_⟩
  obtain ⟨ρ, sw, h, S, R, run⟩ := t
  simp only [denE] at run
  split at run
  · rename_i ho
    obtain ⟨d, hd, hf, hi⟩ := madeC_of ho
    obtain ⟨f, hf'⟩ := Option.isSome_iff_exists.mp hi
    have M := (G.cf.own i d hd hf).made f hf'
    rw [← G.K] at M
    refine wpAny_Call_Name_kw (ld_glob I (G.gl gl) hm ?_ o1)
    cases as with
    | nil =>
      rw [h0 rfl] at run
      simp only [denEs, Out.bind] at run
      exact PySem.W.callWith_K0 (first := []) I.kIn M.kp (run_mk G hh I Reps.nil .nil R run)
    | cons a r =>
      have tt : tAs g W (denEs e as') σ H (fun vs H2 => ∃ ρ2 h2 ws, Reps g ρ2 H2 ws vs ∧ HRep g ρ2 H2 h2 ∧ Run g ρ2 H2 (makeW e i ws h2) (KR g Q) (ER g W σ)) :=
        ⟨ρ, sw, h, S, R, run.bind.imp (fun ws h2 ρ2 H2 _ R2 r2 vs rvs => ⟨ρ2, h2, ws, rvs, R2, r2⟩) fun x h' ρ' H' _ _ q => q⟩
      refine PySem.W.callWith_K (h₀ := X.base) (first := []) I.ok.mod.kin M.kp (thn (ha.run pos pins st σ _ _ I tt) fun us s2 ⟨vs, H2, I2, rus, ρ2, h2, ws, q1, q2, q3⟩ => ⟨I2.kIn, ?_⟩) (notStar (ns a (List.mem_cons_self ..))) (noStars fun b hb => ns b (List.mem_cons_of_mem _ hb))
      exact run_mk G hh I2 q1 rus q2 q3
  · exact run.elim
theorem few_of {pos : Pos} {env : PySem.Env} : ∀ {as : List Expr}, (∀ a ∈ as, isStar a = false) → (backTo pos (starEach as env)).all (fun x => !x.1) = true
  | [], _ => rfl
  | a :: es, h => by
    rw [notStar (h a (List.mem_cons_self ..))]
    have := few_of (pos := pos) (env := env) fun b hb => h b (List.mem_cons_of_mem _ hb)
    unfold backTo at this ⊢
    rw [List.map_cons, List.all_cons, this]
    rfl
theorem meth_form {pos : Pos} {env : PySem.Env} {as : List Expr} (ns : ∀ a ∈ as, isStar a = false) (hl : as.length < 20) : methodCallForm (as.length + 0) (backTo pos (starEach as env)) [] = true := by
  unfold methodCallForm
  rw [few_of ns]
  show (true && true && decide (as.length + 0 + 0 < 30)) = true
  rw [decide_eq_true (by omega)]
  rfl
/-- a method's call, opened -/
theorem meth_eq {o : Expr} {m : Str} {as : List Expr} {apos pos : Pos} {env : PySem.Env} (hn : noSuper o = true) (ns : ∀ a ∈ as, isStar a = false) (hl : as.length < 20) (hp : (apos.endLine == pos.line) = true) :
    eval (.Call (.Attribute o m apos) as [] pos) env = (do
      let ov ← eval o env
      standAt apos.atName
      let (f, first) ← holding [ov] (getMethod ov m (do return (← importBound o env).getD true))
      callWith pos f first (backTo pos (starEach as env)) (backToKw pos (keywordEach [] env))) := by
  show (do
    let ov ← attributeBase o m env (eval o env)
    standAt apos.atName
    methodCall o m apos pos env ov (as.length + 0) (backTo pos (starEach as env)) []) = _
  rw [attBase hn]
  unfold methodCall
  rw [meth_form ns hl]
  unfold calleeOf methodCallPos
  rw [hp]
  rfl
/-- o.m(..), m a method of an own class -/
theorem r_omet (G : Good g e s X W) (hh : s.hot = false) {o : Expr} {m : Str} {as : List Expr} {o' : E} {as' : Es} {apos pos : Pos} (hn : noSuper o = true) (ns : ∀ a ∈ as, isStar a = false) (h0 : as = [] → as' = .nil) (hl : as.length < 20) (hp : (apos.endLine == pos.line) = true)
    (ho : PE X o (tE g W (denE e o'))) (ha : PA X as (tAs g W (denEs e as'))) : PE X (.Call (.Attribute o m apos) as [] pos) (tE g W (denE e (.omet m o' as'))) := by
  obtain ⟨calm, room⟩ := G.calm hh
  refine ⟨fun pins st σ H Q I t => ?_⟩
  obtain ⟨ρ, sw, h, S, R, run⟩ := t
  simp only [denE] at run
  have tt : tE g W (denE e o') σ H (fun x H1 => ∃ ρ1 h1 w, Rep g ρ1 H1 w x ∧ SRep g ρ1 H1 sw σ ∧ HRep g ρ1 H1 h1 ∧ Run g ρ1 H1 (match calleeO e m w h1 with
      | some f => (denEs e as' sw h1).bind fun ws h2 => e.call f (w :: ws) h2
      | none => .bad) (KR g Q) (ER g W σ)) :=
    ⟨ρ, sw, h, S, R, run.bind.imp (fun x h1 ρ1 H1 e1 R1 r1 v rv => ⟨ρ1, h1, x, rv, S.ext e1, R1, r1⟩) fun x h' ρ' H' _ _ q => q⟩
  refine PySem.W.methodCall_KW (thn (ho.run pins st σ H _ I tt) fun u s1 ⟨x, H1, I1, rx, ρ1, h1, w, rw', S1, R1, run1⟩ => ?_) (meth_eq hn ns hl hp)
  split at run1
  · rename_i f ef
    unfold calleeO at ef
    split at ef
    · rename_i n
      obtain ⟨a, rfl, ea⟩ := rw'.refI
      split at ef
      · rename_i c fs q
        split at ef
        · rename_i hl1
          obtain ⟨d, hd, hm⟩ := Option.bind_eq_some_iff.mp ef
          split at hm
          · rename_i hex
            obtain ⟨dx, fs', hx, hlen, fr⟩ := (show ORep g ρ1 H1 a (.ins c fs) from R1.at ea q)
            have CF := G.cf.own c d hd (by simpa using hex)
            have M := CF.meth m f hm
            have cl := CF.cl
            rw [← G.K] at M cl
            obtain rfl : u = Value.ref a := rx
            have ln : fs'.lookup m = none := by
              have q2 := fr m
              have hl2 : fs.lookup m = none := by simpa using hl1
              rw [hl2] at q2
              exact q2
            refine getmeth_ok I1 hx cl M ln ?_
            cases as with
            | nil =>
              rw [h0 rfl] at run1
              simp only [denEs, Out.bind] at run1
              exact PySem.W.callWith_K0 (first := [.ref a]) I1.kIn M.kp (run_def G room (G.fns hh f) I1 (Reps.cons rw' Reps.nil) (.cons rfl .nil) R1 run1)
            | cons b r =>
              have t2 : tAs g W (denEs e as') σ H1 (fun vs H2 => ∃ ρ2 h2 ws, Reps g ρ2 H2 ws vs ∧ Ext g ρ1 ρ2 H1 H2 ∧ HRep g ρ2 H2 h2 ∧ Run g ρ2 H2 (e.call f (.ref n :: ws) h2) (KR g Q) (ER g W σ)) :=
                ⟨ρ1, sw, h1, S1, R1, run1.bind.imp (fun ws h2 ρ2 H2 e2 R2 r2 vs rvs => ⟨ρ2, h2, ws, rvs, e2, R2, r2⟩) fun x h' ρ' H' _ _ q => q⟩
              refine PySem.W.callWith_K (first := [.ref a]) (h₀ := X.base) I.ok.mod.kin M.kp (thn (ha.run pos pins s1 σ H1 _ I1 t2) fun us s2 ⟨vs, H2, I2, rus, ρ2, h2, ws, q1, q2, q3, q4⟩ => ⟨I2.kIn, ?_⟩) (notStar (ns b (List.mem_cons_self ..))) (noStars fun b hb => ns b (List.mem_cons_of_mem _ hb))
              exact run_def G room (G.fns hh f) I2 (Reps.cons (rw'.ext q2) q1) (.cons rfl rus) q3 q4
          · cases hm
        · cases ef
      · cases ef
    · cases ef
  · exact run1.elim
/-! ### built-in functions and methods -/
theorem bltW_noexc (b : Blt) (xs : List MP.W) (h : HW) (z : XV) (h' : HW) : bltW b xs h ≠ .exc z h' := by
  intro e
  unfold bltW new at e
  repeat' (first | (cases e; done) | split at e)
theorem os_at {d : List MP.W → HW → Out MP.W} (hd : ∀ xs h z h', d xs h ≠ .exc z h') {ρ : List Addr} {H : Hp} {ws : List MP.W} {vs : List V} {h : HW} {Q : VK} {E : EK} (r : Reps g ρ H ws vs) (R : HRep g ρ H h)
    (run : Run g ρ H (d ws h) (KR g Q) E) : tOs g d vs H Q := by
  refine ⟨ρ, h, ws, r, R, ?_⟩
  cases q : d ws h with
  | ok w h3 => rw [q] at run; exact run
  | exc z h3 => exact absurd q (hd _ _ _ _)
  | bad => rw [q] at run; exact run
theorem om_at {d : MP.W → List MP.W → HW → Out MP.W} (hd : ∀ x xs h z h', d x xs h ≠ .exc z h') {ρ : List Addr} {H : Hp} {w : MP.W} {v : V} {ws : List MP.W} {vs : List V} {h : HW} {Q : VK} {E : EK} (rw' : Rep g ρ H w v) (r : Reps g ρ H ws vs) (R : HRep g ρ H h)
    (run : Run g ρ H (d w ws h) (KR g Q) E) : tOm g d v vs H Q := by
  refine ⟨ρ, h, w, ws, rw', r, R, ?_⟩
  cases q : d w ws h with
  | ok w h3 => rw [q] at run; exact run
  | exc z h3 => exact absurd q (hd _ _ _ _ _)
  | bad => rw [q] at run; exact run
def bltId : Blt → Str × Value
  | .len => ("len", .builtin "len")
  | .int => ("int", .type "int")
  | .list => ("list", .type "list")
  | .tuple => ("tuple", .type "tuple")
theorem r_blt (G : Good g e s X W) {b : Blt} {x : Str} {a : Expr} {as : List Expr} {as' : Es} {p pos : Pos} (hx : x = (bltId b).1) (gl : isGl s.sc x = true) (ns : ∀ c ∈ a :: as, isStar c = false) (ha : PA X (a :: as) (tAs g W (denEs e as'))) :
    PE X (.Call (.Name x p) (a :: as) [] pos) (tE g W (denE e (.blt b as'))) := by
  have st := notStar (es := as) (env := X.env) (ns a (List.mem_cons_self ..))
  have pl := noStars (pos := pos) (env := X.env) fun b hb => ns b (List.mem_cons_of_mem _ hb)
  have fin : ∀ {r : List V → Hp → VK → Prop} {t : TE}, PE X (.Call (.Name x p) (a :: as) [] pos) (tCB (tOs g (bltW b)) (tAs g W (denEs e as'))) → PE X (.Call (.Name x p) (a :: as) [] pos) (tE g W (denE e (.blt b as'))) := fun h => h.imp fun σ H Q t => by
    obtain ⟨ρ, sw, h, S, R, run⟩ := t
    refine ⟨ρ, sw, h, S, R, (Run.bind (by simpa only [denE] using run)).imp (fun ws h1 ρ1 H1 e1 R1 r1 vs rvs => ?_) fun x h' ρ' H' _ _ q => q⟩
    exact os_at (bltW_noexc b) rvs R1 r1
  have mg : ∀ y : Str, y ∈ bltNames → X.mg y = none := fun y hy => by rw [G.mg]; exact G.gf.blt y hy
  refine fin (r := fun _ _ _ => True) (t := fun _ _ _ => True) ?_
  cases b with
  | len => subst hx; exact pe_callB (cr_len G.K G.P G.w) (G.gl gl) (mg _ (by decide +kernel)) PySem.boot_len ha (by decide +kernel) (by decide +kernel) st pl
  | int => subst hx; exact pe_callTy cr_int (G.gl gl) (mg _ (by decide +kernel)) (by decide +kernel) ha (by decide +kernel) (by decide +kernel) st pl
  | list => subst hx; exact pe_callTy (cr_list G.K) (G.gl gl) (mg _ (by decide +kernel)) (by decide +kernel) ha (by decide +kernel) (by decide +kernel) st pl
  | tuple => subst hx; exact pe_callTy (cr_tuple G.K) (G.gl gl) (mg _ (by decide +kernel)) (by decide +kernel) ha (by decide +kernel) (by decide +kernel) st pl
theorem r_isi (G : Good g e s X W) {a c : Expr} {a' c' : E} {p pos : Pos} (gl : isGl s.sc "isinstance" = true) (n1 : isStar a = false) (n2 : isStar c = false) (ha : PE X a (tE g W (denE e a'))) (hc : PE X c (tE g W (denE e c'))) :
    PE X (.Call (.Name "isinstance" p) [a, c] [] pos) (tE g W (denE e (.isi a' c'))) := by
  have hpa := r_cons n1 ha (r_cons n2 hc r_nil)
  have pl := noStars (pos := pos) (env := X.env) (es := [c]) fun b hb => by simp at hb; rw [hb]; exact n2
  refine (pe_callB (cr_isi G.K G.P G.w G.cf) (G.gl gl) (by rw [G.mg]; exact G.gf.blt _ (by decide +kernel)) (by decide +kernel) hpa (by decide +kernel) (by decide +kernel) (notStar n1) pl).imp fun σ H Q t => ?_
  obtain ⟨ρ, sw, h, S, R, run⟩ := t
  refine ⟨ρ, sw, h, S, R, ?_⟩
  simp only [denE, denEs] at run ⊢
  cases q1 : denE e a' sw h with
  | bad => rw [q1] at run; exact run
  | exc x h1 => rw [q1] at run; exact run
  | ok x h1 =>
    rw [q1] at run
    simp only [Out.bind] at run ⊢
    cases q2 : denE e c' sw h1 with
    | bad => rw [q2] at run; exact run
    | exc x h1 => rw [q2] at run; exact run
    | ok y h2 =>
      rw [q2] at run
      simp only at run ⊢
      intro ρ' H' x1 x2 vs rvs
      exact os_at (fun xs h z h' => by
        intro q
        split at q
        · exact isiW_noexc _ _ _ _ _ q
        · cases q) rvs x2 (run.ext x1)
end
end MP

set_option maxHeartbeats 4000000
/-! MP12: methods of built-in types, targets, what is walked, comprehensions. -/
namespace MP
open PySem L2
section
variable {g : Gm} {X : Cx} {W : WX} {e : Env} {s : Sx}
def metName : Met → Str
  | .append => "append" | .insert => "insert" | .extend => "extend" | .pop0 => "pop" | .pop1 => "pop" | .reverse => "reverse"
  | .find => "find" | .startswith => "startswith" | .join => "join" | .split1 => "split"
  | .get1 => "get" | .get2 => "get" | .index => "index"
def metId : Met → String
  | .append => "list.append" | .insert => "list.insert" | .extend => "list.extend" | .pop0 => "list.pop" | .pop1 => "list.pop" | .reverse => "list.reverse"
  | .find => "str.find" | .startswith => "str.startswith" | .join => "str.join" | .split1 => "str.split"
  | .get1 => "dict.get" | .get2 => "dict.get" | .index => "list.index"
theorem metOf_name {m : Str} {n : Nat} {k : Met} (h : metOf m n = some k) : m = metName k ∧ k ≠ .get1 ∧ k ≠ .get2 ∧ k ≠ .index := by
  unfold metOf at h
  repeat' (first | (cases h; done) | (cases h; exact ⟨by assumption, by simp, by simp, by simp⟩) | split at h)
theorem met_ok (c : X.K = g.K) : ∀ k : Met, k ≠ .get1 → k ≠ .get2 → k ≠ .index → PlainAttrs (metTy k) ∧ Slot (metTy k) (metName k) (metId k) ∧ typeOf (.builtin (metId k)) = pure (.type "method_descriptor") ∧ MtR X (metId k) (tOm g (metW k))
  | .append, _, _, _ => ⟨PySem.F.plainAttrs_list, PySem.F.slot_list_append, PySem.F.type_list_append, mm_append⟩
  | .insert, _, _, _ => ⟨PySem.F.plainAttrs_list, PySem.F.slot_list_insert, PySem.F.type_list_insert, mm_insert⟩
  | .extend, _, _, _ => ⟨PySem.F.plainAttrs_list, PySem.F.slot_list_extend, PySem.F.type_list_extend, mm_extend⟩
  | .pop0, _, _, _ => ⟨PySem.F.plainAttrs_list, PySem.F.slot_list_pop, PySem.F.type_list_pop, mm_pop0⟩
  | .pop1, _, _, _ => ⟨PySem.F.plainAttrs_list, PySem.F.slot_list_pop, PySem.F.type_list_pop, mm_pop1⟩
  | .reverse, _, _, _ => ⟨PySem.F.plainAttrs_list, PySem.F.slot_list_reverse, PySem.F.type_list_reverse, mm_reverse⟩
  | .find, _, _, _ => ⟨PySem.F.plainAttrs_str, PySem.F.slot_str_find, PySem.F.type_str_find, mm_find⟩
  | .startswith, _, _, _ => ⟨PySem.F.plainAttrs_str, PySem.F.slot_str_startswith, PySem.F.type_str_startswith, mm_startswith⟩
  | .join, _, _, _ => ⟨PySem.F.plainAttrs_str, PySem.F.slot_str_join, PySem.F.type_str_join, mm_join c⟩
  | .split1, _, _, _ => ⟨PySem.F.plainAttrs_str, PySem.F.slot_str_split, PySem.F.type_str_split, mm_split⟩
  | .get1, h, _, _ => absurd rfl h
  | .get2, _, h, _ => absurd rfl h
  | .index, _, _, h => absurd rfl h
theorem recv_ty (c : X.K = g.K) {m : Met} {ρ : List Addr} {H : Hp} {h : HW} {w : MP.W} {v : V} (R : HRep g ρ H h) (r : Rep g ρ H w v) (o : recvOk m w h = true) : tyV X.K (metTy m) v H := by
  unfold recvOk at o
  split at o
  · rename_i ht
    split at o
    · cases r.strI
      exact ht
    · cases o
  · rename_i ht
    have ht2 : metTy m = "list" := by cases m <;> first | rfl | exact absurd rfl ht
    split at o
    · obtain ⟨a, rfl, ea⟩ := r.refI
      split at o
      · rename_i ws q
        obtain ⟨xs, hx, _⟩ := R.lst ea q
        exact .inl ⟨ht2, xs, SqL.of hx⟩
      · cases o
    · cases o
theorem r_met (G : Good g e s X W) {o : Expr} {m : Str} {k : Met} {as : List Expr} {o' : E} {as' : Es} {apos pos : Pos} (hm : metOf m as.length = some k) (hn : noSuper o = true) (ns : ∀ a ∈ as, isStar a = false) (h0 : as = [] → as' = .nil) (hl : as.length < 20) (hp : (apos.endLine == pos.line) = true)
    (ho : PE X o (tE g W (denE e o'))) (ha : PA X as (tAs g W (denEs e as'))) : PE X (.Call (.Attribute o m apos) as [] pos) (tE g W (denE e (.met k o' as'))) := by
  obtain ⟨en, k1, k2, k3⟩ := metOf_name hm
  obtain ⟨f1, f2, f3, f4⟩ := met_ok (g := g) G.K k k1 k2 k3
  rw [← en] at f2
  cases as with
  | nil =>
    rw [h0 rfl]
    refine (pe_bm0 f1 f2 f3 f4 ho (attBase hn) hp).imp fun σ H Q t => ?_
    obtain ⟨ρ, sw, h, S, R, run⟩ := t
    refine ⟨ρ, sw, h, S, R, (Run.bind (by simpa only [denE] using run)).imp (fun x h1 ρ1 H1 e1 R1 r1 v rv => ?_) fun x h' ρ' H' _ _ q => q⟩
    split at r1
    · rename_i ok
      simp only [denEs, Out.bind] at r1
      exact ⟨recv_ty G.K R1 rv ok, om_at (metW_noexc k) rv Reps.nil R1 r1⟩
    · exact r1.elim
  | cons b r =>
    have hf : ((backTo pos (starEach (b :: r) X.env)).all (fun x => !x.1) && (backToKw pos (keywordEach [] X.env)).all (fun x => x.1.isSome) && decide ((b :: r).length + ([] : List Keyword).length + (if ([] : List Keyword).isEmpty then 0 else 1) < 30)) = true := by
      rw [few_of ns]
      show (true && true && decide ((b :: r).length + 0 + 0 < 30)) = true
      rw [decide_eq_true (by omega)]
      rfl
    refine (pe_bm f1 f2 f3 f4 ho ha (attBase hn) hf hp (notStar (ns b (List.mem_cons_self ..))) (noStars fun c hc => ns c (List.mem_cons_of_mem _ hc))).imp fun σ H Q t => ?_
    obtain ⟨ρ, sw, h, S, R, run⟩ := t
    refine ⟨ρ, sw, h, S, R, (Run.bind (by simpa only [denE] using run)).imp (fun x h1 ρ1 H1 e1 R1 r1 v rv => ?_) fun x h' ρ' H' _ _ q => q⟩
    split at r1
    · rename_i ok
      refine ⟨recv_ty G.K R1 rv ok, ρ1, sw, h1, S.ext e1, R1, r1.bind.imp (fun ws h2 ρ2 H2 e2 R2 r2 vs rvs => ?_) fun x h' ρ' H' _ _ q => q⟩
      exact om_at (metW_noexc k) (rv.ext e2) rvs R2 r2
    · exact r1.elim

/-! ### targets -/
def tgIx : Tg → List Nat
  | .nm i => [i]
  | .tp is => is
/-- only these slots differ -/
def OnlyAt (is : List Nat) (σ σ2 : St) : Prop := σ2.length = σ.length ∧ ∀ j, j ∉ is → σ2[j]? = σ[j]?
def tG (g : Gm) (t : Tg) : TG := fun v σ H Q => ∃ ρ w sw sw2, Rep g ρ H w v ∧ SRep g ρ H sw σ ∧ tgW t w sw = some sw2 ∧ ∀ σ2, SRep g ρ H sw2 σ2 → OnlyAt (tgIx t) σ σ2 → Q σ2 H
theorem _root_.L2.PG.imp {a : Expr} {t t' : TG} (h : PG X a t) (i : ∀ v σ H Q, t' v σ H Q → t v σ H Q) : PG X a t' := ⟨fun pins s σ H v u Q I r q => h.run pins s σ H v u Q I r (i v σ H Q q)⟩
theorem onlyAt_set {σ : St} {i : Nat} {o : Option V} : OnlyAt [i] σ (σ.set i o) := ⟨by simp, fun j hj => by rw [List.getElem?_set_ne (fun z => hj (by simp [z]))]⟩
theorem OnlyAt.trans {is js : List Nat} {a b c : St} (h : OnlyAt is a b) (k : OnlyAt js b c) : OnlyAt (is ++ js) a c := ⟨k.1.trans h.1, fun j hj => by
  simp only [List.mem_append, not_or] at hj
  rw [k.2 j hj.2, h.2 j hj.1]⟩
theorem nodup_at {N : List Str} {i j : Nat} {x y : Str} (nd : N.Nodup) (h1 : N[i]? = some x) (h2 : N[j]? = some y) (e : i = j) : x = y := by
  rw [e, h2] at h1
  cases h1
  rfl
theorem Good.free (G : Good g e s X W) {x : Str} {i : Nat} (hi : idxOf x s.N = some i) (hx : (s.xn != some x) = true) : Free g i := fun xi q z => by
  obtain ⟨n, e1, e2⟩ := G.xsl xi q
  have := nodup_at G.nd e2 (G.slot hi) z
  rw [e1, this] at hx
  simp at hx
theorem g_nm (G : Good g e s X W) {x : Str} {i : Nat} {pos : Pos} (hi : idxOf x s.N = some i) (hl : isTg s x = true) (hx : (s.xn != some x) = true) : PG X (.Name x pos) (tG g (.nm i)) := by
  obtain ⟨l1, l2⟩ := G.tg hl
  refine (pg_name G.nd (G.slot hi) l1 l2).imp fun v σ H Q t => ?_
  obtain ⟨ρ, w, sw, sw2, r, S, et, q⟩ := t
  cases et
  exact q _ (S.set (G.free hi hx) r) onlyAt_set
theorem setMany_len : ∀ {is : List Nat} {ws : List MP.W} {sw sw2 : SW}, setMany is ws sw = some sw2 → is.length = ws.length
  | [], [], _, _, _ => rfl
  | i :: is, w :: ws, sw, sw2, h => by
    rw [setMany] at h
    rw [List.length_cons, List.length_cons, setMany_len h]
  | [], _ :: _, _, _, h => by simp [setMany] at h
  | _ :: _, [], _, _, h => by simp [setMany] at h
/-- several names -/
def gMany (is : List Nat) : TGs := fun vs σ H Q => vs.length = is.length ∧ Q ((is.zip vs).foldl (fun s p => s.set p.1 (some p.2)) σ) H
theorem gs_names (G : Good g e s X W) : ∀ {es : List Expr} {is : List Nat}, cNames s es = some is → PGs X es (gMany is) ∧ (assignEach es X.env).length = is.length ∧ (assignEach es X.env).findIdx? (·.1) = none ∧ ∀ i ∈ is, Free g i
  | [], is, h => by
    rw [cNames] at h
    cases h
    refine ⟨⟨fun pins st σ H vs us Q I r q => ?_⟩, rfl, rfl, fun i hi => by simp at hi⟩
    obtain ⟨hl, q⟩ := q
    have : vs = [] := List.eq_nil_of_length_eq_zero hl
    subst this
    exact pgs_nil.run pins st σ H [] us Q I r ⟨rfl, q⟩
  | x :: es, is, h => by
    cases x with
    | Name y p =>
      rw [cNames] at h
      split at h
      · rename_i ok
        simp only [Bool.and_eq_true] at ok
        obtain ⟨i, hi, h⟩ := Option.bind_eq_some_iff.mp h
        obtain ⟨js, hj, h⟩ := Option.bind_eq_some_iff.mp h
        cases h
        obtain ⟨k1, k2, k3, k4⟩ := gs_names G hj
        obtain ⟨l1, l2⟩ := G.tg ok.1.2
        refine ⟨⟨fun pins st σ H vs us Q I r q => ?_⟩, ?_, ?_, fun j hj => ?_⟩
        · refine (pgs_cons (pg_name (pos := p) G.nd (G.slot hi) l1 l2) k1).run pins st σ H vs us Q I r ?_
          obtain ⟨hl, q⟩ := q
          cases vs with
          | nil => cases hl
          | cons v vs => exact ⟨v, vs, rfl, by simpa using hl, q⟩
        · show (assignEach es X.env).length + 1 = js.length + 1
          rw [k2]
        · show ((false, assign (.Name y p) X.env) :: assignEach es X.env).findIdx? (·.1) = none
          rw [List.findIdx?_cons]
          simp only [Bool.false_eq_true, if_false, k3, Option.map_none]
        · rcases List.mem_cons.mp hj with rfl | hj
          · exact G.free hi ok.2
          · exact k4 j hj
      · cases h
    | _ => simp [cNames] at h
theorem fold_only : ∀ {is : List Nat} {vs : List V} {σ : St}, OnlyAt is σ ((is.zip vs).foldl (fun s p => s.set p.1 (some p.2)) σ)
  | [], vs, σ => ⟨by simp, fun j _ => by simp⟩
  | i :: is, [], σ => ⟨by simp, fun j _ => by simp⟩
  | i :: is, v :: vs, σ => by
    have h := OnlyAt.trans (onlyAt_set (σ := σ) (i := i) (o := some v)) (fold_only (is := is) (vs := vs) (σ := σ.set i (some v)))
    exact h
theorem g_tp (G : Good g e s X W) (hh : s.hot = false) {es : List Expr} {is : List Nat} {k : Nat} {pos : Pos} (h : cNames s es = some is) : PG X (.Tuple es k pos) (tG g (.tp is)) := by
  obtain ⟨k1, k2, k3, k4⟩ := gs_names G h
  refine (pg_tup (G.calm hh).1 k1 k2 k3).imp fun v σ H Q t => ?_
  obtain ⟨ρ, w, sw, sw2, r, S, et, q⟩ := t
  unfold tgW at et
  dsimp only at et
  split at et
  · obtain ⟨a, xs, rfl, sq, rs⟩ := r.tupI
    obtain ⟨σ2, q1, q2⟩ := S.many k4 rs et
    have hl := setMany_len et
    refine ⟨a, xs, rfl, by rw [G.K]; exact sq, by rw [rs.length]; exact hl.symm, by rw [rs.length]; exact hl.symm, ?_⟩
    rw [← q2]
    exact q σ2 q1 (by rw [q2]; exact fold_only)
  · cases et
theorem g_of (G : Good g e s X W) {a : Expr} {t : Tg} (h : cTg s a = some t) : PG X a (tG g t) := by
  unfold cTg at h
  split at h
  · split at h
    · rename_i ok
      simp only [Bool.and_eq_true] at ok
      obtain ⟨i, hi, rfl⟩ := Option.map_eq_some_iff.mp h
      exact g_nm G hi ok.1.2 ok.2
    · cases h
  · split at h
    · cases h
    · rename_i hh
      obtain ⟨is, hi, rfl⟩ := Option.map_eq_some_iff.mp h
      exact g_tp G (by simpa using hh) hi
  · cases h
end
end MP

set_option maxHeartbeats 4000000
/-! MP13: what is walked, comprehensions, displays of dicts. -/
namespace MP
open PySem L2
/-- the iterator J goes as the source s tells, from (ρ₀, H₀) on -/
structure ItOk (g : Gm) (ρ₀ : List Addr) (H₀ : Hp) (s : Src) (J : L2.It) : Prop where
  go : ∀ ρ H h i w, Ext g ρ₀ ρ H₀ H → HRep g ρ H h → s.at i h = some (some w) → J.go i H ∧ ∀ x H', J.yld i H x H' → Ext g ρ ρ H H' ∧ HRep g ρ H' h ∧ Rep g ρ H' w x
  stop : ∀ ρ H h i, Ext g ρ₀ ρ H₀ H → HRep g ρ H h → s.at i h = some none → J.stop i H
def tI (g : Gm) (W : WX) (d : SW → HW → Out Src) : TI := fun σ H R => ∃ ρ sw h, SRep g ρ H sw σ ∧ HRep g ρ H h ∧
  Run g ρ H (d sw h) (fun s _ ρ' H' => ∀ J, ItOk g ρ' H' s J → R J H') (fun x _ ρ' H' => ∀ cls dd, XRep g ρ' H' x cls dd → W cls dd σ H')
section
variable {g : Gm} {X : Cx} {W : WX} {e : Env} {s : Sx}
theorem _root_.L2.PI.imp {tg a : Expr} {t t' : TI} (h : PI X tg a t) (i : ∀ σ H Q, t' σ H Q → t σ H Q) : PI X tg a t' := ⟨fun pins s σ H R I q => h.run pins s σ H R I (i σ H R q)⟩
theorem it_rng {ρ : List Addr} {H : Hp} {lo : Int} {n : Nat} : ItOk g ρ H (.rng lo n) (Itr lo n) where
  go := fun ρ' H' h i w _ R e => by
    simp only [Src.at, Option.some.injEq] at e
    split at e
    · rename_i hi
      cases e
      refine ⟨hi, fun x H2 y => ?_⟩
      obtain ⟨rfl, rfl⟩ := y
      exact ⟨Ext.refl, R, Rep.mkInt⟩
    · cases e
  stop := fun ρ' H' h i _ R e => by
    simp only [Src.at, Option.some.injEq] at e
    split at e
    · cases e
    · rename_i hi
      show n ≤ i
      omega
theorem it_tup {ρ : List Addr} {H : Hp} {a : Addr} {xs : List V} {ws : List MP.W} (sq : SqT g.K H a xs) (r : Reps g ρ H ws xs) : ItOk g ρ H (.vals ws) (Itt g.K a) where
  go := fun ρ' H' h i w E R e => by
    simp only [Src.at, Option.some.injEq] at e
    obtain ⟨x, e1, r1⟩ := (r.ext E).get e
    refine ⟨⟨xs, x, E.tup _ _ sq, e1⟩, fun y H2 yy => ?_⟩
    obtain ⟨rfl, yy⟩ := yy
    have := yy xs (E.tup _ _ sq)
    rw [e1] at this
    cases this
    exact ⟨Ext.refl, R, r1⟩
  stop := fun ρ' H' h i E R e => by
    simp only [Src.at, Option.some.injEq] at e
    exact ⟨xs, E.tup _ _ sq, by rw [r.length]; exact List.getElem?_eq_none_iff.mp e⟩
theorem it_fls {ρ : List Addr} {H : Hp} {a : Addr} {xs : List V} {ws : List MP.W} (sq : FzL g.K H a xs) (r : Reps g ρ H ws xs) : ItOk g ρ H (.vals ws) (Itl g.K a) where
  go := fun ρ' H' h i w E R e => by
    simp only [Src.at, Option.some.injEq] at e
    obtain ⟨x, e1, r1⟩ := (r.ext E).get e
    refine ⟨⟨xs, x, (E.fz _ _ sq).sq, e1⟩, fun y H2 yy => ?_⟩
    obtain ⟨rfl, yy⟩ := yy
    have := yy xs (E.fz _ _ sq).sq
    rw [e1] at this
    cases this
    exact ⟨Ext.refl, R, r1⟩
  stop := fun ρ' H' h i E R e => by
    simp only [Src.at, Option.some.injEq] at e
    exact ⟨xs, (E.fz _ _ sq).sq, by rw [r.length]; exact List.getElem?_eq_none_iff.mp e⟩
theorem it_lst {ρ : List Addr} {H : Hp} {a : Addr} {n : Nat} (ea : ρ[n]? = some a) : ItOk g ρ H (.obj n) (Itl g.K a) where
  go := fun ρ' H' h i w E R e => by
    simp only [Src.at] at e
    split at e
    · rename_i ws q
      obtain ⟨xs, hx, r⟩ := R.lst (E.at ea) q
      simp only [Option.some.injEq] at e
      obtain ⟨x, e1, r1⟩ := r.get e
      refine ⟨⟨xs, x, SqL.of hx, e1⟩, fun y H2 yy => ?_⟩
      obtain ⟨rfl, yy⟩ := yy
      have := yy xs (SqL.of hx)
      rw [e1] at this
      cases this
      exact ⟨Ext.refl, R, r1⟩
    · cases e
  stop := fun ρ' H' h i E R e => by
    simp only [Src.at] at e
    split at e
    · rename_i ws q
      obtain ⟨xs, hx, r⟩ := R.lst (E.at ea) q
      simp only [Option.some.injEq] at e
      exact ⟨xs, SqL.of hx, by rw [r.length]; exact List.getElem?_eq_none_iff.mp e⟩
    · cases e
/-- a list's source and its iterator tell the same list -/
structure LSrc (g : Gm) (ρ₀ : List Addr) (H₀ : Hp) (s : Src) (a : Addr) : Prop where
  ex : ∀ ρ H h, Ext g ρ₀ ρ H₀ H → HRep g ρ H h → ∀ i o, s.at i h = some o → ∃ ws xs, SqL g.K H a xs ∧ Reps g ρ H ws xs ∧ o = ws[i]?
theorem ls_fls {ρ : List Addr} {H : Hp} {a : Addr} {xs : List V} {ws : List MP.W} (sq : FzL g.K H a xs) (r : Reps g ρ H ws xs) : LSrc g ρ H (.vals ws) a := ⟨fun ρ' H' h E R i o q => by
  simp only [Src.at, Option.some.injEq] at q
  exact ⟨ws, xs, (E.fz _ _ sq).sq, r.ext E, q.symm⟩⟩
theorem ls_lst {ρ : List Addr} {H : Hp} {a : Addr} {n : Nat} (ea : ρ[n]? = some a) : LSrc g ρ H (.obj n) a := ⟨fun ρ' H' h E R i o q => by
  simp only [Src.at] at q
  split at q
  · rename_i ws q1
    obtain ⟨xs, hx, r⟩ := R.lst (E.at ea) q1
    simp only [Option.some.injEq] at q
    exact ⟨ws, xs, SqL.of hx, r, q.symm⟩
  · cases q⟩
theorem it_enum {ρ : List Addr} {H : Hp} {a : Addr} {s : Src} (L : LSrc g ρ H s a) : ItOk g ρ H (.enum s) (Ite g.K a) where
  go := fun ρ' H' h i w E R e => by
    simp only [Src.at] at e
    split at e
    · rename_i w' q
      simp only [Option.some.injEq] at e
      subst e
      obtain ⟨ws, xs, sq, r, eo⟩ := L.ex ρ' H' h E R i _ q
      obtain ⟨x, e1, r1⟩ := r.get eo.symm
      refine ⟨⟨xs, x, sq, e1⟩, fun y H2 yy => ?_⟩
      obtain ⟨T, z, rfl, hT, rfl, yy⟩ := yy
      have := yy xs sq
      rw [e1] at this
      cases this
      exact ⟨Ext.fresh hT, R.fresh hT, Rep.mkTup (.inl (.inl upd_same)) (Reps.cons Rep.mkInt (Reps.cons (r1.ext (Ext.fresh hT)) Reps.nil))⟩
    · simp at e
    · simp at e
  stop := fun ρ' H' h i E R e => by
    simp only [Src.at] at e
    split at e
    · simp at e
    · rename_i q
      obtain ⟨ws, xs, sq, r, eo⟩ := L.ex ρ' H' h E R i _ q
      exact ⟨xs, sq, by rw [r.length]; exact List.getElem?_eq_none_iff.mp eo.symm⟩
    · simp at e
theorem it_zip {ρ : List Addr} {H : Hp} {a b : Addr} {s t : Src} (L : LSrc g ρ H s a) (M : LSrc g ρ H t b) : ItOk g ρ H (.zip s t) (Itz g.K a b) where
  go := fun ρ' H' h i w E R e => by
    simp only [Src.at] at e
    split at e
    · rename_i x y q q2
      simp only [Option.some.injEq] at e
      subst e
      obtain ⟨ws, xs, sq, r, eo⟩ := L.ex ρ' H' h E R i _ q
      obtain ⟨us, ys, sq2, r2, eo2⟩ := M.ex ρ' H' h E R i _ q2
      obtain ⟨vx, e1, r1⟩ := r.get eo.symm
      obtain ⟨vy, e2, r3⟩ := r2.get eo2.symm
      refine ⟨⟨xs, ys, vx, vy, sq, sq2, e1, e2⟩, fun z H2 yy => ?_⟩
      obtain ⟨T, z1, z2, rfl, hT, rfl, y1, y2⟩ := yy
      have h1 := y1 xs sq
      rw [e1] at h1
      cases h1
      have h2 := y2 ys sq2
      rw [e2] at h2
      cases h2
      exact ⟨Ext.fresh hT, R.fresh hT, Rep.mkTup (.inl (.inl upd_same)) (Reps.cons (r1.ext (Ext.fresh hT)) (Reps.cons (r3.ext (Ext.fresh hT)) Reps.nil))⟩
    · simp at e
    · simp at e
    · simp at e
  stop := fun ρ' H' h i E R e => by
    simp only [Src.at] at e
    split at e
    · simp at e
    · rename_i o q q2
      obtain ⟨ws, xs, sq, r, eo⟩ := L.ex ρ' H' h E R i _ q
      obtain ⟨us, ys, sq2, r2, eo2⟩ := M.ex ρ' H' h E R i _ q2
      exact ⟨xs, ys, sq, sq2, .inl (by rw [r.length]; exact List.getElem?_eq_none_iff.mp eo.symm)⟩
    · rename_i o q q2
      obtain ⟨ws, xs, sq, r, eo⟩ := L.ex ρ' H' h E R i _ q
      obtain ⟨us, ys, sq2, r2, eo2⟩ := M.ex ρ' H' h E R i _ q2
      exact ⟨xs, ys, sq, sq2, .inr (by rw [r2.length]; exact List.getElem?_eq_none_iff.mp eo2.symm)⟩
    · simp at e
/-- a list or a tuple is walked -/
theorem i_seq (G : Good g e s X W) {tg a : Expr} {a' : E} (ha : PE X a (tE g W (denE e a'))) : PI X tg a (tI g W (denI e (.seq a'))) := by
  refine ⟨fun pins st σ H R I t => ?_⟩
  obtain ⟨ρ, sw, h, S, HR, run⟩ := t
  have tt : tE g W (denE e a') σ H (fun x H1 => (∃ p xs, x = .ref p ∧ SqL X.K H1 p xs ∧ R (Itl X.K p) H1) ∨ (∃ p xs, x = .ref p ∧ SqT X.K H1 p xs ∧ R (Itt X.K p) H1)) := by
    refine ⟨ρ, sw, h, S, HR, (Run.bind (by simpa only [denI] using run)).imp (fun x h1 ρ1 H1 e1 R1 r1 v rv => ?_) fun x h' ρ' H' _ _ q => q⟩
    unfold srcOf at r1
    split at r1
    · obtain ⟨p, xs, rfl, sq, q⟩ := rv.tupI
      exact .inr ⟨p, xs, rfl, by rw [G.K]; exact sq, by rw [G.K]; exact r1.ok R1 _ (it_tup sq q)⟩
    · obtain ⟨p, xs, rfl, sq, q⟩ := rv.flsI
      exact .inl ⟨p, xs, rfl, by rw [G.K]; exact sq.sq, by rw [G.K]; exact r1.ok R1 _ (it_fls sq q)⟩
    · obtain ⟨p, rfl, ea⟩ := rv.refI
      split at r1
      · rename_i n ws q
        obtain ⟨xs, hx, _⟩ := R1.lst ea q
        exact .inl ⟨p, xs, rfl, SqL.of hx, by rw [G.K]; exact r1.ok R1 _ (it_lst ea)⟩
      · exact r1.elim
    · exact r1.elim
  refine thn (ha.run pins st σ H _ I tt) fun v s1 ⟨x, H1, I1, rx, q⟩ => ?_
  rcases q with ⟨p, xs, rfl, sq, q⟩ | ⟨p, xs, rfl, sq, q⟩
  · cases rx
    obtain ⟨its, rv, pl, hz⟩ := I1.list sq
    have fr : ∀ b ∈ [s1.heap.objs.size], FpOk X pins H1 b := fun b hb => by
      rw [List.mem_singleton.mp hb]
      exact I1.fpOk (Nat.le_refl _) (I1.hok.fresh (Nat.le_refl _))
    exact PySem.wpAny_pyIter_list pl.isList ⟨_, [s1.heap.objs.size], _, _, H1, rfl, I1.kept (t' := s1.toks) (fun b o z => Heap.get?_push_of_some _ z), turn_list p _, ⟨_, Heap.get?_push_size _ rfl, rfl, rfl⟩, fr, q⟩
  · cases rx
    obtain ⟨its, rv, pl, hz⟩ := I1.tuple sq
    have fr : ∀ b ∈ [s1.heap.objs.size], FpOk X pins H1 b := fun b hb => by
      rw [List.mem_singleton.mp hb]
      exact I1.fpOk (Nat.le_refl _) (I1.hok.fresh (Nat.le_refl _))
    exact PySem.wpAny_pyIter_tuple (show s1.heap.IsTuple p its.toArray from pl) ⟨_, [s1.heap.objs.size], _, _, H1, rfl, I1.kept (t' := s1.toks) (fun b o z => Heap.get?_push_of_some _ z), turn_tuple p _, ⟨_, Heap.get?_push_size _ rfl, rfl, rfl⟩, fr, q⟩
theorem Good.bm (G : Good g e s X W) {x : Str} (h : x ∈ bltNames) : X.mg x = none := by rw [G.mg]; exact G.gf.blt x h
theorem i_rng1 (G : Good g e s X W) {tg a : Expr} {a' : E} {p pos : Pos} (gl : isGl s.sc "range" = true) (n1 : isStar a = false) (ha : PE X a (tE g W (denE e a'))) : PI X tg (.Call (.Name "range" p) [a] [] pos) (tI g W (denI e (.rng (.con (.int 0)) a'))) := by
  refine (pi_range1 (G.gl gl) (G.bm (by decide +kernel)) (r_cons n1 ha r_nil) (by rw [notStar n1]; rfl)).imp fun σ H R t => ?_
  obtain ⟨ρ, sw, h, S, HR, run⟩ := t
  refine ⟨ρ, sw, h, S, HR, ?_⟩
  simp only [denI, denE, Out.bind, denEs] at run ⊢
  cases q : denE e a' sw h with
  | bad => rw [q] at run; exact run
  | exc x h1 => rw [q] at run; exact run
  | ok y h1 =>
    rw [q] at run
    simp only at run ⊢
    split at run
    · rename_i i j ei
      cases ei
      unfold okIf at run
      split at run
      · rename_i hb
        have hb' := of_decide_eq_true hb
        intro ρ1 H1 e1 R1 vs rvs
        obtain ⟨z, rfl, rz⟩ := rvs.one
        cases rz.intI
        refine ⟨j, rfl, hb'.2.2.1, hb'.2.2.2, ?_⟩
        have := run ρ1 H1 e1 R1 _ it_rng
        simpa using this
      · exact run.elim
    · exact run.elim
theorem i_rng2 (G : Good g e s X W) {tg a b : Expr} {a' b' : E} {p pos : Pos} (gl : isGl s.sc "range" = true) (n1 : isStar a = false) (n2 : isStar b = false) (ha : PE X a (tE g W (denE e a'))) (hb : PE X b (tE g W (denE e b'))) :
    PI X tg (.Call (.Name "range" p) [a, b] [] pos) (tI g W (denI e (.rng a' b'))) := by
  refine (pi_range2 (G.gl gl) (G.bm (by decide +kernel)) (r_cons n1 ha (r_cons n2 hb r_nil)) (by rw [notStar n1, notStar n2]; rfl) (by rw [notStar n2]; rfl)).imp fun σ H R t => ?_
  obtain ⟨ρ, sw, h, S, HR, run⟩ := t
  refine ⟨ρ, sw, h, S, HR, ?_⟩
  simp only [denI, Out.bind, denEs] at run ⊢
  cases q : denE e a' sw h with
  | bad => rw [q] at run; exact run
  | exc x h1 => rw [q] at run; exact run
  | ok x h1 =>
    rw [q] at run
    simp only at run ⊢
    cases q2 : denE e b' sw h1 with
    | bad => rw [q2] at run; exact run
    | exc x h1 => rw [q2] at run; exact run
    | ok y h2 =>
      rw [q2] at run
      simp only at run ⊢
      split at run
      · rename_i i j
        unfold okIf at run
        split at run
        · rename_i hb
          have hb' := of_decide_eq_true hb
          intro ρ1 H1 e1 R1 vs rvs
          obtain ⟨z, z2, rfl, rz, rz2⟩ := rvs.two
          cases rz.intI
          cases rz2.intI
          exact ⟨i, j, rfl, hb', run ρ1 H1 e1 R1 _ it_rng⟩
        · exact run.elim
      · exact run.elim
theorem srcL_of {ρ : List Addr} {H : Hp} {h : HW} {w : MP.W} {v : V} {K : KK Src} {E : EK} (R : HRep g ρ H h) (r : Rep g ρ H w v) (run : Run g ρ H (srcOfL w h) K E) : ∃ a xs s, v = .ref a ∧ SqL g.K H a xs ∧ LSrc g ρ H s a ∧ srcOfL w h = .ok s h ∧ (∀ ρ' H' h', Ext g ρ ρ' H H' → HRep g ρ' H' h' → (∃ o, s.at 0 h' = some o) → ∃ ys, SqL g.K H' a ys) := by
  unfold srcOfL at run ⊢
  split at run
  · obtain ⟨p, xs, rfl, sq, q⟩ := r.flsI
    exact ⟨p, xs, _, rfl, sq.sq, ls_fls sq q, rfl, fun ρ' H' h' E _ _ => ⟨xs, (E.fz _ _ sq).sq⟩⟩
  · obtain ⟨p, rfl, ea⟩ := r.refI
    split at run
    · rename_i n ws q
      obtain ⟨xs, hx, _⟩ := R.lst ea q
      refine ⟨p, xs, _, rfl, SqL.of hx, ls_lst ea, rfl, fun ρ' H' h' E R' o => ?_⟩
      obtain ⟨o, ho⟩ := o
      obtain ⟨ws', xs', sq', _⟩ := (ls_lst (g := g) (H := H) ea).ex ρ' H' h' E R' 0 o ho
      exact ⟨xs', sq'⟩
    · exact run.elim
  · exact run.elim
theorem i_enum (G : Good g e s X W) {es : List Expr} {k : Nat} {tp : Pos} {a : Expr} {a' : E} {p pos : Pos} (gl : isGl s.sc "enumerate" = true) (n1 : isStar a = false) (ha : PE X a (tE g W (denE e a'))) : PI X (.Tuple es k tp) (.Call (.Name "enumerate" p) [a] [] pos) (tI g W (denI e (.enum a'))) := by
  refine (pi_enum (G.gl gl) (G.bm (by decide +kernel)) (r_cons n1 ha r_nil) (by rw [notStar n1]; rfl)).imp fun σ H R t => ?_
  obtain ⟨ρ, sw, h, S, HR, run⟩ := t
  refine ⟨ρ, sw, h, S, HR, ?_⟩
  simp only [denI, denEs] at run ⊢
  cases q : denE e a' sw h with
  | bad => rw [q] at run; exact run
  | exc x h1 => rw [q] at run; exact run
  | ok y h1 =>
    rw [q] at run
    intro ρ1 H1 e1 R1 vs rvs
    obtain ⟨z, rfl, rz⟩ := rvs.one
    have run1 := Run.ext (show Run g ρ H ((srcOfL y h1).bind fun s h1 => .ok (Src.enum s) h1) _ _ from run) e1
    obtain ⟨b, xs, sr, rfl, sq, L, es, _⟩ := srcL_of R1 rz run1.bind
    rw [es] at run1
    exact ⟨b, xs, rfl, by rw [G.K]; exact sq, by rw [G.K]; exact run1 ρ1 H1 Ext.refl R1 _ (it_enum L)⟩
theorem LSrc.ext {ρ ρ' : List Addr} {H H' : Hp} {s : Src} {a : Addr} (L : LSrc g ρ H s a) (E : Ext g ρ ρ' H H') : LSrc g ρ' H' s a := ⟨fun ρ2 H2 h E2 R i o q => L.ex ρ2 H2 h (E.trans E2) R i o q⟩
theorem i_zip (G : Good g e s X W) {es : List Expr} {k : Nat} {tp : Pos} {a b : Expr} {a' b' : E} {p pos : Pos} (gl : isGl s.sc "zip" = true) (n1 : isStar a = false) (n2 : isStar b = false) (ha : PE X a (tE g W (denE e a'))) (hb : PE X b (tE g W (denE e b'))) : PI X (.Tuple es k tp) (.Call (.Name "zip" p) [a, b] [] pos) (tI g W (denI e (.zip a' b'))) := by
  refine (pi_zip (G.gl gl) (G.bm (by decide +kernel)) (r_cons n1 ha (r_cons n2 hb r_nil)) (by rw [notStar n1]) (by rw [notStar n2]; rfl)).imp fun σ H R t => ?_
  obtain ⟨ρ, sw, h, S, HR, run⟩ := t
  refine ⟨ρ, sw, h, S, HR, ?_⟩
  simp only [denI, denEs] at run ⊢
  cases q : denE e a' sw h with
  | bad => rw [q] at run; exact run
  | exc x h1 => rw [q] at run; exact run
  | ok x h1 =>
    rw [q] at run
    simp only [Out.bind] at run ⊢
    cases q2 : denE e b' sw h1 with
    | bad => rw [q2] at run; exact run
    | exc x h1 => rw [q2] at run; exact run
    | ok y h2 =>
      rw [q2] at run
      simp only at run ⊢
      intro ρ1 H1 e1 R1 vs rvs
      obtain ⟨z, z2, rfl, rz, rz2⟩ := rvs.two
      have run1 := Run.ext (show Run g ρ H ((srcOfL x h2).bind fun s h3 => (srcOfL y h3).bind fun t h4 => .ok (Src.zip s t) h4) _ _ from run) e1
      obtain ⟨b1, xs, sr, rfl, sq, L, es, _⟩ := srcL_of R1 rz run1.bind
      rw [es] at run1
      obtain ⟨b2, ys, sr2, rfl, sq2, L2, es2, _⟩ := srcL_of R1 rz2 (Run.bind (show Run g ρ1 H1 ((srcOfL y h2).bind fun t h4 => .ok (Src.zip sr t) h4) _ _ from run1))
      simp only [Out.bind, es2] at run1
      exact ⟨b1, b2, xs, ys, rfl, by rw [G.K]; exact sq, by rw [G.K]; exact sq2, by rw [G.K]; exact run1 ρ1 H1 Ext.refl R1 _ (it_zip L L2)⟩
end
end MP

set_option maxHeartbeats 4000000
/-! MP14: comprehensions. -/
namespace MP
open PySem L2
section
variable {g : Gm} {X : Cx} {W : WX} {e : Env} {s : Sx}
abbrev noW : WX := fun _ _ _ _ => False
/-- a place's facts in a comprehension's block -/
theorem Good.blk (G : Good g e s X W) (hh : s.hot = false) (st : Shared) (H : Hp) (scope : Scope) (C : Addr) (cl : List (Str × Addr)) (fp : List Addr) :
    Good g e { s with sc := relS scope s.sc, top := false } (X.blk st H scope (compEnvC scope cl C X.env) fp) noW where
  P := G.P
  w := G.w
  K := G.K
  mg := G.mg
  base := G.base
  N := G.N
  sc := by rw [← G.sc]; rfl
  nd := G.nd
  un := G.un
  tk := takes_none5
  calm := G.calm
  gf := ⟨G.gf.fn, G.gf.cl, G.gf.con, G.gf.blt⟩
  fns := G.fns
  mks := G.mks
  mk0 := G.mk0
  cf := G.cf
  fnc := fun h => by cases h
  xz := G.xz
  xsl := fun xi q => by rw [G.xz hh] at q; cases q
  xat := fun n q => by
    obtain ⟨xi, q1, _⟩ := G.xat n q
    rw [G.xz hh] at q1
    cases q1
theorem wipe_same {σ σ2 : St} : ∀ {vs : List Nat}, σ2.length = σ.length → (∀ j, j ∉ vs → σ2[j]? = σ[j]?) → wipe σ2 vs = wipe σ vs := by
  intro vs hl hj
  apply List.ext_getElem?
  intro j
  by_cases h : j ∈ vs
  · have key : ∀ τ : St, (wipe τ vs)[j]? = if j < τ.length then some none else none := by
      intro τ
      have hlen := wipe_length τ vs
      by_cases lt : j < τ.length
      · rw [if_pos lt]
        have : (wipe τ vs)[j]? = some ((wipe τ vs)[j]'(by rw [hlen]; exact lt)) := List.getElem?_eq_getElem _
        cases q : (wipe τ vs)[j]'(by rw [hlen]; exact lt) with
        | none => rw [this, q]
        | some v =>
          rw [q] at this
          exact absurd h (wipe_some this).2
      · rw [if_neg lt]
        exact List.getElem?_eq_none_iff.mpr (by rw [hlen]; omega)
    rw [key σ2, key σ, hl]
  · rw [wipe_out h, wipe_out h]
    exact hj j h
theorem wipe_wipe {σ : St} {vs : List Nat} : wipe (wipe σ vs) vs = wipe σ vs :=
  wipe_same (wipe_length σ vs) fun j hj => wipe_out hj
theorem tgIn_of {t : Tg} {is : List Nat} (h : tgIn t is = true) : ∀ i ∈ tgIx t, i ∈ is := by
  intro i hi
  cases t with
  | nm j =>
    simp only [tgIx, List.mem_singleton] at hi
    subst hi
    simpa [tgIn] using h
  | tp js =>
    simp only [tgIn, List.all_eq_true, List.contains_eq_mem, decide_eq_true_eq] at h
    exact h i hi
theorem lc_run (gx : g.xs = none) {vs : List Nat} {t : Tg} {el tst : E} {σ : St} {Q : VK} (tin : tgIn t vs = true) {ρ1 : List Addr} {H1 : Hp} {sw : SW} {h1 : HW} {sr : Src} {J : L2.It} {D : Addr} {E : EK} {fuel : Nat}
    (S : SRep g ρ1 H1 sw σ) (R1 : HRep g ρ1 H1 h1) (ok : ItOk g ρ1 H1 sr J) (hD : H1 D = none)
    (run : Run g ρ1 H1 (lcLoop (denE e el) (denT e tst) t sr (wipeW sw vs) h1.length fuel 0 (h1 ++ [.lst []])) (fun w _ ρ' H' => ∀ v, Rep g ρ' H' w v → Q v H') E) :
    ∃ Wv : Nat → Nat → Hp → Prop, (∃ m, Wv 0 m (upd H1 D (.lst []))) ∧ ∀ i m H, Wv i m H →
      (J.stop i H ∧ Q (.ref D) H) ∨ (J.go i H ∧ ∃ Nx : Hp → Prop, (∀ H', Nx H' → ∃ m', m' < m ∧ Wv (i + 1) m' H') ∧ ∀ x H', J.yld i H x H' → tG g t x (wipe σ vs) H' fun σ2 H2 => wipe σ2 vs = wipe σ vs ∧ tT g noW (denT e tst) σ2 H2 fun b H3 =>
        if b = true then tE g noW (denE e el) σ2 H3 fun y H4 => ∃ acc, H4 D = some (.lst acc) ∧ acc.length < sizeLine ∧ Nx (upd H4 D (.lst (acc ++ [y]))) else Nx H3) := by
  refine ⟨fun i m H => ∃ ρ' h', Ext g ρ1 ρ' H1 H ∧ HRep g ρ' H h' ∧ ρ'[h1.length]? = some D ∧ Run g ρ' H (lcLoop (denE e el) (denT e tst) t sr (wipeW sw vs) h1.length m i h') (fun w _ ρ' H' => ∀ v, Rep g ρ' H' w v → Q v H') E, ⟨fuel, ρ1 ++ [D], h1 ++ [.lst []], ?_⟩, ?_⟩
  · have E1 : Ext g ρ1 (ρ1 ++ [D]) H1 (upd H1 D (.lst [])) := Ext.snoc (Ext.fresh hD) hD
    exact ⟨E1, R1.alloc hD ⟨[], upd_same, Reps.nil⟩, R1.at_new, run.ext E1⟩
  · rintro i m H ⟨ρ', h', E', R', hd, run⟩
    cases m with
    | zero => exact False.elim run
    | succ n =>
      rw [lcLoop] at run
      split at run
      · exact run.elim
      · rename_i q
        exact .inl ⟨ok.stop ρ' H h' i E' R' q, run.ok R' _ (Rep.mkRef hd)⟩
      · rename_i w q
        obtain ⟨go, yl⟩ := ok.go ρ' H h' i w E' R' q
        refine .inr ⟨go, fun H' => ∃ ρ' h', Ext g ρ1 ρ' H1 H' ∧ HRep g ρ' H' h' ∧ ρ'[h1.length]? = some D ∧ Run g ρ' H' (lcLoop (denE e el) (denT e tst) t sr (wipeW sw vs) h1.length n (i + 1) h') (fun w _ ρ' H' => ∀ v, Rep g ρ' H' w v → Q v H') E, fun H' nx => ⟨n, Nat.lt_succ_self _, nx⟩, fun x H2 y => ?_⟩
        obtain ⟨E2, R2, rw2⟩ := yl x H2 y
        have run2 := run.ext E2
        split at run2
        · exact run2.elim
        · rename_i sw2 et
          refine ⟨ρ', w, _, sw2, rw2, ((S.ext E').ext E2).wipe gx vs, et, fun σ2 S2 only => ⟨?_, ?_⟩⟩
          · have z := wipe_same (vs := vs) only.1 fun j hj => only.2 j fun hi => hj (tgIn_of tin j hi)
            rw [z, wipe_wipe]
          · cases q3 : denT e tst sw2 h' with
            | bad => rw [q3] at run2; exact run2.elim
            | exc x h => rw [q3] at run2; exact run2.elim
            | ok b h2 =>
              rw [q3] at run2
              refine ⟨ρ', sw2, h', S2, R2, ?_⟩
              rw [q3]
              intro ρ3 H3 E3 R3
              have run3 := run2.ext E3
              cases b with
              | false =>
                simp only [Bool.false_eq_true, if_false] at run3 ⊢
                exact ⟨ρ3, h2, (E'.trans E2).trans E3, R3, E3.at hd, run3⟩
              | true =>
                simp only [if_true] at run3 ⊢
                refine ⟨ρ3, sw2, h2, S2.ext E3, R3, ?_⟩
                cases q4 : denE e el sw2 h2 with
                | bad => rw [q4] at run3; exact run3.elim
                | exc x h => rw [q4] at run3; exact run3.elim
                | ok yw h3 =>
                  rw [q4] at run3
                  intro ρ4 H4 E4 R4 yv ry
                  have run4 := run3.ext E4
                  simp only at run4
                  split at run4
                  · rename_i acc qa
                    split at run4
                    · rename_i hl
                      have hd4 := E4.at (E3.at hd)
                      obtain ⟨xs, hx, rx⟩ := R4.lst hd4 qa
                      obtain ⟨w1, w2⟩ := R4.setL (ys := xs ++ [yv]) hd4 qa (rx.append (Reps.cons ry Reps.nil))
                      exact ⟨xs, hx, by rw [rx.length, ← line_eq]; exact hl, ρ4, _, (((E'.trans E2).trans E3).trans E4).trans w1, w2, hd4, run4.ext w1⟩
                    · exact run4.elim
                  · exact run4.elim
/-- a comprehension's parts, in every block -/
structure LcParts (g : Gm) (e : Env) (s : Sx) (X : Cx) (W : WX) (elt tg iter : Expr) (ifs : List Expr) (scope : Scope) (t : Tg) (it : It) (c el : E) : Prop where
  hi : PI X tg iter (tI g W (denI e it))
  hg : cTg { s with sc := relS scope s.sc, top := false } tg = some t
  ht : ∀ X', Good g e { s with sc := relS scope s.sc, top := false } X' noW → PTs X' ifs (tT g noW (denT e c))
  he : ∀ X', Good g e { s with sc := relS scope s.sc, top := false } X' noW → PE X' elt (tE g noW (denE e el))
  hs : ∀ env x, foldedSetIterable iter env x = pure x
theorem lc_imp (gx : g.xs = none) {own : List Nat} {t : Tg} {it : It} {c el : E} (tin : tgIn t own = true) {σ : St} {H : Hp} {Q : VK} (h : tE g W (denE e (.lc own t it c el)) σ H Q) : tLc (tI g W (denI e it)) (tG g t) (tT g noW (denT e c)) (tE g noW (denE e el)) own σ H Q := by
  obtain ⟨ρ, sw, h, S, HR, run⟩ := h
  refine ⟨ρ, sw, h, S, HR, (Run.bind (by simpa only [denE] using run)).imp (fun sr h1 ρ1 H1 e1 R1 r1 J ok D hD => ?_) fun x h' ρ' H' _ _ q => q⟩
  exact lc_run gx tin (S.ext e1) R1 ok hD r1
theorem r_lc (G : Good g e s X W) (hh : s.hot = false) {elt tg iter : Expr} {ifs : List Expr} {scope : Scope} {pos : Pos} {t : Tg} {it : It} {c el : E} (ok : blkC s.N s.sc scope (ownOf s.N scope) = true) (tin : tgIn t ((ownOf s.N scope).map (·.2)) = true)
    (L : LcParts g e s X W elt tg iter ifs scope t it c el) : PE X (.ListComp elt [⟨tg, iter, ifs, 0⟩] scope pos) (tE g W (denE e (.lc ((ownOf s.N scope).map (·.2)) t it c el))) :=
  (pe_lc (G.calm hh).1 G.nd L.hi (blkOk_by (by rw [G.N, G.sc]; exact ok)) (fun s H C cl fp => g_of (G.blk hh s H scope C cl fp) L.hg) (fun s H C cl fp => L.ht _ (G.blk hh s H scope C cl fp)) (fun s H C cl fp => L.he _ (G.blk hh s H scope C cl fp)) (L.hs _)).imp fun σ H Q h => lc_imp (G.xz hh) tin h
end
end MP

set_option maxHeartbeats 4000000
/-! MP15: the exception at hand: its fields, isinstance. -/
namespace MP
open PySem L2
section
variable {g : Gm} {X : Cx} {W : WX} {e : Env} {s : Sx}
theorem hasX_of {cd : Nat → Option CDef} {c : Nat} {f : Str} (h : hasX cd c f = true) : ∃ d ns, cd c = some d ∧ d.exf = some ns ∧ ns.contains f = true := by
  unfold hasX at h
  split at h
  · split at h
    · exact ⟨_, _, ‹_›, ‹_›, h⟩
    · cases h
  · cases h
theorem isExc_of {cd : Nat → Option CDef} {c : Nat} (h : isExc cd c = true) : ∃ d ns, cd c = some d ∧ d.exf = some ns := by
  unfold isExc at h
  split at h
  · obtain ⟨ns, e⟩ := Option.isSome_iff_exists.mp h
    exact ⟨_, ns, ‹_›, e⟩
  · cases h
/-- e.f -/
theorem r_xatt (G : Good g e s X W) {n : Str} {f : Str} {p pos : Pos} (hx : s.xn = some n) (ok : okName n = true) : PE X (.Attribute (.Name n p) f pos) (tE g W (denE e (.xatt f))) := by
  obtain ⟨xi, gx, hN, ev, hl, X0, oe, pn, rfl, hz, hf⟩ := G.xat n hx
  obtain ⟨o1, o2, o3⟩ := okName_of ok
  refine ⟨fun pins st σ H Q I t => ?_⟩
  obtain ⟨ρ, sw, h, S, HR, run⟩ := t
  obtain ⟨s1, xr⟩ := S.2.2 xi gx
  simp only [denE, ev] at run
  unfold okIf at run
  split at run
  · rename_i hh
    obtain ⟨d, ns, d1, d2, d3⟩ := hasX_of hh
    split at run
    · rename_i w ew
      have F := G.cf.exc _ d ns d1 d2
      obtain ⟨ec, xr⟩ := xr
      cases hd : xi.d with
      | none =>
        rw [hd] at xr
        dsimp only at xr
        rw [xr] at ew
        cases ew
      | some dd =>
        rw [hd] at xr
        obtain ⟨_, fs', h1, h2⟩ := xr
        have q2 := h2 f
        rw [ew] at q2
        obtain ⟨v, l1, l2⟩ := q2
        have gK : X0.K = g.K := G.K
        have T : XfC X0.K (g.ca xi.x.c) := by rw [gK]; exact F.xf
        have no : PySem.W.findIn X0.K (.ref (g.ca xi.x.c)) f = some none := by rw [gK]; exact F.nof f d3
        exact (pe_xf (pos := pos) T no hz hf (pe_var (pos := p) hN (.inl hl) o1 o2) (attBase rfl)).run pins st σ H Q I ⟨_, s1, rfl, ec, dd, fs', v, hd, h1, l1, run.ok HR _ l2⟩
    · exact run.elim
  · exact run.elim
/-- isinstance(e, c), e the exception that the suite holds -/
def rIsX (K : PySem.W.Frag) (D a : Addr) (d : Option Addr) : List V → Hp → VK → Prop := fun xs H Q => ∃ (c : V) (cv : Value) (b : Bool), xs = [.ref a, c] ∧ (∀ u, RelV c u → u = cv) ∧ PySem.W.kitOne K (.ref D) cv = some b ∧ (∀ dd, d = some dd → ∃ fs, H dd = some (.xd fs)) ∧ Q (.bl b) H
theorem call_isX {X : Cx} {a D : Addr} {d : Option Addr} {oe : Obj} {pn : List (Addr × Obj)} (C : ExcC X.K D) (hz : Zc (.ref D) d oe) (hf : ∃ vs, oe.data = .fields vs) : CallR (X.suite a ((a, oe) :: pn)) (.builtin "isinstance") (rIsX X.K D a d) := by
  intro pins s σ H xs us Q I r h
  obtain ⟨c, cv, b, rfl, hcv, e, hdd, q⟩ := h
  cases r with
  | cons rx rr =>
    cases rr with
    | cons rt rr =>
      cases rr
      cases rx
      have ec := hcv _ rt
      subst ec
      obtain ⟨hget, _⟩ := I.pin (a, oe) (List.mem_append.mpr (.inl List.mem_cons_self))
      obtain ⟨vs, hv⟩ := hf
      have J : ∃ od, PySem.W.InstAt s.heap a oe D od := by
        cases d with
        | none => exact ⟨none, hget, hz.1, by unfold PySem.W.notCls; rw [hv] <;> rfl, by rw [hz.2]; trivial⟩
        | some dd =>
          obtain ⟨fs, e1⟩ := hdd dd rfl
          have hx : ObjOk X.prog X.w H s.heap dd (.xd fs) := I.hok dd _ e1
          obtain ⟨mA, hns, hr⟩ := hx
          obtain ⟨od, ho, hl⟩ := lookIn_ns hns
          exact ⟨some od, hget, hz.1, by unfold PySem.W.notCls; rw [hv] <;> rfl, by rw [hz.2]; exact ho⟩
      obtain ⟨od, J⟩ := J
      have hcl : (PySem.W.clsIn X.K D).isSome = true := by obtain ⟨cd, hc, _⟩ := PySem.W.any_some C.hd; rw [hc]; rfl
      exact PySem.W.kia_one (PySem.W.kitx_exc hcl C.hg C.hk C.hs C.ha C.hn C.ht C.hm) I.kIn J e (fun z => nomatch z) fun tk => ⟨.bl b, H, I.kept (t' := tk) fun _ _ z => z, rfl, q⟩
theorem r_xisi (G : Good g e s X W) {n : Str} {c : Expr} {c' : E} {p p1 pos : Pos} (hx : s.xn = some n) (ok : okName n = true) (gl : isGl s.sc "isinstance" = true) (n2 : isStar c = false) (hc : PE X c (tE g W (denE e c'))) :
    PE X (.Call (.Name "isinstance" p) [.Name n p1, c] [] pos) (tE g W (denE e (.xisi c'))) := by
  obtain ⟨xi, gx, hN, ev, hl, X0, oe, pn, rfl, hz, hf⟩ := G.xat n hx
  obtain ⟨o1, o2, o3⟩ := okName_of ok
  have pl := noStars (pos := pos) (env := X0.env) (es := [c]) fun b hb => by simp at hb; rw [hb]; exact n2
  have hpa := pa_cons (pe_var (pos := p1) hN (.inl hl) o1 o2) (pa_cons hc pa_nil (notStar n2)) (notStar rfl)
  refine ⟨fun pins st σ H Q I t => ?_⟩
  obtain ⟨ρ, sw, h, S, HR, run⟩ := t
  obtain ⟨s1, xr⟩ := S.2.2 xi gx
  have gK : X0.K = g.K := G.K
  simp only [denE] at run
  -- the class's facts come from the test itself
  cases q1 : denE e c' sw h with
  | bad => rw [q1] at run; exact run.elim
  | exc x h1 =>
    rw [q1] at run
    have F : isExc e.cd xi.x.c = true ∨ isExc e.cd xi.x.c = false := by cases isExc e.cd xi.x.c <;> simp
    refine wpAny_Call_Name_kw (ld_blt I (G.gl gl) (G.bm (by decide +kernel)) (u := .builtin "isinstance") (by decide +kernel) ?_ (by decide +kernel) (by decide +kernel))
    refine PyProof.Rows.callWith_builtin1 (thn (hpa.run pos pins st σ H (fun _ _ => False) I ⟨_, s1, ?_⟩) fun us s1 ⟨vs, H1, I1, r1, q1⟩ => q1.elim) (notStar rfl) pl
    refine ⟨ρ, sw, h, S, HR, ?_⟩
    rw [q1]
    exact run
  | ok k h1 =>
    rw [q1] at run
    have run := (show Run g ρ H ((xisiW e k h1).bind fun b h1 => .ok (MP.W.bl b) h1) _ _ from run)
    unfold xisiW at run
    rw [ev] at run
    have key : ∃ b, (∀ ρ' H', Ext g ρ ρ' H H' → HRep g ρ' H' h1 → ∀ vk, Rep g ρ' H' k vk → ∃ cv, (∀ u, RelV vk u → u = cv) ∧ PySem.W.kitOne g.K (.ref (g.ca xi.x.c)) cv = some b ∧ Q (.bl b) H') ∧ isExc e.cd xi.x.c = true := by
      cases k with
      | cls i =>
        dsimp only at run
        unfold okIf at run
        split at run
        · rename_i hh
          simp only [Bool.and_eq_true] at hh
          obtain ⟨di, hdi⟩ := Option.isSome_iff_exists.mp hh.1
          obtain ⟨d, ns, d1, d2⟩ := isExc_of hh.2
          refine ⟨isSub e.cd xi.x.c i, fun ρ' H' e1 R1 vk rk => ?_, hh.2⟩
          rw [Rep] at rk
          subst rk
          exact ⟨.ref (g.ca i), fun u z => z, G.cf.kitX _ d i di d1 (by rw [d2]; simp) hdi, (Run.ext (show Run g ρ H (.ok (MP.W.bl _) h1) _ _ from run) e1).ok R1 _ Rep.mkBl⟩
        · exact run.elim
      | ty n =>
        dsimp only at run
        unfold okIf at run
        split at run
        · rename_i hh
          simp only [Bool.and_eq_true] at hh
          obtain ⟨d, ns, d1, d2⟩ := isExc_of hh.2
          refine ⟨true, fun ρ' H' e1 R1 vk rk => ?_, hh.2⟩
          rw [Rep] at rk
          subst rk
          have hn : n = "ValueError" := by simpa using hh.1
          exact ⟨.type n, fun u z => z, by rw [hn]; exact G.cf.kitV _ d d1 (by rw [d2]; simp), (Run.ext (show Run g ρ H (.ok (MP.W.bl _) h1) _ _ from run) e1).ok R1 _ Rep.mkBl⟩
        · exact run.elim
      | _ => exact run.elim
    obtain ⟨b, key, hE⟩ := key
    obtain ⟨d, ns, d1, d2⟩ := isExc_of hE
    have F := G.cf.exc _ d ns d1 d2
    have T : ExcC X0.K (g.ca xi.x.c) := by rw [gK]; exact F.ex
    obtain ⟨ec, xr⟩ := xr
    have hz' : Zc (.ref (g.ca xi.x.c)) xi.d oe := by rw [← ec]; exact hz
    refine (pe_callB (pos := pos) (call_isX (pn := pn) T hz' hf) (G.gl gl) (G.bm (by decide +kernel)) (by decide +kernel) hpa (by decide +kernel) (by decide +kernel) (notStar rfl) pl).run pins st σ H Q I ?_
    refine ⟨_, s1, ρ, sw, h, S, HR, ?_⟩
    rw [q1]
    intro ρ1 H1 e1 R1 vk rk
    obtain ⟨cv, k1, k2, k3⟩ := key ρ1 H1 e1 R1 vk rk
    refine ⟨vk, cv, b, rfl, k1, by rw [gK]; exact k2, fun dd hd => ?_, k3⟩
    rw [hd] at xr
    obtain ⟨nn, fs', z1, _⟩ := xr
    exact ⟨fs', e1.out _ _ nn z1⟩
end
end MP

set_option maxHeartbeats 4000000
/-! MP16: every expression that the compiler takes is walked as its meaning tells. -/
namespace MP
open PySem L2
section
variable {g : Gm} {X : Cx} {W : WX} {e : Env} {s : Sx}
theorem pe_bad {x : Expr} {d : SW → HW → Out MP.W} (h : ∀ sw h, d sw h = .bad) : PE X x (tE g W d) := ⟨fun pins st σ H Q I t => by
  obtain ⟨ρ, sw, hh, S, R, run⟩ := t
  rw [h] at run
  exact run.elim⟩
theorem pt_bad {x : Expr} {d : SW → HW → Out Bool} (h : ∀ sw h, d sw h = .bad) : PT X x (tT g W d) := ⟨fun pins st σ H Q I t => by
  obtain ⟨ρ, sw, hh, S, R, run⟩ := t
  rw [h] at run
  exact run.elim⟩
def plainC : E → Bool
  | .not _ | .and _ _ | .or _ _ | .cmp _ _ _ | .chain _ _ _ _ _ | .ite _ _ _ => false
  | _ => true
theorem denT_plain (c : E) (h : plainC c = true) : (∀ sw hh, denT e c sw hh = (denE e c sw hh).bind truW) ∨ (∀ sw hh, denT e c sw hh = .bad) := by
  cases c <;> first | (cases h; done) | (refine .inr fun sw hh => ?_; simp only [denT]; done) | (refine .inl fun sw hh => ?_; simp only [denT, denE]; done) | (refine .inl fun sw hh => ?_; simp only [denT, denE]; first | rfl | (split <;> rfl))
theorem both (G : Good g e s X W) {x : Expr} {c : E} (hp : isPlain x = true) (hc : plainC c = true) (h : PE X x (tE g W (denE e c))) : PE X x (tE g W (denE e c)) ∧ PT X x (tT g W (denT e c)) := by
  refine ⟨h, ?_⟩
  rcases denT_plain (e := e) c hc with q | q
  · exact (t_truth G.K hp h).imp fun σ H Q t => by
      obtain ⟨ρ, sw, hh, S, R, run⟩ := t
      rw [q] at run
      exact ⟨ρ, sw, hh, S, R, run⟩
  · exact pt_bad q
theorem cEs_star : ∀ {es : List Expr} {es' : Es}, cEs s es = some es' → (∀ a ∈ es, isStar a = false) ∧ (es = [] → es' = .nil)
  | [], es', h => by
    rw [cEs] at h
    cases h
    exact ⟨fun a ha => by simp at ha, fun _ => rfl⟩
  | a :: es, es', h => by
    rw [cEs] at h
    obtain ⟨a', h1, h⟩ := Option.bind_eq_some_iff.mp h
    obtain ⟨r', h2, h⟩ := Option.bind_eq_some_iff.mp h
    refine ⟨fun b hb => ?_, fun z => by cases z⟩
    rcases List.mem_cons.mp hb with rfl | hb
    · exact cE_star h1
    · exact (cEs_star h2).1 b hb
theorem cName_plain {x : Str} {c : E} (h : cName s x = some c) : plainC c = true := by
  unfold cName at h
  repeat' (first | (cases h; done) | (cases h; rfl) | split at h)
  all_goals (obtain ⟨i, _, rfl⟩ := Option.map_eq_some_iff.mp h; rfl)
theorem pt_ifExp {c a b : Expr} {pos : Pos} {tc ta tb : TT} (hc : PT X c tc) (ha : PT X a ta) (hb : PT X b tb) : PT X (.IfExp c a b pos) (fun σ H Q => tc σ H fun d H1 => if d = true then ta σ H1 Q else tb σ H1 Q) :=
  ⟨fun pins st σ H Q I h => by
    refine PyProof.Rows.isTrue_IfExp (thn (hc.run pins st σ H _ I h) fun d s1 ⟨H1, I1, q1⟩ => ?_)
    cases d with
    | true => exact ha.run pins s1 σ H1 Q I1 q1
    | false => exact hb.run pins s1 σ H1 Q I1 q1⟩
theorem t_ite {c a b : Expr} {pos : Pos} {c' a' b' : E} (hc : PT X c (tT g W (denT e c'))) (ha : PT X a (tT g W (denT e a'))) (hb : PT X b (tT g W (denT e b'))) : PT X (.IfExp c a b pos) (tT g W (denT e (.ite c' a' b'))) :=
  (pt_ifExp hc ha hb).imp fun σ H Q t => by
    obtain ⟨ρ, sw, h, S, R, run⟩ := t
    refine ⟨ρ, sw, h, S, R, (Run.bind (by simpa only [denT] using run)).imp (fun x h1 ρ1 H1 e1 R1 r1 => ?_) fun x h' ρ' H' _ _ q => q⟩
    cases x with
    | true => simp only [if_true] at r1 ⊢; exact ⟨ρ1, sw, h1, S.ext e1, R1, r1⟩
    | false => simp only [Bool.false_eq_true, if_false] at r1 ⊢; exact ⟨ρ1, sw, h1, S.ext e1, R1, r1⟩
theorem cE_call {x : Str} {q p : Pos} {as : List Expr} : cE s (.Call (.Name x q) as [] p) = if x = ("isinstance" : Str) && isGl s.sc x then
        (match as with
        | [a, c] => (if isXn s a then (cE s c).bind fun c' => some (.xisi c') else (cE s a).bind fun a' => (cE s c).bind fun c' => some (.isi a' c'))
        | _ => none)
      else (cEs s as).bind fun as' => cCall s x as' := by
  match as with
  | [] => simp [cE]
  | [a] => simp [cE]
  | [a, b] => rw [cE]
  | _ :: _ :: _ :: _ => simp [cE]
theorem cI_call {tp : Bool} {x : Str} {q p : Pos} {as : List Expr} : cI s tp (.Call (.Name x q) as [] p) =
      if x = ("range" : Str) && isGl s.sc x then (match as with
        | [a] => (cE s a).bind fun a' => some (.rng (.con (.int 0)) a')
        | [a, b] => (cE s a).bind fun a' => (cE s b).bind fun b' => some (.rng a' b')
        | _ => none)
      else if x = ("enumerate" : Str) && isGl s.sc x && tp then (match as with
        | [a] => (cE s a).bind fun a' => some (.enum a')
        | _ => none)
      else if x = ("zip" : Str) && isGl s.sc x && tp then (match as with
        | [a, b] => (cE s a).bind fun a' => (cE s b).bind fun b' => some (.zip a' b')
        | _ => none)
      else (cEs s as).bind fun as' => (cCall s x as').bind fun c => some (.seq c) := by
  match as with
  | [] => simp [cI]
  | [a] => rw [cI]
  | [a, b] => rw [cI]
  | _ :: _ :: _ :: _ => simp [cI]
/-- f(..) -/
theorem k_call (G : Good g e s X W) {x : Str} {as : List Expr} {as' : Es} {c : E} {p pos : Pos} (h : cCall s x as' = some c) (hs : (∀ a ∈ as, isStar a = false) ∧ (as = [] → as' = .nil)) (ha : PA X as (tAs g W (denEs e as'))) :
    PE X (.Call (.Name x p) as [] pos) (tE g W (denE e c)) ∧ plainC c = true := by
  unfold cCall at h
  split at h
  · rename_i ok
    simp only [Bool.and_eq_true] at ok
    obtain ⟨o1, o2, o3⟩ := okName_of ok.1
    have hot : s.hot = false := by simpa using ok.2
    split at h
    · rename_i vis
      obtain ⟨i, hi, rfl⟩ := Option.map_eq_some_iff.mp h
      exact ⟨r_callv G hot vis hi ok.1 hs.1 hs.2 ha, rfl⟩
    · split at h
      · rename_i gl
        split at h
        · rename_i i hi
          cases h
          exact ⟨r_call G hot gl (idxOf_get hi) o1 hs.1 hs.2 ha, rfl⟩
        · split at h
          · rename_i i hi
            cases h
            exact ⟨r_make G hot gl (idxOf_get hi) o1 hs.1 hs.2 ha, rfl⟩
          · have blt : ∀ b : Blt, x = (bltId b).1 → PE X (.Call (.Name x p) as [] pos) (tE g W (denE e (.blt b as'))) := fun b hb => by
              cases as with
              | nil =>
                rw [hs.2 rfl]
                exact pe_bad fun sw hh => by cases b <;> rfl
              | cons a r => exact r_blt G hb gl hs.1 ha
            split at h
            · cases h; exact ⟨blt .len (by assumption), rfl⟩
            · split at h
              · cases h; exact ⟨blt .int (by assumption), rfl⟩
              · split at h
                · cases h; exact ⟨blt .list (by assumption), rfl⟩
                · split at h
                  · cases h; exact ⟨blt .tuple (by assumption), rfl⟩
                  · cases h
      · cases h
  · cases h
/-- o.m(..) -/
theorem k_meth (G : Good g e s X W) {o : Expr} {m : Str} {as : List Expr} {o' : E} {as' : Es} {c : E} {apos pos : Pos} (hg : (noSuper o && !s.hot && (apos.endLine == pos.line) && decide (as.length < 20)) = true) (h : (match metOf m as.length with | some k => some (E.met k o' as') | none => some (.omet m o' as')) = some c)
    (hs : (∀ a ∈ as, isStar a = false) ∧ (as = [] → as' = .nil)) (ho : PE X o (tE g W (denE e o'))) (ha : PA X as (tAs g W (denEs e as'))) :
    PE X (.Call (.Attribute o m apos) as [] pos) (tE g W (denE e c)) ∧ plainC c = true := by
  simp only [Bool.and_eq_true, decide_eq_true_eq] at hg
  obtain ⟨⟨⟨g1, g2⟩, g3⟩, g4⟩ := hg
  split at h
  · rename_i k hk
    cases h
    exact ⟨r_met G hk g1 hs.1 hs.2 g4 g3 ho ha, rfl⟩
  · cases h
    exact ⟨r_omet G (by simpa using g2) g1 hs.1 hs.2 g4 g3 ho ha, rfl⟩
end
section
variable {g : Gm} {e : Env}
abbrev SE (g : Gm) (e : Env) (X : Cx) (W : WX) (x : Expr) (c : E) : Prop := PE X x (tE g W (denE e c)) ∧ PT X x (tT g W (denT e c))
mutual
theorem sE : ∀ (x : Expr) {s : Sx} {X : Cx} {W : WX} {c : E}, Good g e s X W → cE s x = some c → SE g e X W x c
  | .Starred _ _, s, X, W, c, G, h => by rw [cE] at h; cases h
  | .Constant k n p, s, X, W, c, G, h => by
    rw [cE] at h
    obtain ⟨w, hw, rfl⟩ := Option.map_eq_some_iff.mp h
    exact both G rfl rfl (r_const hw)
  | .Name x p, s, X, W, c, G, h => by
    rw [cE] at h
    split at h
    · cases h
    · exact both G rfl (cName_plain h) (r_name G h)
  | .BinOp a o b p, s, X, W, c, G, h => by
    rw [cE] at h
    obtain ⟨a', h1, h⟩ := Option.bind_eq_some_iff.mp h
    obtain ⟨b', h2, h⟩ := Option.bind_eq_some_iff.mp h
    cases h
    exact both G rfl rfl (r_bin G (sE a G h1).1 (sE b G h2).1)
  | .UnaryOp o a p, s, X, W, c, G, h => by
    cases o with
    | USub =>
      rw [cE] at h
      obtain ⟨a', h1, h⟩ := Option.bind_eq_some_iff.mp h
      cases h
      exact both G rfl rfl (r_neg (sE a G h1).1)
    | Not =>
      rw [cE] at h
      obtain ⟨a', h1, h⟩ := Option.bind_eq_some_iff.mp h
      cases h
      exact ⟨r_not G (sE a G h1).1, t_not (sE a G h1).2⟩
    | _ => simp [cE] at h
  | .BoolOp o vs p, s, X, W, c, G, h => by
    cases o with
    | And =>
      rw [cE] at h
      exact ⟨(sAnd vs G h).1 p, ((sAnd vs G h).2 p).pt⟩
    | Or =>
      rw [cE] at h
      exact ⟨(sOr vs G h).1 p, ((sOr vs G h).2 p).pt⟩
  | .Compare a ops bs p, s, X, W, c, G, h => by
    match ops, bs, h with
    | [o], [b], h =>
      rw [cE] at h
      split at h
      · cases h
      · rename_i hs
        have hs : isSetE b = false := by simpa using hs
        obtain ⟨a', h1, h⟩ := Option.bind_eq_some_iff.mp h
        obtain ⟨b', h2, h⟩ := Option.bind_eq_some_iff.mp h
        cases h
        exact ⟨r_cmp G (sE a G h1).1 (sE b G h2).1 hs, t_cmp G (sE a G h1).1 (sE b G h2).1 hs⟩
    | [o, q], [b, d], h =>
      rw [cE] at h
      split at h
      · cases h
      · rename_i hs
        have hs : isSetE b = false ∧ isSetE d = false := by simpa using hs
        obtain ⟨a', h1, h⟩ := Option.bind_eq_some_iff.mp h
        obtain ⟨b', h2, h⟩ := Option.bind_eq_some_iff.mp h
        obtain ⟨d', h3, h⟩ := Option.bind_eq_some_iff.mp h
        cases h
        exact ⟨r_chain G (sE a G h1).1 (sE b G h2).1 (sE d G h3).1 hs.1 hs.2, t_chain G (sE a G h1).1 (sE b G h2).1 (sE d G h3).1 hs.2⟩
    | [], _, h => simp [cE] at h
    | [_], [], h => simp [cE] at h
    | [_], _ :: _ :: _, h => simp [cE] at h
    | [_, _], [], h => simp [cE] at h
    | [_, _], [_], h => simp [cE] at h
    | [_, _], _ :: _ :: _ :: _, h => simp [cE] at h
    | _ :: _ :: _ :: _, _, h => simp [cE] at h
  | .IfExp t a b p, s, X, W, c, G, h => by
    rw [cE] at h
    obtain ⟨t', h0, h⟩ := Option.bind_eq_some_iff.mp h
    obtain ⟨a', h1, h⟩ := Option.bind_eq_some_iff.mp h
    obtain ⟨b', h2, h⟩ := Option.bind_eq_some_iff.mp h
    cases h
    exact ⟨r_ite (sE t G h0).2 (sE a G h1).1 (sE b G h2).1, t_ite (sE t G h0).2 (sE a G h1).2 (sE b G h2).2⟩
  | .Tuple es k p, s, X, W, c, G, h => by
    rw [cE] at h
    obtain ⟨a', h1, h⟩ := Option.bind_eq_some_iff.mp h
    cases h
    exact both G rfl rfl (r_tup (sEs es G h1))
  | .List es p, s, X, W, c, G, h => by
    rw [cE] at h
    obtain ⟨a', h1, h⟩ := Option.bind_eq_some_iff.mp h
    cases h
    exact both G rfl rfl (r_lst (sEs es G h1))
  | .ListComp elt gens scope p, s, X, W, c, G, h => by
    match gens, h with
    | [⟨tg, iter, ifs, k⟩], h =>
      have hk : k = 0 := by
        by_cases hk : k = 0
        · exact hk
        · simp [cE, hk] at h
      subst hk
      rw [cE] at h
      split at h
      · cases h
      · rename_i hot
        have hot : s.hot = false := by simpa using hot
        obtain ⟨it', h1, h⟩ := Option.bind_eq_some_iff.mp h
        obtain ⟨t', h2, h⟩ := Option.bind_eq_some_iff.mp h
        obtain ⟨c', h3, h⟩ := Option.bind_eq_some_iff.mp h
        obtain ⟨e', h4, h⟩ := Option.bind_eq_some_iff.mp h
        split at h
        · rename_i ok
          simp only [Bool.and_eq_true] at ok
          cases h
          exact both G rfl rfl (r_lc G hot ok.1 ok.2 ⟨(sI iter G tg h1).1, h2, fun X' G' => sIfs ifs G' h3, fun X' G' => (sE elt G' h4).1, (sI iter G tg h1).2⟩)
        · cases h
    | [], h => simp [cE] at h
    | _ :: _ :: _, h => simp [cE] at h
  | .Attribute o f p, s, X, W, c, G, h => by
    rw [cE] at h
    split at h
    · rename_i hx
      cases h
      cases o with
      | Name n q =>
        simp only [isXn, Bool.and_eq_true, beq_iff_eq] at hx
        exact both G rfl rfl (r_xatt G hx.1 hx.2)
      | _ => cases hx
    · split at h
      · rename_i hn
        obtain ⟨o', h1, h⟩ := Option.bind_eq_some_iff.mp h
        cases h
        exact both G rfl rfl (r_att G hn (sE o G h1).1)
      · cases h
  | .Subscript a i p, s, X, W, c, G, h => by
    have ihi : ∀ c, cE s i = some c → SE g e X W i c := fun c hc => sE i G hc
    have iha : ∀ c, cE s a = some c → SE g e X W a c := fun c hc => sE a G hc
    cases i with
    | Slice lo hi st q =>
      cases st with
      | none =>
        rw [cE] at h
        obtain ⟨a', h1, h⟩ := Option.bind_eq_some_iff.mp h
        obtain ⟨l', h2, h⟩ := Option.bind_eq_some_iff.mp h
        obtain ⟨u', h3, h⟩ := Option.bind_eq_some_iff.mp h
        cases h
        exact both G rfl rfl (r_slc G (iha _ h1).1 (sO lo G h2) (sO hi G h3))
      | some d => simp [cE, isSlice] at h
    | _ =>
      rw [cE] at h
      · simp only [isSlice, Bool.false_eq_true, if_false] at h
        obtain ⟨a', h1, h⟩ := Option.bind_eq_some_iff.mp h
        obtain ⟨i', h2, h⟩ := Option.bind_eq_some_iff.mp h
        cases h
        exact both G rfl rfl (r_sub G rfl (iha _ h1).1 (ihi _ h2).1)
      · intros; simp_all
  | .Call f as kws p, s, X, W, c, G, h => by
    have ih : ∀ {s X W c}, Good g e s X W → cEs s as = some c → PA X as (tAs g W (denEs e c)) := fun G hc => sEs as G hc
    cases kws with
    | cons k ks => cases f <;> simp [cE] at h
    | nil =>
      cases f with
      | Name x q =>
        rw [cE_call] at h
        split at h
        · rename_i hx
          simp only [Bool.and_eq_true, decide_eq_true_eq] at hx
          obtain ⟨rfl, gl⟩ := hx
          clear ih
          match as, h with
          | [a, d], h =>
            dsimp only at h
            split at h
            · rename_i hn
              obtain ⟨d', h2, h⟩ := Option.bind_eq_some_iff.mp h
              cases h
              cases a with
              | Name n r =>
                simp only [isXn, Bool.and_eq_true, beq_iff_eq] at hn
                exact both G rfl rfl (r_xisi G hn.1 hn.2 gl (cE_star h2) (sE d G h2).1)
              | _ => cases hn
            · obtain ⟨a', h1, h⟩ := Option.bind_eq_some_iff.mp h
              obtain ⟨d', h2, h⟩ := Option.bind_eq_some_iff.mp h
              cases h
              exact both G rfl rfl (r_isi G gl (cE_star h1) (cE_star h2) (sE a G h1).1 (sE d G h2).1)
          | [], h => cases h
          | [_], h => cases h
          | _ :: _ :: _ :: _, h => cases h
        · obtain ⟨as', h1, h⟩ := Option.bind_eq_some_iff.mp h
          have k := k_call (p := q) (pos := p) G h (cEs_star h1) (ih G h1)
          exact both G rfl k.2 k.1
      | Attribute o m ap =>
        rw [cE] at h
        split at h
        · rename_i hg
          obtain ⟨o', h1, h⟩ := Option.bind_eq_some_iff.mp h
          obtain ⟨as', h2, h⟩ := Option.bind_eq_some_iff.mp h
          have k := k_meth G hg h (cEs_star h2) (sE o G h1).1 (ih G h2)
          exact both G rfl k.2 k.1
        · cases h
      | _ => simp [cE] at h
  | .NamedExpr .., s, X, W, c, G, h => by simp [cE] at h
  | .Lambda .., s, X, W, c, G, h => by simp [cE] at h
  | .Dict .., s, X, W, c, G, h => by simp [cE] at h
  | .Set .., s, X, W, c, G, h => by simp [cE] at h
  | .SetComp .., s, X, W, c, G, h => by simp [cE] at h
  | .DictComp .., s, X, W, c, G, h => by simp [cE] at h
  | .GeneratorExp .., s, X, W, c, G, h => by simp [cE] at h
  | .Await .., s, X, W, c, G, h => by simp [cE] at h
  | .Yield .., s, X, W, c, G, h => by simp [cE] at h
  | .YieldFrom .., s, X, W, c, G, h => by simp [cE] at h
  | .FormattedValue .., s, X, W, c, G, h => by simp [cE] at h
  | .JoinedStr .., s, X, W, c, G, h => by simp [cE] at h
  | .Slice .., s, X, W, c, G, h => by simp [cE] at h
theorem sEs : ∀ (es : List Expr) {s : Sx} {X : Cx} {W : WX} {c : Es}, Good g e s X W → cEs s es = some c → PA X es (tAs g W (denEs e c))
  | [], s, X, W, c, G, h => by
    rw [cEs] at h
    cases h
    exact r_nil
  | a :: es, s, X, W, c, G, h => by
    rw [cEs] at h
    obtain ⟨a', h1, h⟩ := Option.bind_eq_some_iff.mp h
    obtain ⟨r', h2, h⟩ := Option.bind_eq_some_iff.mp h
    cases h
    exact r_cons (cE_star h1) (sE a G h1).1 (sEs es G h2)
theorem sAnd : ∀ (es : List Expr) {s : Sx} {X : Cx} {W : WX} {c : E}, Good g e s X W → cAnd s es = some c → (∀ p, PE X (.BoolOp .And es p) (tE g W (denE e c))) ∧ ∀ p, PW X (.BoolOp .And es p) (tT g W (denT e c))
  | [], s, X, W, c, G, h => by rw [cAnd] at h; cases h
  | [a], s, X, W, c, G, h => by
    rw [cAnd] at h
    exact ⟨fun p => pe_one (sE a G h).1, fun p => t_and1 (sE a G h).2⟩
  | a :: b :: r, s, X, W, c, G, h => by
    rw [cAnd] at h
    obtain ⟨a', h1, h⟩ := Option.bind_eq_some_iff.mp h
    obtain ⟨r', h2, h⟩ := Option.bind_eq_some_iff.mp h
    cases h
    exact ⟨fun p => r_and (sE a G h1).1 ((sAnd (b :: r) G h2).1 p), fun p => t_and (sE a G h1).2 ((sAnd (b :: r) G h2).2 p)⟩
theorem sOr : ∀ (es : List Expr) {s : Sx} {X : Cx} {W : WX} {c : E}, Good g e s X W → cOr s es = some c → (∀ p, PE X (.BoolOp .Or es p) (tE g W (denE e c))) ∧ ∀ p, PW X (.BoolOp .Or es p) (tT g W (denT e c))
  | [], s, X, W, c, G, h => by rw [cOr] at h; cases h
  | [a], s, X, W, c, G, h => by
    rw [cOr] at h
    exact ⟨fun p => pe_one (sE a G h).1, fun p => t_or1 (sE a G h).2⟩
  | a :: b :: r, s, X, W, c, G, h => by
    rw [cOr] at h
    obtain ⟨a', h1, h⟩ := Option.bind_eq_some_iff.mp h
    obtain ⟨r', h2, h⟩ := Option.bind_eq_some_iff.mp h
    cases h
    exact ⟨fun p => r_or (sE a G h1).1 ((sOr (b :: r) G h2).1 p), fun p => t_or (sE a G h1).2 ((sOr (b :: r) G h2).2 p)⟩
theorem sO : ∀ (o : Option Expr) {s : Sx} {X : Cx} {W : WX} {c : Oe}, Good g e s X W → cO s o = some c → PO X o (tPO g W (denO e c))
  | none, s, X, W, c, G, h => by
    rw [cO] at h
    cases h
    exact r_no
  | some a, s, X, W, c, G, h => by
    rw [cO] at h
    obtain ⟨a', h1, h⟩ := Option.bind_eq_some_iff.mp h
    cases h
    exact r_so (sE a G h1).1
theorem sIfs : ∀ (es : List Expr) {s : Sx} {X : Cx} {W : WX} {c : E}, Good g e s X W → cIfs s es = some c → PTs X es (tT g W (denT e c))
  | [], s, X, W, c, G, h => by
    rw [cIfs] at h
    cases h
    exact ⟨fun pins st σ H Q I t => pts_nil.run pins st σ H Q I (by
      obtain ⟨ρ, sw, hh, S, R, run⟩ := t
      simp only [denT, truW] at run
      exact run.ok R)⟩
  | [a], s, X, W, c, G, h => by
    rw [cIfs] at h
    exact pts_one (sE a G h).2
  | a :: b :: r, s, X, W, c, G, h => by simp [cIfs] at h
theorem sI : ∀ (x : Expr) {s : Sx} {X : Cx} {W : WX} {c : It}, Good g e s X W → ∀ tg, cI s (isTupE tg) x = some c → PI X tg x (tI g W (denI e c)) ∧ ∀ env v, foldedSetIterable x env v = pure v
  | .Name x p, s, X, W, c, G, tg, h => by
    rw [cI] at h
    obtain ⟨c', h1, h⟩ := Option.bind_eq_some_iff.mp h
    cases h
    split at h1
    · cases h1
    · exact ⟨i_seq G (r_name G h1), fun _ _ => rfl⟩
  | .Attribute o f p, s, X, W, c, G, tg, h => by
    rw [cI] at h
    split at h
    · cases h
    · split at h
      · rename_i hn
        obtain ⟨o', h1, h⟩ := Option.bind_eq_some_iff.mp h
        cases h
        exact ⟨i_seq G (r_att G hn (sE o G h1).1), fun _ _ => rfl⟩
      · cases h
  | .Subscript a i p, s, X, W, c, G, tg, h => by
    have ihi : ∀ c, cE s i = some c → SE g e X W i c := fun c hc => sE i G hc
    have iha : ∀ c, cE s a = some c → SE g e X W a c := fun c hc => sE a G hc
    refine ⟨?_, fun _ _ => rfl⟩
    cases i with
    | Slice lo hi st q =>
      cases st with
      | none =>
        rw [cI] at h
        obtain ⟨a', h1, h⟩ := Option.bind_eq_some_iff.mp h
        obtain ⟨l', h2, h⟩ := Option.bind_eq_some_iff.mp h
        obtain ⟨u', h3, h⟩ := Option.bind_eq_some_iff.mp h
        cases h
        exact i_seq G (r_slc G (iha _ h1).1 (sO lo G h2) (sO hi G h3))
      | some d => simp [cI, isSlice] at h
    | _ =>
      rw [cI] at h
      · simp only [isSlice, Bool.false_eq_true, if_false] at h
        obtain ⟨a', h1, h⟩ := Option.bind_eq_some_iff.mp h
        obtain ⟨i', h2, h⟩ := Option.bind_eq_some_iff.mp h
        cases h
        exact i_seq G (r_sub G rfl (iha _ h1).1 (ihi _ h2).1)
      · intros; simp_all
  | .Tuple es k p, s, X, W, c, G, tg, h => by
    rw [cI] at h
    obtain ⟨a', h1, h⟩ := Option.bind_eq_some_iff.mp h
    cases h
    exact ⟨i_seq G (r_tup (sEs es G h1)), fun _ _ => rfl⟩
  | .List es p, s, X, W, c, G, tg, h => by
    rw [cI] at h
    obtain ⟨a', h1, h⟩ := Option.bind_eq_some_iff.mp h
    cases h
    exact ⟨i_seq G (r_lst (sEs es G h1)), fun _ _ => rfl⟩
  | .BinOp a o b p, s, X, W, c, G, tg, h => by
    rw [cI] at h
    obtain ⟨a', h1, h⟩ := Option.bind_eq_some_iff.mp h
    obtain ⟨b', h2, h⟩ := Option.bind_eq_some_iff.mp h
    cases h
    exact ⟨i_seq G (r_bin G (sE a G h1).1 (sE b G h2).1), fun _ _ => rfl⟩
  | .Call f as kws p, s, X, W, c, G, tg, h => by
    have ih : ∀ {s X W c}, Good g e s X W → cEs s as = some c → PA X as (tAs g W (denEs e c)) := fun G hc => sEs as G hc
    refine ⟨?_, fun _ _ => rfl⟩
    cases kws with
    | cons k ks => cases f <;> simp [cI] at h
    | nil =>
      cases f with
      | Name x q =>
        rw [cI_call] at h
        split at h
        · rename_i hx
          simp only [Bool.and_eq_true, decide_eq_true_eq] at hx
          obtain ⟨rfl, gl⟩ := hx
          clear ih
          match as, h with
          | [a], h =>
            obtain ⟨a', h1, h⟩ := Option.bind_eq_some_iff.mp h
            cases h
            exact i_rng1 G gl (cE_star h1) (sE a G h1).1
          | [a, b], h =>
            obtain ⟨a', h1, h⟩ := Option.bind_eq_some_iff.mp h
            obtain ⟨b', h2, h⟩ := Option.bind_eq_some_iff.mp h
            cases h
            exact i_rng2 G gl (cE_star h1) (cE_star h2) (sE a G h1).1 (sE b G h2).1
          | [], h => cases h
          | _ :: _ :: _ :: _, h => cases h
        · split at h
          · rename_i hx
            simp only [Bool.and_eq_true, decide_eq_true_eq] at hx
            obtain ⟨⟨rfl, gl⟩, tp⟩ := hx
            clear ih
            cases tg with
            | Tuple ts k tpos =>
              match as, h with
              | [a], h =>
                obtain ⟨a', h1, h⟩ := Option.bind_eq_some_iff.mp h
                cases h
                exact i_enum G gl (cE_star h1) (sE a G h1).1
              | [], h => cases h
              | _ :: _ :: _, h => cases h
            | _ => cases tp
          · split at h
            · rename_i hx
              simp only [Bool.and_eq_true, decide_eq_true_eq] at hx
              obtain ⟨⟨rfl, gl⟩, tp⟩ := hx
              clear ih
              cases tg with
              | Tuple ts k tpos =>
                match as, h with
                | [a, b], h =>
                  obtain ⟨a', h1, h⟩ := Option.bind_eq_some_iff.mp h
                  obtain ⟨b', h2, h⟩ := Option.bind_eq_some_iff.mp h
                  cases h
                  exact i_zip G gl (cE_star h1) (cE_star h2) (sE a G h1).1 (sE b G h2).1
                | [], h => cases h
                | [_], h => cases h
                | _ :: _ :: _ :: _, h => cases h
              | _ => cases tp
            · obtain ⟨as', h1, h⟩ := Option.bind_eq_some_iff.mp h
              obtain ⟨c', h2, h⟩ := Option.bind_eq_some_iff.mp h
              cases h
              exact i_seq G (k_call (p := q) (pos := p) G h2 (cEs_star h1) (ih G h1)).1
      | Attribute o m ap =>
        rw [cI] at h
        split at h
        · rename_i hg
          obtain ⟨o', h1, h⟩ := Option.bind_eq_some_iff.mp h
          obtain ⟨as', h2, h⟩ := Option.bind_eq_some_iff.mp h
          cases hm : metOf m as.length with
          | some k =>
            rw [hm] at h
            cases h
            exact i_seq G (k_meth (c := .met k o' as') G hg (by rw [hm]) (cEs_star h2) (sE o G h1).1 (ih G h2)).1
          | none =>
            rw [hm] at h
            cases h
            exact i_seq G (k_meth (c := .omet m o' as') G hg (by rw [hm]) (cEs_star h2) (sE o G h1).1 (ih G h2)).1
        · cases h
      | _ => simp [cI] at h
  | .Starred .., s, X, W, c, G, tg, h => by simp [cI] at h
  | .Constant .., s, X, W, c, G, tg, h => by simp [cI] at h
  | .UnaryOp .., s, X, W, c, G, tg, h => by simp [cI] at h
  | .BoolOp .., s, X, W, c, G, tg, h => by simp [cI] at h
  | .Compare .., s, X, W, c, G, tg, h => by simp [cI] at h
  | .IfExp .., s, X, W, c, G, tg, h => by simp [cI] at h
  | .ListComp .., s, X, W, c, G, tg, h => by simp [cI] at h
  | .NamedExpr .., s, X, W, c, G, tg, h => by simp [cI] at h
  | .Lambda .., s, X, W, c, G, tg, h => by simp [cI] at h
  | .Dict .., s, X, W, c, G, tg, h => by simp [cI] at h
  | .Set .., s, X, W, c, G, tg, h => by simp [cI] at h
  | .SetComp .., s, X, W, c, G, tg, h => by simp [cI] at h
  | .DictComp .., s, X, W, c, G, tg, h => by simp [cI] at h
  | .GeneratorExp .., s, X, W, c, G, tg, h => by simp [cI] at h
  | .Await .., s, X, W, c, G, tg, h => by simp [cI] at h
  | .Yield .., s, X, W, c, G, tg, h => by simp [cI] at h
  | .YieldFrom .., s, X, W, c, G, tg, h => by simp [cI] at h
  | .FormattedValue .., s, X, W, c, G, tg, h => by simp [cI] at h
  | .JoinedStr .., s, X, W, c, G, tg, h => by simp [cI] at h
  | .Slice .., s, X, W, c, G, tg, h => by simp [cI] at h
end
end
end MP

set_option maxHeartbeats 4000000
/-! MP17: try with several except clauses, with and without names, and an else part. -/
namespace MP
open PySem L2 PySem.Spec
open PyProof.Rows (AllBare)
abbrev Su := Addr → Value → Option Addr → TS
/-- the name's slot comes -/
def come (n : Option Nat) (a : Addr) (σ : St) : St := match n with
  | some i => σ.set i (some (.ref a))
  | none => σ
/-- .. and goes -/
def goes (n : Option Nat) (σ : St) : St := match n with
  | some i => σ.set i none
  | none => σ
def endsG (n : Option Nat) (D : Ends) : Ends := { nx := fun σ H => D.nx (goes n σ) H, rt := D.rt, bk := fun σ H => D.bk (goes n σ) H, ct := fun σ H => D.ct (goes n σ) H }
/-- what the clauses want of an exception: the first one that takes it -/
def wAll (K : PySem.W.Frag) (Wout : WX) (D : Ends) : List (Value × Option Nat × Su) → WX
  | [] => Wout
  | (c, n, ts) :: r => fun cls d σ H => ∃ b, PySem.W.exmOne K cls c = some b ∧ (b = true → ∀ a, H a = none → ts a cls d (endsG n D) (come n a σ) H) ∧ (b = false → wAll K Wout D r cls d σ H)
/-- the name stands in this slot -/
def NameAt (X : Cx) : Option Str → Option Nat → Prop
  | none, none => True
  | some n, some i => X.N[i]? = some n ∧ X.env.kindOf n = some .local
  | _, _ => False
inductive Clauses (X : Cx) : List ExceptHandler → List (Value × Option Nat × Su) → Prop
  | nil : Clauses X [] []
  | cons {x : Str} {c : Value} {m : Option Str} {n : Option Nat} {ts : Su} {b : Stmt} {bs : List Stmt} {np hp : Pos} {hds : List ExceptHandler} {l : List (Value × Option Nat × Su)} (hc : Names X x c) (hn : NameAt X m n)
      (su : ∀ (a : Addr) (oe : Obj) (cls : Value) (d : Option Addr) (pn : List (Addr × Obj)), Zc cls d oe → (∃ vs, oe.data = .fields vs) → PSs (X.suite a ((a, oe) :: pn)) (b :: bs) (ts a cls d)) (r : Clauses X hds l) :
      Clauses X (.ExceptHandler (some (.Name x np)) m (b :: bs) hp :: hds) ((c, n, ts) :: l)
/-- the exception at a has come down to the frame of X -/
structure Down (X : Cx) (pins : List (Addr × Obj)) (a : Addr) (cls : Value) (d : Option Addr) (σ : St) (H : Hp) (B : Heap) (sI st : Shared) : Prop where
  inv : Inv X pins σ H sI
  nb : ∀ b o, sI.heap.get? b = some o → b ∉ frs X.stack → B.get? b = some o
  up : sI.heap.UpToSlots st.heap
  fly : HandSPX.FlyingZ B (X.env :: X.outer) a (Zc cls d) st.heap
  na : H a = none
  os : st.os = sI.os
  ag : AllBare st.gens
section
variable {X : Cx} {pins : List (Addr × Obj)} {a : Addr} {cls : Value} {d : Option Addr} {σ : St} {H : Hp} {B : Heap} {sI st : Shared}
theorem Down.here (D : Down X pins a cls d σ H B sI st) : Inv X pins σ H st := D.inv.landed D.nb D.fly.1 D.up D.os D.ag
theorem Down.suite (hf : X.env.frame = some X.env.locals) (D : Down X pins a cls d σ H B sI st) : ∃ oe, st.heap.get? a = some oe ∧ Zc cls d oe ∧ (∃ vs, oe.data = .fields vs) ∧ Inv (X.suite a ((a, oe) :: (X.pn ++ pins))) [] σ H st := by
  obtain ⟨oe, vs, g1, g2, g3⟩ := D.fly.there
  have out : a ∉ frs (X.env :: X.outer) := fun m => by
    obtain ⟨_, o', e', nf⟩ := D.fly.2.2.1.mem m
    have z := g1.symm.trans e'
    cases z
    exact nf _ g3
  refine ⟨oe, g1, g2, ⟨vs, g3⟩, D.here.suite g1 g3 D.na (fun z => out ?_) fun m => out ?_⟩
  · exact List.mem_filterMap.mpr ⟨X.env, List.mem_cons_self, by rw [z]; exact hf⟩
  · obtain ⟨v, hv, q⟩ := List.mem_filterMap.mp m
    exact List.mem_filterMap.mpr ⟨v, List.mem_cons_of_mem _ hv, q⟩
theorem Down.step (D : Down X pins a cls d σ H B sI st) {Q : Unit → Shared → Prop} {E : Value → Shared → Prop} {A : Around} {M : Model} (h : ∀ st', Down X pins a cls d σ H B sI st' → Q () st') : wpAny M A (setFlight (.ref a) none) Q E st :=
  HandSPX.lands_againZ D.fly fun h4 f4 u4 => h _ ⟨D.inv, D.nb, D.up.trans u4, f4, D.na, D.os, D.ag⟩
/-- the suite's end, back in the frame -/
theorem suite_end {oe : Obj} {Dn : Ends} {m : Option Str} {n : Option Nat} {f : Flow} {s6 : Shared} {hp : Pos} (ok : X.Ok) (hN : X.N.Nodup) (hn : NameAt X m n) (q : SP (X.suite a ((a, oe) :: (X.pn ++ pins))) [] (endsG n Dn) f s6) :
    match m with
    | none => SP X pins Dn f s6
    | some nm => wpAny (model X.prog X.w) X.A (do bindName X.env nm .none; unbindBehindTheSuite X.env nm hp) (fun _ s7 => SP X pins Dn f s7) X.xe s6 := by
  have key : ∀ {σ6 : St} {H6 : Hp} (P : Shared → Prop), Inv (X.suite a ((a, oe) :: (X.pn ++ pins))) [] σ6 H6 s6 → (∀ s7, Inv X pins (goes n σ6) H6 s7 → P s7) →
      match m with
      | none => P s6
      | some nm => wpAny (model X.prog X.w) X.A (do bindName X.env nm .none; unbindBehindTheSuite X.env nm hp) (fun _ s7 => P s7) X.xe s6 := fun {σ6 H6} P I6 k => by
    cases m with
    | none =>
      cases n with
      | none => exact k _ (I6.unsuite ok)
      | some i => exact hn.elim
    | some nm =>
      cases n with
      | none => exact hn.elim
      | some i => exact gone_ok (I6.unsuite ok) hN hn.1 hn.2 k
  cases f with
  | next => obtain ⟨σ6, H6, I6, w⟩ := q; exact key (SP X pins Dn .next) I6 fun s7 I7 => ⟨_, _, I7, w⟩
  | brk => obtain ⟨σ6, H6, I6, w⟩ := q; exact key (SP X pins Dn .brk) I6 fun s7 I7 => ⟨_, _, I7, w⟩
  | cont => obtain ⟨σ6, H6, I6, w⟩ := q; exact key (SP X pins Dn .cont) I6 fun s7 I7 => ⟨_, _, I7, w⟩
  | ret u => obtain ⟨v, σ6, H6, I6, rv, w⟩ := q; exact key (SP X pins Dn (.ret u)) I6 fun s7 I7 => ⟨v, _, _, I7, rv, w⟩
/-- no clause takes it: on it goes -/
theorem pass_by {Wout : WX} {Dn : Ends} (hs : X.stack = X.env :: X.outer) (hf : X.env.frame = some X.env.locals) (tk : Takes X Wout) (D : Down X pins a cls d σ H B sI st) (w : Wout cls d σ H) :
    wpAny (model X.prog X.w) X.A (handleBy (.ref a) X.env []) (SP X pins Dn) X.xe st := by
  refine wpAny_handleBy_nil ?_
  obtain ⟨_, _, _, oe, vs, T, oT, ts, g1, _, g3, g4, _⟩ := id D.fly
  unfold PySem.passOn
  refine wpAny_bind (wpAny_field g1 g3 g4 ?_)
  rw [if_neg (show ¬ ((Value.ref T == Value.none) = true) by simp)]
  have last : wpAny (model X.prog X.w) X.A (setFlight (.ref a) X.env.frame) (fun _ s4 => wpAny (model X.prog X.w) X.A (throw (.ref a) : Sem Flow) (SP X pins Dn) X.xe s4) X.xe st := by
    rw [hf]
    refine HandSPX.setFlight_upZ D.fly fun h4 held up4 => wpAny_throw (tk _ _ ?_)
    refine ⟨a, B, sI, pins, σ, H, cls, d, rfl, D.inv, D.nb, D.up.trans up4, .inr (.inr ?_), D.na, D.os, D.ag, w⟩
    rw [hs]
    exact held
  first | exact wpAny_bind (wpAny_pure (wpAny_bind last)) | exact wpAny_bind last
theorem clauses_run {Wout : WX} {Dn : Ends} (hs : X.stack = X.env :: X.outer) (hf : X.env.frame = some X.env.locals) (hN : X.N.Nodup) (tk : Takes X Wout) (ok : X.Ok) {hds : List ExceptHandler} {l : List (Value × Option Nat × Su)} (C : Clauses X hds l) :
    Down X pins a cls d σ H B sI st → wAll X.K Wout Dn l cls d σ H → wpAny (model X.prog X.w) X.A (handleBy (.ref a) X.env hds) (SP X pins Dn) X.xe st := by
  induction C with
  | nil => exact fun D w => pass_by hs hf tk D w
  | @cons x c m n ts b bs np hp hds2 l2 hc hn su r ih =>
    intro D w
    obtain ⟨k, ek, yes, no⟩ := w
    obtain ⟨oe, g1, g2, g3, I3⟩ := D.suite hf
    refine wpAny_handleBy_cons (codeAny_handlers_test ?_) (by intro q; cases q)
    have LT : PySem.W.Looks (model X.prog X.w) st.heap (typeOf (.ref a)) cls := fun A Q E s kk q => wpAny_typeOf_ref (kk _ _ g1) (by rw [g2.1]; exact q)
    have LM := PySem.W.exm_one (M := model X.prog X.w) D.here.kIn LT ek
    have look : ∀ {Q : Value → Shared → Prop} {E : Value → Shared → Prop}, Q c st → wpAny (model X.prog X.w) (X.A.mark (some (.ref a))) (eval (.Name x np) X.env) Q E st := fun {Q E} q => by
      obtain ⟨h1, h2, h3 | ⟨h3, h4, h5⟩⟩ := hc
      · exact ld_glob (X := X.suite a ((a, oe) :: (X.pn ++ pins))) I3 h1 h3 q h2
      · exact ld_blt (X := X.suite a ((a, oe) :: (X.pn ++ pins))) I3 h1 h3 h4 q h5 h2
    refine look (LM.here ?_)
    cases k with
    | false => exact ih D (no rfl)
    | true =>
      have fin : ∀ st', Down X pins a cls d σ H B sI st' → ∃ oe4, Inv (X.suite a ((a, oe4) :: (X.pn ++ pins))) [] σ H st' ∧ PSs (X.suite a ((a, oe4) :: (X.pn ++ pins))) (b :: bs) (ts a cls d) := fun st' D4 => by
        obtain ⟨oe4, f1, f2, f3, I4⟩ := D4.suite hf
        exact ⟨oe4, I4, su a oe4 cls d _ f2 f3⟩
      cases m with
      | none =>
        cases n with
        | some i => exact hn.elim
        | none =>
          refine codeAny_handlers_suite (D.step fun st' D4 => ?_)
          obtain ⟨oe4, I4, P4⟩ := fin st' D4
          exact wpAny_mono (P4.run [] _ _ H _ I4 (yes rfl a D.na)) (fun f s6 q => suite_end (hp := hp) (m := none) (n := none) ok hN trivial q) fun _ _ z => z.elim
      | some nm =>
        cases n with
        | none => exact hn.elim
        | some i =>
          refine codeAny_handlers_suite_as (D.step fun st' D4 => ?_)
          obtain ⟨oe4, I4, P4⟩ := fin st' D4
          refine store_ok (X := X.suite a ((a, oe4) :: (X.pn ++ pins))) (v := .ref a) I4 hN hn.1 (.inl hn.2) rfl (fun s5 I5 => ?_) (.inr hn.2)
          have q6 : ∀ f s6, SP (X.suite a ((a, oe4) :: (X.pn ++ pins))) [] (endsG (some i) Dn) f s6 → wpAny (model X.prog X.w) X.A (do bindName X.env nm .none; unbindBehindTheSuite X.env nm hp) (fun _ s7 => SP X pins Dn f s7) X.xe s6 := fun f s6 q => suite_end (m := some nm) (n := some i) ok hN hn q
          exact wpAny_mono (P4.run [] s5 _ H _ I5 (yes rfl a D.na)) (fun f s6 q => q6 f s6 q) fun _ _ z => z.elim
end
/-- try: body / except ..: .. / else: .. -/
theorem ps_try_all {X : Cx} {body orelse : List Stmt} {h₀ : ExceptHandler} {hds : List ExceptHandler} {l : List (Value × Option Nat × Su)} {pos : Pos} {tb : WX → TS} {u : TS} {Wout : WX} (hs : X.stack = X.env :: X.outer) (hf : X.env.frame = some X.env.locals) (hN : X.N.Nodup) (tk : Takes X Wout)
    (hb : ∀ (W : WX) (pn : List (Addr × Obj)) (xe : Value → Shared → Prop), Takes (X.tr pn xe) W → PassesOwn (model X.prog X.w) X.A X.env xe → PSs (X.tr pn xe) body (tb W)) (C : Clauses X (h₀ :: hds) l) (ho : PSs X orelse u) :
    PS X (.Try body (h₀ :: hds) orelse [] pos) (fun D σ H => tb (wAll X.K Wout D l) { D with nx := u D } σ H) := by
  refine ⟨fun pins s σ H D I h => ?_⟩
  have ok := I.ok
  have fr : X.A.frames = some (X.env :: X.outer) := hs ▸ ok.frames
  refine wpAny_Try_except ?_
  have B := hb (wAll X.K Wout D l) (X.pn ++ pins) (fun e s₁ => wpAny (model X.prog X.w) X.A (noteFrame e X.env) (fun _ s₂ => wpAny (model X.prog X.w) X.A (setFlight e none) (fun _ s₃ => wpAny (model X.prog X.w) X.A (handleBy e X.env (h₀ :: hds)) (SP X pins D) X.xe s₃) X.xe s₂) X.xe s₁) (fun u' s' xx => ?_) PassesOwn.looking
  · refine wpAny_mono (B.run [] s σ H { D with nx := u D } (I.toTry _) h) (fun f s1 q => ?_) fun _ _ he => he
    cases f with
    | next => obtain ⟨σ1, H1, I1, w⟩ := q; exact ho.run pins s1 σ1 H1 D (I1.ofTry ok) w
    | brk => obtain ⟨σ1, H1, I1, w⟩ := q; exact ⟨σ1, H1, I1.ofTry ok, w⟩
    | cont => obtain ⟨σ1, H1, I1, w⟩ := q; exact ⟨σ1, H1, I1.ofTry ok, w⟩
    | ret v => obtain ⟨v', σ1, H1, I1, rv, w⟩ := q; exact ⟨v', σ1, H1, I1.ofTry ok, rv, w⟩
  · obtain ⟨a, G, sI, pins', σ1, H1, cls, d, rfl, I1, nb, up, sky, na, os, ag, w⟩ := xx
    have sk : Sky G (X.env :: X.outer) a (Zc cls d) X.env.locals s'.heap := hs ▸ sky
    refine Sky.land (M := model X.prog X.w) (A := X.A) Zc.steady fr hf sk fun h3 fl up3 => ?_
    exact clauses_run hs hf hN tk ok C ⟨I1.ofTry ok, nb, up.trans up3, fl, na, os, ag⟩ w
end MP

set_option maxHeartbeats 4000000
/-! MP18: statements, by meanings. -/
namespace MP
open PySem L2
/-- a place of statements -/
structure GoodS (g : Gm) (e : Env) (s : Sx) (X : Cx) (W : WX) : Prop extends Good g e s X W where
  po : PassesOwn (model X.prog X.w) X.A X.env X.xe
  hs : s.hot = false → X.stack = X.env :: X.outer
  hf : s.hot = false → X.env.frame = some X.env.locals
section
variable {g : Gm} {X : Cx} {W : WX} {e : Env} {s : Sx}
theorem sw_name {v t : Expr} {l : Nat} {env : PySem.Env} (h : isComp v = false) : swapsWith v (some t) l env = pure false := by
  cases v <;> first | rfl | cases h
theorem sw_none {v : Expr} {l : Nat} {env : PySem.Env} (h : isComp v = false) : swapsWith v none l env = pure false := by
  cases v <;> first | rfl | cases h
def isNm : Expr → Bool
  | .Name .. => true
  | _ => false
theorem sw_other {v t : Expr} {l : Nat} {env : PySem.Env} (h : isNm t = false) : swapsWith v (some t) l env = pure false := by
  cases t <;> first | (cases h; done) | (cases v <;> rfl)
theorem st_none {v t : Expr} {env : PySem.Env} (h : isTupE v = false) : swappedStores [t] v env = pure none := by
  cases v <;> first | (cases h; done) | (cases t <;> rfl)
theorem st_other {v t : Expr} {env : PySem.Env} (h : isTupE t = false) (h2 : (match t with | .List .. => true | _ => false) = false) : swappedStores [t] v env = pure none := by
  cases t <;> first | (cases h; done) | (cases h2; done) | (cases v <;> rfl)
def isLstE : Expr → Bool
  | .List .. => true
  | .Starred .. => true
  | _ => false
/-- tg = v -/
theorem s_asg {tg v : Expr} {t : Tg} {v' : E} {pos : Pos} (hv : PE X v (tE g W (denE e v'))) (hg : PG X tg (tG g t)) (h1 : swapsWith v (some tg) pos.line X.env = pure false) (h2 : swappedStores [tg] v X.env = pure none) (h3 : (assignEach [tg] X.env).map (·.2) = [assign tg X.env]) :
    PS X (.Assign [tg] v pos) (tS g W (denS e (.asg t v'))) :=
  (ps_asg hv hg h1 h2 h3).imp fun D σ H q => by
    obtain ⟨ρ, sw, h, S, R, run⟩ := q
    refine ⟨ρ, sw, h, S, R, (Run.st S (by simpa only [denS] using run)).imp (fun w h1 ρ1 H1 e1 R1 r1 u ru => ?_) fun x h' ρ' H' _ _ q => q⟩
    split at r1
    · rename_i sw2 et
      exact ⟨ρ1, w, sw, sw2, ru, S.ext e1, et, fun σ2 S2 _ => r1.ok R1 σ2 S2⟩
    · exact r1.elim
/-- x = [.. for ..] on one line -/
theorem s_setLc (G : Good g e s X W) (hh : s.hot = false) {y : Str} {i : Nat} {py : Pos} {elt tg iter : Expr} {ifs : List Expr} {scope : Scope} {pos spos : Pos} {t : Tg} {it : It} {c el : E} (hy : idxOf y s.N = some i) (hl : isLoc s.sc y = true) (hx : (s.xn != some y) = true)
    (hp : (py.line == pos.line) = true) (ha : (scope.names.any fun (n, k) => n == y && (k == .local || k == .cell)) = false)
    (ok : blkC s.N s.sc scope (ownOf s.N scope) = true) (tin : tgIn t ((ownOf s.N scope).map (·.2)) = true) (L : LcParts g e s X W elt tg iter ifs scope t it c el) :
    PS X (.Assign [.Name y py] (.ListComp elt [⟨tg, iter, ifs, 0⟩] scope pos) spos) (tS g W (denS e (.asg (.nm i) (.lc ((ownOf s.N scope).map (·.2)) t it c el)))) := by
  have l := isLoc_of hl
  rw [← G.sc] at l
  refine ⟨fun pins st σ H D I q => ?_⟩
  refine (ps_setLc (G.calm hh).1 G.nd (G.slot hy) l (sw_true I.ok.kind l hp ha) L.hi (blkOk_by (by rw [G.N, G.sc]; exact ok)) (fun s H C cl fp => g_of (G.blk hh s H scope C cl fp) L.hg) (fun s H C cl fp => L.ht _ (G.blk hh s H scope C cl fp)) (fun s H C cl fp => L.he _ (G.blk hh s H scope C cl fp)) (L.hs _)).run pins st σ H D I ?_
  obtain ⟨ρ, sw, h, S, R, run⟩ := q
  refine lc_imp (G.xz hh) tin ⟨ρ, sw, h, S, R, (Run.st S (by simpa only [denS] using run)).imp (fun w h1 ρ1 H1 e1 R1 r1 u ru => ?_) fun x h' ρ' H' _ _ q => q⟩
  exact r1.ok R1 _ ((S.ext e1).set (G.free hy hx) ru)
/-! ### o[i] = v -/
def tSt (g : Gm) : TSet := fun o i v H Q => ∃ ρ h wo wi wv, Rep g ρ H wo o ∧ Rep g ρ H wi i ∧ Rep g ρ H wv v ∧ HRep g ρ H h ∧ Run g ρ H (setSub wo wi wv h) (fun _ _ _ H' => Q H') noE
theorem set_W (c : X.K = g.K) (cP : X.prog = g.P) (cw : X.w = g.w) (hu : X.A.units + 16 < cLine) : PSet X (tSt g) := by
  intro pins st σ H o i v ov iv u Q I ro ri rv t
  obtain ⟨ρ, h, wo, wi, wv, r1, r2, r3, R, run⟩ := t
  unfold setSub at run
  split at run
  · obtain ⟨a, rfl, ea⟩ := r1.refI
    split at run
    · rename_i n ws q
      split at run
      · cases r2.intI
        split at run
        · rename_i j hj
          obtain ⟨xs, hx, rx⟩ := R.lst ea q
          obtain ⟨E1, R2⟩ := R.setL ea q (Reps.set r3 j rx)
          refine set_list pins st σ H _ _ v ov iv u Q I ro ri rv ⟨a, xs, _, j, rfl, rfl, hx, by rw [rx.length]; exact hj, ?_⟩
          exact run ρ _ E1 R2
        · exact run.elim
      · exact run.elim
    · rename_i n kvs q
      split at run
      · rename_i k hk
        split at run
        · rename_i ok
          simp only [Bool.and_eq_true, decide_eq_true_eq] at ok
          obtain rfl : ov = Value.ref a := ro
          exact wd_set c cP cw hu I R ea (show DRep g ρ H a kvs from R.at ea q) hk r2 ri ok.1 (by rw [← line_eq]; exact ok.2) r3 rv fun s' H' I' E' R' => ⟨H', I', run ρ H' E' R'⟩
        · exact run.elim
      · exact run.elim
    · exact run.elim
  · exact run.elim
theorem asSub {o i : Expr} {pos : Pos} {env : PySem.Env} (h : isSlice i = false) : ∀ (v : Value), assign (o.Subscript i pos) env v = (do
    let ov ← holding [v] (eval o env)
    let iv ← holding [v, ov] (eval i env)
    standAt pos
    holding [v, ov, iv] (setItem ov iv v)
    release [v, ov, iv] []) := by
  intro v
  cases i <;> first | rfl | cases h
theorem s_sub (G : Good g e s X W) {o i v : Expr} {o' i' v' : E} {p pos : Pos} (hi : isSlice i = false) (ho : PE X o (tE g W (denE e o'))) (hi2 : PE X i (tE g W (denE e i'))) (hv : PE X v (tE g W (denE e v'))) :
    PS X (.Assign [.Subscript o i p] v pos) (tS g W (denS e (.sub o' i' v'))) :=
  have h0 : swapsWithSole [.Subscript o i p] v pos.line X.env = pure false := sw_other (v := v) (t := .Subscript o i p) (l := pos.line) (env := X.env) rfl
  (ps_asg hv (pg_sub ho hi2 (set_W G.K G.P G.w (by have := G.un; omega)) (asSub hi)) h0 (st_other rfl rfl) rfl).imp fun D σ H q => by
    obtain ⟨ρ, sw, h, S, R, run⟩ := q
    refine ⟨ρ, sw, h, S, R, (Run.st S (by simpa only [denS] using run)).imp (fun w h1 ρ1 H1 e1 R1 r1 u ru => ?_) fun x h' ρ' H' _ _ q => q⟩
    refine ⟨ρ1, sw, h1, S.ext e1, R1, (Run.st (S.ext e1) r1).imp (fun x h2 ρ2 H2 e2 R2 r2 vx rx => ?_) fun x h' ρ' H' _ _ q => q⟩
    refine ⟨ρ2, sw, h2, (S.ext e1).ext e2, R2, (Run.st ((S.ext e1).ext e2) r2).imp (fun y h3 ρ3 H3 e3 R3 r3 vy ry => ?_) fun x h' ρ' H' _ _ q => q⟩
    refine ⟨ρ3, h3, x, y, w, rx.ext e3, ry, (ru.ext e2).ext e3, R3, ?_⟩
    have S3 := ((S.ext e1).ext e2).ext e3
    cases q : setSub x y w h3 with
    | bad => rw [q] at r3; exact r3
    | exc z h4 =>
      exfalso
      unfold setSub at q
      repeat' (first | (cases q; done) | split at q)
    | ok a h4 =>
      rw [q] at r3
      intro ρ4 H4 e4 R4
      exact (show Run g ρ3 H3 (.ok (.nx sw) h4) (KS g W D) noE from r3) ρ4 H4 e4 R4 σ (S3.ext e4)
/-! ### o.f = v -/
theorem putF_rep {ρ : List Addr} {H H' : Hp} {fs : List (Str × MP.W)} {fs' : List (Str × V)} {f : Str} {w : MP.W} {v : V} (E : Ext g ρ ρ H H') (r : FRep g ρ H fs fs') (hv : Rep g ρ H w v) : FRep g ρ H' (MP.putF f w fs) (L2.putF f v fs') := by
  have key : ∀ fs : List (Str × MP.W), ∀ k, (MP.putF f w fs).lookup k = if k = f then some w else fs.lookup k := by
    intro fs k
    induction fs with
    | nil =>
      simp only [MP.putF, List.lookup]
      by_cases h : k = f
      · subst h; simp
      · have : (k == f) = false := by simpa using h
        simp [this, h]
    | cons p r ih =>
      obtain ⟨k2, w2⟩ := p
      simp only [MP.putF]
      by_cases h2 : k2 = f
      · subst h2
        simp only [if_true, List.lookup]
        by_cases h : k = k2
        · subst h; simp
        · have : (k == k2) = false := by simpa using h
          simp [this, h]
      · simp only [h2, if_false, List.lookup]
        by_cases h : k = k2
        · subst h; simp [h2]
        · have : (k == k2) = false := by simpa using h
          simp only [this]
          exact ih
  intro k
  rw [key fs k, lookup_putF]
  by_cases h : k = f
  · rw [if_pos h, if_pos h]
    exact ⟨v, rfl, hv.ext E⟩
  · rw [if_neg h, if_neg h]
    exact r.ext E k
theorem look_mem {α : Type} {f : Str} : ∀ {l : List (Str × α)}, (l.lookup f = none ↔ ∀ p ∈ l, p.1 ≠ f)
  | [] => by simp
  | (k, a) :: r => by
    simp only [List.lookup]
    by_cases h : f = k
    · subst h; simp
    · have : (f == k) = false := by simpa using h
      simp only [this, look_mem (l := r)]
      constructor
      · intro q p hp
        rcases List.mem_cons.mp hp with rfl | hp
        · exact fun z => h z.symm
        · exact q p hp
      · exact fun q p hp => q p (List.mem_cons_of_mem _ hp)
theorem putW_len {f : Str} {w : MP.W} : ∀ {fs : List (Str × MP.W)}, (MP.putF f w fs).length = if fs.lookup f = none then fs.length + 1 else fs.length
  | [] => rfl
  | (k, v) :: r => by
    simp only [MP.putF, List.lookup]
    by_cases h : k = f
    · subst h; simp
    · have : (f == k) = false := by simpa using fun z => h z.symm
      simp only [h, if_false, this, List.length_cons, putW_len (fs := r)]
      split <;> rfl
theorem putV_len {f : Str} {w : V} : ∀ {fs : List (Str × V)}, (L2.putF f w fs).length = if fs.lookup f = none then fs.length + 1 else fs.length
  | [] => rfl
  | (k, v) :: r => by
    simp only [L2.putF, List.lookup]
    by_cases h : k = f
    · subst h; simp
    · have : (f == k) = false := by simpa using fun z => h z.symm
      simp only [h, if_false, this, List.length_cons, putV_len (fs := r)]
      split <;> rfl
theorem FRep.none {ρ : List Addr} {H : Hp} {fs : List (Str × MP.W)} {fs' : List (Str × V)} (r : FRep g ρ H fs fs') (f : Str) : (fs'.lookup f = Option.none ↔ fs.lookup f = Option.none) := by
  have q := r f
  cases h : fs.lookup f with
  | none => rw [h] at q; simp [q]
  | some w =>
    rw [h] at q
    obtain ⟨v, e1, _⟩ := q
    simp [e1]
theorem s_att (G : Good g e s X W) {o v : Expr} {o' v' : E} {f : Str} {p pos : Pos} (ho : PE X o (tE g W (denE e o'))) (hv : PE X v (tE g W (denE e v'))) :
    PS X (.Assign [.Attribute o f p] v pos) (tS g W (denS e (.att o' f v'))) :=
  (ps_fld ho hv (sw_other rfl)).imp fun D σ H q => by
    obtain ⟨ρ, sw, h, S, R, run⟩ := q
    refine ⟨ρ, sw, h, S, R, (Run.st S (by simpa only [denS] using run)).imp (fun w h1 ρ1 H1 e1 R1 r1 u ru => ?_) fun x h' ρ' H' _ _ q => q⟩
    refine ⟨ρ1, sw, h1, S.ext e1, R1, (Run.st (S.ext e1) r1).imp (fun x h2 ρ2 H2 e2 R2 r2 vx rx => ?_) fun x h' ρ' H' _ _ q => q⟩
    unfold setAtt at r2
    split at r2
    · obtain ⟨a, rfl, ea⟩ := rx.refI
      split at r2
      · rename_i n c fs q
        obtain ⟨dx, fs', hx, hl, fr⟩ := (show ORep g ρ2 H2 a (.ins c fs) from R2.at ea q)
        split at r2
        · rename_i hf
          simp only [Bool.and_eq_true, decide_eq_true_eq] at hf
          obtain ⟨d, d1, d2, d3⟩ := hasF_of hf.1
          have CF := G.cf.own c d d1 d2
          have E3 : Ext g ρ2 ρ2 H2 (upd H2 a (.ins (g.ca c) dx (L2.putF f u fs'))) := Ext.write (List.mem_of_getElem? ea) hx True.intro
          have R3 := R2.write (ob := .ins c (MP.putF f w fs)) (o := .ins (g.ca c) dx (L2.putF f u fs')) ea hx True.intro ⟨dx, _, upd_same, by
            rw [putV_len, putW_len, hl]
            by_cases z : fs.lookup f = none
            · rw [if_pos z, if_pos ((fr.none f).mpr z)]
            · rw [if_neg z, if_neg (fun y => z ((fr.none f).mp y))], putF_rep E3 fr (ru.ext e2)⟩
          refine ⟨a, _, dx, fs', rfl, hx, by rw [G.K]; exact CF.cl, by rw [G.K]; exact CF.noattr f d3, by rw [hl]; exact hf.2, ?_⟩
          exact (show Run g ρ2 H2 (.ok (.nx sw) _) (KS g W D) noE from r2) ρ2 _ E3 R3 σ (((S.ext e1).ext e2).ext E3)
        · exact r2.elim
      · exact r2.elim
    · exact r2.elim
/-! ### x += v -/
theorem s_aug (G : Good g e s X W) {x : Str} {i : Nat} {v : Expr} {v' : E} {o : Operator} {p pos : Pos} (hi : idxOf x s.N = some i) (hl : isTg s x = true) (hx : (s.xn != some x) = true) (ho : o = .Add ∨ o = .Sub) (hv : PE X v (tE g W (denE e v'))) :
    PS X (.AugAssign (.Name x p) o v pos) (tS g W (denS e (.aug i o v'))) := by
  obtain ⟨l1, l2⟩ := G.tg hl
  have key : ∀ {f : Int → Int → Int}, PIp X o (ipI f) → (∀ x y z, augW o x y = some z → ∃ a b, x = .int a ∧ y = .int b ∧ z = .int (f a b)) → PS X (.AugAssign (.Name x p) o v pos) (tS g W (denS e (.aug i o v'))) := fun {f} ip ef => by
    refine (ps_aug G.nd (G.slot hi) l1 hv ip l2).imp fun D σ H q => ?_
    obtain ⟨ρ, sw, h, S, R, run⟩ := q
    simp only [denS] at run
    split at run
    · rename_i wx ex
      obtain ⟨vx, e1, rx⟩ := S.slot ex
      refine ⟨vx, e1, ρ, sw, h, S, R, (Run.st S run).imp (fun w h1 ρ1 H1 ee R1 r1 u ru => ?_) fun x h' ρ' H' _ _ q => q⟩
      split at r1
      · rename_i z ez
        obtain ⟨a, b, rfl, rfl, rfl⟩ := ef _ _ _ ez
        cases rx.intI
        cases ru.intI
        exact ⟨a, b, rfl, rfl, r1.ok R1 _ ((S.ext ee).set (G.free hi hx) Rep.mkInt)⟩
      · exact r1.elim
    · exact run.elim
  rcases ho with rfl | rfl
  · exact key ip_add fun x y z h => by
      unfold augW at h
      dsimp only at h
      split at h
      · cases h; exact ⟨_, _, rfl, rfl, rfl⟩
      · cases h
  · exact key ip_sub fun x y z h => by
      unfold augW at h
      dsimp only at h
      split at h
      · cases h; exact ⟨_, _, rfl, rfl, rfl⟩
      · cases h
/-! ### plain ones -/
theorem s_ex {v : Expr} {v' : E} {pos : Pos} (hc : isComp v = false) (hv : PE X v (tE g W (denE e v'))) : PS X (.Expr v pos) (tS g W (denS e (.ex v'))) :=
  (ps_expr hv (sw_none hc)).imp fun D σ H q => by
    obtain ⟨ρ, sw, h, S, R, run⟩ := q
    refine ⟨ρ, sw, h, S, R, (Run.st S (by simpa only [denS] using run)).imp (fun w h1 ρ1 H1 e1 R1 r1 u ru => ?_) fun x h' ρ' H' _ _ q => q⟩
    exact r1.ok R1 σ (S.ext e1)
theorem s_ret {v : Expr} {v' : E} {pos : Pos} (hv : PE X v (tE g W (denE e v'))) : PS X (.Return (some v) pos) (tS g W (denS e (.ret v'))) :=
  (ps_ret hv).imp fun D σ H q => by
    obtain ⟨ρ, sw, h, S, R, run⟩ := q
    refine ⟨ρ, sw, h, S, R, (Run.st S (by simpa only [denS] using run)).imp (fun w h1 ρ1 H1 e1 R1 r1 u ru => ?_) fun x h' ρ' H' _ _ q => q⟩
    exact r1.ok R1 u ru
theorem s_retN {pos : Pos} : PS X (.Return none pos) (tS g W (denS e (.ret (.con .non)))) :=
  ps_retN.imp fun D σ H q => by
    obtain ⟨ρ, sw, h, S, R, run⟩ := q
    simp only [denS, denE, Out.st] at run
    exact run.ok R .non Rep.mkNon
theorem s_if {c : Expr} {a b : List Stmt} {c' : E} {a' b' : Ss} {pos : Pos} (hc : PT X c (tT g W (denT e c'))) (ha : PSs X a (tS g W (denSs e a'))) (hb : PSs X b (tS g W (denSs e b'))) : PS X (.If c a b pos) (tS g W (denS e (.iff c' a' b'))) :=
  (ps_if hc ha hb).imp fun D σ H q => by
    obtain ⟨ρ, sw, h, S, R, run⟩ := q
    refine ⟨ρ, sw, h, S, R, (Run.st S (by simpa only [denS] using run)).imp (fun x h1 ρ1 H1 e1 R1 r1 => ?_) fun x h' ρ' H' _ _ q => q⟩
    cases x with
    | true => simp only [if_true] at r1 ⊢; exact ⟨ρ1, sw, h1, S.ext e1, R1, r1⟩
    | false => simp only [Bool.false_eq_true, if_false] at r1 ⊢; exact ⟨ρ1, sw, h1, S.ext e1, R1, r1⟩
theorem s_pas {pos : Pos} : PS X (.Pass pos) (tS g W (denS e .pas)) := ps_pass.imp fun D σ H q => by
  obtain ⟨ρ, sw, h, S, R, run⟩ := q
  simp only [denS] at run
  exact run.ok R σ S
theorem s_brk {pos : Pos} : PS X (.Break pos) (tS g W (denS e .brk)) := ps_break.imp fun D σ H q => by
  obtain ⟨ρ, sw, h, S, R, run⟩ := q
  simp only [denS] at run
  exact run.ok R σ S
theorem s_cnt {pos : Pos} : PS X (.Continue pos) (tS g W (denS e .cnt)) := ps_continue.imp fun D σ H q => by
  obtain ⟨ρ, sw, h, S, R, run⟩ := q
  simp only [denS] at run
  exact run.ok R σ S
theorem ss_nil : PSs X [] (tS g W (denSs e .nil)) := pss_nil.imp fun D σ H q => by
  obtain ⟨ρ, sw, h, S, R, run⟩ := q
  simp only [denSs] at run
  exact run.ok R σ S
theorem ss_cons {a : Stmt} {r : List Stmt} {a' : S} {r' : Ss} (ha : PS X a (tS g W (denS e a'))) (hr : PSs X r (tS g W (denSs e r'))) : PSs X (a :: r) (tS g W (denSs e (.cons a' r'))) :=
  (pss_cons ha hr).imp fun D σ H q => by
    obtain ⟨ρ, sw, h, S, R, run⟩ := q
    simp only [denSs] at run
    refine ⟨ρ, sw, h, S, R, ?_⟩
    cases q1 : denS e a' sw h with
    | bad => rw [q1] at run; exact run
    | exc x h1 => rw [q1] at run; exact fun ρ1 H1 e1 R1 => run ρ1 H1 e1 R1
    | ok f h1 =>
      rw [q1] at run
      cases f with
      | nx sw1 => exact fun ρ1 H1 e1 R1 σ1 S1 => ⟨ρ1, sw1, h1, S1, R1, Run.ext (show Run g ρ H (denSs e r' sw1 h1) _ _ from run) e1⟩
      | rt w => exact run
      | bk sw1 => exact run
      | ct sw1 => exact run
      | xc sw1 x => exact run
/-! ### loops -/
theorem s_for (G : GoodS g e s X W) (hh : s.hot = false) {tg iter : Expr} {b : List Stmt} {t : Tg} {it : It} {b' : Ss} {pos : Pos} (hi : PI X tg iter (tI g W (denI e it))) (hg : PG X tg (tG g t)) (hb : PSs X b (tS g W (denSs e b'))) (hf : ∀ x, foldedSetIterable iter X.env x = pure x) :
    PS X (.For tg iter b [] pos) (tS g W (denS e (.forr t it b'))) :=
  (ps_for G.po (G.calm hh).1 hi hg hb hf).imp fun D σ H q => by
    obtain ⟨ρ, sw, h, S, R, run⟩ := q
    refine ⟨ρ, sw, h, S, R, (Run.st S (by simpa only [denS] using run)).imp (fun sr h1 ρ1 H1 e1 R1 r1 J ok => ?_) fun x h' ρ' H' _ _ q => q⟩
    refine ⟨fun i m σ' H' => ∃ ρ' sw' h', Ext g ρ1 ρ' H1 H' ∧ SRep g ρ' H' sw' σ' ∧ HRep g ρ' H' h' ∧ Run g ρ' H' (forLoop (denSs e b') t sr m i sw' h') (KS g W D) noE, ⟨_, ρ1, sw, h1, Ext.refl, S.ext e1, R1, r1⟩, ?_⟩
    rintro i m σ2 H2 ⟨ρ2, sw2, h2, E2, S2, R2, r2⟩
    cases m with
    | zero => exact False.elim r2
    | succ n =>
      rw [forLoop] at r2
      split at r2
      · exact r2.elim
      · rename_i q
        exact .inl ⟨ok.stop ρ2 H2 h2 i E2 R2 q, r2.ok R2 σ2 S2⟩
      · rename_i w q
        obtain ⟨go, yl⟩ := ok.go ρ2 H2 h2 i w E2 R2 q
        refine .inr ⟨go, fun σ' H' => ∃ ρ' sw' h', Ext g ρ1 ρ' H1 H' ∧ SRep g ρ' H' sw' σ' ∧ HRep g ρ' H' h' ∧ Run g ρ' H' (forLoop (denSs e b') t sr n (i + 1) sw' h') (KS g W D) noE, fun σ' H' nx => ⟨n, Nat.lt_succ_self _, nx⟩, fun x H3 y => ?_⟩
        obtain ⟨E3, R3, rx⟩ := yl x H3 y
        have r3 := r2.ext E3
        split at r3
        · exact r3.elim
        · rename_i sw3 et
          refine ⟨ρ2, w, sw2, sw3, rx, S2.ext E3, et, fun σ3 S3 _ => ⟨ρ2, sw3, h2, S3, R3, ?_⟩⟩
          cases q1 : denSs e b' sw3 h2 with
          | bad => rw [q1] at r3; exact r3
          | exc x h1 => rw [q1] at r3; exact False.elim r3
          | ok f h4 =>
            rw [q1] at r3
            have EE := E2.trans E3
            cases f with
            | nx sw4 => exact fun ρ4 H4 e4 R4 σ4 S4 => ⟨ρ4, sw4, h4, EE.trans e4, S4, R4, Run.ext (show Run g ρ2 H3 (forLoop (denSs e b') t sr n (i + 1) sw4 h4) _ _ from r3) e4⟩
            | ct sw4 => exact fun ρ4 H4 e4 R4 σ4 S4 => ⟨ρ4, sw4, h4, EE.trans e4, S4, R4, Run.ext (show Run g ρ2 H3 (forLoop (denSs e b') t sr n (i + 1) sw4 h4) _ _ from r3) e4⟩
            | bk sw4 => exact r3
            | rt w4 => exact r3
            | xc sw4 x4 => exact r3
theorem s_whl (G : GoodS g e s X W) {c : Expr} {b : List Stmt} {c' : E} {b' : Ss} {pos : Pos} (hc : PT X c (tT g W (denT e c'))) (hb : PSs X b (tS g W (denSs e b'))) : PS X (.While c b [] pos) (tS g W (denS e (.whl c' b'))) :=
  (ps_while G.po hc hb).imp fun D σ H q => by
    obtain ⟨ρ, sw, h, S, R, run⟩ := q
    simp only [denS] at run
    refine ⟨fun m σ' H' => ∃ ρ' sw' h', SRep g ρ' H' sw' σ' ∧ HRep g ρ' H' h' ∧ Run g ρ' H' (whileLoop (denT e c') (denSs e b') m sw' h') (KS g W D) noE, ⟨_, ρ, sw, h, S, R, run⟩, ?_⟩
    rintro m σ2 H2 ⟨ρ2, sw2, h2, S2, R2, r2⟩
    cases m with
    | zero => exact False.elim r2
    | succ n =>
      rw [whileLoop] at r2
      refine ⟨ρ2, sw2, h2, S2, R2, ?_⟩
      cases q1 : denT e c' sw2 h2 with
      | bad => rw [q1] at r2; exact r2
      | exc x h3 =>
        rw [q1] at r2
        exact fun ρ3 H3 e3 R3 cls dd xr => (show Run g ρ2 H2 (.ok (Fl.xc sw2 x) h3) (KS g W D) noE from r2) ρ3 H3 e3 R3 σ2 cls dd (S2.ext e3) xr
      | ok k h3 =>
        rw [q1] at r2
        intro ρ3 H3 e3 R3
        have r3 := r2.ext e3
        cases k with
        | false => exact r3.ok R3 σ2 (S2.ext e3)
        | true =>
          refine ⟨fun σ' H' => ∃ ρ' sw' h', SRep g ρ' H' sw' σ' ∧ HRep g ρ' H' h' ∧ Run g ρ' H' (whileLoop (denT e c') (denSs e b') n sw' h') (KS g W D) noE, fun σ' H' nx => ⟨n, Nat.lt_succ_self _, nx⟩, ρ3, sw2, h3, S2.ext e3, R3, ?_⟩
          dsimp only at r3
          cases q2 : denSs e b' sw2 h3 with
          | bad => rw [q2] at r3; exact r3
          | exc x h1 => rw [q2] at r3; exact False.elim r3
          | ok f h4 =>
            rw [q2] at r3
            cases f with
            | nx sw4 => exact fun ρ4 H4 e4 R4 σ4 S4 => ⟨ρ4, sw4, h4, S4, R4, Run.ext (show Run g ρ3 H3 (whileLoop (denT e c') (denSs e b') n sw4 h4) _ _ from r3) e4⟩
            | ct sw4 => exact fun ρ4 H4 e4 R4 σ4 S4 => ⟨ρ4, sw4, h4, S4, R4, Run.ext (show Run g ρ3 H3 (whileLoop (denT e c') (denSs e b') n sw4 h4) _ _ from r3) e4⟩
            | bk sw4 => exact r3
            | rt w4 => exact r3
            | xc sw4 x4 => exact r3
end
end MP

set_option maxHeartbeats 4000000
/-! MP19: raise, try. -/
namespace MP
open PySem L2
/-! ### another exception at hand -/
abbrev Gm.wx (g : Gm) (o : Option XI) : Gm := { g with xs := o }
section
variable {g : Gm} {o : Option XI} {ρ ρ' : List Addr} {H H' : Hp}
mutual
theorem Rep.wx : ∀ {w : W} {v : V}, Rep (g.wx o) ρ H w v ↔ Rep g ρ H w v
  | .non, v => by rw [Rep, Rep]
  | .bl _, v => by rw [Rep, Rep]
  | .int _, v => by rw [Rep, Rep]
  | .str _, v => by rw [Rep, Rep]
  | .fn _, v => by rw [Rep, Rep]
  | .cls _, v => by rw [Rep, Rep]
  | .ty _, v => by rw [Rep, Rep]
  | .ref _, v => by rw [Rep, Rep]
  | .tup ws, v => by
    rw [Rep, Rep]
    exact ⟨fun ⟨a, xs, h1, h2, h3⟩ => ⟨a, xs, h1, h2, Reps.wx.mp h3⟩, fun ⟨a, xs, h1, h2, h3⟩ => ⟨a, xs, h1, h2, Reps.wx.mpr h3⟩⟩
  | .fls ws, v => by
    rw [Rep, Rep]
    exact ⟨fun ⟨a, xs, h1, h2, h3⟩ => ⟨a, xs, h1, h2, Reps.wx.mp h3⟩, fun ⟨a, xs, h1, h2, h3⟩ => ⟨a, xs, h1, h2, Reps.wx.mpr h3⟩⟩
theorem Reps.wx : ∀ {ws : List W} {vs : List V}, Reps (g.wx o) ρ H ws vs ↔ Reps g ρ H ws vs
  | [], vs => by rw [Reps, Reps]
  | w :: ws, vs => by
    rw [Reps, Reps]
    exact ⟨fun ⟨x, r, h1, h2, h3⟩ => ⟨x, r, h1, Rep.wx.mp h2, Reps.wx.mp h3⟩, fun ⟨x, r, h1, h2, h3⟩ => ⟨x, r, h1, Rep.wx.mpr h2, Reps.wx.mpr h3⟩⟩
end
theorem FRep.wx {fs : List (Str × W)} {fs' : List (Str × V)} : FRep (g.wx o) ρ H fs fs' ↔ FRep g ρ H fs fs' := by
  constructor
  · intro h f
    have q := h f
    cases e : fs.lookup f with
    | none => rw [e] at q; exact q
    | some w =>
      rw [e] at q
      obtain ⟨v, a, b⟩ := q
      exact ⟨v, a, Rep.wx.mp b⟩
  · intro h f
    have q := h f
    cases e : fs.lookup f with
    | none => rw [e] at q; exact q
    | some w =>
      rw [e] at q
      obtain ⟨v, a, b⟩ := q
      exact ⟨v, a, Rep.wx.mpr b⟩
theorem DRep.wx {a : Addr} {kvs : List (NestedKey × W)} : DRep (g.wx o) ρ H a kvs ↔ DRep g ρ H a kvs := by
  constructor
  · rintro (⟨ls, h1, h2⟩ | ⟨xs, h1, h2⟩)
    · exact .inl ⟨ls, h1, Paired.imp (fun p q z => ⟨z.1, Rep.wx.mp z.2⟩) h2⟩
    · exact .inr ⟨xs, h1, Paired.imp (fun p q z => ⟨z.1, z.2.1, z.2.2.1, Rep.wx.mp z.2.2.2.1, Rep.wx.mp z.2.2.2.2⟩) h2⟩
  · rintro (⟨ls, h1, h2⟩ | ⟨xs, h1, h2⟩)
    · exact .inl ⟨ls, h1, Paired.imp (fun p q z => ⟨z.1, Rep.wx.mpr z.2⟩) h2⟩
    · exact .inr ⟨xs, h1, Paired.imp (fun p q z => ⟨z.1, z.2.1, z.2.2.1, Rep.wx.mpr z.2.2.2.1, Rep.wx.mpr z.2.2.2.2⟩) h2⟩
theorem ORep.wx {a : Addr} {ob : O} : ORep (g.wx o) ρ H a ob ↔ ORep g ρ H a ob := by
  cases ob with
  | lst ws => exact ⟨fun ⟨xs, h1, h2⟩ => ⟨xs, h1, Reps.wx.mp h2⟩, fun ⟨xs, h1, h2⟩ => ⟨xs, h1, Reps.wx.mpr h2⟩⟩
  | dct kvs => exact DRep.wx
  | ins c fs => exact ⟨fun ⟨dx, fs', h1, h2, h3⟩ => ⟨dx, fs', h1, h2, FRep.wx.mp h3⟩, fun ⟨dx, fs', h1, h2, h3⟩ => ⟨dx, fs', h1, h2, FRep.wx.mpr h3⟩⟩
  | clo j ws => exact Iff.rfl
  | dead => exact Iff.rfl
theorem HRep.wx {h : HW} : HRep (g.wx o) ρ H h ↔ HRep g ρ H h :=
  ⟨fun r => ⟨r.len, r.nd, fun n a ob h1 h2 => ORep.wx.mp (r.obj n a ob h1 h2)⟩, fun r => ⟨r.len, r.nd, fun n a ob h1 h2 => ORep.wx.mpr (r.obj n a ob h1 h2)⟩⟩
theorem Ext.wx : Ext (g.wx o) ρ ρ' H H' ↔ Ext g ρ ρ' H H' := ⟨fun e => ⟨e.pre, e.new, e.out, e.tup, e.fz⟩, fun e => ⟨e.pre, e.new, e.out, e.tup, e.fz⟩⟩
theorem XRep.wx {x : XV} {cls : Value} {d : Option Addr} : XRep (g.wx o) ρ H x cls d ↔ XRep g ρ H x cls d := by
  cases d with
  | none => exact Iff.rfl
  | some dd => exact ⟨fun ⟨h1, h2, fs, h3, h4⟩ => ⟨h1, h2, fs, h3, FRep.wx.mp h4⟩, fun ⟨h1, h2, fs, h3, h4⟩ => ⟨h1, h2, fs, h3, FRep.wx.mpr h4⟩⟩
end
section
variable {g : Gm} {X : Cx} {W : WX} {e : Env} {s : Sx}
/-! ### raise -/
theorem pmk_own0 {C : Addr} {bmB : List Value} {B newId initId : String} {x : Str} {p pos : Pos} (F : ExcBaseFacts B newId initId bmB) (q : PySem.W.excIn X.K C bmB newId = true) (gC : X.mg x = some (.ref C))
    (kC : PySem.W.keepIn X.K (.ref C) = true) (r : Raises X (.ref C)) (hg : Gl X x) (hdb : (x == ("__debug__" : Str)) = false) : PMk X (.Call (.Name x p) [] [] pos) (fun σ H Q => Q (.ref C) none H) := by
  intro pins s σ H Q I h
  refine wpAny_Call_Name_kw (ld_glob I hg gC ?_ hdb)
  refine PySem.W.callWith_K0 (first := []) I.kIn kC ?_
  obtain ⟨bm, N, nm, qn, bs, hdct, sn, sub, ab, col, dd, k0, k1, k2, k3, k5, mN, hC, hN, hni, T⟩ := exc_obj I.kIn q
  exact wpAny_call_exc_subT F T hC hN hni (fun h' a hm => mk_of I hm r h (I.hok.gone hm.new)) (by rw [sizeLine_eq]; exact Nat.zero_le _)
theorem look_rev {f : Str} : ∀ {l : List (Str × V)}, (l.map (·.1)).Nodup → l.reverse.lookup f = l.lookup f
  | [], _ => rfl
  | (k, v) :: r, nd => by
    rw [List.map_cons, List.nodup_cons] at nd
    rw [List.reverse_cons, List.lookup_append, look_rev nd.2]
    by_cases h : f = k
    · subst h
      have : r.lookup f = none := look_mem.mpr fun p hp z => nd.1 (List.mem_map.mpr ⟨p, hp, z⟩)
      rw [this]
      simp [List.lookup]
    · have : (f == k) = false := by simpa using h
      simp only [List.lookup, this]
      cases r.lookup f <;> rfl
theorem zip_keys {α : Type} : ∀ {ns : List Str} {ys : List α}, ys.length = ns.length → (ns.zip ys).map (·.1) = ns
  | [], _, _ => rfl
  | n :: ns, y :: ys, h => by simp only [List.zip_cons_cons, List.map_cons]; rw [zip_keys (by simpa using h)]
  | n :: ns, [], h => by cases h
theorem zip_rep {ρ : List Addr} {H : Hp} : ∀ {ns : List Str} {ws : List MP.W} {ys : List V}, Reps g ρ H ws ys → FRep g ρ H (ns.zip ws) (ns.zip ys)
  | [], ws, ys, r => fun f => rfl
  | n :: ns, [], ys, r => by
    rw [Reps] at r
    subst r
    exact fun f => rfl
  | n :: ns, w :: ws, ys, r => by
    rw [Reps] at r
    obtain ⟨y, yr, rfl, h1, h2⟩ := r
    intro f
    simp only [List.zip_cons_cons, List.lookup]
    by_cases h : f = n
    · subst h
      simp
      exact h1
    · have : (f == n) = false := by simpa using h
      simp only [this]
      exact zip_rep h2 f
theorem s_rse (G : GoodS g e s X W) (hh : s.hot = false) {x : Str} {i : Nat} {as : List Expr} {as' : Es} {p p2 pos : Pos} (gl : isGl s.sc x = true) (hx : s.clss[i]? = some x) (o1 : (x == ("__debug__" : Str)) = false) (ns : ∀ a ∈ as, isStar a = false) (h0 : as = [] → as' = .nil)
    (ha : PA X as (tAs g W (denEs e as'))) : PS X (.Raise (some (.Call (.Name x p) as [] p2)) none pos) (tS g W (denS e (.rse i as'))) := by
  obtain ⟨calm, room⟩ := G.calm hh
  have hm : X.mg x = some (.ref (g.ca i)) := by rw [G.mg]; exact G.gf.cl i x hx
  cases hd : (e.cd i).bind (·.exf) with
  | none =>
    refine ⟨fun pins st σ H D I q => ?_⟩
    obtain ⟨ρ, sw, h, S, R, run⟩ := q
    simp only [denS, hd] at run
    exact run.elim
  | some l =>
    obtain ⟨d, d1, d2⟩ := Option.bind_eq_some_iff.mp hd
    have F := G.cf.exc i d l d1 d2
    have rs : Raises X (.ref (g.ca i)) := raises_own (by rw [G.K]; exact F.ex.hs) (by rw [G.K]; exact F.ty)
    cases l with
    | nil =>
      have q0 : PySem.W.excIn X.K (g.ca i) [.type "ValueError", .type "Exception", .type "BaseException", .type "object"] "ValueError.__new__" = true := by rw [G.K]; exact F.pln rfl
      cases as with
      | nil =>
        rw [h0 rfl]
        refine (ps_raise calm G.tk (pmk_own0 (p := p) (pos := p2) PySem.F.excBase_ValueError q0 hm (by rw [G.K]; exact F.kp) rs (G.gl gl) o1)).imp fun D σ H q => ?_
        obtain ⟨ρ, sw, h, S, R, run⟩ := q
        simp only [denS, hd, denEs, Out.st] at run
        unfold okIf at run
        split at run
        · exact run.ok R σ _ none S ⟨rfl, rfl⟩
        · exact run.elim
      | cons a r =>
        refine (ps_raise calm G.tk (pmk_ownA (p := p) (pos := p2) PySem.F.excBase_ValueError q0 hm (by rw [G.K]; exact F.kp) rs (G.gl gl) ha o1 (notStar (ns a (List.mem_cons_self ..))) (noStars fun b hb => ns b (List.mem_cons_of_mem _ hb)))).imp fun D σ H q => ?_
        obtain ⟨ρ, sw, h, S, R, run⟩ := q
        simp only [denS, hd] at run
        refine ⟨ρ, sw, h, S, R, (Run.st S run).imp (fun ws h1 ρ1 H1 e1 R1 r1 vs rvs => ?_) fun x h' ρ' H' _ _ q => q⟩
        unfold okIf at r1
        split at r1
        · rename_i hl
          exact ⟨by rw [rvs.length, ← line_eq]; exact of_decide_eq_true hl, r1.ok R1 σ _ none (S.ext e1) ⟨rfl, rfl⟩⟩
        · exact r1.elim
    | cons n0 l =>
      obtain ⟨T, fI, fd, ps, i1, i2, i3, i4⟩ := F.ini (by simp)
      cases as with
      | nil =>
        refine ⟨fun pins st σ H D I q => ?_⟩
        obtain ⟨ρ, sw, h, S, R, run⟩ := q
        simp only [denS, hd, h0 rfl, denEs, Out.st] at run
        split at run
        · exact run.elim
        · exact run.elim
      | cons a r =>
        by_cases lv : l.length < 100 ∧ 2 ≤ e.lv
        · have pm := pmk_oex (p := p) (pos := p2) (x := x) (dvs := []) (by rw [G.K]; exact T) (by rw [G.K]; exact i1) (by rw [G.K]; exact i2) (by rw [G.P, G.w, G.K, G.mg, G.base]; exact i4) (room.mono lv.2) (by rw [G.K]; exact i3) .nil (by rw [← G.P, ← G.w]; exact passL) (G.gl gl) hm ha o1 (notStar (ns a (List.mem_cons_self ..))) (noStars fun b hb => ns b (List.mem_cons_of_mem _ hb))
          refine (ps_raise calm G.tk pm).imp fun D σ H q => ?_
          obtain ⟨ρ, sw, h, S, R, run⟩ := q
          simp only [denS, hd, if_pos lv] at run
          refine ⟨ρ, sw, h, S, R, (Run.st S run).imp (fun ws h1 ρ1 H1 e1 R1 r1 vs rvs => ?_) fun x h' ρ' H' _ _ q => q⟩
          unfold okIf at r1
          split at r1
          · rename_i hl
            have hl := of_decide_eq_true hl
            have lvs : vs.length = (n0 :: l).length := by rw [rvs.length, List.length_cons]; omega
            refine ⟨by rw [lvs, List.length_cons]; omega, fun b hb => ⟨b, vs, by rw [List.append_nil], lvs, upd_same, fun dd hd1 hne => ⟨rfl, dd, _, upd_same, by rw [upd_ne hne, upd_same], ?_, ?_⟩⟩⟩
            · rw [upd_ne hne] at hd1
              exact hd1
            · rw [upd_ne hne] at hd1
              have eH : upd (del (upd (upd (upd H1 b (exo b (g.ca i) none)) dd (exd dd ((n0 :: l).zip vs).reverse)) b (exo b (g.ca i) (some dd))) b) dd (.xd ((n0 :: l).zip vs).reverse) = upd H1 dd (.xd ((n0 :: l).zip vs).reverse) := by
                funext z
                by_cases z1 : z = dd
                · subst z1
                  rw [upd_same, upd_same]
                · rw [upd_ne z1, upd_ne z1]
                  by_cases z2 : z = b
                  · subst z2
                    rw [del_same, hb]
                  · rw [del_ne z2, upd_ne z2, upd_ne z1, upd_ne z2]
              rw [eH]
              have E2 : Ext g ρ1 ρ1 H1 (upd H1 dd (.xd ((n0 :: l).zip vs).reverse)) := Ext.fresh hd1
              refine r1 ρ1 _ E2 (R1.fresh hd1) σ _ (some dd) ((S.ext e1).ext E2) ⟨rfl, fun hm => R1.there hm hd1, _, upd_same, fun f => ?_⟩
              rw [look_rev (by rw [zip_keys lvs]; exact F.nd)]
              exact zip_rep (rvs.ext E2) f
          · exact r1.elim
        · refine ⟨fun pins st σ H D I q => ?_⟩
          obtain ⟨ρ, sw, h, S, R, run⟩ := q
          simp only [denS, hd, if_neg lv] at run
          exact run.elim
end
end MP

set_option maxHeartbeats 4000000
/-! MP20: except suites; statements compiled; every statement that the compiler takes is walked as its meaning tells. -/
namespace MP
open PySem L2
abbrev atX (g : Gm) (n : Option Nat) (a : Addr) (x : XV) (cls : Value) (d : Option Addr) : Gm := g.wx (n.map fun i => ⟨i, a, x, cls, d⟩)
section
variable {g : Gm} {X : Cx} {W : WX} {e : Env} {s : Sx}
theorem CFacts.wx {cd : Nat → Option CDef} {o : Option XI} (F : CFacts g cd) : CFacts (g.wx o) cd where
  own := fun c d h1 h2 => let k := F.own c d h1 h2; ⟨k.cl, k.ha, k.hn, k.htk, k.hm, k.made, k.meth, k.noattr, k.kit⟩
  kitB := F.kitB
  exc := fun c d ns h1 h2 => let k := F.exc c d ns h1 h2; ⟨k.xf, k.ex, k.ty, k.kp, k.nof, k.nd, k.pln, k.ini⟩
  exm := F.exm
  kitX := F.kitX
  kitV := F.kitV
  kitO := F.kitO
theorem GoodS.suite (G : GoodS g e s X W) {m : Option Str} {n : Option Nat} (hn : NameAt X m n) {a : Addr} {oe : Obj} {cls : Value} {d : Option Addr} {pn : List (Addr × Obj)} {x : XV} (hz : Zc cls d oe) (hv : ∃ vs, oe.data = .fields vs) :
    GoodS (atX g n a x cls d) { e with xv := some x } { s with hot := true, xn := m } (X.suite a ((a, oe) :: pn)) noW where
  P := G.P
  w := G.w
  K := G.K
  mg := G.mg
  base := G.base
  N := G.N
  sc := G.sc
  nd := G.nd
  un := G.un
  tk := takes_none5
  calm := fun h => by cases h
  gf := ⟨G.gf.fn, G.gf.cl, fun y w q => by
    obtain ⟨u, v, h1, h2, h3⟩ := G.gf.con y w q
    exact ⟨u, v, h1, h2, fun ρ H => Rep.wx.mpr (h3 ρ H)⟩, G.gf.blt⟩
  fns := fun h => by cases h
  mks := fun h => by cases h
  mk0 := G.mk0
  cf := G.cf.wx
  fnc := G.fnc
  xz := fun h => by cases h
  xsl := fun xi q => by
    cases n with
    | none => cases q
    | some i =>
      cases m with
      | none => exact hn.elim
      | some nm =>
        cases q
        exact ⟨nm, rfl, hn.1⟩
  xat := fun nm q => by
    have q : m = some nm := q
    subst q
    cases n with
    | none => exact hn.elim
    | some i => exact ⟨⟨i, a, x, cls, d⟩, rfl, hn.1, rfl, hn.2, X, oe, pn, rfl, hz, hv⟩
  po := PassesOwn.never
  hs := fun h => by cases h
  hf := fun h => by cases h
theorem GoodS.tr (G : GoodS g e s X W) (hh : s.hot = false) {W' : WX} {pn : List (Addr × Obj)} {xe : Value → Shared → Prop} (tk : Takes (X.tr pn xe) W') (po : PassesOwn (model X.prog X.w) X.A X.env xe) : GoodS g e s (X.tr pn xe) W' where
  P := G.P
  w := G.w
  K := G.K
  mg := G.mg
  base := G.base
  N := G.N
  sc := G.sc
  nd := G.nd
  un := G.un
  tk := tk
  calm := G.calm
  gf := G.gf
  fns := G.fns
  mks := G.mks
  mk0 := G.mk0
  cf := G.cf
  fnc := G.fnc
  xz := G.xz
  xsl := G.xsl
  xat := fun n q => by
    obtain ⟨xi, q1, _⟩ := G.xat n q
    rw [G.xz hh] at q1
    cases q1
  po := po
  hs := G.hs
  hf := G.hf
/-- the reading of a suite -/
def tSu (g : Gm) (e : Env) (n : Option Nat) (b : Ss) : Su := fun a cls d D σ H => ∃ x, tS (atX g n a x cls d) noW (denSs { e with xv := some x } b) D σ H
theorem SRep.come {ρ : List Addr} {H : Hp} {sw : SW} {σ : St} {n : Option Nat} {a : Addr} {x : XV} {cls : Value} {d : Option Addr} (gx : g.xs = none) (hi : ∀ i, n = some i → i < σ.length) (S : SRep g ρ H sw σ) (xr : XRep g ρ H x cls d) : SRep (atX g n a x cls d) ρ H (clr n sw) (come n a σ) := by
  cases n with
  | none => exact ⟨S.1, fun i w q => by
      obtain ⟨v, h1, h2⟩ := S.2.1 i w q
      exact ⟨v, h1, Rep.wx.mpr h2⟩, fun xi q => by cases q⟩
  | some j =>
    have S' : SRep g ρ H (sw.set j none) (σ.set j (some (.ref a))) := S.unset (fun xi q => by rw [gx] at q; cases q)
    refine ⟨S'.1, fun i w q => ?_, fun xi q => ?_⟩
    · obtain ⟨v, h1, h2⟩ := S'.2.1 i w q
      exact ⟨v, h1, Rep.wx.mpr h2⟩
    · cases q
      exact ⟨List.getElem?_set_self (hi j rfl), XRep.wx.mpr xr⟩
theorem SRep.goes {ρ : List Addr} {H : Hp} {sw : SW} {σ : St} {n : Option Nat} {o : Option XI} (gx : g.xs = none) (S : SRep (g.wx o) ρ H sw σ) : SRep g ρ H (clr n sw) (goes n σ) := by
  have S0 : SRep g ρ H sw σ := ⟨S.1, fun i w q => by
    obtain ⟨v, h1, h2⟩ := S.2.1 i w q
    exact ⟨v, h1, Rep.wx.mp h2⟩, fun xi q => by rw [gx] at q; cases q⟩
  cases n with
  | none => exact S0
  | some i => exact S0.unset (fun xi q => by rw [gx] at q; cases q)
theorem Run.wx {α : Type} {o : Option XI} {ρ : List Addr} {H : Hp} {m : Out α} {K : KK α} {E : EK} (r : Run g ρ H m K E) : Run (g.wx o) ρ H m K E := by
  cases m with
  | ok a h => exact fun ρ' H' x y => r ρ' H' (Ext.wx.mp x) (HRep.wx.mp y)
  | exc z h => exact fun ρ' H' x y => r ρ' H' (Ext.wx.mp x) (HRep.wx.mp y)
  | bad => exact r
/-- the clauses' wish, by their meaning -/
def HWish (g : Gm) (e : Env) (X : Cx) (W : WX) (hs : Hs) (l : List (Value × Option Nat × Su)) : Prop := ∀ (D : Ends) (x : XV) (cls : Value) (d : Option Addr) (ρ : List Addr) (H : Hp) (sw : SW) (σ : St) (h : HW),
  SRep g ρ H sw σ → HRep g ρ H h → XRep g ρ H x cls d → Run g ρ H (denHs e hs x sw h) (KS g W D) noE → wAll X.K W D l cls d σ H
theorem hw_nil : HWish g e X W .nil [] := fun D x cls d ρ H sw σ h S R xr run => by
  simp only [denHs] at run
  exact run.ok R σ cls d S xr
theorem hw_cons (G : GoodS g e s X W) (hh : s.hot = false) {c : Nat} {m : Option Str} {n : Option Nat} {b : Ss} {hs : Hs} {l : List (Value × Option Nat × Su)} (hn : NameAt X m n) (r : HWish g e X W hs l) : HWish g e X W (.cons c n b hs) ((.ref (g.ca c), n, tSu g e n b) :: l) := fun D x cls d ρ H sw σ h S R xr run => by
  simp only [denHs] at run
  split at run
  · rename_i ex
    simp only [Bool.and_eq_true] at ex
    obtain ⟨dx, nx, x1, x2⟩ := isExc_of ex.1.1
    obtain ⟨dc, nc, c1, c2⟩ := isExc_of ex.1.2
    have Fc := G.cf.exc c dc nc c1 c2
    have em : PySem.W.exmOne X.K cls (.ref (g.ca c)) = some (isSub e.cd x.c c) := by
      rw [G.K, xr.1]
      exact PySem.W.exm_ref Fc.ex.hs Fc.ex.hd Fc.ty (G.cf.exm _ dx _ dc x1 (by rw [x2]; simp) c1 (by rw [c2]; simp))
    refine ⟨_, em, fun hy a na => ?_, fun hno => ?_⟩
    · rw [if_pos hy] at run
      have gx := G.xz hh
      refine ⟨x, ρ, clr n sw, h, S.come gx (fun i hi => ?_) xr, HRep.wx.mpr R, ?_⟩
      · have q := ex.2
        rw [hi] at q
        rw [← S.1]
        exact of_decide_eq_true q
      · refine Run.wx ?_
        cases q : denSs { e with xv := some x } b (clr n sw) h with
        | bad => rw [q] at run; exact run
        | exc z h1 => rw [q] at run; exact run.elim
        | ok f h1 =>
          rw [q] at run
          cases f with
          | nx sw1 => exact fun ρ1 H1 e1 R1 σ1 S1 => run ρ1 H1 e1 R1 _ (SRep.goes gx S1)
          | bk sw1 => exact fun ρ1 H1 e1 R1 σ1 S1 => run ρ1 H1 e1 R1 _ (SRep.goes gx S1)
          | ct sw1 => exact fun ρ1 H1 e1 R1 σ1 S1 => run ρ1 H1 e1 R1 _ (SRep.goes gx S1)
          | rt w => exact fun ρ1 H1 e1 R1 v rv => run ρ1 H1 e1 R1 v (Rep.wx.mp rv)
          | xc sw1 z => exact run.elim
    · rw [hno] at run
      exact r D x cls d ρ H sw σ h S R xr run
  · exact run.elim
theorem s_try (G : GoodS g e s X W) (hh : s.hot = false) {body orelse : List Stmt} {h₀ : ExceptHandler} {hds : List ExceptHandler} {l : List (Value × Option Nat × Su)} {pos : Pos} {b' els' : Ss} {hs' : Hs}
    (hb : ∀ (W' : WX) (X' : Cx), GoodS g e s X' W' → PSs X' body (tS g W' (denSs e b'))) (C : Clauses X (h₀ :: hds) l) (hw : HWish g e X W hs' l) (ho : PSs X orelse (tS g W (denSs e els'))) :
    PS X (.Try body (h₀ :: hds) orelse [] pos) (tS g W (denS e (.tr b' hs' els'))) := by
  refine ⟨fun pins st σ H D I q => ?_⟩
  refine (ps_try_all (G.hs hh) (G.hf hh) G.nd G.tk (fun W' pn xe tk po => hb W' _ (G.tr hh tk po)) C ho).run pins st σ H D I ?_
  obtain ⟨ρ, sw, h, S, R, run⟩ := q
  simp only [denS] at run
  refine ⟨ρ, sw, h, S, R, ?_⟩
  cases q1 : denSs e b' sw h with
  | bad => rw [q1] at run; exact run
  | exc z h1 => rw [q1] at run; exact fun ρ1 H1 e1 R1 => run ρ1 H1 e1 R1
  | ok f h1 =>
    rw [q1] at run
    cases f with
    | nx sw1 => exact fun ρ1 H1 e1 R1 σ1 S1 => ⟨ρ1, sw1, h1, S1, R1, Run.ext (show Run g ρ H (denSs e els' sw1 h1) _ _ from run) e1⟩
    | bk sw1 => exact run
    | ct sw1 => exact run
    | rt w => exact run
    | xc sw1 x => exact fun ρ1 H1 e1 R1 σ1 cls dd S1 xr => hw D x cls dd ρ1 H1 sw1 σ1 h1 S1 R1 xr (Run.ext (show Run g ρ H (denHs e hs' x sw1 h1) _ _ from run) e1)
end
/-! ### the compiler -/
def slotOf (s : Sx) : Option Str → Option (Option Nat)
  | none => some none
  | some y => if isLoc s.sc y && okName y then (idxOf y s.N).map some else none
/-- name = value: where a comprehension is stored at once -/
def nameOk (s : Sx) (x : Str) (px : Pos) : Expr → Bool
  | .ListComp _ _ scope vp => isLoc s.sc x && s.xn != some x && (px.line == vp.line) && !(scope.names.any fun (n, k) => n == x && (k == .local || k == .cell))
  | .SetComp .. | .DictComp .. => false
  | _ => true
def cAsg (s : Sx) (tgs : List Expr) (v : Expr) : Option S :=
  match tgs with
  | [tg] => match tg with
    | .Name x px => if nameOk s x px v then (cTg s (.Name x px)).bind fun t => (cE s v).bind fun v' => some (.asg t v') else none
    | .Tuple es k p => if isComp v || isTupE v then none else (cTg s (.Tuple es k p)).bind fun t => (cE s v).bind fun v' => some (.asg t v')
    | .Subscript o i _ => if isSlice i then none else (cE s v).bind fun v' => (cE s o).bind fun o' => (cE s i).bind fun i' => some (.sub o' i' v')
    | .Attribute o f _ => (cE s v).bind fun v' => (cE s o).bind fun o' => some (.att o' f v')
    | _ => none
  | _ => none
def cAug (s : Sx) (tg : Expr) (op : Operator) (v : Expr) : Option S :=
  match tg with
  | .Name x _ => if okName x && isTg s x && s.xn != some x && (op == .Add || op == .Sub) then (idxOf x s.N).bind fun i => (cE s v).bind fun v' => some (.aug i op v') else none
  | _ => none
def cRet (s : Sx) (o : Option Expr) : Option S :=
  match o with
  | some v => (cE s v).bind fun v' => some (.ret v')
  | none => some (.ret (.con .non))
def cRse (s : Sx) (ex ca : Option Expr) : Option S :=
  match ca with
  | some _ => none
  | none => match ex with
    | some (.Call f as kws _) => match f with
      | .Name x _ => if okName x && isGl s.sc x && !s.hot && kws.isEmpty then (idxOf x s.clss).bind fun i => (cEs s as).bind fun as' => some (.rse i as') else none
      | _ => none
    | _ => none
def nmOf : Option Expr → Option Str
  | some (.Name x _) => some x
  | _ => none
mutual
def cS (s : Sx) : Stmt → Option S
  | .Assign tgs v _ => cAsg s tgs v
  | .AugAssign tg op v _ => cAug s tg op v
  | .Expr v _ => if isComp v then none else (cE s v).bind fun v' => some (.ex v')
  | .Return o _ => cRet s o
  | .If c a b _ => (cE s c).bind fun c' => (cSs s a).bind fun a' => (cSs s b).bind fun b' => some (.iff c' a' b')
  | .For tg it b els _ => if s.hot || !els.isEmpty then none else (cTg s tg).bind fun t => (cI s (isTupE tg) it).bind fun it' => (cSs s b).bind fun b' => some (.forr t it' b')
  | .While c b els _ => if !els.isEmpty then none else (cE s c).bind fun c' => (cSs s b).bind fun b' => some (.whl c' b')
  | .Raise ex ca _ => cRse s ex ca
  | .Try b hs els fin _ => if s.hot || hs.isEmpty || !fin.isEmpty then none else (cSs s b).bind fun b' => (cHs s hs).bind fun hs' => (cSs s els).bind fun els' => some (.tr b' hs' els')
  | .Pass _ => some .pas
  | .Break _ => some .brk
  | .Continue _ => some .cnt
  | _ => none
def cSs (s : Sx) : List Stmt → Option Ss
  | [] => some .nil
  | a :: r => (cS s a).bind fun a' => (cSs s r).bind fun r' => some (.cons a' r')
def cHs (s : Sx) : List ExceptHandler → Option Hs
  | [] => some .nil
  | .ExceptHandler ty m bs _ :: r => (nmOf ty).bind fun x => if okName x && isGl s.sc x && !bs.isEmpty then (idxOf x s.clss).bind fun c => (slotOf s m).bind fun n => (cSs { s with hot := true, xn := m } bs).bind fun b' => (cHs s r).bind fun r' => some (.cons c n b' r') else none
end
section
variable {g : Gm} {X : Cx} {W : WX} {e : Env} {s : Sx}
theorem k_asg (G : GoodS g e s X W) {tgs : List Expr} {v : Expr} {p : Pos} {c : S} (h : cAsg s tgs v = some c) : PS X (.Assign tgs v p) (tS g W (denS e c)) := by
  unfold cAsg at h
  split at h
  · split at h
    · rename_i x px
      split at h
      · rename_i ok
        obtain ⟨t, h1, h⟩ := Option.bind_eq_some_iff.mp h
        obtain ⟨v', h2, h⟩ := Option.bind_eq_some_iff.mp h
        cases h
        by_cases hc : isComp v = true
        · cases v with
          | ListComp elt gens scope vp =>
            match gens, h2 with
            | [⟨tg, iter, ifs, k⟩], h2 =>
              have hk : k = 0 := by
                by_cases hk : k = 0
                · exact hk
                · simp [cE, hk] at h2
              subst hk
              rw [cE] at h2
              split at h2
              · cases h2
              · rename_i hot
                have hot : s.hot = false := by simpa using hot
                obtain ⟨it', q1, h2⟩ := Option.bind_eq_some_iff.mp h2
                obtain ⟨t', q2, h2⟩ := Option.bind_eq_some_iff.mp h2
                obtain ⟨c', q3, h2⟩ := Option.bind_eq_some_iff.mp h2
                obtain ⟨e', q4, h2⟩ := Option.bind_eq_some_iff.mp h2
                split at h2
                · rename_i bo
                  simp only [Bool.and_eq_true] at bo
                  cases h2
                  simp only [nameOk, Bool.and_eq_true] at ok
                  obtain ⟨⟨⟨n1, n2⟩, n3⟩, n4⟩ := ok
                  simp only [cTg] at h1
                  split at h1
                  · obtain ⟨i, hi, rfl⟩ := Option.map_eq_some_iff.mp h1
                    have kI := sI iter G.toGood tg q1
                    exact s_setLc G.toGood hot hi n1 n2 n3 (by simpa using n4) bo.1 bo.2 ⟨kI.1, q2, fun X' G' => sIfs ifs G' q3, fun X' G' => (sE elt G' q4).1, kI.2⟩
                  · cases h1
                · cases h2
            | [], h2 => simp [cE] at h2
            | _ :: _ :: _, h2 => simp [cE] at h2
          | SetComp => cases ok
          | DictComp => cases ok
          | _ => cases hc
        · exact s_asg (sE v G.toGood h2).1 (g_of G.toGood h1) (sw_name (by simpa using hc)) (st_other rfl rfl) rfl
      · cases h
    · split at h
      · cases h
      · rename_i ok
        simp only [Bool.or_eq_true, not_or, Bool.not_eq_true] at ok
        obtain ⟨t, h1, h⟩ := Option.bind_eq_some_iff.mp h
        obtain ⟨v', h2, h⟩ := Option.bind_eq_some_iff.mp h
        cases h
        exact s_asg (sE v G.toGood h2).1 (g_of G.toGood h1) (sw_name ok.1) (st_none ok.2) rfl
    · rename_i o i q
      split at h
      · cases h
      · rename_i hs
        obtain ⟨v', h1, h⟩ := Option.bind_eq_some_iff.mp h
        obtain ⟨o', h2, h⟩ := Option.bind_eq_some_iff.mp h
        obtain ⟨i', h3, h⟩ := Option.bind_eq_some_iff.mp h
        cases h
        exact s_sub G.toGood (by simpa using hs) (sE o G.toGood h2).1 (sE i G.toGood h3).1 (sE v G.toGood h1).1
    · rename_i o f q
      obtain ⟨v', h1, h⟩ := Option.bind_eq_some_iff.mp h
      obtain ⟨o', h2, h⟩ := Option.bind_eq_some_iff.mp h
      cases h
      exact s_att G.toGood (sE o G.toGood h2).1 (sE v G.toGood h1).1
    · cases h
  · cases h
theorem k_aug (G : GoodS g e s X W) {tg : Expr} {op : Operator} {v : Expr} {p : Pos} {c : S} (h : cAug s tg op v = some c) : PS X (.AugAssign tg op v p) (tS g W (denS e c)) := by
  unfold cAug at h
  split at h
  · split at h
    · rename_i ok
      simp only [Bool.and_eq_true] at ok
      obtain ⟨i, h1, h⟩ := Option.bind_eq_some_iff.mp h
      obtain ⟨v', h2, h⟩ := Option.bind_eq_some_iff.mp h
      cases h
      refine s_aug G.toGood h1 ok.1.1.2 ok.1.2 ?_ (sE v G.toGood h2).1
      have := ok.2
      cases op <;> first | exact .inl rfl | exact .inr rfl | (exact absurd this (by decide))
    · cases h
  · cases h
theorem k_ret (G : GoodS g e s X W) {o : Option Expr} {p : Pos} {c : S} (h : cRet s o = some c) : PS X (.Return o p) (tS g W (denS e c)) := by
  unfold cRet at h
  split at h
  · obtain ⟨v', h1, h⟩ := Option.bind_eq_some_iff.mp h
    cases h
    exact s_ret (sE _ G.toGood h1).1
  · cases h
    exact s_retN
theorem k_rse (G : GoodS g e s X W) {ex ca : Option Expr} {p : Pos} {c : S} (h : cRse s ex ca = some c) : PS X (.Raise ex ca p) (tS g W (denS e c)) := by
  unfold cRse at h
  split at h
  · cases h
  · split at h
    · rename_i f as kws q
      split at h
      · split at h
        · rename_i ok
          simp only [Bool.and_eq_true] at ok
          have hk : kws = [] := by simpa using ok.2
          subst hk
          obtain ⟨i, h1, h⟩ := Option.bind_eq_some_iff.mp h
          obtain ⟨as', h2, h⟩ := Option.bind_eq_some_iff.mp h
          cases h
          exact s_rse G (by simpa using ok.1.2) ok.1.1.2 (idxOf_get h1) (okName_of ok.1.1.1).1 (cEs_star h2).1 (cEs_star h2).2 (sEs as G.toGood h2)
        · cases h
      · cases h
    · cases h
end
section
variable {g : Gm} {e : Env}
mutual
theorem sS : ∀ (x : Stmt) {g : Gm} {e : Env} {s : Sx} {X : Cx} {W : WX} {c : S}, GoodS g e s X W → cS s x = some c → PS X x (tS g W (denS e c))
  | .Assign tgs v p, g, e, s, X, W, c, G, h => by rw [cS] at h; exact k_asg G h
  | .AugAssign tg op v p, g, e, s, X, W, c, G, h => by rw [cS] at h; exact k_aug G h
  | .Return o p, g, e, s, X, W, c, G, h => by rw [cS] at h; exact k_ret G h
  | .Raise ex ca p, g, e, s, X, W, c, G, h => by rw [cS] at h; exact k_rse G h
  | .Expr v p, g, e, s, X, W, c, G, h => by
    rw [cS] at h
    split at h
    · cases h
    · rename_i hc
      obtain ⟨v', h1, h⟩ := Option.bind_eq_some_iff.mp h
      cases h
      exact s_ex (by simpa using hc) (sE v G.toGood h1).1
  | .If t a b p, g, e, s, X, W, c, G, h => by
    rw [cS] at h
    obtain ⟨t', h0, h⟩ := Option.bind_eq_some_iff.mp h
    obtain ⟨a', h1, h⟩ := Option.bind_eq_some_iff.mp h
    obtain ⟨b', h2, h⟩ := Option.bind_eq_some_iff.mp h
    cases h
    exact s_if (sE t G.toGood h0).2 (sSs a G h1) (sSs b G h2)
  | .For tg it b els p, g, e, s, X, W, c, G, h => by
    rw [cS] at h
    split at h
    · cases h
    · rename_i ok
      simp only [Bool.or_eq_true, not_or, Bool.not_eq_true] at ok
      have he : els = [] := by simpa using ok.2
      subst he
      obtain ⟨t', h0, h⟩ := Option.bind_eq_some_iff.mp h
      obtain ⟨i', h1, h⟩ := Option.bind_eq_some_iff.mp h
      obtain ⟨b', h2, h⟩ := Option.bind_eq_some_iff.mp h
      cases h
      have k := sI it G.toGood tg h1
      exact s_for G ok.1 k.1 (g_of G.toGood h0) (sSs b G h2) (k.2 _)
  | .While t b els p, g, e, s, X, W, c, G, h => by
    rw [cS] at h
    split at h
    · cases h
    · rename_i ok
      have he : els = [] := by simpa using ok
      subst he
      obtain ⟨t', h0, h⟩ := Option.bind_eq_some_iff.mp h
      obtain ⟨b', h2, h⟩ := Option.bind_eq_some_iff.mp h
      cases h
      exact s_whl G (sE t G.toGood h0).2 (sSs b G h2)
  | .Try b hs els fin p, g, e, s, X, W, c, G, h => by
    rw [cS] at h
    split at h
    · cases h
    · rename_i ok
      simp only [Bool.or_eq_true, not_or, Bool.not_eq_true] at ok
      have hf : fin = [] := by simpa using ok.2
      subst hf
      have hot := ok.1.1
      obtain ⟨b', h1, h⟩ := Option.bind_eq_some_iff.mp h
      obtain ⟨hs', h2, h⟩ := Option.bind_eq_some_iff.mp h
      obtain ⟨els', h3, h⟩ := Option.bind_eq_some_iff.mp h
      cases h
      obtain ⟨l, k1, k2⟩ := sHs hs G hot h2
      have hb : ∀ (W' : WX) (X' : Cx), GoodS g e s X' W' → PSs X' b (tS g W' (denSs e b')) := fun W' X' G' => sSs b G' h1
      have ho := sSs els G h3
      cases hs with
      | nil => simp at ok
      | cons h₀ hs => exact s_try G hot hb k1 k2 ho
  | .Pass p, g, e, s, X, W, c, G, h => by rw [cS] at h; cases h; exact s_pas
  | .Break p, g, e, s, X, W, c, G, h => by rw [cS] at h; cases h; exact s_brk
  | .Continue p, g, e, s, X, W, c, G, h => by rw [cS] at h; cases h; exact s_cnt
  | .FunctionDef .., g, e, s, X, W, c, G, h => by simp [cS] at h
  | .AsyncFunctionDef .., g, e, s, X, W, c, G, h => by simp [cS] at h
  | .ClassDef .., g, e, s, X, W, c, G, h => by simp [cS] at h
  | .Delete .., g, e, s, X, W, c, G, h => by simp [cS] at h
  | .TypeAlias .., g, e, s, X, W, c, G, h => by simp [cS] at h
  | .AnnAssign .., g, e, s, X, W, c, G, h => by simp [cS] at h
  | .AsyncFor .., g, e, s, X, W, c, G, h => by simp [cS] at h
  | .With .., g, e, s, X, W, c, G, h => by simp [cS] at h
  | .AsyncWith .., g, e, s, X, W, c, G, h => by simp [cS] at h
  | .Match .., g, e, s, X, W, c, G, h => by simp [cS] at h
  | .TryStar .., g, e, s, X, W, c, G, h => by simp [cS] at h
  | .Assert .., g, e, s, X, W, c, G, h => by simp [cS] at h
  | .Import .., g, e, s, X, W, c, G, h => by simp [cS] at h
  | .ImportFrom .., g, e, s, X, W, c, G, h => by simp [cS] at h
  | .Global .., g, e, s, X, W, c, G, h => by simp [cS] at h
  | .Nonlocal .., g, e, s, X, W, c, G, h => by simp [cS] at h
theorem sSs : ∀ (x : List Stmt) {g : Gm} {e : Env} {s : Sx} {X : Cx} {W : WX} {c : Ss}, GoodS g e s X W → cSs s x = some c → PSs X x (tS g W (denSs e c))
  | [], g, e, s, X, W, c, G, h => by
    rw [cSs] at h
    cases h
    exact ss_nil
  | a :: r, g, e, s, X, W, c, G, h => by
    rw [cSs] at h
    obtain ⟨a', h1, h⟩ := Option.bind_eq_some_iff.mp h
    obtain ⟨r', h2, h⟩ := Option.bind_eq_some_iff.mp h
    cases h
    exact ss_cons (sS a G h1) (sSs r G h2)
theorem sHs : ∀ (x : List ExceptHandler) {g : Gm} {e : Env} {s : Sx} {X : Cx} {W : WX} {c : Hs}, GoodS g e s X W → s.hot = false → cHs s x = some c → ∃ l, Clauses X x l ∧ HWish g e X W c l
  | [], g, e, s, X, W, c, G, hh, h => by
    rw [cHs] at h
    cases h
    exact ⟨[], .nil, hw_nil⟩
  | .ExceptHandler ty m bs p :: r, g, e, s, X, W, c, G, hh, h => by
    rw [cHs] at h
    obtain ⟨x, h0, h⟩ := Option.bind_eq_some_iff.mp h
    split at h
    · rename_i ok
      simp only [Bool.and_eq_true] at ok
      obtain ⟨i, h1, h⟩ := Option.bind_eq_some_iff.mp h
      obtain ⟨n, h2, h⟩ := Option.bind_eq_some_iff.mp h
      obtain ⟨b', h3, h⟩ := Option.bind_eq_some_iff.mp h
      obtain ⟨r', h4, h⟩ := Option.bind_eq_some_iff.mp h
      cases h
      obtain ⟨l, k1, k2⟩ := sHs r G hh h4
      have hn : NameAt X m n := by
        cases m with
        | none => cases h2; trivial
        | some y =>
          simp only [slotOf] at h2
          split at h2
          · rename_i oy
            simp only [Bool.and_eq_true] at oy
            obtain ⟨j, hj, rfl⟩ := Option.map_eq_some_iff.mp h2
            exact ⟨G.toGood.slot hj, by show X.env.scope.names.lookup y = _; rw [G.sc]; exact isLoc_of oy.1⟩
          · cases h2
      have su : ∀ (a : Addr) (oe : Obj) (cls : Value) (d : Option Addr) (pn : List (Addr × Obj)), Zc cls d oe → (∃ vs, oe.data = .fields vs) → PSs (X.suite a ((a, oe) :: pn)) bs (tSu g e n b' a cls d) := fun a oe cls d pn hz hv => ⟨fun pins st σ H D I t => by
        obtain ⟨xv, t⟩ := t
        exact (sSs bs (G.suite hn hz hv) h3).run pins st σ H D I t⟩
      have hc : Names X x (.ref (g.ca i)) := ⟨G.toGood.gl ok.1.2, (okName_of ok.1.1).1, .inl (by rw [G.mg]; exact G.gf.cl i x (idxOf_get h1))⟩
      refine ⟨(.ref (g.ca i), n, tSu g e n b') :: l, ?_, hw_cons G hh hn k2⟩
      unfold nmOf at h0
      split at h0
      · cases h0
        cases bs with
        | nil => simp at ok
        | cons b bs => exact .cons hc hn su k1
      · cases h0
    · cases h
end
end
end MP

set_option maxHeartbeats 4000000
/-! MP21: defs, by levels; the law's end. -/
namespace MP
open PySem L2
/-- a def's scope, by a test -/
def scB (N ps : List Str) (sc : Scope) : Bool :=
  (match sc.kind with | .function => true | _ => false) && (sc.isCoroutine == false) && (sc.isGenerator == false) && decide N.Nodup && decide (List.take ps.length N = ps) &&
    (ps.all fun x => match sc.names.lookup x with | some .local => true | some .cell => true | _ => false) && (sc.names.all fun y => match y.2 with | .free => false | _ => true)
theorem scB_ok {N ps : List Str} {sc : Scope} (h : scB N ps sc = true) : FnScope N ps sc := by
  unfold scB at h
  simp only [Bool.and_eq_true, decide_eq_true_eq, List.all_eq_true, beq_iff_eq] at h
  obtain ⟨⟨⟨⟨⟨⟨h1, h2⟩, h3⟩, h4⟩, h5⟩, h6⟩, h7⟩ := h
  refine ⟨?_, h2, h3, h4, h5, fun x hx => ?_, fun y hy z => ?_⟩
  · split at h1
    · assumption
    · cases h1
  · have q := h6 x hx
    split at q
    · exact .inl ‹_›
    · exact .inr ‹_›
    · cases q
  · have q := h7 y hy
    rw [z] at q
    cases q
/-- the def with the number f, as it stands behind the top -/
structure DOk (g : Gm) (s0 : Sx) (f : Nat) (d : FDef) : Prop where
  ex : ∃ (x qual : Str) (params : Arguments) (body : List Stmt) (scope : Scope) (dvs : List V) (kws : List (Str × V)) (fd : FuncData) (N ps : List Str), FunD g.K x qual params body scope dvs kws (g.fa f) fd ∧ FnScope N ps scope ∧ Binds g.K fd ps [] ∧
    N.length = d.nN ∧ ps.length = d.np ∧ cSs { s0 with N := N, sc := scope } body = some d.body
section
variable {g : Gm} {s0 : Sx} {cd : Nat → Option CDef} {tab : List FDef}
theorem start_rep {ρ : List Addr} {H : Hp} {N : List Str} {d : FDef} {ws : List W} {vs : List V} (gx : g.xs = none) (hN : N.length = d.nN) (r : Reps g ρ H ws vs) : SRep g ρ H (start d ws) (L2.start N vs) := by
  have hl := r.length
  refine ⟨?_, fun i w q => ?_, fun xi q => by rw [gx] at q; cases q⟩
  · unfold MP.start L2.start
    simp only [List.length_append, List.length_map, List.length_replicate, hl, hN]
  · unfold MP.start at q
    by_cases hi : i < ws.length
    · rw [List.getElem?_append_left (by simpa using hi), List.getElem?_map] at q
      obtain ⟨w', e1, e2⟩ := Option.map_eq_some_iff.mp q
      cases e2
      obtain ⟨v, e3, e4⟩ := r.get e1
      refine ⟨v, ?_, e4⟩
      unfold L2.start
      rw [List.getElem?_append_left (by simpa [hl] using hi), List.getElem?_map, e3]
      rfl
    · rw [List.getElem?_append_right (by simpa using hi), List.getElem?_replicate] at q
      split at q <;> cases q
theorem good_at (gx : g.xs = none) (gf : GF g s0) (cf : CFacts g cd) (hot : s0.hot = false) (xn : s0.xn = none) {e : Env} {f : Nat} {qual : Str} {scope : Scope} {N : List Str} {cdv : Value} {A : Around} {outer : List PySem.Env} {s : Shared} {H : Hp} {E : XK}
    (ecd : e.cd = cd) (hr : Room e.lv (A.deeper (PyProof.Rows.envOfC qual scope s.heap.objs.size (g.fa f) cdv))) (nd : N.Nodup) (fns : ∀ f, FnG g e.lv f (e.call f)) (mks : 1 ≤ e.lv → ∀ f, FnG g (e.lv - 1) f (e.mkc f)) (mk0 : e.lv = 0 → e.mkc = noCall) :
    GoodS g e { s0 with N := N, sc := scope } (cxOf (L2.CX g.P g.w) g.P g.w g.K g.mg g.base N qual scope (g.fa f) cdv A outer s H E) (fun cls d _ H' => E cls d H') where
  P := rfl
  w := rfl
  K := rfl
  mg := rfl
  base := rfl
  N := rfl
  sc := rfl
  nd := nd
  un := hr.units
  tk := takes_of rfl rfl rfl rfl
  calm := fun _ => ⟨rfl, hr⟩
  gf := ⟨gf.fn, gf.cl, gf.con, gf.blt⟩
  fns := fun _ => fns
  mks := fun _ => mks
  mk0 := mk0
  cf := by rw [ecd]; exact cf
  fnc := fun _ _ => rfl
  xz := fun _ => gx
  xsl := fun xi q => by rw [gx] at q; cases q
  xat := fun n q => by
    have q : s0.xn = some n := q
    rw [xn] at q
    cases q
  po := passes_of rfl
  hs := fun _ => rfl
  hf := fun _ => rfl
theorem fn_one (gx : g.xs = none) (gf : GF g s0) (cf : CFacts g cd) (hot : s0.hot = false) (xn : s0.xn = none) {e : Env} (ecd : e.cd = cd) (fns : ∀ f, FnG g e.lv f (e.call f)) (mks : 1 ≤ e.lv → ∀ f, FnG g (e.lv - 1) f (e.mkc f)) (mk0 : e.lv = 0 → e.mkc = noCall) {f : Nat} {d : FDef} (ht : tab[f]? = some d)
    {x qual : Str} {params : Arguments} {body : List Stmt} {scope : Scope} {dvs : List V} {kws : List (Str × V)} {fd : FuncData} {N ps : List Str} (F : FunD g.K x qual params body scope dvs kws (g.fa f) fd) (S : FnScope N ps scope) (hN : N.length = d.nN) (hp : ps.length = d.np) (hc : cSs { s0 with N := N, sc := scope } body = some d.body) :
    FnOk g.P g.w g.K g.mg g.base (L2.CX g.P g.w) (e.lv + 1) (g.fa f) fd ps (spF g (runF tab e f)) := by
  refine F.ok S (fun vs H Q E h => ?_) (fun cdv A outer s H vs Q E hr h => ?_)
  · obtain ⟨ρ, hh, ws, r, R, run⟩ := h
    unfold runF at run
    rw [ht] at run
    dsimp only at run
    split at run
    · rename_i q
      rw [r.length, q, hp]
    · exact run.elim
  · have G := good_at (N := N) (qual := qual) (scope := scope) (cdv := cdv) (A := A) (outer := outer) (s := s) (H := H) (E := E) (f := f) gx gf cf hot xn ecd hr S.nd fns mks mk0
    refine ⟨_, sSs body G hc, ?_⟩
    obtain ⟨ρ, hh, ws, r, R, run⟩ := h
    refine ⟨ρ, start d ws, hh, start_rep gx hN r, R, ?_⟩
    unfold runF at run
    rw [ht] at run
    dsimp only at run
    split at run
    · cases q : denSs e d.body (start d ws) hh with
      | bad => rw [q] at run; exact run
      | exc z h1 => rw [q] at run; exact run.elim
      | ok fl h1 =>
        rw [q] at run
        cases fl with
        | nx sw => exact fun ρ' H' x y σ' _ => run ρ' H' x y .non Rep.mkNon
        | rt w => exact fun ρ' H' x y v rv => run ρ' H' x y v rv
        | bk sw => exact run.elim
        | ct sw => exact run.elim
        | xc sw z => exact fun ρ' H' x y σ' cls dd _ xr => run ρ' H' x y cls dd xr
    · exact run.elim
theorem fn_level (gx : g.xs = none) (gf : GF g s0) (cf : CFacts g cd) (hot : s0.hot = false) (xn : s0.xn = none) {e : Env} (ecd : e.cd = cd) (D : ∀ f d, tab[f]? = some d → DOk g s0 f d)
    (any : ∀ f, ∃ (fd : FuncData) (ps : List Str), Binds g.K fd ps [] ∧ PySem.W.keepIn g.K (.ref (g.fa f)) = true) (fns : ∀ f, FnG g e.lv f (e.call f)) (mks : 1 ≤ e.lv → ∀ f, FnG g (e.lv - 1) f (e.mkc f)) (mk0 : e.lv = 0 → e.mkc = noCall) (f : Nat) : FnG g (e.lv + 1) f (runF tab e f) := by
  cases ht : tab[f]? with
  | none =>
    obtain ⟨fd, ps, h1, h2⟩ := any f
    have no : ∀ vs H Q E, ¬ spF g (runF tab e f) vs H Q E := fun vs H Q E h => by
      obtain ⟨ρ, hh, ws, r, R, run⟩ := h
      unfold runF at run
      rw [ht] at run
      exact run.elim
    exact ⟨fd, ps, ⟨fun vs H Q E h => (no _ _ _ _ h).elim, fun A outer s H args us vs Q E _ _ _ _ h => (no _ _ _ _ h).elim⟩, h1, h2⟩
  | some d =>
    obtain ⟨x, qual, params, body, scope, dvs, kws, fd, N, ps, F, S, hb, hN, hp, hc⟩ := (D f d ht).ex
    exact ⟨fd, ps, fn_one gx gf cf hot xn ecd fns mks mk0 ht F S hN hp hc, hb, F.kp⟩
theorem fn_all (gx : g.xs = none) (gf : GF g s0) (cf : CFacts g cd) (hot : s0.hot = false) (xn : s0.xn = none) (D : ∀ f d, tab[f]? = some d → DOk g s0 f d)
    (any : ∀ f, ∃ (fd : FuncData) (ps : List Str), Binds g.K fd ps [] ∧ PySem.W.keepIn g.K (.ref (g.fa f)) = true) : ∀ (k : Nat), (∀ f, FnG g k f (callN tab cd k f)) ∧ ∀ f, FnG g (k + 1) f (callN tab cd (k + 1) f)
  | 0 => by
    have h0 : ∀ f, FnG g 0 f (callN tab cd 0 f) := fun f => by
      obtain ⟨fd, ps, h1, h2⟩ := any f
      have no : ∀ vs H Q E, ¬ spF g (callN tab cd 0 f) vs H Q E := fun vs H Q E h => by
        obtain ⟨ρ, hh, ws, r, R, run⟩ := h
        exact run.elim
      exact ⟨fd, ps, ⟨fun vs H Q E h => (no _ _ _ _ h).elim, fun A outer s H args us vs Q E _ _ _ _ h => (no _ _ _ _ h).elim⟩, h1, h2⟩
    exact ⟨h0, fun f => fn_level (e := ⟨callN tab cd 0, noCall, cd, none, 0⟩) gx gf cf hot xn rfl D any h0 (fun h => absurd (show 1 ≤ 0 from h) (by decide)) (fun _ => rfl) f⟩
  | k + 1 => by
    obtain ⟨h0, h1⟩ := fn_all gx gf cf hot xn D any k
    exact ⟨h1, fun f => fn_level (e := ⟨callN tab cd (k + 1), callN tab cd k, cd, none, k + 1⟩) gx gf cf hot xn rfl D any h1 (fun _ => h0) (fun h => absurd (show k + 1 = 0 from h) (by omega)) f⟩
/-- the law's promise -/
theorem law_sp {k f : Nat} {H : Hp} {a : Addr} {ns : List Int} (O : Only H) (sq : SqL g.K H a (ns.map V.int)) (h : ∃ h', callN tab cd k f [.fls (ns.map W.int)] [] = .ok (.bl true) h') :
    spF g (callN tab cd k f) [.ref a] H (fun v _ => v = .bl true) fun _ _ _ => False := by
  obtain ⟨h', e⟩ := h
  have fz : FzL g.K H a (ns.map V.int) := by
    rcases sq with (q | ⟨o, q⟩) | q
    · rcases O a with z | ⟨o, xs, z⟩
      · rw [z] at q; cases q
      · rw [z] at q; cases q
    · exact .inl ⟨o, q⟩
    · exact .inr q
  have rs : ∀ ns : List Int, Reps g [] H (ns.map W.int) (ns.map V.int) := fun ns => by
    induction ns with
    | nil => exact Reps.nil
    | cons n ns ih => exact Reps.cons Rep.mkInt ih
  refine ⟨[], [], [.fls (ns.map W.int)], Reps.cons ?_ Reps.nil, ⟨rfl, List.nodup_nil, fun n a o h => by simp at h⟩, ?_⟩
  · rw [Rep]
    exact ⟨a, _, rfl, fz, rs ns⟩
  · rw [e]
    intro ρ' H' _ _ v rv
    cases rv.blI
    rfl
end
end MP
namespace MP
open PySem L2
/-- the law's promise, as its end wants it -/
def spLaw (K : PySem.W.Frag) (n : Nat) : Sp := fun vs H Q _ => ∃ (a : Addr) (ns : List Int), vs = [.ref a] ∧ Only H ∧ SqL K H a (ns.map V.int) ∧ ns.length ≤ n ∧ ∀ H', Q (.bl true) H'
theorem law_imp {g : Gm} {cd : Nat → Option CDef} {tab : List FDef} {k f n : Nat} (h : ∀ ns : List Int, ns.length ≤ n → ∃ h', callN tab cd k f [.fls (ns.map W.int)] [] = .ok (.bl true) h') {vs : List V} {H : Hp} {Q : VK} {E : XK} (s : spLaw g.K n vs H Q E) : spF g (callN tab cd k f) vs H Q E := by
  obtain ⟨a, ns, rfl, O, sq, hl, q⟩ := s
  obtain ⟨ρ, hh, ws, r, R, run⟩ := law_sp (g := g) (tab := tab) (cd := cd) O sq (h ns hl)
  refine ⟨ρ, hh, ws, r, R, run.imp (fun w h1 ρ1 H1 e1 R1 k1 v rv => ?_) fun x h1 ρ1 H1 e1 R1 k1 cls dd xr => (k1 cls dd xr).elim⟩
  rw [k1 v rv]
  exact q _
end MP

set_option maxHeartbeats 4000000
/-! MP22: exceptions' __init__; what the head tells of classes, by tests. -/
namespace MP
open PySem L2
section
variable {g : Gm} {C fI : Addr} {fd : FuncData} {xn qual : Str} {params : Arguments} {scope : Scope} {dvs : List V} {kws : List (Str × V)}
/-- def __init__(self, x): self.f = x -/
theorem init1 {f x : Str} {q1 q2 q3 q4 : Pos} (F : FunD g.K xn qual params [.Assign [.Attribute (.Name "self" q1) f q2] (.Name x q3) q4] scope dvs kws fI fd) (S : FnScope ["self", x] ["self", x] scope) (ox : okName x = true) (T : OexC g.K C) (hno : PySem.W.findIn g.K (.ref C) f = some none) :
    FnOk g.P g.w g.K g.mg g.base (L2.CX g.P g.w) 1 fI fd ["self", x] (spX C [f]) := by
  obtain ⟨o1, o2, _⟩ := okName_of ox
  have vis : ∀ y ∈ (["self", x] : List Str), Vis scope y := fun y hy => by
    rcases S.par y hy with h | h
    · exact .inl h
    · exact .inr (.inl h)
  refine F.ok S (fun vs H Q E h => ?_) (fun cdv A outer s H vs Q E hr h => ⟨tOst g.K f (tVar 0) (tVar 1), pss_one (ps_ost (pe_var rfl (vis _ (by simp)) (by decide +kernel) (by decide +kernel)) (pe_var rfl (vis _ (by simp)) o1 o2) rfl), ?_⟩)
  · obtain ⟨a, ys, rfl, hl, _⟩ := h
    simp at hl ⊢
    exact hl
  · obtain ⟨a, ys, rfl, hl, ha, hq⟩ := h
    match ys, hl with
    | [y], _ => exact ⟨y, rfl, _, rfl, a, C, rfl, T, hno, .inl ⟨ha, fun dx hd hne => hq dx hd hne⟩⟩
/-- def __init__(self, x, y): self.f = x; self.k = y -/
theorem init2 {f k x y : Str} {q1 q2 q3 q4 q5 q6 q7 q8 : Pos} (F : FunD g.K xn qual params [.Assign [.Attribute (.Name "self" q1) f q2] (.Name x q3) q4, .Assign [.Attribute (.Name "self" q5) k q6] (.Name y q7) q8] scope dvs kws fI fd) (S : FnScope ["self", x, y] ["self", x, y] scope) (ox : okName x = true) (oy : okName y = true)
    (T : OexC g.K C) (hno : PySem.W.findIn g.K (.ref C) f = some none) (hno2 : PySem.W.findIn g.K (.ref C) k = some none) : FnOk g.P g.w g.K g.mg g.base (L2.CX g.P g.w) 1 fI fd ["self", x, y] (spX C [f, k]) := by
  obtain ⟨o1, o2, _⟩ := okName_of ox
  obtain ⟨p1, p2, _⟩ := okName_of oy
  have vis : ∀ z ∈ (["self", x, y] : List Str), Vis scope z := fun z hz => by
    rcases S.par z hz with h | h
    · exact .inl h
    · exact .inr (.inl h)
  refine F.ok S (fun vs H Q E h => ?_) (fun cdv A outer s H vs Q E hr h => ⟨tSeq (tOst g.K f (tVar 0) (tVar 1)) (tOst g.K k (tVar 0) (tVar 2)), pss_cons (ps_ost (pe_var rfl (vis _ (by simp)) (by decide +kernel) (by decide +kernel)) (pe_var rfl (vis _ (by simp)) o1 o2) rfl)
    (pss_one (ps_ost (pe_var rfl (vis _ (by simp)) (by decide +kernel) (by decide +kernel)) (pe_var rfl (vis _ (by simp)) p1 p2) rfl)), ?_⟩)
  · obtain ⟨a, ys, rfl, hl, _⟩ := h
    simp at hl ⊢
    exact hl
  · obtain ⟨a, ys, rfl, hl, ha, hq⟩ := h
    match ys, hl with
    | [u, v], _ =>
      refine ⟨u, rfl, _, rfl, a, C, rfl, T, hno, .inl ⟨ha, fun dx hd hne => ⟨v, rfl, _, rfl, a, C, rfl, T, hno2, .inr ⟨dx, [(f, u)], upd_same, by rw [upd_ne hne, upd_same], by simp, ?_⟩⟩⟩⟩
      have e : upd (upd (upd H dx (exd dx [(f, u)])) a (exo a C (some dx))) dx (exd dx ((k, v) :: [(f, u)])) = upd (upd H dx (exd dx (([f, k].zip [u, v]).reverse))) a (exo a C (some dx)) := by
        funext z
        by_cases z1 : z = dx
        · subst z1
          rw [upd_same, upd_ne hne, upd_same]
          rfl
        · rw [upd_ne z1]
          by_cases z2 : z = a
          · subst z2
            rw [upd_same, upd_same]
          · rw [upd_ne z2, upd_ne z2, upd_ne z1, upd_ne z1]
      show Q .non _
      rw [e]
      exact hq dx hd hne
end
/-! ### tests of the written part -/
def eV (a b : Option (Option Value)) : Bool := decide (a = b)
/-- the class stands over ValueError, as a class with a dict -/
def oexB (K : PySem.W.Frag) (C : Addr) : Bool := match K.lookup C with
  | some ⟨.type t, _, .cls cd, sl⟩ => (match cd.mro, sl.toList with
    | .ref C' :: bm, [_, _, _, _, some (.builtin n), _] => decide (t = "type") && decide (C' = C) && decide (n = "ValueError.__new__") && cd.hasDict && !cd.hasDel && HandSPX.refsVE bm
    | _, _ => false)
  | _ => false
def excB (K : PySem.W.Frag) (C : Addr) (ns : List Str) : Bool :=
  xfB K C && eV (PySem.W.findIn K (.ref C) "__class__") (some (some (.builtin "object.__class__"))) && eV (PySem.W.specialIn K (.builtin "object.__class__") "__get__") (some (some (.builtin "getset_descriptor.__get__"))) &&
    decide (PySem.W.takesIn K (.builtin "object.__class__") = some true) && decide (PySem.W.mroIn K C (.type "object") = some true) && decide (PySem.W.typeIn K (.ref C) = some (.type "type")) && PySem.W.keepIn K (.ref C) &&
    (ns.all fun f => eV (PySem.W.findIn K (.ref C) f) (some none)) && decide ns.Nodup &&
    (if ns.isEmpty then PySem.W.excIn K C [.type "ValueError", .type "Exception", .type "BaseException", .type "object"] "ValueError.__new__"
      else oexB K C && eV (PySem.W.findIn K (.ref C) "__setattr__") (some (some (.builtin "object.__setattr__"))) && eV (PySem.W.findIn K (.ref C) "__init__") (some (some (.ref (He.ma K C "__init__")))) && decide (PySem.W.typeIn K (.ref (He.ma K C "__init__")) = some (.type "function")))
theorem oexB_ok {K : PySem.W.Frag} {C : Addr} (h : oexB K C = true) : ∃ nm q N bs bm sn sub ab col dd k0 k1 k2 k3 k5, K.lookup C = some (excClassObj nm q C N bs bm true sn sub ab col dd k0 k1 k2 k3 k5 "ValueError.__new__") ∧ HandSPX.refsVE bm = true := by
  unfold oexB at h
  split at h
  · rename_i t dd cd sl ho
    split at h
    · rename_i C' bm k0 k1 k2 k3 n k5 hm hs
      simp only [Bool.and_eq_true, decide_eq_true_eq, Bool.not_eq_true'] at h
      obtain ⟨⟨⟨⟨⟨rfl, rfl⟩, rfl⟩, hd⟩, hx⟩, hr⟩ := h
      obtain ⟨nm, bs, mro, ns, qn, hdc, sn, sub, ab, col, del⟩ := cd
      dsimp only at hm hd hx
      subst hm hd hx
      have e : sl = #[k0, k1, k2, k3, some (.builtin "ValueError.__new__"), k5] := by
        obtain ⟨l⟩ := sl
        simp only at hs
        rw [hs]
      subst e
      exact ⟨nm, qn, ns, bs, bm, sn, sub, ab, col, dd, k0, k1, k2, k3, k5, ho, hr⟩
    · cases h
  · cases h
/-- the init's promise, from the head -/
abbrev IniOk (g : Gm) (c : Nat) (ns : List Str) : Prop := ∃ (fd : FuncData) (ps : List Str), Binds g.K fd ps [] ∧ (OexC g.K (g.ca c) → (∀ f, ns.contains f = true → PySem.W.findIn g.K (.ref (g.ca c)) f = some none) → FnOk g.P g.w g.K g.mg g.base (L2.CX g.P g.w) 1 (He.ma g.K (g.ca c) "__init__") fd ps (spX (g.ca c) ns))
theorem xfact_of {g : Gm} {c : Nat} {ns : List Str} (h : excB g.K (g.ca c) ns = true) (ini : ns ≠ [] → IniOk g c ns) : XFact g c ns := by
  unfold excB at h
  simp only [Bool.and_eq_true, decide_eq_true_eq, List.all_eq_true] at h
  obtain ⟨⟨⟨⟨⟨⟨⟨⟨⟨h1, h2⟩, h3⟩, h4⟩, h5⟩, h6⟩, h7⟩, h8⟩, h9⟩, h10⟩ := h
  have X := xfB_ok h1
  have nof : ∀ f, ns.contains f = true → PySem.W.findIn g.K (.ref (g.ca c)) f = some none := fun f hf => of_decide_eq_true (h8 f (List.contains_iff_mem.mp hf))
  refine ⟨X, ⟨X.ga, X.gg, X.exC, X.hdC, of_decide_eq_true h2, of_decide_eq_true h3, h4, h5⟩, h6, h7, nof, h9, fun e => ?_, fun e => ?_⟩
  · subst e
    exact h10
  · have e2 : ns.isEmpty = false := by cases ns with
      | nil => exact absurd rfl e
      | cons a r => rfl
    rw [e2] at h10
    simp only [Bool.false_eq_true, if_false, Bool.and_eq_true, decide_eq_true_eq] at h10
    obtain ⟨⟨⟨k1, k2⟩, k3⟩, k4⟩ := h10
    have T : OexC g.K (g.ca c) := ⟨oexB_ok k1, of_decide_eq_true k2, X.exC, h6, h7⟩
    obtain ⟨fd, ps, b1, b2⟩ := ini e
    exact ⟨T, _, fd, ps, of_decide_eq_true k3, k4, b1, b2 T nof⟩
end MP

set_option maxHeartbeats 4000000
/-! MP23: all that is told of classes, by one test. -/
namespace MP
open PySem L2
def ownB (K : PySem.W.Frag) (fa : Nat → Addr) (C : Addr) (d : CDef) : Bool :=
  (PySem.W.plainGet K C Str.empty && (PySem.W.hasDictIn K C && (PySem.W.plainOver K C && eV (PySem.W.findIn K (.ref C) "__setattr__") (some (some (.builtin "object.__setattr__")))))) &&
    eV (PySem.W.findIn K (.ref C) "__class__") (some (some (.builtin "object.__class__"))) && eV (PySem.W.specialIn K (.builtin "object.__class__") "__get__") (some (some (.builtin "getset_descriptor.__get__"))) &&
    decide (PySem.W.takesIn K (.builtin "object.__class__") = some true) && decide (PySem.W.mroIn K C (.type "object") = some true) &&
    (match d.init with
      | some f => PySem.W.makesIn K C && eV (PySem.W.findIn K (.ref C) "__init__") (some (some (.ref (fa f)))) && PySem.W.isFn K (.ref (fa f)) && PySem.W.keepIn K (.ref C)
      | none => true) &&
    (d.meths.all fun p => eV (PySem.W.findIn K (.ref C) p.1) (some (some (.ref (fa p.2)))) && PySem.W.isFn K (.ref (fa p.2)) && PySem.W.keepIn K (.ref (fa p.2))) &&
    (d.flds.all fun f => eV (PySem.W.findIn K (.ref C) f) (some none)) && (bnames.all fun n => decide (PySem.W.kitOne K (.ref C) (.type n) = some false))
def clsB (K : PySem.W.Frag) (fa ca : Nat → Addr) (cds : List CDef) : Bool := (List.range cds.length).all fun c => match cds[c]? with
  | none => false
  | some d => (tnames.all fun m => decide (PySem.W.kitOne K (.type m) (.ref (ca c)) = some false)) && (match d.exf with
    | some ns => excB K (ca c) ns && decide (PySem.W.kitOne K (.ref (ca c)) (.type "ValueError") = some true) &&
        ((List.range cds.length).all fun c' => decide (PySem.W.kitOne K (.ref (ca c)) (.ref (ca c')) = some (isSub (cds[·]?) c c')) && decide (PySem.W.subIn K (.ref (ca c)) (.ref (ca c')) = some (isSub (cds[·]?) c c')))
    | none => ownB K fa (ca c) d && ((List.range cds.length).all fun c' => decide (PySem.W.kitOne K (.ref (ca c)) (.ref (ca c')) = some (c' == c))))
section
variable {g : Gm} {cds : List CDef}
theorem look_of {α : Type} {m : Str} {l : List (Str × α)} {a : α} : l.lookup m = some a → (m, a) ∈ l := by
  induction l with
  | nil => intro h; cases h
  | cons p r ih =>
    obtain ⟨k, v⟩ := p
    intro h
    simp only [List.lookup] at h
    by_cases e : m = k
    · subst e
      simp at h
      rw [h]
      exact List.mem_cons_self ..
    · have : (m == k) = false := by simpa using e
      rw [this] at h
      exact List.mem_cons_of_mem _ (ih h)
theorem ownB_ok {c : Nat} {d : CDef} (h : ownB g.K g.fa (g.ca c) d = true) : CFact g c d := by
  unfold ownB at h
  simp only [Bool.and_eq_true, decide_eq_true_eq, List.all_eq_true] at h
  obtain ⟨⟨⟨⟨⟨⟨⟨⟨⟨h1, h2, h3, h4⟩, h5⟩, h6⟩, h7⟩, h8⟩, h9⟩, h10⟩, h11⟩, h12⟩ := h
  refine ⟨⟨h1, h2, h3, of_decide_eq_true h4⟩, of_decide_eq_true h5, of_decide_eq_true h6, h7, h8, fun f hf => ?_, fun m f hm => ?_, fun f hf => ?_, fun n hn => h12 n (List.contains_iff_mem.mp hn)⟩
  · rw [hf] at h9
    simp only [Bool.and_eq_true] at h9
    exact ⟨h9.1.1.1, of_decide_eq_true h9.1.1.2, h9.1.2, h9.2⟩
  · obtain ⟨⟨k1, k2⟩, k3⟩ := h10 (m, f) (look_of hm)
    exact ⟨of_decide_eq_true k1, k2, k3⟩
  · have q := of_decide_eq_true (h11 f (List.contains_iff_mem.mp hf))
    exact q
theorem clsB_ok (h : clsB g.K g.fa g.ca cds = true) (ini : ∀ c d n ns, cds[c]? = some d → d.exf = some (n :: ns) → IniOk g c (n :: ns)) : CFacts g (cds[·]?) := by
  unfold clsB at h
  rw [List.all_eq_true] at h
  have key : ∀ c d, cds[c]? = some d → (∀ m, tnames.contains m = true → PySem.W.kitOne g.K (.type m) (.ref (g.ca c)) = some false) ∧ (match d.exf with
    | some ns => excB g.K (g.ca c) ns = true ∧ PySem.W.kitOne g.K (.ref (g.ca c)) (.type "ValueError") = some true ∧
        ∀ c', c' < cds.length → PySem.W.kitOne g.K (.ref (g.ca c)) (.ref (g.ca c')) = some (isSub (cds[·]?) c c') ∧ PySem.W.subIn g.K (.ref (g.ca c)) (.ref (g.ca c')) = some (isSub (cds[·]?) c c')
    | none => ownB g.K g.fa (g.ca c) d = true ∧ ∀ c', c' < cds.length → PySem.W.kitOne g.K (.ref (g.ca c)) (.ref (g.ca c')) = some (c' == c)) := fun c d e => by
    have q := h c (List.mem_range.mpr (List.getElem?_eq_some_iff.mp e).1)
    rw [e] at q
    simp only [Bool.and_eq_true, List.all_eq_true, decide_eq_true_eq] at q
    refine ⟨fun m hm => q.1 m (List.contains_iff_mem.mp hm), ?_⟩
    have q2 := q.2
    cases hx : d.exf with
    | none =>
      rw [hx] at q2
      simp only [Bool.and_eq_true, List.all_eq_true, decide_eq_true_eq] at q2
      exact ⟨q2.1, fun c' hc => q2.2 c' (List.mem_range.mpr hc)⟩
    | some ns =>
      rw [hx] at q2
      simp only [Bool.and_eq_true, List.all_eq_true, decide_eq_true_eq] at q2
      exact ⟨q2.1.1, q2.1.2, fun c' hc => q2.2 c' (List.mem_range.mpr hc)⟩
  have lt : ∀ {c d}, cds[c]? = some d → c < cds.length := fun e => (List.getElem?_eq_some_iff.mp e).1
  refine ⟨fun c d e1 e2 => ?_, fun c d e m hm => (key c d e).1 m hm, fun c d ns e1 e2 => ?_, fun c d c' d' e1 e2 e3 e4 => ?_, fun c d c' d' e1 e2 e3 => ?_, fun c d e1 e2 => ?_, fun c d c' d' e1 e2 e3 => ?_⟩
  · have q := (key c d e1).2
    rw [e2] at q
    exact ownB_ok q.1
  · have q := (key c d e1).2
    rw [e2] at q
    refine xfact_of q.1 fun hn => ?_
    cases ns with
    | nil => exact absurd rfl hn
    | cons n ns => exact ini c d n ns e1 e2
  · have q := (key c d e1).2
    cases hx : d.exf with
    | none => exact absurd hx e2
    | some ns => rw [hx] at q; exact (q.2.2 c' (lt e3)).2
  · have q := (key c d e1).2
    cases hx : d.exf with
    | none => exact absurd hx e2
    | some ns => rw [hx] at q; exact (q.2.2 c' (lt e3)).1
  · have q := (key c d e1).2
    cases hx : d.exf with
    | none => exact absurd hx e2
    | some ns => rw [hx] at q; exact q.2.1
  · have q := (key c d e1).2
    rw [e2] at q
    exact q.2 c' (lt e3)
end
end MP

set_option maxHeartbeats 4000000
/-! MP24: reckoning with meanings. -/
namespace MP
open PySem
/-- a call's end from its body's -/
def fin (r : Out Fl) : Out W := match r with
  | .ok (.rt w) h1 => .ok w h1
  | .ok (.nx _) h1 => .ok .non h1
  | .ok (.xc _ x) h1 => .exc x h1
  | _ => .bad
theorem fin_rt {w : W} {h : HW} : fin (.ok (.rt w) h) = .ok w h := rfl
theorem fin_nx {σ : SW} {h : HW} : fin (.ok (.nx σ) h) = .ok .non h := rfl
theorem fin_xc {σ : SW} {x : XV} {h : HW} : fin (.ok (.xc σ x) h) = .exc x h := rfl
theorem run_eq {tab : List FDef} {e : Env} {f : Nat} {ws : List W} {h : HW} {d : FDef} (ht : tab[f]? = some d) (hl : ws.length = d.np) : runF tab e f ws h = fin (denSs e d.body (start d ws) h) := by
  unfold runF
  rw [ht]
  show (if ws.length = d.np then _ else _) = _
  rw [if_pos hl]
  rfl
section
variable {e : Env} {s : S} {ss : Ss} {σ σ1 : SW} {h h1 : HW}
theorem go_nx (q : denS e s σ h = .ok (.nx σ1) h1) : denSs e (.cons s ss) σ h = denSs e ss σ1 h1 := by simp only [denSs, q]
theorem go_rt {w : W} (q : denS e s σ h = .ok (.rt w) h1) : denSs e (.cons s ss) σ h = .ok (.rt w) h1 := by simp only [denSs, q]
theorem go_xc {x : XV} (q : denS e s σ h = .ok (.xc σ1 x) h1) : denSs e (.cons s ss) σ h = .ok (.xc σ1 x) h1 := by simp only [denSs, q]
theorem go_if {c : E} {a b : Ss} {t : Bool} (q : denT e c σ h = .ok t h1) : denS e (.iff c a b) σ h = if t then denSs e a σ h1 else denSs e b σ h1 := by simp only [denS, q, Out.st]
end
theorem bind_ok {α β : Type} {a : α} {h : HW} {f : α → HW → Out β} : (Out.ok a h).bind f = f a h := rfl
theorem okIf_yes {α : Type} {c : Bool} {m : Out α} (h : c = true) : okIf c m = m := by rw [h]; rfl
theorem st_exc {α : Type} {x : XV} {h : HW} {σ : SW} {f : α → HW → Out Fl} : (Out.exc x h : Out α).st σ f = .ok (.xc σ x) h := rfl
theorem bind_exc {α β : Type} {x : XV} {h : HW} {f : α → HW → Out β} : (Out.exc x h : Out α).bind f = .exc x h := rfl
section
variable {e : Env} {σ : SW} {h : HW}
theorem dE_var {i : Nat} : denE e (.var i) σ h = match slotW σ i with | some w => .ok w h | none => .bad := by first | (rw [denE]; done) | (rw [denE]; rfl)
theorem dE_con {w : W} : denE e (.con w) σ h = .ok w h := by simp only [denE]
theorem dE_bin {o : Operator} {a b : E} : denE e (.bin o a b) σ h = (denE e a σ h).bind fun x h1 => (denE e b σ h1).bind fun y h2 => binW o x y h2 := by simp only [denE]
theorem dE_lst {es : Es} : denE e (.lst es) σ h = (denEs e es σ h).bind fun ws h1 => okIf (decide (ws.length ≤ line)) (new (.lst ws) h1) := by simp only [denE]
theorem dE_tup {es : Es} : denE e (.tup es) σ h = (denEs e es σ h).bind fun ws h1 => okIf (decide (ws.length ≤ line)) (.ok (.tup ws) h1) := by simp only [denE]
theorem dE_call {f : Nat} {es : Es} : denE e (.call f es) σ h = (denEs e es σ h).bind fun ws h1 => e.call f ws h1 := by simp only [denE]
theorem dE_sub {a i : E} : denE e (.sub a i) σ h = (denE e a σ h).bind fun x h1 => (denE e i σ h1).bind fun y h2 => subW x y h2 := by simp only [denE]
theorem dE_cmp {o : CmpOp} {a b : E} : denE e (.cmp o a b) σ h = (denE e a σ h).bind fun x h1 => (denE e b σ h1).bind fun y h2 => cmpW o x y h2 := by simp only [denE]
theorem dE_blt {b : Blt} {es : Es} : denE e (.blt b es) σ h = (denEs e es σ h).bind fun ws h1 => bltW b ws h1 := by simp only [denE]
theorem dE_isi {a c : E} : denE e (.isi a c) σ h = (denE e a σ h).bind fun x h1 => (denE e c σ h1).bind fun y h2 => isiW e.cd x y h2 := by simp only [denE]
theorem dEs_nil : denEs e .nil σ h = .ok [] h := by simp only [denEs]
theorem dEs_cons {a : E} {es : Es} : denEs e (.cons a es) σ h = (denE e a σ h).bind fun x h1 => (denEs e es σ h1).bind fun ws h2 => .ok (x :: ws) h2 := by simp only [denEs]
theorem dS_asg {t : Tg} {a : E} : denS e (.asg t a) σ h = (denE e a σ h).st σ fun w h1 => match tgW t w σ with | some σ2 => .ok (.nx σ2) h1 | none => .bad := by first | (rw [denS]; done) | (rw [denS]; rfl)
theorem dS_ex {a : E} : denS e (.ex a) σ h = (denE e a σ h).st σ fun _ h1 => .ok (.nx σ) h1 := by simp only [denS]
theorem dS_ret {a : E} : denS e (.ret a) σ h = (denE e a σ h).st σ fun w h1 => .ok (.rt w) h1 := by simp only [denS]
theorem dSs_nil : denSs e .nil σ h = .ok (.nx σ) h := by simp only [denSs]
theorem go_for {t : Tg} {it : It} {b : Ss} {s : Src} {h1 h2 : HW} {σ1 : SW} (q1 : denI e it σ h = .ok s h1) (q2 : forLoop (denSs e b) t s (s.count h1 + 1) 0 σ h1 = .ok (.nx σ1) h2) : denS e (.forr t it b) σ h = .ok (.nx σ1) h2 := by
  rw [denS, q1]
  exact q2
theorem dI_rng {a b : E} {i j : Int} {h1 h2 : HW} (q1 : denE e a σ h = .ok (.int i) h1) (q2 : denE e b σ h1 = .ok (.int j) h2) (b1 : -4611686018427387904 ≤ i) (b2 : i < 4611686018427387904) (b3 : -4611686018427387904 ≤ j) (b4 : j < 4611686018427387904) : denI e (.rng a b) σ h = .ok (.rng i (j - i).toNat) h2 := by
  rw [denI, q1, bind_ok, q2, bind_ok]
  exact okIf_yes (decide_eq_true ⟨b1, b2, b3, b4⟩)
theorem go_ifF {c : E} {a : Ss} (q : denT e c σ h = .ok false h) : denS e (.iff c a .nil) σ h = .ok (.nx σ) h := by
  rw [go_if q]
  simp only [Bool.false_eq_true, if_false, dSs_nil]
theorem go_tr_xc {b : Ss} {hs : Hs} {els : Ss} {σ1 : SW} {x : XV} {h1 : HW} (q : denSs e b σ h = .ok (.xc σ1 x) h1) : denS e (.tr b hs els) σ h = denHs e hs x σ1 h1 := by simp only [denS, q]
theorem go_h_yes {c : Nat} {n : Option Nat} {b : Ss} {hs : Hs} {x : XV} (h1 : (isExc e.cd x.c && isExc e.cd c && slotIn n σ) = true) (h2 : isSub e.cd x.c c = true) : denHs e (.cons c n b hs) x σ h = suiteEnd n (denSs { e with xv := some x } b (clr n σ) h) := by
  simp only [denHs]
  rw [if_pos h1, if_pos h2]
end
theorem get_set {h : HW} {p : Nat} {o o' : O} (e : h[p]? = some o) : (h.set p o')[p]? = some o' := List.getElem?_set_self (List.getElem?_eq_some_iff.mp e).1
theorem mod_ok {i j : Int} {h : HW} (hj : 0 < j) : binW .Mod (.int i) (.int j) h = .ok (.int (i % j)) h := by simp only [binW]; exact okIf_yes (decide_eq_true hj)
theorem div_ok {i j : Int} {h : HW} (hj : 0 < j) (hj2 : j < 1073741824) : binW .FloorDiv (.int i) (.int j) h = .ok (.int (i / j)) h := by simp only [binW]; exact okIf_yes (decide_eq_true ⟨hj, hj2⟩)
theorem mul_okR {i j : Int} {h : HW} (h1 : -(2 ^ 64) < j) (h2 : j < 2 ^ 64) : binW .Mult (.int i) (.int j) h = .ok (.int (i * j)) h := by simp only [binW]; exact okIf_yes (decide_eq_true (.inr ⟨h1, h2⟩))
theorem mul_okL {i j : Int} {h : HW} (h1 : -(2 ^ 64) < i) (h2 : i < 2 ^ 64) : binW .Mult (.int i) (.int j) h = .ok (.int (i * j)) h := by simp only [binW]; exact okIf_yes (decide_eq_true (.inl ⟨h1, h2⟩))
theorem add_int {i j : Int} {h : HW} : binW .Add (.int i) (.int j) h = .ok (.int (i + j)) h := rfl
theorem sub_int {i j : Int} {h : HW} : binW .Sub (.int i) (.int j) h = .ok (.int (i - j)) h := rfl
theorem ge_int {i j : Int} {h : HW} : cmpW .GtE (.int i) (.int j) h = .ok (.bl (decide (j ≤ i))) h := rfl
theorem lt_int {i j : Int} {h : HW} : cmpW .Lt (.int i) (.int j) h = .ok (.bl (decide (i < j))) h := rfl
theorem gt_int {i j : Int} {h : HW} : cmpW .Gt (.int i) (.int j) h = .ok (.bl (decide (j < i))) h := rfl
theorem eq_int {i j : Int} {h : HW} : cmpW .Eq (.int i) (.int j) h = .ok (.bl (decide (i = j))) h := rfl
theorem tru_bl {b : Bool} {h : HW} : truW (.bl b) h = .ok b h := rfl
theorem st_ok {α : Type} {a : α} {h : HW} {σ : SW} {f : α → HW → Out Fl} : (Out.ok a h).st σ f = f a h := rfl
theorem int_int {i : Int} {h : HW} : bltW .int [.int i] h = .ok (.int i) h := rfl
theorem sub_lst {n : Nat} {h : HW} {ws : List W} {i : Int} {w : W} (q : h[n]? = some (.lst ws)) (k : L2.atI ws i = some w) : subW (.ref n) (.int i) h = .ok w h := by simp only [subW, q, k]
theorem set_lst {n : Nat} {h : HW} {ws : List W} {i : Int} {j : Nat} {w : W} (q : h[n]? = some (.lst ws)) (k : L2.ixN ws.length i = some j) : setSub (.ref n) (.int i) w h = .ok () (h.set n (.lst (ws.set j w))) := by simp only [setSub, q, k]
theorem atI_of {α : Type} {ws : List α} {i : Int} {w : α} (h0 : 0 ≤ i) (h : ws[i.toNat]? = some w) : L2.atI ws i = some w := by
  have hl := (List.getElem?_eq_some_iff.mp h).1
  unfold L2.atI L2.ixN
  rw [if_pos h0, if_pos (by omega)]
  exact h
theorem ixN_of {n : Nat} {i : Int} (h0 : 0 ≤ i) (h : i < n) : L2.ixN n i = some i.toNat := by
  unfold L2.ixN
  rw [if_pos h0, if_pos h]
end MP

set_option maxHeartbeats 0
namespace K00
open PySem PySem.Spec L2 MP
def top (i : Nat) : Stmt := PySem.Challenge.pw_copybooks_k00_errors.main.body.getD i (.Pass ⟨0, 0, 0, 0⟩)
def inC (st : Stmt) (j : Nat) : Stmt := match st with
  | .ClassDef _ _ _ body .. => body.getD j (.Pass ⟨0, 0, 0, 0⟩)
  | _ => .Pass ⟨0, 0, 0, 0⟩

def funs : List Str := ["_law_pool", "_law_draw", "_law_one", "_law_maybe", "_law_same", "_law_value", "_law_raised", "_law_kinds", "_law_fields", "law"]
def clss : List Str := ["CopyError", "NoBook", "NoRun", "NoFamily", "NoText", "TooMany", "NoMany", "NoStep", "NoKinds", "NoMost", "NoViews", "Undecided", "NoCache", "NoPick", "NoLines", "NoLine", "NoValue", "NoBack", "NoIndex", "NoRest", "NoPair", "NoBag", "NotRight"]
def P0 : List PySem.Str := []
def N0 : List PySem.Str := []
def b0 : MP.Ss := (.cons (.ret (.lst (.cons (.con (.int 0)) (.cons (.con (.int 0)) (.cons (.con (.int 0)) (.cons (.con (.int 1)) .nil))))))
  .nil)
def P1 : List PySem.Str := ["_law_script", "_law_pool_here", "_law_limit"]
def N1 : List PySem.Str := ["_law_script", "_law_pool_here", "_law_limit", "_law_value_here", "_law_cell", "_law_one_here", "_law_two"]
def b1 : MP.Ss := (.cons (.sub (.var 1) (.con (.int 2)) (.bin .Add (.sub (.var 1) (.con (.int 2))) (.con (.int 1))))
  (.cons (.iff (.cmp .GtE (.sub (.var 1) (.con (.int 0))) (.var 2)) (.cons (.asg (.nm 3) (.bin .Mod (.blt .int (.cons (.sub (.var 1) (.con (.int 0))) .nil)) (.var 2)))
  (.cons (.sub (.var 1) (.con (.int 0)) (.bin .FloorDiv (.sub (.var 1) (.con (.int 0))) (.var 2)))
  (.cons (.ret (.var 3))
  .nil))) .nil)
  (.cons (.iff (.cmp .Lt (.sub (.var 1) (.con (.int 1))) (.blt .len (.cons (.var 0) .nil))) (.cons (.asg (.nm 4) (.sub (.var 0) (.sub (.var 1) (.con (.int 1)))))
  (.cons (.sub (.var 1) (.con (.int 1)) (.bin .Add (.sub (.var 1) (.con (.int 1))) (.con (.int 1))))
  (.cons (.iff (.cmp .GtE (.var 4) (.bin .Pow (.con (.int 10)) (.con (.int 18)))) (.cons (.sub (.var 1) (.con (.int 0)) (.bin .FloorDiv (.var 4) (.var 2)))
  (.cons (.ret (.bin .Mod (.blt .int (.cons (.var 4) .nil)) (.var 2)))
  .nil)) .nil)
  (.cons (.sub (.var 1) (.con (.int 3)) (.bin .Mod (.blt .int (.cons (.bin .Add (.bin .Add (.bin .Mult (.sub (.var 1) (.con (.int 3))) (.con (.int 69623))) (.bin .Mod (.blt .int (.cons (.var 4) .nil)) (.con (.int 2147483629)))) (.con (.int 7))) .nil)) (.con (.int 2147483647))))
  .nil)))) .nil)
  (.cons (.asg (.nm 5) (.bin .Mod (.blt .int (.cons (.bin .Add (.bin .Add (.bin .Mult (.sub (.var 1) (.con (.int 3))) (.con (.int 48271))) (.bin .Mult (.sub (.var 1) (.con (.int 2))) (.con (.int 1103515245)))) (.con (.int 12345))) .nil)) (.con (.int 2147483647))))
  (.cons (.asg (.nm 6) (.bin .Mod (.blt .int (.cons (.bin .Add (.bin .Mult (.var 5) (.bin .Add (.bin .FloorDiv (.var 5) (.con (.int 1009))) (.con (.int 69621)))) (.bin .Mult (.sub (.var 1) (.con (.int 2))) (.con (.int 40692)))) .nil)) (.con (.int 2147483629))))
  (.cons (.ret (.bin .Mod (.blt .int (.cons (.bin .FloorDiv (.var 6) (.con (.int 16))) .nil)) (.var 2)))
  .nil))))))
def P2 : List PySem.Str := ["_law_script", "_law_pool_here", "_law_row"]
def N2 : List PySem.Str := ["_law_script", "_law_pool_here", "_law_row"]
def b2 : MP.Ss := (.cons (.ret (.sub (.var 2) (.call 1 (.cons (.var 0) (.cons (.var 1) (.cons (.blt .len (.cons (.var 2) .nil)) .nil))))))
  .nil)
def P3 : List PySem.Str := ["_law_script", "_law_pool_here", "_law_row"]
def N3 : List PySem.Str := ["_law_script", "_law_pool_here", "_law_row"]
def b3 : MP.Ss := (.cons (.iff (.cmp .Eq (.call 1 (.cons (.var 0) (.cons (.var 1) (.cons (.con (.int 3)) .nil)))) (.con (.int 0))) (.cons (.ret (.con .non))
  .nil) .nil)
  (.cons (.ret (.call 2 (.cons (.var 0) (.cons (.var 1) (.cons (.var 2) .nil)))))
  .nil))
def P4 : List PySem.Str := ["_law_told", "_law_due"]
def N4 : List PySem.Str := ["_law_told", "_law_due", "_law_k"]
def b4 : MP.Ss := (.cons (.iff (.cmp .Is (.var 1) (.con .non)) (.cons (.ret (.cmp .Is (.var 0) (.con .non)))
  .nil) .nil)
  (.cons (.iff (.isi (.var 1) (.con (.ty "bool"))) (.cons (.ret (.and (.isi (.var 0) (.con (.ty "bool"))) (.cmp .Eq (.var 0) (.var 1))))
  .nil) .nil)
  (.cons (.iff (.isi (.var 1) (.con (.ty "str"))) (.cons (.ret (.and (.isi (.var 0) (.con (.ty "str"))) (.cmp .Eq (.var 0) (.var 1))))
  .nil) .nil)
  (.cons (.iff (.isi (.var 1) (.con (.ty "int"))) (.cons (.ret (.and (.isi (.var 0) (.con (.ty "int"))) (.and (.not (.isi (.var 0) (.con (.ty "bool")))) (.cmp .Eq (.var 0) (.var 1)))))
  .nil) .nil)
  (.cons (.iff (.or (.and (.isi (.var 1) (.con (.ty "tuple"))) (.not (.isi (.var 0) (.con (.ty "tuple"))))) (.and (.isi (.var 1) (.con (.ty "list"))) (.not (.isi (.var 0) (.con (.ty "list")))))) (.cons (.ret (.con (.bl false)))
  .nil) .nil)
  (.cons (.iff (.cmp .NotEq (.blt .len (.cons (.var 0) .nil)) (.blt .len (.cons (.var 1) .nil))) (.cons (.ret (.con (.bl false)))
  .nil) .nil)
  (.cons (.forr (.nm 2) (.rng (.con (.int 0)) (.blt .len (.cons (.var 1) .nil))) (.cons (.iff (.not (.call 4 (.cons (.sub (.var 0) (.var 2)) (.cons (.sub (.var 1) (.var 2)) .nil)))) (.cons (.ret (.con (.bl false)))
  .nil) .nil)
  .nil))
  (.cons (.ret (.con (.bl true)))
  .nil))))))))
def P5 : List PySem.Str := ["_law_script", "_law_pool_here"]
def N5 : List PySem.Str := ["_law_script", "_law_pool_here", "_law_number", "_law_things"]
def b5 : MP.Ss := (.cons (.asg (.nm 2) (.bin .Sub (.call 1 (.cons (.var 0) (.cons (.var 1) (.cons (.con (.int 1000003)) .nil)))) (.con (.int 500001))))
  (.cons (.asg (.nm 3) (.lst (.cons (.con .non) (.cons (.con (.bl true)) (.cons (.con (.bl false)) (.cons (.con (.int 0)) (.cons (.con (.int 1)) (.cons (.var 2) (.cons (.bin .Add (.bin .Mult (.var 2) (.bin .Pow (.con (.int 10)) (.con (.int 54)))) (.con (.int 1))) (.cons (.con (.str (PySem.Str.ofString ""))) (.cons (.con (.str (PySem.Str.ofString "wishes"))) (.cons (.con (.str (PySem.Str.ofString "a b"))) (.cons (.lst .nil) (.cons (.lst (.cons (.var 2) .nil)) (.cons (.tup .nil) (.cons (.tup (.cons (.con .non) (.cons (.con (.str (PySem.Str.ofString "x"))) .nil))) .nil))))))))))))))))
  (.cons (.ret (.call 2 (.cons (.var 0) (.cons (.var 1) (.cons (.var 3) .nil)))))
  .nil)))
def P6 : List PySem.Str := ["_law_k", "_law_one_here", "_law_two"]
def N6 : List PySem.Str := ["_law_k", "_law_one_here", "_law_two"]
def b6 : MP.Ss := (.cons (.iff (.cmp .Eq (.var 0) (.con (.int 0))) (.cons (.rse 1 (.cons (.var 1) (.cons (.var 2) .nil)))
  .nil) .nil)
  (.cons (.iff (.cmp .Eq (.var 0) (.con (.int 1))) (.cons (.rse 2 (.cons (.var 1) .nil))
  .nil) .nil)
  (.cons (.iff (.cmp .Eq (.var 0) (.con (.int 2))) (.cons (.rse 3 (.cons (.var 1) .nil))
  .nil) .nil)
  (.cons (.iff (.cmp .Eq (.var 0) (.con (.int 3))) (.cons (.rse 4 (.cons (.var 1) .nil))
  .nil) .nil)
  (.cons (.iff (.cmp .Eq (.var 0) (.con (.int 4))) (.cons (.rse 5 (.cons (.var 1) .nil))
  .nil) .nil)
  (.cons (.iff (.cmp .Eq (.var 0) (.con (.int 5))) (.cons (.rse 6 .nil)
  .nil) .nil)
  (.cons (.iff (.cmp .Eq (.var 0) (.con (.int 6))) (.cons (.rse 7 .nil)
  .nil) .nil)
  (.cons (.iff (.cmp .Eq (.var 0) (.con (.int 7))) (.cons (.rse 8 .nil)
  .nil) .nil)
  (.cons (.iff (.cmp .Eq (.var 0) (.con (.int 8))) (.cons (.rse 9 .nil)
  .nil) .nil)
  (.cons (.iff (.cmp .Eq (.var 0) (.con (.int 9))) (.cons (.rse 10 .nil)
  .nil) .nil)
  (.cons (.iff (.cmp .Eq (.var 0) (.con (.int 10))) (.cons (.rse 11 .nil)
  .nil) .nil)
  (.cons (.iff (.cmp .Eq (.var 0) (.con (.int 11))) (.cons (.rse 12 .nil)
  .nil) .nil)
  (.cons (.iff (.cmp .Eq (.var 0) (.con (.int 12))) (.cons (.rse 13 .nil)
  .nil) .nil)
  (.cons (.iff (.cmp .Eq (.var 0) (.con (.int 13))) (.cons (.rse 14 .nil)
  .nil) .nil)
  (.cons (.iff (.cmp .Eq (.var 0) (.con (.int 14))) (.cons (.rse 15 .nil)
  .nil) .nil)
  (.cons (.iff (.cmp .Eq (.var 0) (.con (.int 15))) (.cons (.rse 16 .nil)
  .nil) .nil)
  (.cons (.iff (.cmp .Eq (.var 0) (.con (.int 16))) (.cons (.rse 17 .nil)
  .nil) .nil)
  (.cons (.iff (.cmp .Eq (.var 0) (.con (.int 17))) (.cons (.rse 18 .nil)
  .nil) .nil)
  (.cons (.iff (.cmp .Eq (.var 0) (.con (.int 18))) (.cons (.rse 19 .nil)
  .nil) .nil)
  (.cons (.iff (.cmp .Eq (.var 0) (.con (.int 19))) (.cons (.rse 20 .nil)
  .nil) .nil)
  (.cons (.iff (.cmp .Eq (.var 0) (.con (.int 20))) (.cons (.rse 22 .nil)
  .nil) .nil)
  (.cons (.rse 21 .nil)
  .nil))))))))))))))))))))))
def P7 : List PySem.Str := ["_law_k", "_law_one_here", "_law_two"]
def N7 : List PySem.Str := ["_law_k", "_law_one_here", "_law_two", "_law_kinds_here", "e"]
def b7 : MP.Ss := (.cons (.asg (.nm 3) (.lst .nil))
  (.cons (.tr (.cons (.ex (.call 6 (.cons (.var 0) (.cons (.var 1) (.cons (.var 2) .nil)))))
  .nil) (.cons 0 (some 4) (.cons (.asg (.nm 3) (.lst (.cons (.xisi (.con (.cls 1))) (.cons (.xisi (.con (.cls 2))) (.cons (.xisi (.con (.cls 3))) (.cons (.xisi (.con (.cls 4))) .nil))))))
  (.cons (.asg (.nm 3) (.bin .Add (.var 3) (.lst (.cons (.xisi (.con (.cls 5))) (.cons (.xisi (.con (.cls 6))) (.cons (.xisi (.con (.cls 7))) (.cons (.xisi (.con (.cls 8))) .nil)))))))
  (.cons (.asg (.nm 3) (.bin .Add (.var 3) (.lst (.cons (.xisi (.con (.cls 9))) (.cons (.xisi (.con (.cls 10))) (.cons (.xisi (.con (.cls 11))) (.cons (.xisi (.con (.cls 12))) .nil)))))))
  (.cons (.asg (.nm 3) (.bin .Add (.var 3) (.lst (.cons (.xisi (.con (.cls 13))) (.cons (.xisi (.con (.cls 14))) (.cons (.xisi (.con (.cls 15))) (.cons (.xisi (.con (.cls 16))) .nil)))))))
  (.cons (.asg (.nm 3) (.bin .Add (.var 3) (.lst (.cons (.xisi (.con (.cls 17))) (.cons (.xisi (.con (.cls 18))) (.cons (.xisi (.con (.cls 19))) (.cons (.xisi (.con (.cls 20))) .nil)))))))
  (.cons (.asg (.nm 3) (.bin .Add (.var 3) (.lst (.cons (.xisi (.con (.cls 22))) (.cons (.xisi (.con (.cls 21))) (.cons (.xisi (.con (.ty "ValueError"))) .nil))))))
  .nil)))))) .nil) .nil)
  (.cons (.ret (.var 3))
  .nil)))
def P8 : List PySem.Str := ["_law_k", "_law_one_here", "_law_two"]
def N8 : List PySem.Str := ["_law_k", "_law_one_here", "_law_two", "_law_fields_here", "e"]
def b8 : MP.Ss := (.cons (.asg (.nm 3) (.con .non))
  (.cons (.tr (.cons (.ex (.call 6 (.cons (.var 0) (.cons (.var 1) (.cons (.var 2) .nil)))))
  .nil) (.cons 1 (some 4) (.cons (.asg (.nm 3) (.lst (.cons (.xatt (PySem.Str.ofString "part")) (.cons (.xatt (PySem.Str.ofString "index")) .nil))))
  .nil) (.cons 2 (some 4) (.cons (.asg (.nm 3) (.lst (.cons (.xatt (PySem.Str.ofString "index")) .nil)))
  .nil) (.cons 3 (some 4) (.cons (.asg (.nm 3) (.lst (.cons (.xatt (PySem.Str.ofString "index")) .nil)))
  .nil) (.cons 4 (some 4) (.cons (.asg (.nm 3) (.lst (.cons (.xatt (PySem.Str.ofString "line")) .nil)))
  .nil) (.cons 5 (some 4) (.cons (.asg (.nm 3) (.lst (.cons (.xatt (PySem.Str.ofString "most")) .nil)))
  .nil) (.cons 0 none (.cons (.asg (.nm 3) (.lst .nil))
  .nil) .nil)))))) .nil)
  (.cons (.ret (.var 3))
  .nil)))
def P9 : List PySem.Str := ["_law_script"]
def N9 : List PySem.Str := ["_law_script", "_law_pool_here", "_law_turn", "_law_k", "_law_one_here", "_law_two", "_law_due", ".0", "_law_at"]
def b9 : MP.Ss := (.cons (.asg (.nm 1) (.call 0 .nil))
  (.cons (.forr (.nm 2) (.rng (.con (.int 0)) (.con (.int 2))) (.cons (.asg (.nm 3) (.call 1 (.cons (.var 0) (.cons (.var 1) (.cons (.con (.int 22)) .nil)))))
  (.cons (.asg (.nm 4) (.call 5 (.cons (.var 0) (.cons (.var 1) .nil))))
  (.cons (.asg (.nm 5) (.call 5 (.cons (.var 0) (.cons (.var 1) .nil))))
  (.cons (.asg (.nm 6) (.lst (.cons (.var 4) .nil)))
  (.cons (.iff (.cmp .Eq (.var 3) (.con (.int 0))) (.cons (.asg (.nm 6) (.lst (.cons (.var 4) (.cons (.var 5) .nil))))
  .nil) (.cons (.iff (.cmp .Gt (.var 3) (.con (.int 4))) (.cons (.asg (.nm 6) (.lst .nil))
  .nil) .nil)
  .nil))
  (.cons (.iff (.cmp .NotEq (.call 7 (.cons (.var 3) (.cons (.var 4) (.cons (.var 5) .nil)))) (.bin .Add (.lc [7, 8] (.nm 8) (.rng (.con (.int 0)) (.con (.int 22))) (.con (.bl true)) (.cmp .Eq (.var 8) (.var 3))) (.lst (.cons (.con (.bl true)) .nil)))) (.cons (.ret (.con (.bl false)))
  .nil) .nil)
  (.cons (.iff (.not (.call 4 (.cons (.call 8 (.cons (.var 3) (.cons (.var 4) (.cons (.var 5) .nil)))) (.cons (.var 6) .nil)))) (.cons (.ret (.con (.bl false)))
  .nil) .nil)
  .nil))))))))
  (.cons (.ret (.con (.bl true)))
  .nil)))
def tab : List FDef := [⟨P0.length, N0.length, b0⟩, ⟨P1.length, N1.length, b1⟩, ⟨P2.length, N2.length, b2⟩, ⟨P3.length, N3.length, b3⟩, ⟨P4.length, N4.length, b4⟩, ⟨P5.length, N5.length, b5⟩, ⟨P6.length, N6.length, b6⟩, ⟨P7.length, N7.length, b7⟩, ⟨P8.length, N8.length, b8⟩, ⟨P9.length, N9.length, b9⟩]
def cds : List CDef := [⟨none, some [], [0], [], []⟩,
  ⟨none, some ["part", "index"], [1, 0], [], []⟩,
  ⟨none, some ["index"], [2, 0], [], []⟩,
  ⟨none, some ["index"], [3, 0], [], []⟩,
  ⟨none, some ["line"], [4, 0], [], []⟩,
  ⟨none, some ["most"], [5, 0], [], []⟩,
  ⟨none, some [], [6, 0], [], []⟩,
  ⟨none, some [], [7, 0], [], []⟩,
  ⟨none, some [], [8, 0], [], []⟩,
  ⟨none, some [], [9, 0], [], []⟩,
  ⟨none, some [], [10, 0], [], []⟩,
  ⟨none, some [], [11, 0], [], []⟩,
  ⟨none, some [], [12, 0], [], []⟩,
  ⟨none, some [], [13, 0], [], []⟩,
  ⟨none, some [], [14, 0], [], []⟩,
  ⟨none, some [], [15, 0], [], []⟩,
  ⟨none, some [], [16, 0], [], []⟩,
  ⟨none, some [], [17, 0], [], []⟩,
  ⟨none, some [], [18, 0], [], []⟩,
  ⟨none, some [], [19, 0], [], []⟩,
  ⟨none, some [], [20, 0], [], []⟩,
  ⟨none, some [], [21, 0], [], []⟩,
  ⟨none, some [], [22, 0], [], []⟩]
abbrev cd : Nat → Option CDef := fun i => cds[i]?
def s0 : Sx := ⟨[], { kind := .function, names := [], isGenerator := false, isCoroutine := false, more := [] }, funs, clss, [], none, [], false, true⟩
def d0 : He.DefD := ⟨("_law_pool", none), "_law_pool", "_law_pool", defArgs (top 25), defBody (top 25), defScope (top 25), [], []⟩
def d1 : He.DefD := ⟨("_law_draw", none), "_law_draw", "_law_draw", defArgs (top 26), defBody (top 26), defScope (top 26), [], []⟩
def d2 : He.DefD := ⟨("_law_one", none), "_law_one", "_law_one", defArgs (top 27), defBody (top 27), defScope (top 27), [], []⟩
def d3 : He.DefD := ⟨("_law_maybe", none), "_law_maybe", "_law_maybe", defArgs (top 28), defBody (top 28), defScope (top 28), [], []⟩
def d4 : He.DefD := ⟨("_law_same", none), "_law_same", "_law_same", defArgs (top 29), defBody (top 29), defScope (top 29), [], []⟩
def d5 : He.DefD := ⟨("_law_value", none), "_law_value", "_law_value", defArgs (top 30), defBody (top 30), defScope (top 30), [], []⟩
def d6 : He.DefD := ⟨("_law_raised", none), "_law_raised", "_law_raised", defArgs (top 31), defBody (top 31), defScope (top 31), [], []⟩
def d7 : He.DefD := ⟨("_law_kinds", none), "_law_kinds", "_law_kinds", defArgs (top 32), defBody (top 32), defScope (top 32), [], []⟩
def d8 : He.DefD := ⟨("_law_fields", none), "_law_fields", "_law_fields", defArgs (top 33), defBody (top 33), defScope (top 33), [], []⟩
def d9 : He.DefD := ⟨("law", none), "law", "law", defArgs (top 34), defBody (top 34), defScope (top 34), [], []⟩
def i1 : He.DefD := ⟨("NoBook", some "__init__"), "__init__", "NoBook.__init__", defArgs (inC (top 2) 0), defBody (inC (top 2) 0), defScope (inC (top 2) 0), [], []⟩
def i2 : He.DefD := ⟨("NoRun", some "__init__"), "__init__", "NoRun.__init__", defArgs (inC (top 3) 0), defBody (inC (top 3) 0), defScope (inC (top 3) 0), [], []⟩
def i3 : He.DefD := ⟨("NoFamily", some "__init__"), "__init__", "NoFamily.__init__", defArgs (inC (top 4) 0), defBody (inC (top 4) 0), defScope (inC (top 4) 0), [], []⟩
def i4 : He.DefD := ⟨("NoText", some "__init__"), "__init__", "NoText.__init__", defArgs (inC (top 5) 0), defBody (inC (top 5) 0), defScope (inC (top 5) 0), [], []⟩
def i5 : He.DefD := ⟨("TooMany", some "__init__"), "__init__", "TooMany.__init__", defArgs (inC (top 6) 0), defBody (inC (top 6) 0), defScope (inC (top 6) 0), [], []⟩
def fn : List He.DefD := [d0, d1, d2, d3, d4, d5, d6, d7, d8, d9, i1, i2, i3, i4, i5]
def fa : List He.Fa := (funs ++ clss).map He.Fa.glo ++ bltNames.map He.Fa.free
def faK (K : PySem.W.Frag) (i : Nat) : Addr := He.ga K (funs.getD i "law")
def caK (K : PySem.W.Frag) (i : Nat) : Addr := He.ga K (clss.getD i "CopyError")
def ex (K : PySem.W.Frag) : Bool := clsB K (faK K) (caK K) cds
abbrev R : PySem.W.OpenRow := PySem.W.OpenLaw.row PySem.Challenge.rw_copybooks_k00_errors
abbrev hk : PySem.W.Hook := He.hookX 5 fa fn [] [] ex
def ob (s : PySem.W.SharedT) : He.AlX := He.obsX 5 fa fn [] [] ex (HandSHeadRun.getT s)
theorem ob_eq (s : PySem.W.SharedT) : ob s = hk.obs s.abs := He.obsX_eq (HandSHeadRun.getT_eq s)
abbrev loose : List PySem.Str := ["_law_pool", "_law_draw", "_law_one", "_law_maybe", "_law_same", "_law_value", "_law_raised", "_law_kinds", "_law_fields", "CopyError", "NoBook", "NoRun", "NoFamily", "NoText", "TooMany", "NoMany", "NoStep", "NoKinds", "NoMost", "NoViews", "Undecided", "NoCache", "NoPick", "NoLines", "NoLine", "NoValue", "NoBack", "NoIndex", "NoRest", "NoPair", "NoBag", "NotRight"]
theorem run (w : World) : HandSHeadRun.RunEq R (PySem.W.view R.prog [34]) hk ob 14000 loose w := by
  intro os
  kernel_rfl
end K00

set_option maxHeartbeats 0
namespace K00
open PySem PySem.Spec L2 MP
section
variable {w : World} {K : PySem.W.Frag} {h : Heap} {mg : Str → Option Value}
abbrev gm (w : World) (K : PySem.W.Frag) (mg : Str → Option Value) (base : Heap) : Gm := ⟨PySem.Challenge.pw_copybooks_k00_errors, w, K, mg, base, faK K, caK K, none⟩

theorem k0 : cSs { s0 with N := N0, sc := d0.scope } d0.body = some b0 := by kernel_rfl
theorem sc0 : FnScope N0 P0 d0.scope := scB_ok (by decide +kernel)
theorem bd0 {fd : FuncData} {f : Addr} (F : FunD K d0.name d0.qual d0.params d0.body d0.scope [] [] f fd) : Binds K fd P0 [] := F.bindsN fun _ _ _ _ _ _ us hl => match us, hl with | [], _ => rfl
theorem D0 (base : Heap) (c : He.SaysX fa fn [] [] ex w h K) : DOk (gm w K mg base) s0 0 ⟨P0.length, N0.length, b0⟩ := by
  obtain ⟨fd, F⟩ := c.t.d.def_ 0 (d := d0) rfl
  exact ⟨_, _, _, _, _, _, _, fd, N0, P0, F, sc0, bd0 F, rfl, rfl, k0⟩
theorem k1 : cSs { s0 with N := N1, sc := d1.scope } d1.body = some b1 := by kernel_rfl
theorem sc1 : FnScope N1 P1 d1.scope := scB_ok (by decide +kernel)
theorem bd1 {fd : FuncData} {f : Addr} (F : FunD K d1.name d1.qual d1.params d1.body d1.scope [] [] f fd) : Binds K fd P1 [] := F.bindsN fun _ _ _ _ _ _ us hl => match us, hl with | [_, _, _], _ => rfl
theorem D1 (base : Heap) (c : He.SaysX fa fn [] [] ex w h K) : DOk (gm w K mg base) s0 1 ⟨P1.length, N1.length, b1⟩ := by
  obtain ⟨fd, F⟩ := c.t.d.def_ 1 (d := d1) rfl
  exact ⟨_, _, _, _, _, _, _, fd, N1, P1, F, sc1, bd1 F, rfl, rfl, k1⟩
theorem k2 : cSs { s0 with N := N2, sc := d2.scope } d2.body = some b2 := by kernel_rfl
theorem sc2 : FnScope N2 P2 d2.scope := scB_ok (by decide +kernel)
theorem bd2 {fd : FuncData} {f : Addr} (F : FunD K d2.name d2.qual d2.params d2.body d2.scope [] [] f fd) : Binds K fd P2 [] := F.bindsN fun _ _ _ _ _ _ us hl => match us, hl with | [_, _, _], _ => rfl
theorem D2 (base : Heap) (c : He.SaysX fa fn [] [] ex w h K) : DOk (gm w K mg base) s0 2 ⟨P2.length, N2.length, b2⟩ := by
  obtain ⟨fd, F⟩ := c.t.d.def_ 2 (d := d2) rfl
  exact ⟨_, _, _, _, _, _, _, fd, N2, P2, F, sc2, bd2 F, rfl, rfl, k2⟩
theorem k3 : cSs { s0 with N := N3, sc := d3.scope } d3.body = some b3 := by kernel_rfl
theorem sc3 : FnScope N3 P3 d3.scope := scB_ok (by decide +kernel)
theorem bd3 {fd : FuncData} {f : Addr} (F : FunD K d3.name d3.qual d3.params d3.body d3.scope [] [] f fd) : Binds K fd P3 [] := F.bindsN fun _ _ _ _ _ _ us hl => match us, hl with | [_, _, _], _ => rfl
theorem D3 (base : Heap) (c : He.SaysX fa fn [] [] ex w h K) : DOk (gm w K mg base) s0 3 ⟨P3.length, N3.length, b3⟩ := by
  obtain ⟨fd, F⟩ := c.t.d.def_ 3 (d := d3) rfl
  exact ⟨_, _, _, _, _, _, _, fd, N3, P3, F, sc3, bd3 F, rfl, rfl, k3⟩
theorem k4 : cSs { s0 with N := N4, sc := d4.scope } d4.body = some b4 := by kernel_rfl
theorem sc4 : FnScope N4 P4 d4.scope := scB_ok (by decide +kernel)
theorem bd4 {fd : FuncData} {f : Addr} (F : FunD K d4.name d4.qual d4.params d4.body d4.scope [] [] f fd) : Binds K fd P4 [] := F.bindsN fun _ _ _ _ _ _ us hl => match us, hl with | [_, _], _ => rfl
theorem D4 (base : Heap) (c : He.SaysX fa fn [] [] ex w h K) : DOk (gm w K mg base) s0 4 ⟨P4.length, N4.length, b4⟩ := by
  obtain ⟨fd, F⟩ := c.t.d.def_ 4 (d := d4) rfl
  exact ⟨_, _, _, _, _, _, _, fd, N4, P4, F, sc4, bd4 F, rfl, rfl, k4⟩
theorem k5 : cSs { s0 with N := N5, sc := d5.scope } d5.body = some b5 := by kernel_rfl
theorem sc5 : FnScope N5 P5 d5.scope := scB_ok (by decide +kernel)
theorem bd5 {fd : FuncData} {f : Addr} (F : FunD K d5.name d5.qual d5.params d5.body d5.scope [] [] f fd) : Binds K fd P5 [] := F.bindsN fun _ _ _ _ _ _ us hl => match us, hl with | [_, _], _ => rfl
theorem D5 (base : Heap) (c : He.SaysX fa fn [] [] ex w h K) : DOk (gm w K mg base) s0 5 ⟨P5.length, N5.length, b5⟩ := by
  obtain ⟨fd, F⟩ := c.t.d.def_ 5 (d := d5) rfl
  exact ⟨_, _, _, _, _, _, _, fd, N5, P5, F, sc5, bd5 F, rfl, rfl, k5⟩
theorem k6 : cSs { s0 with N := N6, sc := d6.scope } d6.body = some b6 := by kernel_rfl
theorem sc6 : FnScope N6 P6 d6.scope := scB_ok (by decide +kernel)
theorem bd6 {fd : FuncData} {f : Addr} (F : FunD K d6.name d6.qual d6.params d6.body d6.scope [] [] f fd) : Binds K fd P6 [] := F.bindsN fun _ _ _ _ _ _ us hl => match us, hl with | [_, _, _], _ => rfl
theorem D6 (base : Heap) (c : He.SaysX fa fn [] [] ex w h K) : DOk (gm w K mg base) s0 6 ⟨P6.length, N6.length, b6⟩ := by
  obtain ⟨fd, F⟩ := c.t.d.def_ 6 (d := d6) rfl
  exact ⟨_, _, _, _, _, _, _, fd, N6, P6, F, sc6, bd6 F, rfl, rfl, k6⟩
theorem k7 : cSs { s0 with N := N7, sc := d7.scope } d7.body = some b7 := by kernel_rfl
theorem sc7 : FnScope N7 P7 d7.scope := scB_ok (by decide +kernel)
theorem bd7 {fd : FuncData} {f : Addr} (F : FunD K d7.name d7.qual d7.params d7.body d7.scope [] [] f fd) : Binds K fd P7 [] := F.bindsN fun _ _ _ _ _ _ us hl => match us, hl with | [_, _, _], _ => rfl
theorem D7 (base : Heap) (c : He.SaysX fa fn [] [] ex w h K) : DOk (gm w K mg base) s0 7 ⟨P7.length, N7.length, b7⟩ := by
  obtain ⟨fd, F⟩ := c.t.d.def_ 7 (d := d7) rfl
  exact ⟨_, _, _, _, _, _, _, fd, N7, P7, F, sc7, bd7 F, rfl, rfl, k7⟩
theorem k8 : cSs { s0 with N := N8, sc := d8.scope } d8.body = some b8 := by kernel_rfl
theorem sc8 : FnScope N8 P8 d8.scope := scB_ok (by decide +kernel)
theorem bd8 {fd : FuncData} {f : Addr} (F : FunD K d8.name d8.qual d8.params d8.body d8.scope [] [] f fd) : Binds K fd P8 [] := F.bindsN fun _ _ _ _ _ _ us hl => match us, hl with | [_, _, _], _ => rfl
theorem D8 (base : Heap) (c : He.SaysX fa fn [] [] ex w h K) : DOk (gm w K mg base) s0 8 ⟨P8.length, N8.length, b8⟩ := by
  obtain ⟨fd, F⟩ := c.t.d.def_ 8 (d := d8) rfl
  exact ⟨_, _, _, _, _, _, _, fd, N8, P8, F, sc8, bd8 F, rfl, rfl, k8⟩
theorem k9 : cSs { s0 with N := N9, sc := d9.scope } d9.body = some b9 := by kernel_rfl
theorem sc9 : FnScope N9 P9 d9.scope := scB_ok (by decide +kernel)
theorem bd9 {fd : FuncData} {f : Addr} (F : FunD K d9.name d9.qual d9.params d9.body d9.scope [] [] f fd) : Binds K fd P9 [] := F.bindsN fun _ _ _ _ _ _ us hl => match us, hl with | [_], _ => rfl
theorem D9 (base : Heap) (c : He.SaysX fa fn [] [] ex w h K) : DOk (gm w K mg base) s0 9 ⟨P9.length, N9.length, b9⟩ := by
  obtain ⟨fd, F⟩ := c.t.d.def_ 9 (d := d9) rfl
  exact ⟨_, _, _, _, _, _, _, fd, N9, P9, F, sc9, bd9 F, rfl, rfl, k9⟩
theorem dok (base : Heap) (c : He.SaysX fa fn [] [] ex w h K) : ∀ f d, tab[f]? = some d → DOk (gm w K mg base) s0 f d
  | 0, d, e => by cases e; exact D0 base c
  | 1, d, e => by cases e; exact D1 base c
  | 2, d, e => by cases e; exact D2 base c
  | 3, d, e => by cases e; exact D3 base c
  | 4, d, e => by cases e; exact D4 base c
  | 5, d, e => by cases e; exact D5 base c
  | 6, d, e => by cases e; exact D6 base c
  | 7, d, e => by cases e; exact D7 base c
  | 8, d, e => by cases e; exact D8 base c
  | 9, d, e => by cases e; exact D9 base c
  | n + 10, d, e => by cases e
theorem any (base : Heap) (c : He.SaysX fa fn [] [] ex w h K) (f : Nat) : ∃ (fd : FuncData) (ps : List Str), Binds (gm w K mg base).K fd ps [] ∧ PySem.W.keepIn (gm w K mg base).K (.ref ((gm w K mg base).fa f)) = true := by
  match f with
  | 0 =>
    obtain ⟨fd, F⟩ := c.t.d.def_ 0 (d := d0) rfl
    exact ⟨fd, P0, bd0 F, F.kp⟩
  | 1 =>
    obtain ⟨fd, F⟩ := c.t.d.def_ 1 (d := d1) rfl
    exact ⟨fd, P1, bd1 F, F.kp⟩
  | 2 =>
    obtain ⟨fd, F⟩ := c.t.d.def_ 2 (d := d2) rfl
    exact ⟨fd, P2, bd2 F, F.kp⟩
  | 3 =>
    obtain ⟨fd, F⟩ := c.t.d.def_ 3 (d := d3) rfl
    exact ⟨fd, P3, bd3 F, F.kp⟩
  | 4 =>
    obtain ⟨fd, F⟩ := c.t.d.def_ 4 (d := d4) rfl
    exact ⟨fd, P4, bd4 F, F.kp⟩
  | 5 =>
    obtain ⟨fd, F⟩ := c.t.d.def_ 5 (d := d5) rfl
    exact ⟨fd, P5, bd5 F, F.kp⟩
  | 6 =>
    obtain ⟨fd, F⟩ := c.t.d.def_ 6 (d := d6) rfl
    exact ⟨fd, P6, bd6 F, F.kp⟩
  | 7 =>
    obtain ⟨fd, F⟩ := c.t.d.def_ 7 (d := d7) rfl
    exact ⟨fd, P7, bd7 F, F.kp⟩
  | 8 =>
    obtain ⟨fd, F⟩ := c.t.d.def_ 8 (d := d8) rfl
    exact ⟨fd, P8, bd8 F, F.kp⟩
  | 9 =>
    obtain ⟨fd, F⟩ := c.t.d.def_ 9 (d := d9) rfl
    exact ⟨fd, P9, bd9 F, F.kp⟩
  | n + 10 =>
    obtain ⟨fd, F⟩ := c.t.d.def_ 9 (d := d9) rfl
    exact ⟨fd, P9, bd9 F, F.kp⟩
theorem getD_of {l : List Str} {i : Nat} {x z : Str} (e : l[i]? = some x) : l.getD i z = x := by
  rw [List.getD_eq_getElem?_getD, e]
  rfl
theorem gf (base : Heap) (X : K.In h) (G : h.Ns mainGlobals mg) (c : He.SaysX fa fn [] [] ex w h K) : GF (gm w K mg base) s0 where
  fn := fun i x e => by
    have q := He.glo_ok X G (c.t.d.facts (f := .glo x) (List.mem_append_left _ (List.mem_map.mpr ⟨x, List.mem_append_left _ (List.mem_of_getElem? e), rfl⟩)))
    have z : faK K i = He.ga K x := by unfold faK; rw [getD_of (show funs[i]? = some x from e)]
    show mg x = some (.ref (faK K i))
    rw [z]
    exact q
  cl := fun i x e => by
    have q := He.glo_ok X G (c.t.d.facts (f := .glo x) (List.mem_append_left _ (List.mem_map.mpr ⟨x, List.mem_append_right _ (List.mem_of_getElem? e), rfl⟩)))
    have z : caK K i = He.ga K x := by unfold caK; rw [getD_of (show clss[i]? = some x from e)]
    show mg x = some (.ref (caK K i))
    rw [z]
    exact q
  con := fun x v e => by cases e
  blt := fun x hx => He.free_ok X G (c.t.d.facts (f := .free x) (List.mem_append_right _ (List.mem_map.mpr ⟨x, hx, rfl⟩)))

theorem in1 (base : Heap) (c : He.SaysX fa fn [] [] ex w h K) : IniOk (gm w K mg base) 1 ["part", "index"] := by
  obtain ⟨fd, F⟩ := c.t.d.def_ 10 (d := i1) rfl
  refine ⟨fd, ["self", "part", "index"], F.bindsN fun _ _ _ _ _ _ us hl => match us, hl with | [_, _, _], _ => rfl, fun T no => ?_⟩
  exact init2 (f := "part") (k := "index") (x := "part") (y := "index") F (scB_ok (by decide +kernel)) (by decide +kernel) (by decide +kernel) T (no "part" (by decide +kernel)) (no "index" (by decide +kernel))
theorem in2 (base : Heap) (c : He.SaysX fa fn [] [] ex w h K) : IniOk (gm w K mg base) 2 ["index"] := by
  obtain ⟨fd, F⟩ := c.t.d.def_ 11 (d := i2) rfl
  refine ⟨fd, ["self", "index"], F.bindsN fun _ _ _ _ _ _ us hl => match us, hl with | [_, _], _ => rfl, fun T no => ?_⟩
  exact init1 (f := "index") (x := "index") F (scB_ok (by decide +kernel)) (by decide +kernel) T (no "index" (by decide +kernel))
theorem in3 (base : Heap) (c : He.SaysX fa fn [] [] ex w h K) : IniOk (gm w K mg base) 3 ["index"] := by
  obtain ⟨fd, F⟩ := c.t.d.def_ 12 (d := i3) rfl
  refine ⟨fd, ["self", "index"], F.bindsN fun _ _ _ _ _ _ us hl => match us, hl with | [_, _], _ => rfl, fun T no => ?_⟩
  exact init1 (f := "index") (x := "index") F (scB_ok (by decide +kernel)) (by decide +kernel) T (no "index" (by decide +kernel))
theorem in4 (base : Heap) (c : He.SaysX fa fn [] [] ex w h K) : IniOk (gm w K mg base) 4 ["line"] := by
  obtain ⟨fd, F⟩ := c.t.d.def_ 13 (d := i4) rfl
  refine ⟨fd, ["self", "line"], F.bindsN fun _ _ _ _ _ _ us hl => match us, hl with | [_, _], _ => rfl, fun T no => ?_⟩
  exact init1 (f := "line") (x := "line") F (scB_ok (by decide +kernel)) (by decide +kernel) T (no "line" (by decide +kernel))
theorem in5 (base : Heap) (c : He.SaysX fa fn [] [] ex w h K) : IniOk (gm w K mg base) 5 ["most"] := by
  obtain ⟨fd, F⟩ := c.t.d.def_ 14 (d := i5) rfl
  refine ⟨fd, ["self", "most"], F.bindsN fun _ _ _ _ _ _ us hl => match us, hl with | [_, _], _ => rfl, fun T no => ?_⟩
  exact init1 (f := "most") (x := "most") F (scB_ok (by decide +kernel)) (by decide +kernel) T (no "most" (by decide +kernel))
theorem cf (base : Heap) (c : He.SaysX fa fn [] [] ex w h K) : CFacts (gm w K mg base) cd := by
  refine clsB_ok c.more fun i d n ns e1 e2 => ?_
  match i, e1 with
  | 0, e1 => cases e1; cases e2
  | 1, e1 => cases e1; cases e2; exact in1 base c
  | 2, e1 => cases e1; cases e2; exact in2 base c
  | 3, e1 => cases e1; cases e2; exact in3 base c
  | 4, e1 => cases e1; cases e2; exact in4 base c
  | 5, e1 => cases e1; cases e2; exact in5 base c
  | 6, e1 => cases e1; cases e2
  | 7, e1 => cases e1; cases e2
  | 8, e1 => cases e1; cases e2
  | 9, e1 => cases e1; cases e2
  | 10, e1 => cases e1; cases e2
  | 11, e1 => cases e1; cases e2
  | 12, e1 => cases e1; cases e2
  | 13, e1 => cases e1; cases e2
  | 14, e1 => cases e1; cases e2
  | 15, e1 => cases e1; cases e2
  | 16, e1 => cases e1; cases e2
  | 17, e1 => cases e1; cases e2
  | 18, e1 => cases e1; cases e2
  | 19, e1 => cases e1; cases e2
  | 20, e1 => cases e1; cases e2
  | 21, e1 => cases e1; cases e2
  | 22, e1 => cases e1; cases e2
  | n + 23, e1 => cases e1
theorem facts {f : Addr} (pure_law : ∀ ns : List Int, ns.length ≤ 63 → ∃ h', callN tab cd 9 9 [.fls (ns.map W.int)] [] = .ok (.bl true) h') (X : K.In h) (G : h.Ns mainGlobals mg) (hfa : mg ("law" : Str) = some (.ref f)) (c : He.SaysX fa fn [] [] ex w h K) :
    ∃ fd : FuncData, (∀ (s : Shared) (v : Value), BindsTo s fd ⟨[v], []⟩ [("_law_script", v)]) ∧ ∀ base : Heap, K.In base → base.Ns mainGlobals mg → FnOk PySem.Challenge.pw_copybooks_k00_errors w K mg base (L2.CX PySem.Challenge.pw_copybooks_k00_errors w) 9 f fd ["_law_script"] (spLaw K 63) := by
  obtain ⟨fd, F⟩ := c.t.d.def_ 9 (d := d9) rfl
  have e := hfa.symm.trans (He.glo_ok X G (c.t.d.facts (f := .glo "law") (List.mem_append_left _ (List.mem_map.mpr ⟨_, List.mem_append_left _ (by decide +kernel), rfl⟩))))
  cases e
  have b := FunD.bindsA (ps := ["_law_script"]) F fun _ _ _ _ _ _ us hl => match us, hl with | [_], _ => rfl
  refine ⟨fd, fun s v => b s [v] rfl, fun base _ _ => ?_⟩
  have al := fn_all (g := gm w K mg base) (tab := tab) rfl (gf base X G c) (cf base c) rfl rfl (dok base c) (any base c)
  have one := fn_one (g := gm w K mg base) (tab := tab) (s0 := s0) (cd := cd) rfl (gf base X G c) (cf base c) rfl rfl (e := ⟨callN tab cd 8, callN tab cd 7, cd, none, 8⟩) rfl (al 8).1 (fun _ => (al 7).1) (fun z => absurd (show 8 = 0 from z) (by decide)) (f := 9) (d := ⟨P9.length, N9.length, b9⟩) rfl F sc9 rfl rfl k9
  exact FnOk.imp one fun vs H Q E s => law_imp (g := gm w K mg base) (k := 9) (f := 9) pure_law s
end
end K00

set_option maxHeartbeats 4000000
namespace K00
open PySem MP
def pool (a b c d : Int) : O := .lst [.int a, .int b, .int c, .int d]
theorem at4_0 {a b c d : W} : L2.atI [a, b, c, d] 0 = some a := rfl
theorem at4_1 {a b c d : W} : L2.atI [a, b, c, d] 1 = some b := rfl
theorem at4_2 {a b c d : W} : L2.atI [a, b, c, d] 2 = some c := rfl
theorem at4_3 {a b c d : W} : L2.atI [a, b, c, d] 3 = some d := rfl
theorem ix4_0 {a b c d : W} : L2.ixN [a, b, c, d].length 0 = some 0 := rfl
theorem ix4_1 {a b c d : W} : L2.ixN [a, b, c, d].length 1 = some 1 := rfl
theorem ix4_2 {a b c d : W} : L2.ixN [a, b, c, d].length 2 = some 2 := rfl
theorem ix4_3 {a b c d : W} : L2.ixN [a, b, c, d].length 3 = some 3 := rfl
theorem pow18 {h : HW} : binW .Pow (.int 10) (.int 18) h = .ok (.int 1000000000000000000) h := rfl
theorem len_fls {ws : List W} {h : HW} : bltW .len [.fls ws] h = .ok (.int ws.length) h := rfl
theorem sub_fls {h : HW} {ws : List W} {i : Int} {w : W} (k : L2.atI ws i = some w) : subW (.fls ws) (.int i) h = .ok w h := by simp only [subW, k]
theorem draw_ok {e : MP.Env} {sc : List W} {p : Nat} {L a b c d : Int} {h : HW} (hs : ∀ w ∈ sc, ∃ i, w = .int i) (hp : h[p]? = some (pool a b c d)) (hb : 0 ≤ b) (hL : 0 < L) (hL2 : L < 1073741824) :
    ∃ v a' b' c' d', 0 ≤ v ∧ v < L ∧ 0 ≤ b' ∧ runF tab e 1 [.fls sc, .ref p, .int L] h = .ok (.int v) (h.set p (pool a' b' c' d')) := by
  have hp0 : h[p]? = some (.lst [.int a, .int b, .int c, .int d]) := hp
  have hg : ∀ o, (h.set p o)[p]? = some o := fun o => get_set hp0
  have nn : ∀ i : Int, 0 ≤ i % L := fun i => Int.emod_nonneg _ (by omega)
  have lt : ∀ i : Int, i % L < L := fun i => Int.emod_lt_of_pos _ hL
  rw [run_eq (d := ⟨P1.length, N1.length, b1⟩) rfl rfl]
  show ∃ v a' b' c' d', 0 ≤ v ∧ v < L ∧ 0 ≤ b' ∧ fin (denSs e b1 [some (.fls sc), some (.ref p), some (.int L), none, none, none, none] h) = .ok (.int v) (h.set p (pool a' b' c' d'))
  by_cases hA : L ≤ a
  · refine ⟨a % L, a / L, b, c + 1, d, nn _, lt _, hb, ?_⟩
    simp only [b1, denSs, denS, denE, denT, denEs, bind_ok, st_ok, slotW, tgW, List.getElem?_cons_succ, List.getElem?_cons_zero, subW, setSub, hp0, hg, at4_0, at4_1, at4_2, at4_3, ix4_0, ix4_1, ix4_2, ix4_3, List.set, List.set_set, add_int, int_int, ge_int, lt_int, tru_bl, mod_ok hL, div_ok hL hL2, decide_eq_true hA, if_true, fin, pool]
  · have tail : ∀ (b' d' : Int) (cell : Option W), 0 ≤ b' → ∃ v a' b'' c' d'', 0 ≤ v ∧ v < L ∧ 0 ≤ b'' ∧ fin (denSs e (.cons (.asg (.nm 5) (.bin .Mod (.blt .int (.cons (.bin .Add (.bin .Add (.bin .Mult (.sub (.var 1) (.con (.int 3))) (.con (.int 48271))) (.bin .Mult (.sub (.var 1) (.con (.int 2))) (.con (.int 1103515245)))) (.con (.int 12345))) .nil)) (.con (.int 2147483647))))
  (.cons (.asg (.nm 6) (.bin .Mod (.blt .int (.cons (.bin .Add (.bin .Mult (.var 5) (.bin .Add (.bin .FloorDiv (.var 5) (.con (.int 1009))) (.con (.int 69621)))) (.bin .Mult (.sub (.var 1) (.con (.int 2))) (.con (.int 40692)))) .nil)) (.con (.int 2147483629))))
  (.cons (.ret (.bin .Mod (.blt .int (.cons (.bin .FloorDiv (.var 6) (.con (.int 16))) .nil)) (.var 2)))
  .nil))) [some (.fls sc), some (.ref p), some (.int L), none, cell, none, none] (h.set p (.lst [.int a, .int b', .int (c + 1), .int d']))) = .ok (.int v) (h.set p (pool a' b'' c' d'')) := fun b' d' cell hb' => by
      refine ⟨(((d' * 48271 + (c + 1) * 1103515245 + 12345) % 2147483647 * ((d' * 48271 + (c + 1) * 1103515245 + 12345) % 2147483647 / 1009 + 69621) + (c + 1) * 40692) % 2147483629) / 16 % L, a, b', c + 1, d', nn _, lt _, hb', ?_⟩
      · have m1 : ∀ i : Int, -(2 ^ 64) < i % 2147483647 ∧ i % 2147483647 < 2 ^ 64 := fun i => ⟨by omega, by omega⟩
        simp only [denSs, denS, denE, denT, denEs, bind_ok, st_ok, slotW, tgW, List.getElem?_cons_succ, List.getElem?_cons_zero, subW, hg, at4_0, at4_1, at4_2, at4_3, List.set, add_int, int_int, mul_okR (show -(2 ^ 64) < (48271 : Int) by decide) (by decide), mul_okR (show -(2 ^ 64) < (1103515245 : Int) by decide) (by decide), mul_okR (show -(2 ^ 64) < (40692 : Int) by decide) (by decide), mod_ok (show (0 : Int) < 2147483647 by decide), mod_ok (show (0 : Int) < 2147483629 by decide), div_ok (show (0 : Int) < 1009 by decide) (by decide), div_ok (show (0 : Int) < 16 by decide) (by decide), mul_okL (m1 _).1 (m1 _).2, mod_ok hL, fin, pool]
    by_cases hB : b < sc.length
    · obtain ⟨w, hw⟩ : ∃ w, sc[b.toNat]? = some w := ⟨_, List.getElem?_eq_getElem (by omega)⟩
      obtain ⟨z, rfl⟩ := hs w (List.mem_of_getElem? hw)
      have hat := atI_of hb hw
      by_cases hC : (1000000000000000000 : Int) ≤ z
      · refine ⟨z % L, z / L, b + 1, c + 1, d, nn _, lt _, by omega, ?_⟩
        simp only [b1, denSs, denS, denE, denT, denEs, bind_ok, st_ok, slotW, tgW, List.getElem?_cons_succ, List.getElem?_cons_zero, subW, setSub, hp0, hg, at4_0, at4_1, at4_2, at4_3, ix4_0, ix4_1, ix4_2, ix4_3, List.set, List.set_set, add_int, int_int, ge_int, lt_int, tru_bl, mod_ok hL, div_ok hL hL2, decide_eq_false hA, len_fls, decide_eq_true hB, hat, pow18, decide_eq_true hC, Bool.false_eq_true, if_false, if_true, fin, pool]
      · obtain ⟨v, a', b'', c', d'', t1, t2, t3, t4⟩ := tail (b + 1) ((d * 69623 + z % 2147483629 + 7) % 2147483647) (some (.int z)) (by omega)
        refine ⟨v, a', b'', c', d'', t1, t2, t3, ?_⟩
        rw [← t4]
        simp only [b1, denSs, denS, denE, denT, denEs, bind_ok, st_ok, slotW, tgW, List.getElem?_cons_succ, List.getElem?_cons_zero, subW, setSub, hp0, hg, at4_0, at4_1, at4_2, at4_3, ix4_0, ix4_1, ix4_2, ix4_3, List.set, List.set_set, add_int, int_int, ge_int, lt_int, tru_bl, mod_ok hL, div_ok hL hL2, decide_eq_false hA, len_fls, decide_eq_true hB, hat, pow18, decide_eq_false hC, mul_okR (show -(2 ^ 64) < (69623 : Int) by decide) (by decide), mod_ok (show (0 : Int) < 2147483647 by decide), mod_ok (show (0 : Int) < 2147483629 by decide), Bool.false_eq_true, if_false, if_true]
    · obtain ⟨v, a', b'', c', d'', t1, t2, t3, t4⟩ := tail b d none hb
      refine ⟨v, a', b'', c', d'', t1, t2, t3, ?_⟩
      rw [← t4]
      simp only [b1, denSs, denS, denE, denT, denEs, bind_ok, st_ok, slotW, tgW, List.getElem?_cons_succ, List.getElem?_cons_zero, subW, setSub, hp0, hg, at4_0, at4_1, at4_2, at4_3, ix4_0, ix4_1, ix4_2, ix4_3, List.set, List.set_set, add_int, int_int, ge_int, lt_int, tru_bl, decide_eq_false hA, len_fls, decide_eq_false hB, Bool.false_eq_true, if_false, if_true]
end K00

set_option maxHeartbeats 4000000
namespace K00
open PySem MP
/-! ### heaps that grow -/
theorem get_app {h l : HW} {i : Nat} : (h ++ l)[h.length + i]? = l[i]? := by
  rw [List.getElem?_append_right (Nat.le_add_right _ _)]
  simp
theorem get_app0 {h l : HW} : (h ++ l)[h.length]? = l[0]? := get_app (i := 0)
theorem get_lt {h l : HW} {r : Nat} {o : O} (q : h[r]? = some o) : (h ++ l)[r]? = some o := by
  rw [List.getElem?_append_left (List.getElem?_eq_some_iff.mp q).1]
  exact q
theorem len_app {h l : HW} : (h ++ l).length = h.length + l.length := List.length_append
theorem app_app {h l m : HW} : (h ++ l) ++ m = h ++ (l ++ m) := List.append_assoc ..
theorem set_app {h l : HW} {i : Nat} {o : O} : (h ++ l).set (h.length + i) o = h ++ l.set i o := by
  rw [List.set_append_right _ _ (Nat.le_add_right _ _)]
  simp
theorem set_app0 {h l : HW} {o : O} : (h ++ l).set h.length o = h ++ l.set 0 o := set_app (i := 0)
theorem new_app {h : HW} {o : O} : new o h = .ok (.ref h.length) (h ++ [o]) := rfl
/-! ### a call, one level down -/
theorem callN_run (k : Nat) : ∃ e : MP.Env, e.cd = cd ∧ callN tab cd (k + 1) = runF tab e ∧ (∀ j, k = j + 1 → e.call = callN tab cd (j + 1)) ∧ e.lv = k := by
  cases k with
  | zero => exact ⟨⟨callN tab cd 0, noCall, cd, none, 0⟩, rfl, rfl, fun j h => by omega, rfl⟩
  | succ k => exact ⟨⟨callN tab cd (k + 1), callN tab cd k, cd, none, k + 1⟩, rfl, rfl, fun j h => by (obtain rfl : k = j := by omega); rfl, rfl⟩
/-! ### raised -/
/-- the class and the fields of the k-th error -/
def cOf (n : Nat) : Nat := if n < 20 then n + 1 else if n = 20 then 22 else 21
def fOf (n : Nat) (w1 w2 : W) : List (Str × W) := if n = 0 then [("part", w1), ("index", w2)] else if n = 1 ∨ n = 2 then [("index", w1)] else if n = 3 then [("line", w1)] else if n = 4 then [("most", w1)] else []
theorem raised_ok {e : MP.Env} (ecd : e.cd = cd) (lv : 2 ≤ e.lv) {n : Nat} (hn : n < 22) {w1 w2 : W} {h : HW} : runF tab e 6 [.int n, w1, w2] h = .exc ⟨cOf n, fOf n w1 w2⟩ h := by
  obtain ⟨ec, em, ed, ex, el⟩ := e
  obtain rfl : ed = cd := ecd
  have lv : 2 ≤ el := lv
  rw [run_eq (d := ⟨P6.length, N6.length, b6⟩) rfl rfl]
  show fin (denSs _ b6 [some (.int n), some w1, some w2] h) = _
  have : n = 0 ∨ n = 1 ∨ n = 2 ∨ n = 3 ∨ n = 4 ∨ n = 5 ∨ n = 6 ∨ n = 7 ∨ n = 8 ∨ n = 9 ∨ n = 10 ∨ n = 11 ∨ n = 12 ∨ n = 13 ∨ n = 14 ∨ n = 15 ∨ n = 16 ∨ n = 17 ∨ n = 18 ∨ n = 19 ∨ n = 20 ∨ n = 21 := by omega
  obtain ⟨m, rfl⟩ : ∃ m, el = m + 2 := ⟨el - 2, by omega⟩
  rcases this with rfl | rfl | rfl | rfl | rfl | rfl | rfl | rfl | rfl | rfl | rfl | rfl | rfl | rfl | rfl | rfl | rfl | rfl | rfl | rfl | rfl | rfl
  all_goals rfl
end K00

set_option maxHeartbeats 4000000
namespace K00
open PySem MP
theorem n22 {n : Nat} (hn : n < 22) : n = 0 ∨ n = 1 ∨ n = 2 ∨ n = 3 ∨ n = 4 ∨ n = 5 ∨ n = 6 ∨ n = 7 ∨ n = 8 ∨ n = 9 ∨ n = 10 ∨ n = 11 ∨ n = 12 ∨ n = 13 ∨ n = 14 ∨ n = 15 ∨ n = 16 ∨ n = 17 ∨ n = 18 ∨ n = 19 ∨ n = 20 ∨ n = 21 := by omega
def vals (n : Nat) (w1 w2 : W) : List W := if n = 0 then [w1, w2] else if n ≤ 4 then [w1] else []
theorem fields_ok {e : MP.Env} (ecd : e.cd = cd) {n : Nat} (hn : n < 22) {w1 w2 : W} {h : HW} (hc : e.call 6 [.int n, w1, w2] h = .exc ⟨cOf n, fOf n w1 w2⟩ h) : runF tab e 8 [.int n, w1, w2] h = .ok (.ref h.length) (h ++ [.lst (vals n w1 w2)]) := by
  obtain ⟨ec, em, ed, ex, el⟩ := e
  obtain rfl : ed = cd := ecd
  have hc : ec 6 [.int n, w1, w2] h = .exc ⟨cOf n, fOf n w1 w2⟩ h := hc
  rw [run_eq (d := ⟨P8.length, N8.length, b8⟩) rfl rfl]
  show fin (denSs _ b8 [some (.int n), some w1, some w2, none, none] h) = _
  simp only [b8, denSs, denS, denE, denEs, bind_ok, st_ok, slotW, tgW, List.getElem?_cons_succ, List.getElem?_cons_zero, List.set, hc]
  rcases n22 hn with rfl | rfl | rfl | rfl | rfl | rfl | rfl | rfl | rfl | rfl | rfl | rfl | rfl | rfl | rfl | rfl | rfl | rfl | rfl | rfl | rfl | rfl
  all_goals rfl
theorem isExc_all {n : Nat} (hn : n < 22) : isExc cd (cOf n) = true := by
  rcases n22 hn with rfl | rfl | rfl | rfl | rfl | rfl | rfl | rfl | rfl | rfl | rfl | rfl | rfl | rfl | rfl | rfl | rfl | rfl | rfl | rfl | rfl | rfl
  all_goals rfl
theorem sub0_all {n : Nat} (hn : n < 22) : isSub cd (cOf n) 0 = true := by
  rcases n22 hn with rfl | rfl | rfl | rfl | rfl | rfl | rfl | rfl | rfl | rfl | rfl | rfl | rfl | rfl | rfl | rfl | rfl | rfl | rfl | rfl | rfl | rfl
  all_goals rfl
def q (n i : Nat) : W := .bl (isSub cd (cOf n) i)
def kb (n : Nat) : List W := [q n 1, q n 2, q n 3, q n 4, q n 5, q n 6, q n 7, q n 8, q n 9, q n 10, q n 11, q n 12, q n 13, q n 14, q n 15, q n 16, q n 17, q n 18, q n 19, q n 20, q n 22, q n 21, .bl true]
def kl (n : Nat) : HW := [.lst [], .lst ((kb n).take 4), .lst (((kb n).drop 4).take 4), .lst ((kb n).take 8), .lst (((kb n).drop 8).take 4), .lst ((kb n).take 12), .lst (((kb n).drop 12).take 4), .lst ((kb n).take 16),
  .lst (((kb n).drop 16).take 4), .lst ((kb n).take 20), .lst ((kb n).drop 20), .lst (kb n)]
theorem x_is {e : MP.Env} (ecd : e.cd = cd) {n : Nat} (hn : n < 22) {x : XV} (ex : e.xv = some x) (xc : x.c = cOf n) {i : Nat} (hi : (cd i).isSome = true) {σ : SW} {h : HW} : denE e (.xisi (.con (.cls i))) σ h = .ok (q n i) h := by
  simp only [denE, bind_ok, xisiW, ex, ecd, xc, hi, isExc_all hn, Bool.and_true, okIf_t, q]
theorem x_v {e : MP.Env} (ecd : e.cd = cd) {n : Nat} (hn : n < 22) {x : XV} (ex : e.xv = some x) (xc : x.c = cOf n) {σ : SW} {h : HW} : denE e (.xisi (.con (.ty "ValueError"))) σ h = .ok (.bl true) h := by
  simp only [denE, bind_ok, xisiW, ex, ecd, xc, isExc_all hn, Bool.and_true, beq_self_eq_true, okIf_t]
def suite7 : Ss := (.cons (.asg (.nm 3) (.lst (.cons (.xisi (.con (.cls 1))) (.cons (.xisi (.con (.cls 2))) (.cons (.xisi (.con (.cls 3))) (.cons (.xisi (.con (.cls 4))) .nil))))))
  (.cons (.asg (.nm 3) (.bin .Add (.var 3) (.lst (.cons (.xisi (.con (.cls 5))) (.cons (.xisi (.con (.cls 6))) (.cons (.xisi (.con (.cls 7))) (.cons (.xisi (.con (.cls 8))) .nil)))))))
  (.cons (.asg (.nm 3) (.bin .Add (.var 3) (.lst (.cons (.xisi (.con (.cls 9))) (.cons (.xisi (.con (.cls 10))) (.cons (.xisi (.con (.cls 11))) (.cons (.xisi (.con (.cls 12))) .nil)))))))
  (.cons (.asg (.nm 3) (.bin .Add (.var 3) (.lst (.cons (.xisi (.con (.cls 13))) (.cons (.xisi (.con (.cls 14))) (.cons (.xisi (.con (.cls 15))) (.cons (.xisi (.con (.cls 16))) .nil)))))))
  (.cons (.asg (.nm 3) (.bin .Add (.var 3) (.lst (.cons (.xisi (.con (.cls 17))) (.cons (.xisi (.con (.cls 18))) (.cons (.xisi (.con (.cls 19))) (.cons (.xisi (.con (.cls 20))) .nil)))))))
  (.cons (.asg (.nm 3) (.bin .Add (.var 3) (.lst (.cons (.xisi (.con (.cls 22))) (.cons (.xisi (.con (.cls 21))) (.cons (.xisi (.con (.ty "ValueError"))) .nil))))))
  .nil))))))
theorem ok4 {α : Type} {m : Out α} : okIf (decide (4 ≤ line)) m = m := rfl
theorem ok3 {α : Type} {m : Out α} : okIf (decide (3 ≤ line)) m = m := rfl
theorem ok0 {α : Type} {m : Out α} : okIf (decide (0 ≤ line)) m = m := rfl
theorem add_ll {m n : Nat} {h : HW} {a b : List W} (h1 : h[m]? = some (.lst a)) (h2 : h[n]? = some (.lst b)) (hl : a.length + b.length ≤ 100) : binW .Add (.ref m) (.ref n) h = .ok (.ref h.length) (h ++ [.lst (a ++ b)]) := by
  simp only [binW, addW, h1, h2, new_app]
  exact okIf_yes (decide_eq_true (by unfold line; omega))
/-- x = x + [..] -/
theorem step {e : MP.Env} {w0 w1 w2 : Option W} {h : HW} {l : HW} {i : Nat} {a : List W} {es : Es} {ws : List W} (ha : l[i]? = some (.lst a)) (he : ∀ σ h, denEs e es σ h = .ok ws h) (hl : a.length + ws.length ≤ 100) :
    denS e (.asg (.nm 3) (.bin .Add (.var 3) (.lst es))) [w0, w1, w2, some (.ref (h.length + i)), none] (h ++ l) = .ok (.nx [w0, w1, w2, some (.ref (h.length + (l.length + 1))), none]) (h ++ (l ++ [.lst ws, .lst (a ++ ws)])) := by
  have h1 : ((h ++ l) ++ [O.lst ws])[h.length + i]? = some (.lst a) := by rw [app_app, get_app, List.getElem?_append_left (List.getElem?_eq_some_iff.mp ha).1, ha]
  have h2 : ((h ++ l) ++ [O.lst ws])[(h ++ l).length]? = some (.lst ws) := get_app0
  simp only [dS_asg, dE_bin, dE_var, dE_lst, slotW, List.getElem?_cons_succ, List.getElem?_cons_zero, bind_ok, he, st_ok]
  rw [okIf_yes (decide_eq_true (by unfold line; omega)), new_app, bind_ok, add_ll h1 h2 hl, st_ok]
  simp only [tgW, List.set, len_app, List.length_cons, List.length_nil, app_app, List.cons_append, List.nil_append, Nat.add_assoc]
theorem suite_ok {e : MP.Env} (ecd : e.cd = cd) {n : Nat} (hn : n < 22) {x : XV} (ex : e.xv = some x) (xc : x.c = cOf n) {w0 w1 w2 : Option W} {h : HW} : denSs e suite7 [w0, w1, w2, some (.ref h.length), none] (h ++ [.lst []]) = .ok (.nx [w0, w1, w2, some (.ref (h.length + 11)), none]) (h ++ kl n) := by
  have xi : ∀ {i : Nat}, (cd i).isSome = true → ∀ {σ : SW} {h : HW}, denE e (.xisi (.con (.cls i))) σ h = .ok (q n i) h := fun {i} hi {σ h} => x_is ecd hn ex xc hi
  have xv : ∀ {σ : SW} {h : HW}, denE e (.xisi (.con (.ty "ValueError"))) σ h = .ok (.bl true) h := fun {σ h} => x_v ecd hn ex xc
  have f4 : ∀ (i j k l : Nat), (cd i).isSome = true → (cd j).isSome = true → (cd k).isSome = true → (cd l).isSome = true → ∀ σ h, denEs e (.cons (.xisi (.con (.cls i))) (.cons (.xisi (.con (.cls j))) (.cons (.xisi (.con (.cls k))) (.cons (.xisi (.con (.cls l))) .nil)))) σ h = .ok [q n i, q n j, q n k, q n l] h := fun i j k l hi hj hk hl σ h => by
    simp only [dEs_cons, dEs_nil, xi hi, xi hj, xi hk, xi hl, bind_ok]
  have f3 : ∀ σ h, denEs e (.cons (.xisi (.con (.cls 22))) (.cons (.xisi (.con (.cls 21))) (.cons (.xisi (.con (.ty "ValueError"))) .nil))) σ h = .ok [q n 22, q n 21, .bl true] h := fun σ h => by
    simp only [dEs_cons, dEs_nil, xi (i := 22) rfl, xi (i := 21) rfl, xv, bind_ok]
  unfold suite7
  refine (go_nx (σ1 := [w0, w1, w2, some (.ref (h.length + 1)), none]) (h1 := h ++ [.lst [], .lst [q n 1, q n 2, q n 3, q n 4]]) (by
    simp only [dS_asg, dE_lst, f4 1 2 3 4 rfl rfl rfl rfl, bind_ok, List.length_cons, List.length_nil, Nat.zero_add, Nat.reduceAdd, ok4, new_app, st_ok, tgW, List.set, len_app, app_app, List.cons_append, List.nil_append])).trans ?_
  refine (go_nx (step (i := 1) (a := [q n 1, q n 2, q n 3, q n 4]) rfl (f4 5 6 7 8 rfl rfl rfl rfl) (by simp))).trans ?_
  refine (go_nx (step (i := 3) (a := [q n 1, q n 2, q n 3, q n 4, q n 5, q n 6, q n 7, q n 8]) rfl (f4 9 10 11 12 rfl rfl rfl rfl) (by simp))).trans ?_
  refine (go_nx (step (i := 5) (a := [q n 1, q n 2, q n 3, q n 4, q n 5, q n 6, q n 7, q n 8, q n 9, q n 10, q n 11, q n 12]) rfl (f4 13 14 15 16 rfl rfl rfl rfl) (by simp))).trans ?_
  refine (go_nx (step (i := 7) (a := [q n 1, q n 2, q n 3, q n 4, q n 5, q n 6, q n 7, q n 8, q n 9, q n 10, q n 11, q n 12, q n 13, q n 14, q n 15, q n 16]) rfl (f4 17 18 19 20 rfl rfl rfl rfl) (by simp))).trans ?_
  refine (go_nx (step (i := 9) (a := [q n 1, q n 2, q n 3, q n 4, q n 5, q n 6, q n 7, q n 8, q n 9, q n 10, q n 11, q n 12, q n 13, q n 14, q n 15, q n 16, q n 17, q n 18, q n 19, q n 20]) rfl f3 (by simp))).trans ?_
  exact dSs_nil
theorem kinds_ok {e : MP.Env} (ecd : e.cd = cd) {n : Nat} (hn : n < 22) {w1 w2 : W} {h : HW} (hc : ∀ h, e.call 6 [.int n, w1, w2] h = .exc ⟨cOf n, fOf n w1 w2⟩ h) : runF tab e 7 [.int n, w1, w2] h = .ok (.ref (h.length + 11)) (h ++ kl n) := by
  rw [run_eq (d := ⟨P7.length, N7.length, b7⟩) rfl rfl]
  show fin (denSs _ b7 [some (.int n), some w1, some w2, none, none] h) = _
  show fin (denSs _ (.cons (.asg (.nm 3) (.lst .nil)) (.cons (.tr (.cons (.ex (.call 6 (.cons (.var 0) (.cons (.var 1) (.cons (.var 2) .nil))))) .nil) (.cons 0 (some 4) suite7 .nil) .nil) (.cons (.ret (.var 3)) .nil))) _ h) = _
  rw [go_nx (σ1 := [some (.int n), some w1, some w2, some (.ref h.length), none]) (h1 := h ++ [.lst []]) (by
    simp only [dS_asg, dE_lst, dEs_nil, bind_ok, List.length_nil, ok0, new_app, st_ok, tgW, List.set])]
  have t1 : denSs e (.cons (.ex (.call 6 (.cons (.var 0) (.cons (.var 1) (.cons (.var 2) .nil))))) .nil) [some (.int n), some w1, some w2, some (.ref h.length), none] (h ++ [.lst []]) = .ok (.xc [some (.int n), some w1, some w2, some (.ref h.length), none] ⟨cOf n, fOf n w1 w2⟩) (h ++ [.lst []]) := by
    refine go_xc ?_
    simp only [dS_ex, dE_call, dEs_cons, dEs_nil, dE_var, slotW, List.getElem?_cons_succ, List.getElem?_cons_zero, bind_ok, hc, st_exc]
  have t2 : denS e (.tr (.cons (.ex (.call 6 (.cons (.var 0) (.cons (.var 1) (.cons (.var 2) .nil))))) .nil) (.cons 0 (some 4) suite7 .nil) .nil) [some (.int n), some w1, some w2, some (.ref h.length), none] (h ++ [.lst []]) = .ok (.nx [some (.int n), some w1, some w2, some (.ref (h.length + 11)), none]) (h ++ kl n) := by
    rw [go_tr_xc t1, go_h_yes (by rw [ecd, isExc_all hn]; rfl) (by rw [ecd]; exact sub0_all hn)]
    show suiteEnd (some 4) (denSs _ suite7 [some (.int n), some w1, some w2, some (.ref h.length), none] (h ++ [.lst []])) = _
    rw [suite_ok (e := { e with xv := some ⟨cOf n, fOf n w1 w2⟩ }) ecd hn rfl rfl]
    rfl
  rw [go_nx t2]
  simp only [denSs, dS_ret, dE_var, slotW, List.getElem?_cons_succ, List.getElem?_cons_zero, st_ok, fin]
end K00

set_option maxHeartbeats 4000000
namespace K00
open PySem MP
/-! ### same -/
section
variable {h : HW}
theorem ii_b {i : Int} : isiW cd (.int i) (.ty "bool") h = .ok (.bl false) h := rfl
theorem ii_s {i : Int} : isiW cd (.int i) (.ty "str") h = .ok (.bl false) h := rfl
theorem ii_i {i : Int} : isiW cd (.int i) (.ty "int") h = .ok (.bl true) h := rfl
theorem ib_b {i : Bool} : isiW cd (.bl i) (.ty "bool") h = .ok (.bl true) h := rfl
theorem is_b {i : Str} : isiW cd (.str i) (.ty "bool") h = .ok (.bl false) h := rfl
theorem is_s {i : Str} : isiW cd (.str i) (.ty "str") h = .ok (.bl true) h := rfl
theorem it_b {ws : List W} : isiW cd (.tup ws) (.ty "bool") h = .ok (.bl false) h := rfl
theorem it_s {ws : List W} : isiW cd (.tup ws) (.ty "str") h = .ok (.bl false) h := rfl
theorem it_i {ws : List W} : isiW cd (.tup ws) (.ty "int") h = .ok (.bl false) h := rfl
theorem it_t {ws : List W} : isiW cd (.tup ws) (.ty "tuple") h = .ok (.bl true) h := rfl
theorem it_l {ws : List W} : isiW cd (.tup ws) (.ty "list") h = .ok (.bl false) h := rfl
theorem il_any {r : Nat} {ws : List W} (q : h[r]? = some (.lst ws)) {n : String} (hb : bnames.contains n = true) : isiW cd (.ref r) (.ty n) h = .ok (.bl ("list" == n || ("list" == "bool" && n == "int"))) h := by
  simp only [isiW, tyW, q, isiTy, hb, if_true]
theorem non_non : isNon .non = true := rfl
end
theorem same_flat {e : MP.Env} (ecd : e.cd = cd) {w : W} (hf : isFlat w = true) {h : HW} : runF tab e 4 [w, w] h = .ok (.bl true) h := by
  rw [run_eq (d := ⟨P4.length, N4.length, b4⟩) rfl rfl]
  show fin (denSs _ b4 [some w, some w, none] h) = _
  cases w with
  | non => simp only [b4, denSs, denS, denE, denT, bind_ok, st_ok, slotW, List.getElem?_cons_succ, List.getElem?_cons_zero, cmpW, isNon, tru_bl, if_true, fin]
  | bl b => cases b <;> simp only [b4, denSs, denS, denE, denT, bind_ok, st_ok, slotW, List.getElem?_cons_succ, List.getElem?_cons_zero, cmpW, isNon, tru_bl, if_true, Bool.false_eq_true, if_false, ecd, ib_b, eqB, obl, decide_true, fin]
  | int i => simp only [b4, denSs, denS, denE, denT, bind_ok, st_ok, slotW, List.getElem?_cons_succ, List.getElem?_cons_zero, cmpW, isNon, tru_bl, if_true, Bool.false_eq_true, if_false, ecd, ii_b, ii_s, ii_i, eqB, obl, decide_true, Bool.not_false, fin]
  | str x => simp only [b4, denSs, denS, denE, denT, bind_ok, st_ok, slotW, List.getElem?_cons_succ, List.getElem?_cons_zero, cmpW, isNon, tru_bl, if_true, Bool.false_eq_true, if_false, ecd, is_b, is_s, eqB, obl, decide_true, fin]
  | _ => cases hf
/-- the loop of same: each item is like its fellow -/
theorem same_loop {e : MP.Env} {w u : W} {ws : List W} {h : HW} (h1 : ∀ i : Nat, ∀ x, ws[i]? = some x → subW w (.int (0 + i)) h = .ok x h ∧ subW u (.int (0 + i)) h = .ok x h ∧ e.call 4 [x, x] h = .ok (.bl true) h) : ∀ (m i : Nat) (o : Option W), i ≤ ws.length → ws.length - i < m →
    ∃ o', forLoop (denSs e (.cons (.iff (.not (.call 4 (.cons (.sub (.var 0) (.var 2)) (.cons (.sub (.var 1) (.var 2)) .nil)))) (.cons (.ret (.con (.bl false))) .nil) .nil) .nil)) (.nm 2) (.rng 0 ws.length) m i [some w, some u, o] h = .ok (.nx [some w, some u, o']) h
  | 0, i, o, hi, hm => by omega
  | m + 1, i, o, hi, hm => by
    by_cases hlt : i < ws.length
    · obtain ⟨x, hx⟩ : ∃ x, ws[i]? = some x := ⟨_, List.getElem?_eq_getElem hlt⟩
      obtain ⟨k1, k2, k3⟩ := h1 i x hx
      obtain ⟨o', ih⟩ := same_loop h1 m (i + 1) (some (.int (0 + i))) (by omega) (by omega)
      refine ⟨o', ?_⟩
      rw [forLoop]
      simp only [Src.at, if_pos hlt, tgW, List.set]
      rw [go_nx (σ1 := [some w, some u, some (.int (0 + i))]) (h1 := h) (by
        simp only [denS, denT, denE, dEs_cons, dEs_nil, dE_sub, dE_var, slotW, List.getElem?_cons_succ, List.getElem?_cons_zero, bind_ok, k1, k2, k3, tru_bl, Bool.not_true, st_ok, Bool.false_eq_true, if_false, dSs_nil]), dSs_nil]
      exact ih
    · refine ⟨o, ?_⟩
      rw [forLoop]
      simp only [Src.at, if_neg hlt]
theorem same_tup {e : MP.Env} (ecd : e.cd = cd) {ws : List W} {h : HW} (hl : ws.length ≤ 100) (hc : ∀ x ∈ ws, e.call 4 [x, x] h = .ok (.bl true) h) : runF tab e 4 [.tup ws, .tup ws] h = .ok (.bl true) h := by
  rw [run_eq (d := ⟨P4.length, N4.length, b4⟩) rfl rfl]
  show fin (denSs _ b4 [some (.tup ws), some (.tup ws), none] h) = _
  obtain ⟨o', lp⟩ := same_loop (e := e) (w := .tup ws) (u := .tup ws) (ws := ws) (h := h) (fun i x hx => by
    have q : L2.atI ws (0 + (i : Int)) = some x := atI_of (by omega) (by simpa using hx)
    exact ⟨by simp only [subW, q], by simp only [subW, q], hc x (List.mem_of_getElem? hx)⟩) (ws.length + 1) 0 none (by omega) (by omega)
  have v0 : ∀ h, denE e (.var 0) [some (.tup ws), some (.tup ws), none] h = .ok (.tup ws) h := fun h => by simp only [dE_var, slotW, List.getElem?_cons_zero]
  have v1 : ∀ h, denE e (.var 1) [some (.tup ws), some (.tup ws), none] h = .ok (.tup ws) h := fun h => by simp only [dE_var, slotW, List.getElem?_cons_zero, List.getElem?_cons_succ]
  have ln : ∀ i, denE e (.var i) [some (.tup ws), some (.tup ws), none] h = .ok (.tup ws) h → denE e (.blt .len (.cons (.var i) .nil)) [some (.tup ws), some (.tup ws), none] h = .ok (.int ws.length) h := fun i q => by simp only [dE_blt, dEs_cons, dEs_nil, q, bind_ok, bltW, lenW]
  unfold b4
  rw [go_nx (go_ifF (by simp only [denT, v1, dE_con, bind_ok, cmpW, isNon, tru_bl])), go_nx (go_ifF (by simp only [denT, v1, dE_con, bind_ok, ecd, it_b, tru_bl])), go_nx (go_ifF (by simp only [denT, v1, dE_con, bind_ok, ecd, it_s, tru_bl])),
    go_nx (go_ifF (by simp only [denT, v1, dE_con, bind_ok, ecd, it_i, tru_bl])), go_nx (go_ifF (by simp only [denT, v0, v1, dE_con, bind_ok, ecd, it_t, it_l, tru_bl, if_true, Bool.not_true, Bool.false_eq_true, if_false])),
    go_nx (go_ifF (by simp only [denT, ln 0 (v0 h), ln 1 (v1 h), bind_ok, cmpW, eqB, obl, decide_true, if_true, Bool.not_true, tru_bl])),
    go_nx (go_for (dI_rng dE_con (ln 1 (v1 h)) (by omega) (by omega) (by omega) (by omega)) (σ1 := [some (.tup ws), some (.tup ws), o']) (h2 := h) (by
      have z : ((ws.length : Int) - 0).toNat = ws.length := by simp
      rw [z]
      exact lp))]
  simp only [denSs, dS_ret, dE_con, st_ok, fin]
theorem same_lst {e : MP.Env} (ecd : e.cd = cd) {ws : List W} {h : HW} {r t : Nat} (hr : h[r]? = some (.lst ws)) (ht : h[t]? = some (.lst ws)) (hl : ws.length ≤ 100) (hc : ∀ x ∈ ws, e.call 4 [x, x] h = .ok (.bl true) h) : runF tab e 4 [.ref r, .ref t] h = .ok (.bl true) h := by
  rw [run_eq (d := ⟨P4.length, N4.length, b4⟩) rfl rfl]
  show fin (denSs _ b4 [some (.ref r), some (.ref t), none] h) = _
  obtain ⟨o', lp⟩ := same_loop (e := e) (w := .ref r) (u := .ref t) (ws := ws) (h := h) (fun i x hx => by
    have q : L2.atI ws (0 + (i : Int)) = some x := atI_of (by omega) (by simpa using hx)
    exact ⟨sub_lst hr q, sub_lst ht q, hc x (List.mem_of_getElem? hx)⟩) (ws.length + 1) 0 none (by omega) (by omega)
  have lb : isiW cd (.ref t) (.ty "bool") h = .ok (.bl false) h := il_any ht rfl
  have ls : isiW cd (.ref t) (.ty "str") h = .ok (.bl false) h := il_any ht rfl
  have li : isiW cd (.ref t) (.ty "int") h = .ok (.bl false) h := il_any ht rfl
  have lt : isiW cd (.ref t) (.ty "tuple") h = .ok (.bl false) h := il_any ht rfl
  have ll : isiW cd (.ref t) (.ty "list") h = .ok (.bl true) h := il_any ht rfl
  have ll2 : isiW cd (.ref r) (.ty "list") h = .ok (.bl true) h := il_any hr rfl
  have v0 : ∀ h, denE e (.var 0) [some (.ref r), some (.ref t), none] h = .ok (.ref r) h := fun h => by simp only [dE_var, slotW, List.getElem?_cons_zero]
  have v1 : ∀ h, denE e (.var 1) [some (.ref r), some (.ref t), none] h = .ok (.ref t) h := fun h => by simp only [dE_var, slotW, List.getElem?_cons_zero, List.getElem?_cons_succ]
  have ln : ∀ i u, h[u]? = some (.lst ws) → denE e (.var i) [some (.ref r), some (.ref t), none] h = .ok (.ref u) h → denE e (.blt .len (.cons (.var i) .nil)) [some (.ref r), some (.ref t), none] h = .ok (.int ws.length) h := fun i u hu q => by simp only [dE_blt, dEs_cons, dEs_nil, q, bind_ok, bltW, lenW, hu]
  unfold b4
  rw [go_nx (go_ifF (by simp only [denT, v1, dE_con, bind_ok, cmpW, isNon, tru_bl])), go_nx (go_ifF (by simp only [denT, v1, dE_con, bind_ok, ecd, lb, tru_bl])), go_nx (go_ifF (by simp only [denT, v1, dE_con, bind_ok, ecd, ls, tru_bl])),
    go_nx (go_ifF (by simp only [denT, v1, dE_con, bind_ok, ecd, li, tru_bl])), go_nx (go_ifF (by simp only [denT, v0, v1, dE_con, bind_ok, ecd, lt, ll, ll2, tru_bl, if_true, Bool.not_true, Bool.false_eq_true, if_false])),
    go_nx (go_ifF (by simp only [denT, ln 0 r hr (v0 h), ln 1 t ht (v1 h), bind_ok, cmpW, eqB, obl, decide_true, if_true, Bool.not_true, tru_bl])),
    go_nx (go_for (dI_rng dE_con (ln 1 t ht (v1 h)) (by omega) (by omega) (by omega) (by omega)) (σ1 := [some (.ref r), some (.ref t), o']) (h2 := h) (by
      have z : ((ws.length : Int) - 0).toNat = ws.length := by simp
      rw [z]
      exact lp))]
  simp only [denSs, dS_ret, dE_con, st_ok, fin]
end K00

set_option maxHeartbeats 4000000
namespace K00
open PySem MP
/-- the pool stands at p -/
def Po (p : Nat) (h : HW) : Prop := ∃ a b c d, 0 ≤ b ∧ h[p]? = some (pool a b c d)
theorem Po.set {p : Nat} {h : HW} {a b c d : Int} (q : Po p h) (hb : 0 ≤ b) : Po p (h.set p (pool a b c d)) := by
  obtain ⟨_, _, _, _, _, q⟩ := q
  exact ⟨a, b, c, d, hb, get_set q⟩
theorem Po.app {p : Nat} {h l : HW} (q : Po p h) : Po p (h ++ l) := by
  obtain ⟨a, b, c, d, hb, q⟩ := q
  exact ⟨a, b, c, d, hb, get_lt q⟩
/-- a drawing def -/
def Draws (call : Nat → List W → HW → Out W) (sc : List W) (p : Nat) : Prop := ∀ (L : Int) (h : HW), 0 < L → L < 1073741824 → Po p h → ∃ v a b c d, 0 ≤ v ∧ v < L ∧ 0 ≤ b ∧ call 1 [.fls sc, .ref p, .int L] h = .ok (.int v) (h.set p (pool a b c d))
theorem draws {sc : List W} {p : Nat} (hs : ∀ w ∈ sc, ∃ i, w = .int i) (k : Nat) : Draws (callN tab cd (k + 1)) sc p := fun L h h1 h2 q => by
  obtain ⟨e, _, e2, _⟩ := callN_run k
  obtain ⟨a, b, c, d, hb, q⟩ := q
  rw [e2]
  exact draw_ok hs q hb h1 h2
theorem set_ne {h : HW} {p r : Nat} {o : O} (hne : r ≠ p) : (h.set p o)[r]? = h[r]? := List.getElem?_set_ne (Ne.symm hne)
theorem one_ok {e : MP.Env} {sc ws : List W} {p r : Nat} {h : HW} (hd : Draws e.call sc p) (q : Po p h) (hr : h[r]? = some (.lst ws)) (hne : r ≠ p) (h0 : 0 < ws.length) (h1 : ws.length < 1000) :
    ∃ w a b c d, w ∈ ws ∧ 0 ≤ b ∧ runF tab e 2 [.fls sc, .ref p, .ref r] h = .ok w (h.set p (pool a b c d)) := by
  obtain ⟨v, a, b, c, d, v0, v1, hb, hc⟩ := hd ws.length h (by omega) (by omega) q
  obtain ⟨w, hw⟩ : ∃ w, ws[v.toNat]? = some w := ⟨_, List.getElem?_eq_getElem (by omega)⟩
  refine ⟨w, a, b, c, d, List.mem_of_getElem? hw, hb, ?_⟩
  rw [run_eq (d := ⟨P2.length, N2.length, b2⟩) rfl rfl]
  show fin (denSs _ b2 [some (.fls sc), some (.ref p), some (.ref r)] h) = _
  have s : subW (.ref r) (.int v) (h.set p (pool a b c d)) = .ok w (h.set p (pool a b c d)) := sub_lst (by rw [set_ne hne]; exact hr) (atI_of v0 hw)
  simp only [b2, denSs, dS_ret, dE_sub, dE_call, dEs_cons, dEs_nil, dE_blt, dE_var, slotW, List.getElem?_cons_succ, List.getElem?_cons_zero, bind_ok, bltW, lenW, hr, hc, s, st_ok, fin]
/-- what is drawn -/
inductive Val (h : HW) : W → Prop
  | flat {w : W} (f : isFlat w = true) : Val h w
  | tup {ws : List W} (l : ws.length ≤ 2) (f : ∀ w ∈ ws, isFlat w = true) : Val h (.tup ws)
  | lst {r : Nat} {ws : List W} (q : h[r]? = some (.lst ws)) (l : ws.length ≤ 1) (f : ∀ w ∈ ws, isFlat w = true) : Val h (.ref r)
theorem Val.app {h l : HW} {w : W} (v : Val h w) : Val (h ++ l) w := by
  cases v with
  | flat f => exact .flat f
  | tup l f => exact .tup l f
  | lst q l f => exact .lst (get_lt q) l f
theorem Val.set {h : HW} {w : W} {p : Nat} {a b c d : Int} (q0 : Po p h) (v : Val h w) : Val (h.set p (pool a b c d)) w := by
  cases v with
  | flat f => exact .flat f
  | tup l f => exact .tup l f
  | lst q l f =>
    refine .lst (by rw [set_ne]; exact q; intro z; subst z; obtain ⟨_, _, _, _, _, q0⟩ := q0; rw [q0] at q; cases q; simp at l) l f
/-- the heap grows, but the pool -/
structure Gr (p : Nat) (h h' : HW) : Prop where
  po : Po p h'
  val : ∀ w, Val h w → Val h' w
def Ones (call : Nat → List W → HW → Out W) (sc : List W) (p : Nat) : Prop := ∀ (r : Nat) (ws : List W) (h : HW), Po p h → h[r]? = some (.lst ws) → r ≠ p → 0 < ws.length → ws.length < 1000 → ∃ w a b c d, w ∈ ws ∧ 0 ≤ b ∧ call 2 [.fls sc, .ref p, .ref r] h = .ok w (h.set p (pool a b c d))
theorem ones {sc : List W} {p : Nat} (hs : ∀ w ∈ sc, ∃ i, w = .int i) (k : Nat) : Ones (callN tab cd (k + 2)) sc p := fun r ws h q hr hne h0 h1 => by
  obtain ⟨e, _, e2, e3, _⟩ := callN_run (k + 1)
  rw [e2]
  exact one_ok (by rw [e3 k rfl]; exact draws hs k) q hr hne h0 h1
def things (n : Int) (k : Nat) : List W := [.non, .bl true, .bl false, .int 0, .int 1, .int n, .int (n * 10 ^ 54 + 1), .str "", .str "wishes", .str "a b", .ref k, .ref (k + 1), .tup [], .tup [.non, .str "x"]]
theorem pow54 {h : HW} : binW .Pow (.int 10) (.int 54) h = .ok (.int (10 ^ 54)) h := rfl
theorem ok1 {α : Type} {m : Out α} : okIf (decide (1 ≤ line)) m = m := rfl
theorem ok2 {α : Type} {m : Out α} : okIf (decide (2 ≤ line)) m = m := rfl
theorem ok14 {α : Type} {m : Out α} : okIf (decide (14 ≤ line)) m = m := rfl
theorem value_ok {e : MP.Env} {sc : List W} {p : Nat} {h : HW} (hd : Draws e.call sc p) (ho : Ones e.call sc p) (q : Po p h) : ∃ w h', runF tab e 5 [.fls sc, .ref p] h = .ok w h' ∧ Gr p h h' ∧ Val h' w := by
  obtain ⟨v, a, b, c, d, v0, v1, hb, hc⟩ := hd 1000003 h (by decide) (by decide) q
  have q1 : Po p (h.set p (pool a b c d)) := q.set hb
  have g1 : ∀ w, Val h w → Val (h.set p (pool a b c d)) w := fun w x => x.set q
  generalize h.set p (pool a b c d) = h1 at hc q1 g1
  have lt1 : p < h1.length := by obtain ⟨_, _, _, _, _, z⟩ := q1; exact (List.getElem?_eq_some_iff.mp z).1
  obtain ⟨w, a2, b2', c2, d2, hw, hb2, hc2⟩ := ho (h1.length + 2) (things (v - 500001) h1.length) (h1 ++ [.lst [], .lst [.int (v - 500001)], .lst (things (v - 500001) h1.length)]) q1.app (by rw [get_app]; rfl) (by omega) (by simp [things]) (by simp [things])
  refine ⟨w, List.set (h1 ++ [.lst [], .lst [.int (v - 500001)], .lst (things (v - 500001) h1.length)]) p (pool a2 b2' c2 d2), ?_, ⟨q1.app.set hb2, fun w x => ((g1 w x).app).set q1.app⟩, ?_⟩
  rotate_left
  · refine Val.set q1.app ?_
    have l0 : (h1 ++ [O.lst [], .lst [.int (v - 500001)], .lst (things (v - 500001) h1.length)])[h1.length]? = some (.lst []) := get_app0
    have l1 : (h1 ++ [O.lst [], .lst [.int (v - 500001)], .lst (things (v - 500001) h1.length)])[h1.length + 1]? = some (.lst [.int (v - 500001)]) := get_app
    simp only [things, List.mem_cons, List.not_mem_nil, or_false] at hw
    rcases hw with rfl | rfl | rfl | rfl | rfl | rfl | rfl | rfl | rfl | rfl | rfl | rfl | rfl | rfl
    all_goals first | exact .flat rfl | skip
    · exact .lst l0 (by simp) (by simp)
    · exact .lst l1 (by simp) (by simp [isFlat])
    · exact .tup (by simp) (by simp)
    · exact .tup (by simp) (by simp [isFlat])
  · rw [run_eq (d := ⟨P5.length, N5.length, b5⟩) rfl rfl]
    show fin (denSs _ b5 [some (.fls sc), some (.ref p), none, none] h) = _
    unfold b5
    rw [go_nx (σ1 := [some (.fls sc), some (.ref p), some (.int (v - 500001)), none]) (h1 := h1) (by
      simp only [dS_asg, dE_bin, dE_call, dEs_cons, dEs_nil, dE_var, dE_con, slotW, List.getElem?_cons_succ, List.getElem?_cons_zero, bind_ok, hc, sub_int, st_ok, tgW, List.set])]
    rw [go_nx (σ1 := [some (.fls sc), some (.ref p), some (.int (v - 500001)), some (.ref (h1.length + 2))]) (h1 := h1 ++ [.lst [], .lst [.int (v - 500001)], .lst (things (v - 500001) h1.length)]) (by
      simp only [dS_asg, dE_lst, dE_tup, dE_bin, dEs_cons, dEs_nil, dE_var, dE_con, slotW, List.getElem?_cons_succ, List.getElem?_cons_zero, bind_ok, pow54, mul_okL (show -(2 ^ 64) < v - 500001 by omega) (show v - 500001 < 2 ^ 64 by omega), add_int, List.length_cons, List.length_nil, Nat.zero_add, Nat.reduceAdd, ok0, ok1, ok2, ok14, new_app, len_app, app_app, List.cons_append, List.nil_append, st_ok, tgW, List.set, things])]
    simp only [denSs, dS_ret, dE_call, dEs_cons, dEs_nil, dE_var, slotW, List.getElem?_cons_succ, List.getElem?_cons_zero, bind_ok, hc2, st_ok, fin]
end K00

set_option maxHeartbeats 4000000
namespace K00
open PySem MP
def el (n i : Nat) : W := .bl (decide ((0 + (i : Int)) = (n : Int)))
theorem lc_loop {e : MP.Env} {s0 s1 s2 s4 s5 s6 : Option W} {n : Nat} {h : HW} : ∀ (m i : Nat) (acc : List W), i ≤ 22 → 22 - i < m → acc.length = i →
    lcLoop (denE e (.cmp .Eq (.var 8) (.var 3))) (denT e (.con (.bl true))) (.nm 8) (.rng 0 22) [s0, s1, s2, some (.int n), s4, s5, s6, none, none] h.length m i (h ++ [.lst acc]) = .ok (.ref h.length) (h ++ [.lst (acc ++ (List.range' i (22 - i)).map (el n))])
  | 0, i, acc, hi, hm, ha => by omega
  | m + 1, i, acc, hi, hm, ha => by
    rw [lcLoop]
    by_cases hlt : i < 22
    · have ih := lc_loop (e := e) (s0 := s0) (s1 := s1) (s2 := s2) (s4 := s4) (s5 := s5) (s6 := s6) (n := n) (h := h) m (i + 1) (acc ++ [el n i]) (by omega) (by omega) (by simp [ha])
      have hr : 22 - i = (22 - (i + 1)) + 1 := by omega
      have hal : acc.length < line := by rw [ha]; unfold line; omega
      have hc : denE e (.cmp .Eq (.var 8) (.var 3)) [s0, s1, s2, some (.int n), s4, s5, s6, none, some (.int (0 + (i : Int)))] (h ++ [.lst acc]) = .ok (el n i) (h ++ [.lst acc]) := by
        simp only [dE_cmp, dE_var, slotW, List.getElem?_cons_succ, List.getElem?_cons_zero, bind_ok, eq_int, el]
      have ht : denT e (.con (.bl true)) [s0, s1, s2, some (.int n), s4, s5, s6, none, some (.int (0 + (i : Int)))] (h ++ [.lst acc]) = .ok true (h ++ [.lst acc]) := by simp only [denT, tru_bl]
      simp only [Src.at, if_pos hlt, tgW, List.set, ht, if_true, hc, get_app0, List.getElem?_cons_zero, if_pos hal, set_app0]
      rw [ih, hr, List.range'_succ, List.map_cons, List.append_assoc]
      rfl
    · have hi2 : i = 22 := by omega
      subst hi2
      simp only [Src.at, Nat.lt_irrefl, if_false, Nat.sub_self, List.range'_zero, List.map_nil, List.append_nil]
def lcb (n : Nat) : List W := (List.range' 0 22).map (el n)
theorem lc_ok {e : MP.Env} {s0 s1 s2 s4 s5 s6 s7 s8 : Option W} {n : Nat} {h : HW} : denE e (.lc [7, 8] (.nm 8) (.rng (.con (.int 0)) (.con (.int 22))) (.con (.bl true)) (.cmp .Eq (.var 8) (.var 3))) [s0, s1, s2, some (.int n), s4, s5, s6, s7, s8] h = .ok (.ref h.length) (h ++ [.lst (lcb n)]) := by
  rw [denE, dI_rng dE_con dE_con (by decide) (by decide) (by decide) (by decide), bind_ok]
  exact lc_loop 23 0 [] (by decide) (by decide) rfl
theorem eq_all {n : Nat} (hn : n < 22) {h : HW} {a b : Nat} (ha : h[a]? = some (.lst (kb n))) (hb : h[b]? = some (.lst (lcb n ++ [.bl true]))) : eqB (.ref a) (.ref b) h = some true := by
  simp only [eqB, toD, ha, hb]
  rcases n22 hn with rfl | rfl | rfl | rfl | rfl | rfl | rfl | rfl | rfl | rfl | rfl | rfl | rfl | rfl | rfl | rfl | rfl | rfl | rfl | rfl | rfl | rfl
  all_goals rfl
theorem lcb_len {n : Nat} : (lcb n).length = 22 := rfl
def eL : MP.Env := ⟨callN tab cd 8, callN tab cd 7, cd, none, 8⟩
theorem raised_c {n : Nat} (hn : n < 22) {w1 w2 : W} (h : HW) : callN tab cd 7 6 [.int n, w1, w2] h = .exc ⟨cOf n, fOf n w1 w2⟩ h := by
  obtain ⟨e, e1, e2, _, e4⟩ := callN_run 6
  rw [e2]
  exact raised_ok e1 (by rw [e4]; decide) hn
theorem kinds_c {n : Nat} (hn : n < 22) {w1 w2 : W} {h : HW} : eL.call 7 [.int n, w1, w2] h = .ok (.ref (h.length + 11)) (h ++ kl n) := kinds_ok (e := ⟨callN tab cd 7, callN tab cd 6, cd, none, 7⟩) rfl hn (fun h => raised_c hn h)
theorem fields_c {n : Nat} (hn : n < 22) {w1 w2 : W} {h : HW} : eL.call 8 [.int n, w1, w2] h = .ok (.ref h.length) (h ++ [.lst (vals n w1 w2)]) := fields_ok (e := ⟨callN tab cd 7, callN tab cd 6, cd, none, 7⟩) rfl hn (raised_c hn h)
theorem flat_c {w : W} (f : isFlat w = true) (k : Nat) (h : HW) : callN tab cd (k + 1) 4 [w, w] h = .ok (.bl true) h := by
  obtain ⟨e, e1, e2, _⟩ := callN_run k
  rw [e2]
  exact same_flat e1 f
theorem val_c {w : W} {h : HW} (v : Val h w) : callN tab cd 7 4 [w, w] h = .ok (.bl true) h := by
  cases v with
  | flat f => exact flat_c f 6 h
  | tup l f => exact same_tup (e := ⟨callN tab cd 6, callN tab cd 5, cd, none, 6⟩) rfl (by omega) fun x hx => flat_c (f x hx) 5 h
  | lst q l f => exact same_lst (e := ⟨callN tab cd 6, callN tab cd 5, cd, none, 6⟩) rfl q q (by omega) fun x hx => flat_c (f x hx) 5 h
theorem same_c {ws : List W} {h : HW} {r t : Nat} (hr : h[r]? = some (.lst ws)) (ht : h[t]? = some (.lst ws)) (hl : ws.length ≤ 100) (hv : ∀ x ∈ ws, Val h x) : eL.call 4 [.ref r, .ref t] h = .ok (.bl true) h :=
  same_lst (e := ⟨callN tab cd 7, callN tab cd 6, cd, none, 7⟩) rfl hr ht hl fun x hx => val_c (hv x hx)
theorem value_c {sc : List W} (hs : ∀ w ∈ sc, ∃ i, w = .int i) {p : Nat} {h : HW} (q : Po p h) : ∃ w h', eL.call 5 [.fls sc, .ref p] h = .ok w h' ∧ Gr p h h' ∧ Val h' w := value_ok (e := ⟨callN tab cd 7, callN tab cd 6, cd, none, 7⟩) (draws hs 6) (ones hs 5) q
end K00

set_option maxHeartbeats 4000000
namespace K00
open PySem MP
def turn : Ss := (.cons (.asg (.nm 3) (.call 1 (.cons (.var 0) (.cons (.var 1) (.cons (.con (.int 22)) .nil)))))
  (.cons (.asg (.nm 4) (.call 5 (.cons (.var 0) (.cons (.var 1) .nil))))
  (.cons (.asg (.nm 5) (.call 5 (.cons (.var 0) (.cons (.var 1) .nil))))
  (.cons (.asg (.nm 6) (.lst (.cons (.var 4) .nil)))
  (.cons (.iff (.cmp .Eq (.var 3) (.con (.int 0))) (.cons (.asg (.nm 6) (.lst (.cons (.var 4) (.cons (.var 5) .nil))))
  .nil) (.cons (.iff (.cmp .Gt (.var 3) (.con (.int 4))) (.cons (.asg (.nm 6) (.lst .nil))
  .nil) .nil)
  .nil))
  (.cons (.iff (.cmp .NotEq (.call 7 (.cons (.var 3) (.cons (.var 4) (.cons (.var 5) .nil)))) (.bin .Add (.lc [7, 8] (.nm 8) (.rng (.con (.int 0)) (.con (.int 22))) (.con (.bl true)) (.cmp .Eq (.var 8) (.var 3))) (.lst (.cons (.con (.bl true)) .nil)))) (.cons (.ret (.con (.bl false)))
  .nil) .nil)
  (.cons (.iff (.not (.call 4 (.cons (.call 8 (.cons (.var 3) (.cons (.var 4) (.cons (.var 5) .nil)))) (.cons (.var 6) .nil)))) (.cons (.ret (.con (.bl false)))
  .nil) .nil)
  .nil)))))))
theorem go_ifE {e : MP.Env} {c : E} {a b : Ss} {σ σ1 : SW} {h h1 h2 : HW} {t : Bool} (q : denT e c σ h = .ok t h1) (r : (if t then denSs e a σ h1 else denSs e b σ h1) = .ok (.nx σ1) h2) : denS e (.iff c a b) σ h = .ok (.nx σ1) h2 := by
  rw [go_if q]
  exact r
theorem go_ifF2 {e : MP.Env} {c : E} {a : Ss} {σ : SW} {h h1 : HW} (q : denT e c σ h = .ok false h1) : denS e (.iff c a .nil) σ h = .ok (.nx σ) h1 := by
  rw [go_if q]
  simp only [Bool.false_eq_true, if_false, dSs_nil]
theorem due_ok {e : MP.Env} {n : Nat} {s0 s1 s2 s7 s8 : Option W} {w1 w2 : W} {h : HW} : ∃ u l, (h ++ l)[u]? = some (.lst (vals n w1 w2)) ∧
    denS e (.iff (.cmp .Eq (.var 3) (.con (.int 0))) (.cons (.asg (.nm 6) (.lst (.cons (.var 4) (.cons (.var 5) .nil)))) .nil) (.cons (.iff (.cmp .Gt (.var 3) (.con (.int 4))) (.cons (.asg (.nm 6) (.lst .nil)) .nil) .nil) .nil)) [s0, s1, s2, some (.int n), some w1, some w2, some (.ref h.length), s7, s8] (h ++ [.lst [w1]]) =
      .ok (.nx [s0, s1, s2, some (.int n), some w1, some w2, some (.ref u), s7, s8]) (h ++ l) := by
  have t1 : denT e (.cmp .Eq (.var 3) (.con (.int 0))) [s0, s1, s2, some (.int n), some w1, some w2, some (.ref h.length), s7, s8] (h ++ [.lst [w1]]) = .ok (decide ((n : Int) = 0)) (h ++ [.lst [w1]]) := by
    simp only [denT, dE_var, dE_con, slotW, List.getElem?_cons_succ, List.getElem?_cons_zero, bind_ok, eq_int, tru_bl]
  have t2 : denT e (.cmp .Gt (.var 3) (.con (.int 4))) [s0, s1, s2, some (.int n), some w1, some w2, some (.ref h.length), s7, s8] (h ++ [.lst [w1]]) = .ok (decide ((4 : Int) < n)) (h ++ [.lst [w1]]) := by
    simp only [denT, dE_var, dE_con, slotW, List.getElem?_cons_succ, List.getElem?_cons_zero, bind_ok, gt_int, tru_bl]
  by_cases h0 : n = 0
  · refine ⟨h.length + 1, [.lst [w1], .lst [w1, w2]], by rw [get_app]; subst h0; rfl, go_ifE t1 ?_⟩
    rw [decide_eq_true (by omega)]
    simp only [if_true, denSs, dS_asg, dE_lst, dEs_cons, dEs_nil, dE_var, slotW, List.getElem?_cons_succ, List.getElem?_cons_zero, bind_ok, List.length_cons, List.length_nil, Nat.zero_add, Nat.reduceAdd, ok2, new_app, len_app, app_app, List.cons_append, List.nil_append, st_ok, tgW, List.set]
  · by_cases h4 : 4 < n
    · refine ⟨h.length + 1, [.lst [w1], .lst []], by rw [get_app]; simp [vals, h0, show ¬ n ≤ 4 by omega], go_ifE t1 ?_⟩
      rw [decide_eq_false (by omega)]
      simp only [Bool.false_eq_true, if_false]
      rw [go_nx (go_ifE t2 (σ1 := [s0, s1, s2, some (.int n), some w1, some w2, some (.ref (h.length + 1)), s7, s8]) (h2 := h ++ [.lst [w1], .lst []]) (by
        rw [decide_eq_true (by omega)]
        simp only [if_true, denSs, dS_asg, dE_lst, dEs_nil, bind_ok, List.length_cons, List.length_nil, Nat.zero_add, Nat.reduceAdd, ok0, new_app, len_app, app_app, List.cons_append, List.nil_append, st_ok, tgW, List.set])), dSs_nil]
    · refine ⟨h.length, [.lst [w1]], by rw [get_app0]; simp [vals, h0, show n ≤ 4 by omega], go_ifE t1 ?_⟩
      rw [decide_eq_false (by omega)]
      simp only [Bool.false_eq_true, if_false]
      rw [go_nx (go_ifE t2 (σ1 := [s0, s1, s2, some (.int n), some w1, some w2, some (.ref h.length), s7, s8]) (h2 := h ++ [.lst [w1]]) (by
        rw [decide_eq_false (by omega)]
        simp only [Bool.false_eq_true, if_false, dSs_nil])), dSs_nil]
theorem turn_ok {sc : List W} (hs : ∀ w ∈ sc, ∃ i, w = .int i) {p : Nat} {h : HW} (q : Po p h) {s2 s3 s4 s5 s6 s7 s8 : Option W} : ∃ t3 t4 t5 t6 h', denSs eL turn [some (.fls sc), some (.ref p), s2, s3, s4, s5, s6, s7, s8] h = .ok (.nx [some (.fls sc), some (.ref p), s2, t3, t4, t5, t6, s7, s8]) h' ∧ Po p h' := by
  obtain ⟨v, a, b, c, d, v0, v1, hb, hc⟩ := draws (p := p) hs 7 22 h (by decide) (by decide) q
  obtain ⟨n, rfl⟩ : ∃ n : Nat, v = n := ⟨v.toNat, by omega⟩
  have hn : n < 22 := by omega
  obtain ⟨w1, h2, c1, g1, x1⟩ := value_c hs (q.set (a := a) (c := c) (d := d) hb)
  obtain ⟨w2, h3, c2, g2, x2⟩ := value_c hs g1.po
  have x1' := g2.val _ x1
  have q3 := g2.po
  obtain ⟨u, l, hu, du⟩ := due_ok (e := eL) (n := n) (s0 := some (.fls sc)) (s1 := some (.ref p)) (s2 := s2) (s7 := s7) (s8 := s8) (w1 := w1) (w2 := w2) (h := h3)
  have q4 : Po p (h3 ++ l) := q3.app
  have y1 : Val (h3 ++ l) w1 := x1'.app
  have y2 : Val (h3 ++ l) w2 := x2.app
  generalize hh4 : h3 ++ l = h4 at hu du q4 y1 y2
  have hc : eL.call 1 [.fls sc, .ref p, .int 22] h = .ok (.int n) (h.set p (pool a b c d)) := hc
  -- the kinds
  have kc : denT eL (.cmp .NotEq (.call 7 (.cons (.var 3) (.cons (.var 4) (.cons (.var 5) .nil)))) (.bin .Add (.lc [7, 8] (.nm 8) (.rng (.con (.int 0)) (.con (.int 22))) (.con (.bl true)) (.cmp .Eq (.var 8) (.var 3))) (.lst (.cons (.con (.bl true)) .nil)))) [some (.fls sc), some (.ref p), s2, some (.int n), some w1, some w2, some (.ref u), s7, s8] h4 =
      .ok false (h4 ++ (kl n ++ [.lst (lcb n), .lst [.bl true], .lst (lcb n ++ [.bl true])])) := by
    have a1 : denE eL (.call 7 (.cons (.var 3) (.cons (.var 4) (.cons (.var 5) .nil)))) [some (.fls sc), some (.ref p), s2, some (.int n), some w1, some w2, some (.ref u), s7, s8] h4 = .ok (.ref (h4.length + 11)) (h4 ++ kl n) := by
      simp only [dE_call, dEs_cons, dEs_nil, dE_var, slotW, List.getElem?_cons_succ, List.getElem?_cons_zero, bind_ok, kinds_c hn]
    have g0 : ((h4 ++ kl n ++ [O.lst (lcb n)]) ++ [.lst [.bl true]])[(h4 ++ kl n).length]? = some (.lst (lcb n)) := by rw [app_app (h := h4 ++ kl n), get_app0]; rfl
    have g1 : ((h4 ++ kl n ++ [O.lst (lcb n)]) ++ [.lst [.bl true]])[(h4 ++ kl n ++ [O.lst (lcb n)]).length]? = some (.lst [.bl true]) := get_app0
    have a2 : denE eL (.bin .Add (.lc [7, 8] (.nm 8) (.rng (.con (.int 0)) (.con (.int 22))) (.con (.bl true)) (.cmp .Eq (.var 8) (.var 3))) (.lst (.cons (.con (.bl true)) .nil))) [some (.fls sc), some (.ref p), s2, some (.int n), some w1, some w2, some (.ref u), s7, s8] (h4 ++ kl n) =
        .ok (.ref (h4.length + 14)) (h4 ++ (kl n ++ [.lst (lcb n), .lst [.bl true], .lst (lcb n ++ [.bl true])])) := by
      rw [dE_bin, lc_ok, bind_ok, dE_lst, dEs_cons, dE_con, bind_ok, dEs_nil, bind_ok, bind_ok]
      rw [okIf_yes (by rfl), new_app, bind_ok, add_ll g0 g1 (by rw [lcb_len]; decide)]
      simp only [len_app, app_app, List.cons_append, List.nil_append]
      rfl
    have e1 : (h4 ++ (kl n ++ [.lst (lcb n), .lst [.bl true], .lst (lcb n ++ [.bl true])]))[h4.length + 11]? = some (.lst (kb n)) := by rw [get_app]; rfl
    have e2 : (h4 ++ (kl n ++ [.lst (lcb n), .lst [.bl true], .lst (lcb n ++ [.bl true])]))[h4.length + 14]? = some (.lst (lcb n ++ [.bl true])) := by rw [get_app]; rfl
    simp only [denT, a1, a2, bind_ok, cmpW, eq_all hn e1 e2, obl, if_true, Bool.not_true, tru_bl]
  have q5 : Po p (h4 ++ (kl n ++ [.lst (lcb n), .lst [.bl true], .lst (lcb n ++ [.bl true])])) := q4.app
  have z1 : Val (h4 ++ (kl n ++ [.lst (lcb n), .lst [.bl true], .lst (lcb n ++ [.bl true])])) w1 := y1.app
  have z2 : Val (h4 ++ (kl n ++ [.lst (lcb n), .lst [.bl true], .lst (lcb n ++ [.bl true])])) w2 := y2.app
  have hu5 : (h4 ++ (kl n ++ [.lst (lcb n), .lst [.bl true], .lst (lcb n ++ [.bl true])]))[u]? = some (.lst (vals n w1 w2)) := get_lt hu
  generalize h4 ++ (kl n ++ [.lst (lcb n), .lst [.bl true], .lst (lcb n ++ [.bl true])]) = h5 at kc q5 z1 z2 hu5
  have hv : ∀ x ∈ vals n w1 w2, Val (h5 ++ [.lst (vals n w1 w2)]) x := fun x hx => by
    unfold vals at hx
    split at hx
    · simp at hx
      rcases hx with rfl | rfl
      · exact z1.app
      · exact z2.app
    · split at hx
      · simp at hx
        subst hx
        exact z1.app
      · simp at hx
  have hlen : (vals n w1 w2).length ≤ 100 := by
    unfold vals
    split
    · simp
    · split <;> simp
  have sc' : eL.call 4 [.ref h5.length, .ref u] (h5 ++ [.lst (vals n w1 w2)]) = .ok (.bl true) (h5 ++ [.lst (vals n w1 w2)]) := same_c get_app0 (get_lt hu5) hlen hv
  refine ⟨some (.int n), some w1, some w2, some (.ref u), h5 ++ [.lst (vals n w1 w2)], ?_, q5.app⟩
  unfold turn
  rw [go_nx (σ1 := [some (.fls sc), some (.ref p), s2, some (.int n), s4, s5, s6, s7, s8]) (h1 := h.set p (pool a b c d)) (by
      simp only [dS_asg, dE_call, dEs_cons, dEs_nil, dE_var, dE_con, slotW, List.getElem?_cons_succ, List.getElem?_cons_zero, bind_ok, hc, st_ok, tgW, List.set]),
    go_nx (σ1 := [some (.fls sc), some (.ref p), s2, some (.int n), some w1, s5, s6, s7, s8]) (h1 := h2) (by
      simp only [dS_asg, dE_call, dEs_cons, dEs_nil, dE_var, slotW, List.getElem?_cons_succ, List.getElem?_cons_zero, bind_ok, c1, st_ok, tgW, List.set]),
    go_nx (σ1 := [some (.fls sc), some (.ref p), s2, some (.int n), some w1, some w2, s6, s7, s8]) (h1 := h3) (by
      simp only [dS_asg, dE_call, dEs_cons, dEs_nil, dE_var, slotW, List.getElem?_cons_succ, List.getElem?_cons_zero, bind_ok, c2, st_ok, tgW, List.set]),
    go_nx (σ1 := [some (.fls sc), some (.ref p), s2, some (.int n), some w1, some w2, some (.ref h3.length), s7, s8]) (h1 := h3 ++ [.lst [w1]]) (by
      simp only [dS_asg, dE_lst, dEs_cons, dEs_nil, dE_var, slotW, List.getElem?_cons_succ, List.getElem?_cons_zero, bind_ok, List.length_cons, List.length_nil, Nat.zero_add, ok1, new_app, st_ok, tgW, List.set]),
    go_nx du, go_nx (go_ifF2 kc),
    go_nx (go_ifF2 (h1 := h5 ++ [.lst (vals n w1 w2)]) (by
      simp only [denT, dE_call, dEs_cons, dEs_nil, dE_var, slotW, List.getElem?_cons_succ, List.getElem?_cons_zero, bind_ok, fields_c hn, sc', tru_bl, Bool.not_true])), dSs_nil]
theorem pure_law (ns : List Int) (_ : ns.length ≤ 63) : ∃ h', callN tab cd 9 9 [.fls (ns.map W.int)] [] = .ok (.bl true) h' := by
  have hs : ∀ w ∈ ns.map W.int, ∃ i, w = .int i := fun w hw => by
    obtain ⟨i, _, rfl⟩ := List.mem_map.mp hw
    exact ⟨i, rfl⟩
  show ∃ h', runF tab eL 9 [.fls (ns.map W.int)] [] = .ok (.bl true) h'
  generalize ns.map W.int = sc at hs
  have q0 : Po 0 [pool 0 0 0 1] := ⟨0, 0, 0, 1, by decide, rfl⟩
  obtain ⟨a3, a4, a5, a6, h1, t1, q1⟩ := turn_ok hs q0 (s2 := some (.int (0 + ((0 : Nat) : Int)))) (s3 := none) (s4 := none) (s5 := none) (s6 := none) (s7 := none) (s8 := none)
  obtain ⟨b3, b4', b5, b6, h2, t2, q2⟩ := turn_ok hs q1 (s2 := some (.int (0 + ((1 : Nat) : Int)))) (s3 := a3) (s4 := a4) (s5 := a5) (s6 := a6) (s7 := none) (s8 := none)
  refine ⟨h2, ?_⟩
  rw [run_eq (d := ⟨P9.length, N9.length, b9⟩) rfl rfl]
  show fin (denSs eL (.cons (.asg (.nm 1) (.call 0 .nil)) (.cons (.forr (.nm 2) (.rng (.con (.int 0)) (.con (.int 2))) turn) (.cons (.ret (.con (.bl true))) .nil))) [some (.fls sc), none, none, none, none, none, none, none, none] []) = _
  have p0 : eL.call 0 [] [] = .ok (.ref 0) [pool 0 0 0 1] := rfl
  have lp : forLoop (denSs eL turn) (.nm 2) (.rng 0 2) 3 0 [some (.fls sc), some (.ref 0), none, none, none, none, none, none, none] [pool 0 0 0 1] = .ok (.nx [some (.fls sc), some (.ref 0), some (.int (0 + ((1 : Nat) : Int))), b3, b4', b5, b6, none, none]) h2 := by
    rw [forLoop]
    simp only [Src.at, Nat.reduceLT, if_true, tgW, List.set, t1]
    rw [forLoop]
    simp only [Src.at, Nat.reduceAdd, Nat.reduceLT, if_true, tgW, List.set, t2]
    rw [forLoop]
    simp only [Src.at, Nat.reduceAdd, Nat.lt_irrefl, if_false]
  rw [go_nx (σ1 := [some (.fls sc), some (.ref 0), none, none, none, none, none, none, none]) (h1 := [pool 0 0 0 1]) (by
      simp only [dS_asg, dE_call, dEs_nil, bind_ok, p0, st_ok, tgW, List.set]),
    go_nx (go_for (dI_rng dE_con dE_con (by decide) (by decide) (by decide) (by decide)) lp)]
  simp only [denSs, dS_ret, dE_con, st_ok, fin]
end K00

set_option maxHeartbeats 0
namespace MP
open PySem L2
theorem to0 {P : Program} {w : World} {K : PySem.W.Frag} {mg : Str → Option Value} {base : Heap} {k n : Nat} {f : Addr} {fd : FuncData} {ps : List Str} (F : FnOk P w K mg base (L2.CX P w) k f fd ps (spLaw K n)) : FnOk P w K mg base CX0 k f fd ps (spLaw K n) :=
  ⟨F.len, fun A outer s H args us vs Q E hr he hb hv hs => codeAny_mono (F.run A outer s H args us vs Q (fun _ _ _ => False) hr he hb hv hs) fun r s' h => by
    cases r with
    | error er =>
      obtain ⟨_, _, _, _, _, _, _, _, _, _, _, _, z⟩ := h
      exact z.elim
    | ok fl =>
      cases fl with
      | ret u => exact h
      | next => exact h
      | brk => exact h
      | cont => exact h⟩
end MP
open PySem PySem.W PySem.Calls PyProof.Rows
theorem PySem.Challenge.cw_copybooks_k00_errors_holds : PySem.Challenge.rw_copybooks_k00_errors.Holds := by
  w_on; o_law
  refine HandSHeadRun.head_any (r := OpenLaw.row PySem.Challenge.rw_copybooks_k00_errors) (q := view (OpenLaw.row PySem.Challenge.rw_copybooks_k00_errors).prog [34]) (H := K00.hk) (ob := K00.ob) (M := 14000) (loose := K00.loose) (d := HandSHeadRun.topDef (OpenLaw.row PySem.Challenge.rw_copybooks_k00_errors).prog 34) (kwd := []) K00.ob_eq
    (by kernel_rfl) (fun s => by kernel_rfl) K00.run (by kernel_rfl) (by kernel_rfl) (by kernel_rfl) (by rfl) (by first | assumption | decide +kernel) (by decide +kernel) ⟨rfl, rfl, rfl, rfl, rfl, by decide +kernel⟩ ?hw ?hc
  case hw => w_witness2
  case hc =>
    refine L2.walk_ofE (l := PySem.Challenge.rw_copybooks_k00_errors) (n := 63) (k := 9) (x := "_law_script") (CX := L2.CX0) rfl (by decide) (by kernel_rfl) ⟨rfl, by decide, by decide⟩ ?F (fun _ _ _ _ z => z)
    intro w mg fa h Y G hmg0
    obtain ⟨K, KX, c⟩ := Y
    have hmg : mg ("law" : PySem.Str) = some (.ref fa) := by
      have e : (HandSHeadRun.topDef (OpenLaw.row PySem.Challenge.rw_copybooks_k00_errors).prog 34).name = ("law" : PySem.Str) := by kernel_rfl
      rw [← e]
      exact hmg0
    obtain ⟨fd, hb, hF⟩ := K00.facts (w := w) K00.pure_law KX G hmg c
    exact ⟨K, fd, MP.spLaw K 63, KX, hb, fun H a ns hl O hS => ⟨a, ns, rfl, O, hS, hl, fun _ => rfl⟩, fun base b1 b2 => MP.to0 (hF base b1 b2)⟩
