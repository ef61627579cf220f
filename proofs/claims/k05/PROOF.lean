import PyProof.Rows.All
import Wide.All
import OpenK.AllK
import Wide.FinOn
import HandS.ForMost
import HandS.Walk
import HandS.Flow
import HandS.Style
import HandS.Exc
import HandS.ExcOwn
import HandS.WordsExc
import HandS.Lambda
import HandS.Wide
import KE.DataEq
import HandS.DictEq
import KE.KEqDict
import HandS.ListEq
import HandS.Conv
import PyProof.Draws
import KE.GoesMore
import HandS.Small
import KE.KDictList
import HandS.HeadHook4
import HandS.HeadWalk
import PyProof.ExcBaseAll.ValueError
import HandS.Words
import HandS.Head2
import HandS.HeadEnd
import HandS.GenOver
import PyProof.GenQ
import PyProof.CodeObjX
import HandS.Ends
import PySem.Challenge.RW_cachestack_k05_caches_in_order_of_coming
set_option Elab.async false
set_option linter.all false
/-! PyI0: a small interpreter for the part of Python that the program and the laws use, over abstract data.
Trees (W) are told by value; lists, dicts and instances that change stand in a heap of their own (Hc). -/
namespace PyI
open PySem

inductive W where
  | non | bl (b : Bool) | int (i : Int) | str (s : List Nat)
  | tup (xs : List W) | lst (xs : List W)
  /-- a list that is read alone (the script) -/
  | frz (xs : List W)
  | ref (a : Nat)
deriving Inhabited

inductive CO where
  | lst (lk : Bool) (xs : List W)
  | dic (lk : Bool) (kvs : List (W × W))
  | ins (C : Nat) (fs : List (Nat × W))
deriving Inhabited
abbrev Hc := List CO

inductive Res (α : Type) where
  | ok (a : α) | exc (c : Nat) (h : Hc) | no
def Res.bind {α β : Type} (r : Res α) (f : α → Res β) : Res β := match r with
  | .ok a => f a
  | .exc c h => .exc c h
  | .no => .no
abbrev RW := Res (W × Hc)
abbrev RWs := Res (List W × Hc)

/-! ### data -/
abbrev LL : Nat := 16777216
def W.keq : W → W → Bool
  | .int a, .int b => a == b
  | .str a, .str b => a == b
  | _, _ => false
/-! == -/
mutual
def W.eqv : W → W → Bool
  | .non, b => match b with | .non => true | _ => false
  | .bl a, b => match b with | .bl b => a == b | .int b => (if a then 1 else 0) == b | _ => false
  | .int a, b => match b with | .bl b => a == (if b then 1 else 0) | .int b => a == b | _ => false
  | .str a, b => match b with | .str b => a == b | _ => false
  | .tup a, b => match b with | .tup b => W.eqvs a b | _ => false
  | .lst a, b => match b with | .lst b => W.eqvs a b | _ => false
  | _, _ => false
def W.eqvs : List W → List W → Bool
  | [], b => b.isEmpty
  | a :: r, b => match b with | b :: s => W.eqv a b && W.eqvs r s | [] => false
end
/-- a key of a dict: an int, a text -/
def W.isKey : W → Bool
  | .int _ => true
  | .str _ => true
  | _ => false
def dget (kvs : List (W × W)) (k : W) : Option W := match kvs with
  | [] => none
  | (j, v) :: r => if W.keq j k then some v else dget r k
def dput (kvs : List (W × W)) (k v : W) : List (W × W) :=
  if kvs.any (fun p => W.keq p.1 k) = true then kvs.map (fun p => if W.keq p.1 k then (p.1, v) else p) else kvs ++ [(k, v)]
def ddel (kvs : List (W × W)) (k : W) : List (W × W) := kvs.filter fun p => !W.keq p.1 k

/-- the tree that stands at w: lists of the heap read off it; at most n deep -/
def optAll {α β : Type} (f : α → Option β) : List α → Option (List β)
  | [] => some []
  | a :: r => match f a with
    | none => none
    | some b => match optAll f r with
      | none => none
      | some s => some (b :: s)
def rd : Nat → Hc → W → Option W
  | 0, _, _ => none
  | n + 1, h, w => match w with
    | .tup xs => (optAll (rd n h) xs).map .tup
    | .lst xs => (optAll (rd n h) xs).map .lst
    | .frz xs => (optAll (rd n h) xs).map .lst
    | .ref a => match h[a]? with
      | some (.lst _ xs) => (optAll (rd n h) xs).map .lst
      | _ => none
    | .non => some .non
    | .bl b => some (.bl b)
    | .int i => some (.int i)
    | .str s => some (.str s)
/-! no address within -/
mutual
def W.nref : W → Bool
  | .tup xs => W.nrefs xs
  | .lst xs => W.nrefs xs
  | .frz xs => W.nrefs xs
  | .ref _ => false
  | _ => true
def W.nrefs : List W → Bool
  | [] => true
  | x :: r => W.nref x && W.nrefs r
end
def truth (h : Hc) : W → Option Bool
  | .non => some false
  | .bl b => some b
  | .int i => some (i != 0)
  | .str s => if s.length ≤ LL then some !s.isEmpty else none
  | .tup xs => some !xs.isEmpty
  | .lst xs => some !xs.isEmpty
  | .ref a => match h[a]? with
    | some (.lst _ xs) => some !xs.isEmpty
    | some (.dic false kvs) => some !kvs.isEmpty
    | _ => none
  | _ => none
/-- the items of a list, tree or not -/
def lseq (h : Hc) : W → Option (List W)
  | .lst xs => some xs
  | .ref a => match h[a]? with
    | some (.lst false xs) => some xs
    | _ => none
  | _ => none
/-- a new list: a tree, or in the heap -/
def mkL (box : Bool) (xs : List W) (h : Hc) : RW := if box then .ok (.ref h.length, h ++ [.lst false xs]) else .ok (.lst xs, h)
def mkLZ (box : Bool) (xs : List W) (h : Hc) : RW := if xs.length ≤ LL then mkL box xs h else .no

/-! ### operators -/
def idxN (n : Nat) (i : Int) : Option Nat := if 0 ≤ i then (if i < n then some i.toNat else none) else if -(n : Int) ≤ i then some (i + n).toNat else none
def atW {α : Type} (xs : List α) (i : Int) : Option α := (idxN xs.length i).bind fun j => xs[j]?
def bitsOk (i j : Int) : Bool := decide (i.natAbs.log2 + j.natAbs.log2 < 100000000)
def binop (op : Operator) (box : Bool) (h : Hc) (x y : W) : RW := match x, y with
  | .int i, .int j => match op with
    | .Add => .ok (.int (i + j), h)
    | .Sub => .ok (.int (i - j), h)
    | .Mult => if bitsOk i j then .ok (.int (i * j), h) else .no
    | .FloorDiv => if 0 < j ∧ j.natAbs.log2 < 9000 then .ok (.int (i / j), h) else .no
    | .Mod => if 0 < j then .ok (.int (i % j), h) else .no
    | .Pow => if 0 ≤ j ∧ j ≤ 1000000 ∧ i.natAbs < 2 ^ 64 then .ok (.int (i ^ j.toNat), h) else .no
    | _ => .no
  | .str a, .str b => match op with
    | .Add => if a.length + b.length ≤ LL then .ok (.str (a ++ b), h) else .no
    | _ => .no
  | .tup a, .tup b => match op with
    | .Add => if a.isEmpty then .no else if a.length + b.length ≤ LL then .ok (.tup (a ++ b), h) else .no
    | _ => .no
  | x, .int k => match op, lseq h x with
    | .Mult, some xs => if -(2 ^ 63) ≤ k ∧ k < 2 ^ 63 ∧ xs.length * k.toNat ≤ LL then mkL box (List.replicate k.toNat xs).flatten h else .no
    | _, _ => .no
  | x, y => match op, lseq h x, lseq h y with
    | .Add, some a, some b => if a.length + b.length ≤ LL then mkL box (a ++ b) h else .no
    | _, _, _ => .no
/-- x op= y -/
def iop (op : Operator) (h : Hc) (x y : W) : RW := match x, y with
  | .int i, .int j => match op with
    | .Add => .ok (.int (i + j), h)
    | .Sub => .ok (.int (i - j), h)
    | .Mult => if bitsOk i j then .ok (.int (i * j), h) else .no
    | .FloorDiv => if 0 < j ∧ j < 1073741824 then .ok (.int (i / j), h) else .no
    | .Mod => if 0 < j then .ok (.int (i % j), h) else .no
    | _ => .no
  | .str a, .str b => match op with
    | .Add => if a.length + b.length ≤ LL then .ok (.str (a ++ b), h) else .no
    | _ => .no
  | .ref a, y => match op, h[a]?, lseq h y with
    | .Add, some (.lst false xs), some ys => if xs.length + ys.length ≤ LL then .ok (.ref a, h.set a (.lst false (xs ++ ys))) else .no
    | _, _, _ => .no
  | _, _ => .no
/-- x in y -/
def isIn (h : Hc) (x y : W) : Option Bool := match y with
  | .str t => match x with
    | .str [c] => some (decide (c ∈ t))
    | _ => none
  | .ref a => match h[a]? with
    | some (.dic _ kvs) => if W.isKey x then some (dget kvs x).isSome else none
    | some (.lst _ xs) => match rd 60 h x, optAll (rd 60 h) xs with
      | some t, some ys => some (ys.any fun u => W.eqv u t)
      | _, _ => none
    | _ => none
  | .lst xs => match rd 60 h x, optAll (rd 60 h) xs with
      | some t, some ys => some (ys.any fun u => W.eqv u t)
      | _, _ => none
  | .tup xs => match rd 60 h x, optAll (rd 60 h) xs with
      | some t, some ys => some (ys.any fun u => W.eqv u t)
      | _, _ => none
  | _ => none
/-- the dict that stands at a value -/
def dicAt (h : Hc) : W → Option (List (W × W))
  | .ref a => match h[a]? with
    | some (.dic _ kvs) => some kvs
    | _ => none
  | _ => none
def rdKV (h : Hc) : List (W × W) → Option (List (W × W))
  | [] => some []
  | (k, v) :: r => match rd 60 h v, rdKV h r with
    | some t, some s => some ((k, t) :: s)
    | _, _ => none
def eqKV (a b : List (W × W)) : Bool := a.length == b.length && a.all fun p => match dget b p.1 with
  | some v => W.eqv p.2 v
  | none => false
def sameRef : W → W → Bool
  | .ref a, .ref b => a == b
  | _, _ => false
/-- two dicts, or two trees -/
def isEq0 (h : Hc) (x y : W) : Option Bool := match dicAt h x, dicAt h y with
  | some a, some b => if sameRef x y then none else match rdKV h a, rdKV h b with
    | some a, some b => some (eqKV a b)
    | _, _ => none
  | _, _ => match rd 60 h x, rd 60 h y with
    | some a, some b => some (W.eqv a b)
    | _, _ => none
def allEq (h : Hc) : List W → List W → Option Bool
  | [], _ => some true
  | _, [] => some true
  | x :: xs, y :: ys => match isEq0 h x y, allEq h xs ys with
    | some b, some c => some (b && c)
    | _, _ => none
def isEq (h : Hc) (x y : W) : Option Bool := match isEq0 h x y with
  | some b => some b
  | none => match lseq h x, lseq h y with
    | some xs, some ys => if xs.length = ys.length then allEq h xs ys else some false
    | _, _ => none
def cmpop (op : CmpOp) (h : Hc) (x y : W) : Option Bool := match op with
  | .Eq => isEq h x y
  | .NotEq => (isEq0 h x y).map (!·)
  | .Lt => match x, y with
    | .int i, .int j => some (decide (i < j))
    | _, _ => none
  | .LtE => match x, y with
    | .int i, .int j => some (decide (i ≤ j))
    | _, _ => none
  | .Gt => match x, y with
    | .int i, .int j => some (decide (j < i))
    | _, _ => none
  | .GtE => match x, y with
    | .int i, .int j => some (decide (j ≤ i))
    | _, _ => none
  | .Is => match y with
    | .non => match x with | .non => some true | _ => some false
    | _ => none
  | .IsNot => match y with
    | .non => match x with | .non => some false | _ => some true
    | _ => none
  | .In => isIn h x y
  | .NotIn => (isIn h x y).map (!·)
def index (h : Hc) (x i : W) : Option W := match x, i with
  | .tup xs, .int i => atW xs i
  | .lst xs, .int i => atW xs i
  | .str s, .int i => if s.length ≤ LL then (atW s i).map fun c => .str [c] else none
  | .ref a, i => match h[a]?, i with
    | some (.lst _ xs), .int i => atW xs i
    | some (.dic _ kvs), k => if W.isKey k then dget kvs k else none
    | _, _ => none
  | _, _ => none
/-- what is changed in place by op= -/
def getW (h : Hc) (x i : W) : Option W := match x, i with
  | .ref a, i => match h[a]?, i with
    | some (.lst false xs), .int k => if 0 ≤ k ∧ k < 2 ^ 63 then xs[k.toNat]? else none
    | some (.dic false kvs), k => if W.isKey k then dget kvs k else none
    | _, _ => none
  | _, _ => none
/-- a part of a slice, its place in n -/
def partOf : W → Option (Option Int)
  | .int i => some (some i)
  | .non => some none
  | _ => none
def partR (r : RW) : Res (Option Int × Hc) := r.bind fun p => match partOf p.1 with
  | some o => .ok (o, p.2)
  | none => .no
def sIdx (n d : Nat) (o : Option Int) : Nat := match o with
  | none => d
  | some i => if i < 0 then (i + (n : Int)).toNat else min i.toNat n
def cut {α : Type} (xs : List α) (lo hi : Option Int) : List α := (xs.drop (sIdx xs.length 0 lo)).take (sIdx xs.length xs.length hi - sIdx xs.length 0 lo)
def sliceW (box : Bool) (h : Hc) (x : W) (lo hi : Option Int) : RW := match x with
  | .str s => if s.length ≤ LL then .ok (.str (cut s lo hi), h) else .no
  | .tup xs => if sIdx xs.length 0 lo = 0 ∧ sIdx xs.length xs.length hi = xs.length then .no else .ok (.tup (cut xs lo hi), h)
  | .frz xs => mkL box (cut xs lo hi) h
  | x => match lseq h x with
    | some xs => mkL box (cut xs lo hi) h
    | none => .no

/-! ### the text -/
inductive Tg where
  | one (i : Nat) | many (ts : List Tg)
deriving Inhabited
/-- what is walked -/
inductive IK where
  | val | range | items | values | enum | enumItems | enumZip | zip
deriving Inhabited, DecidableEq
/-- built-in functions, classes -/
inductive BI where
  | abs | int | len | list | dict | max | min | sum | sorted | str | tuple | any | all
deriving Inhabited, DecidableEq
/-- methods of built-in classes -/
inductive BM where
  | append | pop | get | index | count | update | setdefault | items | join
deriving Inhabited, DecidableEq
/-- who takes a generator -/
inductive GC where
  | any | all | sum | min | max | tuple | sorted
deriving Inhabited, DecidableEq

inductive E where
  | var (i : Nat) | lit (w : W) | glob (g : Nat)
  | bin (box : Bool) (op : Operator) (a b : E)
  | neg (a : E) | not (a : E) | and (es : List E) | or (es : List E) | andT (es : List E) | orT (es : List E)
  | cmp (op : CmpOp) (a b : E) | cmp2 (op op' : CmpOp) (a b c : E)
  | ifx (c a b : E)
  | tup (es : List E) | lst (box : Bool) (es : List E) | dic (kvs : List E)
  | idx (a i : E) | slice (box : Bool) (a lo hi : E) | rev (box : Bool) (a : E)
  | attr (o : E) (f : Nat)
  | call (iso : Bool) (f : Nat) (es : List E) | new (C : Nat) (es : List E) | meth (o : E) (m : Nat) (es : List E)
  | bi (b : BI) (box : Bool) (es : List E) | bm (m : BM) (box : Bool) (o : E) (es : List E)
  | told (t : Nat) (e : E)
  | lc (box : Bool) (own : List Nat) (t : Tg) (ik : IK) (ies : List E) (c : List E) (e : E)
  | gen (g : GC) (box : Bool) (own : List Nat) (t : Tg) (ik : IK) (ies : List E) (c : List E) (e : E)
  | bad (i : Nat) (t : Nat) (s : List Nat)
deriving Inhabited

/-- what a slot holds -/
inductive Sv where
  | un | v (w : W) | lams (ids : List Nat)
deriving Inhabited
abbrev Sl := List Sv

def fget (fs : List (Nat × W)) (f : Nat) : Option W := match fs with
  | [] => none
  | (g, v) :: r => if g == f then some v else fget r f
def fput (fs : List (Nat × W)) (f : Nat) (w : W) : List (Nat × W) := match fs with
  | [] => [(f, w)]
  | (g, v) :: r => if g == f then (g, w) :: r else (g, v) :: fput r f w
/-- what surrounds -/
structure Ix where
  glob : List W
  call : Nat → List W → Hc → RW
  init : Nat → Option Nat
  meth : Nat → Nat → Option Nat
  told : Nat → List (Nat × List Nat)
  lam : Nat → Sl → Hc → RW
  fuel : Nat

/-- an instance -/
def insAt (X : Ix) (h : Hc) (x : W) : Option (Nat × Nat × List (Nat × W)) := match x with
  | .ref a => match h[a]? with
    | some (.ins C fs) => if (X.init C).isSome then some (a, C, fs) else none
    | _ => none
  | _ => none
def attrW (X : Ix) (h : Hc) (x : W) (f : Nat) : Option W := match insAt X h x with
  | some (_, C, fs) => if (X.meth C f).isNone then fget fs f else none
  | none => none
def clsW (X : Ix) (h : Hc) (x : W) : Option Nat := (insAt X h x).map (·.2.1)
def setAttrW (X : Ix) (h : Hc) (o : W) (f : Nat) (w : W) : Option Hc := match insAt X h o with
  | some (a, C, fs) => if (X.meth C f).isNone ∧ fs.length < 1000 then some (h.set a (.ins C (fput fs f w))) else none
  | none => none
/-- a call; iso: in an empty heap, that is left again -/
def callI (iso : Bool) (φ : List W → Hc → RW) (ws : List W) (h1 : Hc) : RW := if iso then (if W.nrefs ws then match φ ws [] with
    | .ok (w, _) => if W.nref w then .ok (w, h1) else .no
    | .exc c _ => .exc c h1
    | .no => .no
  else .no) else φ ws h1
def newI (C : Nat) (φ : List W → Hc → RW) (ws : List W) (h1 : Hc) : RW := match φ (.ref h1.length :: ws) (h1 ++ [.ins C []]) with
  | .ok (.non, h2) => .ok (.ref h1.length, h2)
  | .ok _ => .no
  | .exc c h2 => .exc c h2
  | .no => .no

/-! ### walks -/
def enumW : Nat → List W → List W
  | _, [] => []
  | n, x :: r => .tup [.int n, x] :: enumW (n + 1) r
def zipW : List W → List W → List W
  | a :: r, b :: s => .tup [a, b] :: zipW r s
  | _, _ => []
def rangeW (lo : Int) : Nat → List W
  | 0 => []
  | n + 1 => .int lo :: rangeW (lo + 1) n
/-- what is walked, item by item; the list or dict of the heap that is to be locked -/
def walkVal (h : Hc) : W → Option (List W × Option Nat)
  | .lst xs => some (xs, none)
  | .frz xs => some (xs, none)
  | .tup xs => some (xs, none)
  | .str s => if s.length ≤ LL then some (s.map fun c => .str [c], none) else none
  | .ref a => match h[a]? with
    | some (.dic lk kvs) => some (kvs.map (·.1), if lk then none else some a)
    | some (.lst lk xs) => some (xs, if lk then none else some a)
    | _ => none
  | _ => none
def walkRange (ws : List W) : Option (List W × Option Nat) := match ws with
  | [.int n] => if -(2 ^ 62) ≤ n ∧ n ≤ LL then some (rangeW 0 n.toNat, none) else none
  | [.int a, .int b] => if -(2 ^ 62) ≤ a ∧ a < 2 ^ 62 ∧ -(2 ^ 62) ≤ b ∧ b < 2 ^ 62 ∧ b - a ≤ LL then some (rangeW a (b - a).toNat, none) else none
  | _ => none
def walkEnum (h : Hc) (ws : List W) : Option (List W × Option Nat) := match ws with
  | [.lst xs] => some (enumW 0 xs, none)
  | [.frz xs] => some (enumW 0 xs, none)
  | [.tup xs] => some (enumW 0 xs, none)
  | [.ref a] => match h[a]? with
    | some (.lst lk xs) => some (enumW 0 xs, if lk then none else some a)
    | _ => none
  | _ => none
def walkDic (f : W × W → W) (h : Hc) (ws : List W) : Option (List W × Option Nat) := match ws with
  | [.ref a] => match h[a]? with
    | some (.dic lk kvs) => some (kvs.map f, if lk then none else some a)
    | _ => none
  | _ => none
def walkZip (ws : List W) : Option (List W × Option Nat) := match ws with
  | [.lst xs, .lst ys] => some (zipW xs ys, none)
  | _ => none
def walkOne (h : Hc) (ws : List W) : Option (List W × Option Nat) := match ws with
  | [w] => walkVal h w
  | _ => none
def walkOf (ik : IK) (ws : List W) (h : Hc) : Option (List W × Option Nat) := match ik with
  | .val => walkOne h ws
  | .range => walkRange ws
  | .items => walkDic (fun p => .tup [p.1, p.2]) h ws
  | .values => walkDic (·.2) h ws
  | .enum => walkEnum h ws
  | .zip => walkZip ws
  | _ => none
def lockH (a : Nat) (h : Hc) : Option Hc := match h[a]? with
  | some (.dic false kvs) => some (h.set a (.dic true kvs))
  | some (.lst false xs) => some (h.set a (.lst true xs))
  | _ => none
def unlockH (a : Nat) (h : Hc) : Hc := match h[a]? with
  | some (.dic _ kvs) => h.set a (.dic false kvs)
  | some (.lst _ xs) => h.set a (.lst false xs)
  | _ => h
/-- a walk: a list or a dict of the heap is locked meanwhile, what is walked is told of again there -/
def walkK {α : Type} (no : α) (exc : Nat → Hc → α) (un : Nat → α → α) (ik : IK) (ev : Hc → RWs) (k : List W → Hc → α) (h : Hc) : α := match ev h with
  | .ok (ws, h1) => match walkOf ik ws h1 with
    | some (xs, none) => k xs h1
    | some (_, some a) => match lockH a h with
      | some hl => match ev hl with
        | .ok (ws, h2) => match walkOf ik ws h2 with
          | some (xs, none) => un a (k xs h2)
          | _ => no
        | _ => no
      | none => no
    | none => no
  | .exc c h1 => exc c h1
  | .no => no
def unR (a : Nat) (r : RW) : RW := r.bind fun p => .ok (p.1, unlockH a p.2)
def noX {α : Type} (r : Res α) : Res α := match r with
  | .exc _ _ => .no
  | r => r
/-! a value stored in the slots of a target -/
mutual
def stTg : Tg → W → Sl → Option Sl
  | .one i, w, σ => if i < σ.length then some (σ.set i (.v w)) else none
  | .many ts, .tup ws, σ => stTgs ts ws σ
  | .many _, _, _ => none
def stTgs : List Tg → List W → Sl → Option Sl
  | [], [], σ => some σ
  | t :: ts, w :: ws, σ => match stTg t w σ with
    | some σ' => stTgs ts ws σ'
    | none => none
  | _, _, _ => none
end
/-- a comprehension's turns: f gives none where the test fails -/
def turns (f : W → Hc → Res (Option W × Hc)) : List W → Hc → Res (List W × Hc)
  | [], h => .ok ([], h)
  | x :: r, h => (f x h).bind fun (o, h1) => (turns f r h1).bind fun (ys, h2) => .ok (match o with | some y => y :: ys | none => ys, h2)

/-! ### built-ins -/
def maxI (i j : Int) : Int := if j > i then j else i
def minI (i j : Int) : Int := if j < i then j else i
def intsOf : List W → Option (List Int)
  | [] => some []
  | .int i :: r => (intsOf r).map (i :: ·)
  | _ :: _ => none
def strsOf : List W → Option (List (List Nat))
  | [] => some []
  | .str s :: r => (strsOf r).map (s :: ·)
  | _ :: _ => none
def digitsOf (i : Int) : List Nat := (Str.ofString (toString i)).cps.toList
/-- new instances begin without fields -/
def newIns (C : Nat) (h : Hc) : Nat × Hc := (h.length, h ++ [.ins C []])
def bi (b : BI) (box : Bool) (ws : List W) (h : Hc) : RW := match b, ws with
  | .abs, [.int i] => .ok (.int (if i < 0 then -i else i), h)
  | .int, [.int i] => .ok (.int i, h)
  | .int, [.bl b] => .ok (.int (if b then 1 else 0), h)
  | .len, [.str s] => if s.length ≤ LL then .ok (.int s.length, h) else .no
  | .len, [.tup xs] => .ok (.int xs.length, h)
  | .len, [.lst xs] => .ok (.int xs.length, h)
  | .len, [.ref a] => match h[a]? with
    | some (.lst _ xs) => .ok (.int xs.length, h)
    | some (.dic _ kvs) => .ok (.int kvs.length, h)
    | _ => .no
  | .list, [.tup xs] => mkL box xs h
  | .list, [.lst xs] => mkL box xs h
  | .list, [.ref a] => match h[a]? with
    | some (.lst _ xs) => mkL box xs h
    | some (.dic false kvs) => mkL box (kvs.map (·.1)) h
    | _ => .no
  | .tuple, [.tup xs] => .ok (.tup xs, h)
  | .tuple, [.lst xs] => .ok (.tup xs, h)
  | .tuple, [.ref a] => match h[a]? with
    | some (.lst _ xs) => .ok (.tup xs, h)
    | some (.dic false kvs) => .ok (.tup (kvs.map (·.1)), h)
    | _ => .no
  | .max, [.int i, .int j] => .ok (.int (maxI i j), h)
  | .min, [.int i, .int j] => .ok (.int (minI i j), h)
  | .sum, [w] => match lseq h w with
    | some xs => match intsOf xs with
      | some ns => .ok (.int ns.sum, h)
      | none => .no
    | none => .no
  | .str, [.int i] => if i.natAbs.log2 < 1920 then .ok (.str (digitsOf i), h) else .no
  | _, _ => .no
/-- the built-in class of a value that has methods -/
inductive BT where
  | list | dict | str | tup
deriving Inhabited, DecidableEq
def bmT (x : W) (h : Hc) : Option BT := match x with
  | .str _ => some .str
  | .tup _ => some .tup
  | .lst _ => some .list
  | .ref a => match h[a]? with
    | some (.lst _ _) => some .list
    | some (.dic _ _) => some .dict
    | _ => none
  | _ => none
def bmHas (T : BT) (m : BM) : Bool := match T, m with
  | .list, .append => true
  | .dict, .pop => true
  | .dict, .get => true
  | _, _ => false
def bm (T : BT) (m : BM) (box : Bool) (o : W) (ws : List W) (h : Hc) : RW := match T, m, o, ws with
  | .list, .append, .ref a, [w] => match h[a]? with
    | some (.lst false xs) => if xs.length < LL then .ok (.non, h.set a (.lst false (xs ++ [w]))) else .no
    | _ => .no
  | .dict, .pop, .ref a, [k] => match h[a]? with
    | some (.dic false kvs) => if W.isKey k then match dget kvs k with
      | some v => .ok (v, h.set a (.dic false (ddel kvs k)))
      | none => .no
      else .no
    | _ => .no
  | .dict, .pop, .ref a, [k, d] => match h[a]? with
    | some (.dic false kvs) => if W.isKey k then match dget kvs k with
      | some v => .ok (v, h.set a (.dic false (ddel kvs k)))
      | none => .ok (d, h)
      else .no
    | _ => .no
  | .dict, .get, .ref a, [k] => match h[a]? with
    | some (.dic _ kvs) => if W.isKey k then .ok ((dget kvs k).getD .non, h) else .no
    | _ => .no
  | .dict, .get, .ref a, [k, d] => match h[a]? with
    | some (.dic _ kvs) => if W.isKey k then .ok ((dget kvs k).getD d, h) else .no
    | _ => .no
  | _, _, _, _ => .no

def genOf (g : GC) (box : Bool) (ws : List W) (h : Hc) : RW := match g with
  | .sum => match intsOf ws with
    | some ns => .ok (.int ns.sum, h)
    | none => .no
  | .tuple => .ok (.tup ws, h)
  | _ => .no

/-! ### expressions -/
def Sl.var (σ : Sl) (i : Nat) (h : Hc) : RW := match σ[i]? with
  | some (.v w) => .ok (w, h)
  | _ => .no
def wipeS (σ : Sl) : List Nat → Sl
  | [] => σ
  | i :: r => (wipeS σ r).set i .un
/-- a value that any, all take -/
def tr1 : W → Option Bool
  | .bl b => some b
  | .int i => some (i != 0)
  | _ => none
/-- any, all of a generator: it is left at the first that tells -/
def anyG (stop : Bool) (f : W → Hc → Res (Option W × Hc)) : List W → Hc → RW
  | [], h => .ok (.bl (!stop), h)
  | x :: r, h => (f x h).bind fun (o, h1) => match o with
    | none => anyG stop f r h1
    | some w => match tr1 w with
      | some b => if b == stop then .ok (.bl stop, h1) else anyG stop f r h1
      | none => .no
def genRun (g : GC) (box : Bool) (f : W → Hc → Res (Option W × Hc)) (xs : List W) (h : Hc) : RW := match g with
  | .any => anyG true f xs h
  | .all => anyG false f xs h
  | g => (turns f xs h).bind fun (ys, h1) => genOf g box ys h1
def catchT (hs : List (Nat × List Nat)) (r : RW) : RW := match r with
  | .exc c h => match hs.lookup c with
    | some s => .ok (.str s, h)
    | none => .no
  | r => r
/-- [1 for f in bad if told(f) != s] -/
def badRun (hs : List (Nat × List Nat)) (s : List Nat) (f : Nat → Hc → RW) : List Nat → Hc → RWs
  | [], h => .ok ([], h)
  | k :: r, h => (catchT hs (f k h)).bind fun (w, h1) => match isEq0 h1 w (.str s) with
    | some b => (badRun hs s f r h1).bind fun (ys, h2) => .ok (if b then ys else .int 1 :: ys, h2)
    | none => .no
/-- key, value, key, value .. -/
def dicOf (kvs : List (W × W)) : List W → Option (List (W × W))
  | [] => some kvs
  | k :: v :: r => if W.isKey k then dicOf (dput kvs k v) r else none
  | [_] => none
/-- what a value tells as a test -/
def tst (r : RW) : Res (Bool × Hc) := r.bind fun p => match truth p.2 p.1 with
  | some b => .ok (b, p.2)
  | none => .no

mutual
def evE (X : Ix) : E → Sl → Hc → RW
  | .var i, σ, h => σ.var i h
  | .lit w, _, h => .ok (w, h)
  | .glob g, _, h => match X.glob[g]? with
    | some w => .ok (w, h)
    | none => .no
  | .bin box op a b, σ, h => (evE X a σ h).bind fun (x, h1) => (evE X b σ h1).bind fun (y, h2) => binop op box h2 x y
  | .neg a, σ, h => (evE X a σ h).bind fun (x, h1) => match x with
    | .int i => .ok (.int (-i), h1)
    | _ => .no
  | .not a, σ, h => (tst (evE X a σ h)).bind fun (b, h1) => .ok (.bl (!b), h1)
  | .and es, σ, h => evAnd X es σ h
  | .or es, σ, h => evOr X es σ h
  | .andT es, σ, h => evAndT X es σ h
  | .orT es, σ, h => evOrT X es σ h
  | .cmp op a b, σ, h => (evE X a σ h).bind fun (x, h1) => (evE X b σ h1).bind fun (y, h2) => match cmpop op h2 x y with
    | some c => .ok (.bl c, h2)
    | none => .no
  | .cmp2 op op' a b c, σ, h => (evE X a σ h).bind fun (x, h1) => (evE X b σ h1).bind fun (y, h2) => match cmpop op h2 x y with
    | some true => (evE X c σ h2).bind fun (z, h3) => match cmpop op' h3 y z with
      | some k => .ok (.bl k, h3)
      | none => .no
    | some false => .ok (.bl false, h2)
    | none => .no
  | .ifx c a b, σ, h => (tst (evE X c σ h)).bind fun (k, h1) => if k then evE X a σ h1 else evE X b σ h1
  | .tup es, σ, h => (evEs X es σ h).bind fun (ws, h1) => .ok (.tup ws, h1)
  | .lst box es, σ, h => (evEs X es σ h).bind fun (ws, h1) => mkL box ws h1
  | .dic es, σ, h => (evEs X es σ h).bind fun (ws, h1) => match dicOf [] ws with
    | some kvs => .ok (.ref h1.length, h1 ++ [.dic false kvs])
    | none => .no
  | .idx a i, σ, h => (evE X a σ h).bind fun (x, h1) => (evE X i σ h1).bind fun (y, h2) => match index h2 x y with
    | some w => .ok (w, h2)
    | none => .no
  | .slice box a lo hi, σ, h => (evE X a σ h).bind fun (x, h1) => (partR (evE X lo σ h1)).bind fun (l, h2) => (partR (evE X hi σ h2)).bind fun (u, h3) => sliceW box h3 x l u
  | .rev box a, σ, h => (evE X a σ h).bind fun (x, h1) => match lseq h1 x with
    | some xs => mkL box xs.reverse h1
    | none => .no
  | .attr o f, σ, h => (evE X o σ h).bind fun (x, h1) => match attrW X h1 x f with
    | some w => .ok (w, h1)
    | none => .no
  | .call iso f es, σ, h => (evEs X es σ h).bind fun (ws, h1) => callI iso (X.call f) ws h1
  | .new C es, σ, h => match X.init C with
    | some f => (evEs X es σ h).bind fun (ws, h1) => newI C (X.call f) ws h1
    | none => .no
  | .meth o m es, σ, h => (evE X o σ h).bind fun (x, h1) => match insAt X h1 x with
    | some (_, C, fs) => match X.meth C m, fget fs m with
      | some f, none => (evEs X es σ h1).bind fun (ws, h2) => X.call f (x :: ws) h2
      | _, _ => .no
    | none => .no
  | .bi b box es, σ, h => (evEs X es σ h).bind fun (ws, h1) => bi b box ws h1
  | .bm m box o es, σ, h => (evE X o σ h).bind fun (x, h1) => match bmT x h1 with
    | some T => if bmHas T m then (evEs X es σ h1).bind fun (ws, h2) => bm T m box x ws h2 else .no
    | none => .no
  | .told t e, σ, h => catchT (X.told t) (evE X e σ h)
  | .lc box own t ik ies c e, σ, h => walkK .no .exc unR ik (fun h => evEs X ies σ h) (fun xs h1 => (noX (turns (fun x h => match stTg t x (wipeS σ own) with
      | some σ' => (evIf X c σ' h).bind fun (k, h') => if k then (evE X e σ' h').bind fun (w, h'') => .ok (some w, h'') else .ok (none, h')
      | none => .no) xs h1)).bind fun (ys, h2) => mkL box ys h2) h
  | .gen g box own t ik ies c e, σ, h => walkK .no .exc unR ik (fun h => evEs X ies σ h) (fun xs h1 => noX (genRun g box (fun x h => match stTg t x (wipeS σ own) with
      | some σ' => (evIf X c σ' h).bind fun (k, h') => if k then (evE X e σ' h').bind fun (w, h'') => .ok (some w, h'') else .ok (none, h')
      | none => .no) xs h1)) h
  | .bad i t s, σ, h => match σ[i]? with
    | some (.lams ids) => (badRun (X.told t) s (fun k h => X.lam k σ h) ids h).bind fun (ys, h1) => .ok (.lst ys, h1)
    | _ => .no
def evAnd (X : Ix) : List E → Sl → Hc → RW
  | [], _, _ => .no
  | [e], σ, h => evE X e σ h
  | e :: r, σ, h => (evE X e σ h).bind fun (w, h1) => match truth h1 w with
    | some true => evAnd X r σ h1
    | some false => .ok (w, h1)
    | none => .no
def evOr (X : Ix) : List E → Sl → Hc → RW
  | [], _, _ => .no
  | [e], σ, h => evE X e σ h
  | e :: r, σ, h => (evE X e σ h).bind fun (w, h1) => match truth h1 w with
    | some true => .ok (w, h1)
    | some false => evOr X r σ h1
    | none => .no
def evAndT (X : Ix) : List E → Sl → Hc → RW
  | [], _, h => .ok (.bl true, h)
  | e :: r, σ, h => (tst (evE X e σ h)).bind fun (b, h1) => if b then evAndT X r σ h1 else .ok (.bl false, h1)
def evOrT (X : Ix) : List E → Sl → Hc → RW
  | [], _, h => .ok (.bl false, h)
  | e :: r, σ, h => (tst (evE X e σ h)).bind fun (b, h1) => if b then .ok (.bl true, h1) else evOrT X r σ h1
/-- a comprehension's tests: none, or one -/
def evIf (X : Ix) : List E → Sl → Hc → Res (Bool × Hc)
  | [], _, h => .ok (true, h)
  | e :: _, σ, h => tst (evE X e σ h)
def evEs (X : Ix) : List E → Sl → Hc → RWs
  | [], _, h => .ok ([], h)
  | e :: r, σ, h => (evE X e σ h).bind fun (w, h1) => (evEs X r σ h1).bind fun (ws, h2) => .ok (w :: ws, h2)
end

/-! ### statements -/
/-- a target of a, b = x, y -/
inductive PTg where
  | n (i : Nat) | s (o i : E) | a (o : E) (f : Nat)
deriving Inhabited
inductive S where
  | pass | brk | cnt | expr (e : E) | ret (e : List E)
  | asg (t : Tg) (e : E) | setSub (o i e : E) | setAttr (o : E) (f : Nat) (e : E) | par (ts : List PTg) (es : List E)
  | augN (i : Nat) (op : Operator) (e : E) | augA (o : E) (f : Nat) (op : Operator) (e : E) | augS (o i : E) (op : Operator) (e : E)
  | del (o i : E)
  | ite (c : E) (a b : List S) | whl (c : E) (b : List S) | for (t : Tg) (ik : IK) (ies : List E) (b : List S)
  | raise (c : Nat) | tryRet (e : E) (hs : List (Nat × List Nat))
  | bads (i : Nat) (more : Bool) (ids : List Nat)
deriving Inhabited
inductive Out where
  | nx (σ : Sl) (h : Hc) | rt (w : W) (h : Hc) | bk (σ : Sl) (h : Hc) | ct (σ : Sl) (h : Hc) | exc (c : Nat) (h : Hc) | no
/-- what follows a value -/
def Out.of {α : Type} (r : Res α) (f : α → Out) : Out := match r with
  | .ok a => f a
  | .exc c h => .exc c h
  | .no => .no
def Out.then (o : Out) (f : Sl → Hc → Out) : Out := match o with
  | .nx σ h => f σ h
  | o => o
def Out.unlock (a : Nat) (o : Out) : Out := match o with
  | .nx σ h => .nx σ (unlockH a h)
  | .rt w h => .rt w (unlockH a h)
  | .bk σ h => .bk σ (unlockH a h)
  | .ct σ h => .ct σ (unlockH a h)
  | o => o
/-- o[i] = w -/
def setItemW (h : Hc) (o i w : W) : Option Hc := match o with
  | .ref a => match h[a]?, i with
    | some (.lst false xs), .int k => (idxN xs.length k).map fun j => h.set a (.lst false (xs.set j w))
    | some (.dic false kvs), k => if W.isKey k ∧ kvs.length < LL then some (h.set a (.dic false (dput kvs k w))) else none
    | _, _ => none
  | _ => none
def delItemW (h : Hc) (o i : W) : Option Hc := match o with
  | .ref a => match h[a]? with
    | some (.dic false kvs) => if W.isKey i ∧ (dget kvs i).isSome then some (h.set a (.dic false (ddel kvs i))) else none
    | _ => none
  | _ => none
def nxO (σ : Sl) : Option Hc → Out
  | some h => .nx σ h
  | none => .no
def forL (f : W → Sl → Hc → Out) : List W → Sl → Hc → Out
  | [], σ, h => .nx σ h
  | x :: r, σ, h => match f x σ h with
    | .nx σ' h' => forL f r σ' h'
    | .ct σ' h' => forL f r σ' h'
    | .bk σ' h' => .nx σ' h'
    | o => o
def whlL (c : Sl → Hc → Res (Bool × Hc)) (b : Sl → Hc → Out) : Nat → Sl → Hc → Out
  | 0, _, _ => .no
  | n + 1, σ, h => Out.of (c σ h) fun (k, h1) => if k then (match b σ h1 with
    | .nx σ' h' => whlL c b n σ' h'
    | .ct σ' h' => whlL c b n σ' h'
    | .bk σ' h' => .nx σ' h'
    | o => o) else .nx σ h1
def stPT (X : Ix) (t : PTg) (w : W) (σ : Sl) (h : Hc) : Out := match t with
  | .n i => if i < σ.length then .nx (σ.set i (.v w)) h else .no
  | .s o i => Out.of (evE X o σ h) fun (x, h1) => Out.of (evE X i σ h1) fun (y, h2) => nxO σ (setItemW h2 x y w)
  | .a o f => Out.of (evE X o σ h) fun (x, h1) => nxO σ (setAttrW X h1 x f w)
def stPTs (X : Ix) : List PTg → List W → Sl → Hc → Out
  | [], [], σ, h => .nx σ h
  | t :: ts, w :: ws, σ, h => (stPT X t w σ h).then fun σ h => stPTs X ts ws σ h
  | _, _, _, _ => .no
mutual
def exS (X : Ix) : S → Sl → Hc → Out
  | .pass, σ, h => .nx σ h
  | .brk, σ, h => .bk σ h
  | .cnt, σ, h => .ct σ h
  | .expr e, σ, h => Out.of (evE X e σ h) fun (_, h1) => .nx σ h1
  | .ret [], _, h => .rt .non h
  | .ret (e :: _), σ, h => Out.of (evE X e σ h) fun (w, h1) => .rt w h1
  | .asg t e, σ, h => Out.of (evE X e σ h) fun (w, h1) => match stTg t w σ with
    | some σ' => .nx σ' h1
    | none => .no
  | .setSub o i e, σ, h => Out.of (evE X e σ h) fun (w, h1) => Out.of (evE X o σ h1) fun (x, h2) => Out.of (evE X i σ h2) fun (y, h3) => nxO σ (setItemW h3 x y w)
  | .setAttr o f e, σ, h => Out.of (evE X e σ h) fun (w, h1) => Out.of (evE X o σ h1) fun (x, h2) => nxO σ (setAttrW X h2 x f w)
  | .par ts es, σ, h => Out.of (evEs X es σ h) fun (ws, h1) => stPTs X ts ws σ h1
  | .augN i op e, σ, h => Out.of (σ.var i h) fun (x, h0) => Out.of (evE X e σ h0) fun (y, h1) => Out.of (iop op h1 x y) fun (w, h2) => .nx (σ.set i (.v w)) h2
  | .augA o f op e, σ, h => Out.of (evE X o σ h) fun (x, h1) => match attrW X h1 x f with
    | some z => Out.of (evE X e σ h1) fun (y, h2) => Out.of (iop op h2 z y) fun (w, h3) => if clsW X h1 x = clsW X h3 x then nxO σ (setAttrW X h3 x f w) else .no
    | none => .no
  | .augS o i op e, σ, h => Out.of (evE X o σ h) fun (x, h1) => Out.of (evE X i σ h1) fun (k, h2) => match getW h2 x k with
    | some z => Out.of (evE X e σ h2) fun (y, h3) => Out.of (iop op h3 z y) fun (w, h4) => nxO σ (setItemW h4 x k w)
    | none => .no
  | .del o i, σ, h => Out.of (evE X o σ h) fun (x, h1) => Out.of (evE X i σ h1) fun (y, h2) => nxO σ (delItemW h2 x y)
  | .ite c a b, σ, h => Out.of (tst (evE X c σ h)) fun (k, h1) => if k then exB X a σ h1 else exB X b σ h1
  | .whl c b, σ, h => whlL (fun σ h => tst (evE X c σ h)) (fun σ h => exB X b σ h) X.fuel σ h
  | .for t ik ies b, σ, h => walkK .no .exc Out.unlock ik (fun h => evEs X ies σ h) (fun xs h1 => forL (fun x σ h => match stTg t x σ with
      | some σ' => exB X b σ' h
      | none => .no) xs σ h1) h
  | .raise c, _, h => .exc c h
  | .tryRet e hs, σ, h => match evE X e σ h with
    | .ok (w, h1) => .rt w h1
    | .exc c h1 => match hs.lookup c with
      | some s => .rt (.str s) h1
      | none => .exc c h1
    | .no => .no
  | .bads i more ids, σ, h => match more, σ[i]? with
    | true, some (.lams js) => if js.length ≤ 1000 then .nx (σ.set i (.lams (js ++ ids))) h else .no
    | false, some _ => .nx (σ.set i (.lams ids)) h
    | _, _ => .no
def exB (X : Ix) : List S → Sl → Hc → Out
  | [], σ, h => .nx σ h
  | s :: r, σ, h => (exS X s σ h).then fun σ h => exB X r σ h
end

/-! ### programs -/
structure Fn where
  np : Nat
  ns : Nat
  dfl : List W
  body : List S
deriving Inhabited
structure Pg where
  fns : List Fn
  glob : List W
  init : List (Option Nat)
  meth : Nat → Nat → Option Nat
  told : List (List (Nat × List Nat))
  lams : List E
  fuel : Nat
def Pg.cx0 (P : Pg) (call : Nat → List W → Hc → RW) : Ix where
  glob := P.glob
  call := call
  init := fun C => (P.init[C]?).join
  meth := P.meth
  told := fun t => P.told.getD t []
  lam := fun _ _ _ => .no
  fuel := P.fuel
def Pg.cx (P : Pg) (call : Nat → List W → Hc → RW) : Ix where
  glob := P.glob
  call := call
  init := fun C => (P.init[C]?).join
  meth := P.meth
  told := fun t => P.told.getD t []
  lam := fun k σ h => match P.lams[k]? with
    | some e => evE (P.cx0 call) e σ h
    | none => .no
  fuel := P.fuel
def Fn.args (F : Fn) (ws : List W) : Option (List W) :=
  if F.np - F.dfl.length ≤ ws.length ∧ ws.length ≤ F.np then some (ws ++ F.dfl.drop (ws.length - (F.np - F.dfl.length))) else none
def Fn.start (F : Fn) (ws : List W) : Sl := ws.map .v ++ List.replicate (F.ns - ws.length) .un
def callN (P : Pg) : Nat → Nat → List W → Hc → RW
  | 0, _, _, _ => .no
  | n + 1, f, ws, h => match P.fns[f]? with
    | none => .no
    | some F => match F.args ws with
      | none => .no
      | some ws => match exB (P.cx (callN P n)) F.body (F.start ws) h with
        | .nx _ h' => .ok (.non, h')
        | .rt w h' => .ok (w, h')
        | .exc c h' => .exc c h'
        | _ => .no
end PyI

set_option Elab.async false
set_option linter.all false
set_option maxRecDepth 100000
set_option maxHeartbeats 1000000
/-! PyI1: what stands in the machine's abstract heap for the interpreter's. -/
namespace PyI
open PySem PySem.Spec PyProof.Rows L2

def ofL (s : List Nat) : Str := ⟨s.toArray⟩
theorem ofL_toL (s : List Nat) : (ofL s).cps.toList = s := by simp [ofL]
theorem ofL_inj {s t : List Nat} (h : ofL s = ofL t) : s = t := by
  have := congrArg (fun x : Str => x.cps.toList) h
  simpa [ofL] using this
theorem ofL_of (x : Str) : ofL x.cps.toList = x := by cases x; simp [ofL]
theorem ofL_length (s : List Nat) : (ofL s).length = s.length := by simp [ofL, Str.length]

/-- a tuple of the module's own -/
def KTup (K : PySem.W.Frag) (a : Addr) (xs : List V) : Prop :=
  ∃ (o : Obj) (its : Array Value) (n : Nat), K.lookup a = some o ∧ o.cls = .type "tuple" ∧ o.data = .seq its n ∧ its.size ≤ sizeLine ∧ Vals xs its.toList
def TupAt (K : PySem.W.Frag) (H : Hp) (a : Addr) (vs : List V) : Prop := H a = some (.tup vs) ∨ KTup K a vs
theorem TupAt.sq {K : PySem.W.Frag} {H : Hp} {a : Addr} {vs : List V} (h : TupAt K H a vs) : SqT K H a vs := h.elim (fun e => .inl (.inl e)) .inr

/-- a list of the module's own -/
def KLst (K : PySem.W.Frag) (a : Addr) (xs : List V) : Prop :=
  ∃ (o : Obj) (its : Array Value) (n : Nat), K.lookup a = some o ∧ o.cls = .type "list" ∧ o.dict = none ∧ o.data = .seq its n ∧ its.size ≤ sizeLine ∧ Vals xs its.toList
/-- a list that stays as it is -/
def FrzAt (K : PySem.W.Frag) (β : List Addr) (F : Addr → Prop) (H : Hp) (a : Addr) (vs : List V) : Prop := (∃ o, H a = some (.frz o (.lst vs)) ∧ a ∉ β ∧ ¬ F a) ∨ KLst K a vs
theorem FrzAt.sq {K : PySem.W.Frag} {β : List Addr} {F : Addr → Prop} {H : Hp} {a : Addr} {vs : List V} (h : FrzAt K β F H a vs) : SqL K H a vs := by
  rcases h with ⟨o, e, _⟩ | h
  · exact .inl (.inr ⟨o, e⟩)
  · exact .inr h
section
variable (K : PySem.W.Frag) (β : List Addr) (F : Addr → Prop) (H : Hp)
mutual
def RV : W → V → Prop
  | .non, v => v = .non
  | .bl b, v => v = .bl b
  | .int i, v => v = .int i
  | .str s, v => v = .str (ofL s)
  | .tup xs, v => ∃ a vs, v = .ref a ∧ TupAt K H a vs ∧ RVs xs vs
  | .lst xs, v => ∃ a vs, v = .ref a ∧ H a = some (.lst vs) ∧ a ∉ β ∧ ¬ F a ∧ RVs xs vs
  | .frz xs, v => ∃ a vs, v = .ref a ∧ FrzAt K β F H a vs ∧ RVs xs vs
  | .ref i, v => ∃ a, β[i]? = some a ∧ v = .ref a
def RVs : List W → List V → Prop
  | [], vs => vs = []
  | x :: xs, vs => ∃ v r, vs = v :: r ∧ RV x v ∧ RVs xs r
end
end

/-- something stands there, and it is no table of code objects -/
def Th (H : Hp) (a : Addr) : Prop := ∃ o, H a = some o ∧ ∀ ps, o ≠ HO.tbl ps
theorem Th.ne {H : Hp} {a : Addr} (h : Th H a) : H a ≠ none := by
  obtain ⟨o, e, _⟩ := h
  rw [e]
  simp
/-- the machine is further on -/
structure Step (β : List Addr) (H : Hp) (β1 : List Addr) (H1 : Hp) : Prop where
  pre : β <+: β1
  keep : ∀ a o, H a = some o → a ∉ β → (∀ ps, o ≠ .tbl ps) → H1 a = some o
  new : ∀ a, a ∈ β1 → a ∉ β → ¬ Th H a
  there : ∀ a, Th H a → Th H1 a
  tups : ∀ a xs, H a = some (.tup xs) → H1 a = some (.tup xs)
  frzs : ∀ a o u, H a = some (.frz o u) → H1 a = some (.frz o u)
theorem Step.refl (β : List Addr) (H : Hp) : Step β H β H := ⟨List.prefix_refl _, fun _ _ h _ _ => h, fun _ h n => absurd h n, fun _ h => h, fun _ _ h => h, fun _ _ _ h => h⟩
theorem Step.trans {β β1 β2 : List Addr} {H H1 H2 : Hp} (s : Step β H β1 H1) (t : Step β1 H1 β2 H2) : Step β H β2 H2 := by
  refine ⟨s.pre.trans t.pre, fun a o h n nt => ?_, fun a h2 n => ?_, fun a h => t.there a (s.there a h), fun a xs h => t.tups a xs (s.tups a xs h), fun a o u h => t.frzs a o u (s.frzs a o u h)⟩
  · exact t.keep a o (s.keep a o h n nt) (fun h1 => s.new a h1 n ⟨o, h, nt⟩) nt
  · intro z
    by_cases h1 : a ∈ β1
    · exact s.new a h1 n z
    · exact t.new a h2 h1 (s.there a z)
section
variable {K : PySem.W.Frag} {β β1 : List Addr} {F : Addr → Prop} {H H1 : Hp}
theorem TupAt.step (s : Step β H β1 H1) {a : Addr} {vs : List V} (h : TupAt K H a vs) : TupAt K H1 a vs := h.elim (fun e => .inl (s.tups a vs e)) .inr
mutual
theorem RV.step (s : Step β H β1 H1) : ∀ (w : W) (v : V), RV K β F H w v → RV K β1 F H1 w v
  | .non, v, h => by unfold RV at h ⊢; exact h
  | .bl b, v, h => by unfold RV at h ⊢; exact h
  | .int b, v, h => by unfold RV at h ⊢; exact h
  | .str b, v, h => by unfold RV at h ⊢; exact h
  | .tup xs, v, h => by
    unfold RV at h ⊢
    obtain ⟨a, vs, e, ht, hr⟩ := h
    exact ⟨a, vs, e, ht.step s, RVs.step s xs vs hr⟩
  | .lst xs, v, h => by
    unfold RV at h ⊢
    obtain ⟨a, vs, e, ht, n, nf, hr⟩ := h
    refine ⟨a, vs, e, s.keep a _ ht n (fun ps z => by cases z), fun h1 => ?_, nf, RVs.step s xs vs hr⟩
    exact s.new a h1 n ⟨_, ht, fun ps z => by cases z⟩
  | .frz xs, v, h => by
    unfold RV at h ⊢
    obtain ⟨a, vs, e, ht, hr⟩ := h
    refine ⟨a, vs, e, ?_, RVs.step s xs vs hr⟩
    rcases ht with ⟨o, ht, n, nf⟩ | ht
    · exact .inl ⟨o, s.keep a _ ht n (fun ps z => by cases z), fun h1 => s.new a h1 n ⟨_, ht, fun ps z => by cases z⟩, nf⟩
    · exact .inr ht
  | .ref i, v, h => by
    unfold RV at h ⊢
    obtain ⟨a, e, ev⟩ := h
    obtain ⟨r, hr⟩ := s.pre
    refine ⟨a, ?_, ev⟩
    rw [← hr]
    exact List.getElem?_append_left (List.getElem?_eq_some_iff.mp e).1 ▸ e
theorem RVs.step (s : Step β H β1 H1) : ∀ (ws : List W) (vs : List V), RVs K β F H ws vs → RVs K β1 F H1 ws vs
  | [], vs, h => by unfold RVs at h ⊢; exact h
  | w :: ws, vs, h => by
    unfold RVs at h ⊢
    obtain ⟨v, r, e, h1, h2⟩ := h
    exact ⟨v, r, e, RV.step s w v h1, RVs.step s ws r h2⟩
end
theorem RVs.nil {vs : List V} : RVs K β F H [] vs ↔ vs = [] := by unfold RVs; rfl
theorem RVs.cons {w : W} {ws : List W} {vs : List V} : RVs K β F H (w :: ws) vs ↔ ∃ v r, vs = v :: r ∧ RV K β F H w v ∧ RVs K β F H ws r := by
  conv => lhs; unfold RVs
theorem RVs.mk {w : W} {ws : List W} {v : V} {vs : List V} (h : RV K β F H w v) (hs : RVs K β F H ws vs) : RVs K β F H (w :: ws) (v :: vs) := RVs.cons.mpr ⟨v, vs, rfl, h, hs⟩
theorem RVs.length : ∀ {ws : List W} {vs : List V}, RVs K β F H ws vs → ws.length = vs.length
  | [], vs, h => by rw [RVs.nil.mp h]; rfl
  | w :: ws, vs, h => by
    obtain ⟨v, r, rfl, _, h2⟩ := RVs.cons.mp h
    simp [RVs.length h2]
theorem RVs.append : ∀ {ws us : List W} {vs zs : List V}, RVs K β F H ws vs → RVs K β F H us zs → RVs K β F H (ws ++ us) (vs ++ zs)
  | [], us, vs, zs, h, h' => by rw [RVs.nil.mp h]; exact h'
  | w :: ws, us, vs, zs, h, h' => by
    obtain ⟨v, r, rfl, h1, h2⟩ := RVs.cons.mp h
    exact RVs.mk h1 (RVs.append h2 h')
theorem RVs.get : ∀ {ws : List W} {vs : List V} {i : Nat} {w : W}, RVs K β F H ws vs → ws[i]? = some w → ∃ v, vs[i]? = some v ∧ RV K β F H w v
  | [], vs, i, w, h, e => by simp at e
  | x :: ws, vs, 0, w, h, e => by
    obtain ⟨v, r, rfl, h1, h2⟩ := RVs.cons.mp h
    simp at e
    subst e
    exact ⟨v, rfl, h1⟩
  | x :: ws, vs, i + 1, w, h, e => by
    obtain ⟨v, r, rfl, h1, h2⟩ := RVs.cons.mp h
    simp at e
    obtain ⟨u, e1, e2⟩ := RVs.get h2 e
    exact ⟨u, by simpa using e1, e2⟩
theorem RVs.getV {ws : List W} {vs : List V} {i : Nat} {v : V} (h : RVs K β F H ws vs) (e : vs[i]? = some v) : ∃ w, ws[i]? = some w ∧ RV K β F H w v := by
  have hl := h.length
  have hi : i < ws.length := by rw [hl]; exact (List.getElem?_eq_some_iff.mp e).1
  obtain ⟨u, e1, e2⟩ := h.get (List.getElem?_eq_getElem hi)
  rw [e] at e1
  cases e1
  exact ⟨_, List.getElem?_eq_getElem hi, e2⟩
theorem RVs.take : ∀ {ws : List W} {vs : List V} (n : Nat), RVs K β F H ws vs → RVs K β F H (ws.take n) (vs.take n)
  | [], vs, n, h => by rw [RVs.nil.mp h]; simpa using RVs.nil.mpr rfl
  | w :: ws, vs, 0, h => by simpa using RVs.nil.mpr rfl
  | w :: ws, vs, n + 1, h => by
    obtain ⟨v, r, rfl, h1, h2⟩ := RVs.cons.mp h
    simpa using RVs.mk h1 (RVs.take n h2)
theorem RVs.drop : ∀ {ws : List W} {vs : List V} (n : Nat), RVs K β F H ws vs → RVs K β F H (ws.drop n) (vs.drop n)
  | [], vs, n, h => by rw [RVs.nil.mp h]; simpa using RVs.nil.mpr rfl
  | w :: ws, vs, 0, h => by simpa using h
  | w :: ws, vs, n + 1, h => by
    obtain ⟨v, r, rfl, h1, h2⟩ := RVs.cons.mp h
    simpa using RVs.drop n h2
theorem RVs.set : ∀ {ws : List W} {vs : List V} (i : Nat) {w : W} {v : V}, RVs K β F H ws vs → RV K β F H w v → RVs K β F H (ws.set i w) (vs.set i v)
  | [], vs, i, w, v, h, _ => by rw [RVs.nil.mp h]; simpa using RVs.nil.mpr rfl
  | x :: ws, vs, 0, w, v, h, h' => by
    obtain ⟨u, r, rfl, h1, h2⟩ := RVs.cons.mp h
    simpa using RVs.mk h' h2
  | x :: ws, vs, i + 1, w, v, h, h' => by
    obtain ⟨u, r, rfl, h1, h2⟩ := RVs.cons.mp h
    simpa using RVs.mk h1 (RVs.set i h2 h')
theorem RVs.reverse : ∀ {ws : List W} {vs : List V}, RVs K β F H ws vs → RVs K β F H ws.reverse vs.reverse
  | [], vs, h => by rw [RVs.nil.mp h]; simpa using RVs.nil.mpr rfl
  | w :: ws, vs, h => by
    obtain ⟨v, r, rfl, h1, h2⟩ := RVs.cons.mp h
    rw [List.reverse_cons, List.reverse_cons]
    exact RVs.append (RVs.reverse h2) (RVs.mk h1 (RVs.nil.mpr rfl))
theorem RVs.flatten {ws : List W} {vs : List V} (h : RVs K β F H ws vs) : ∀ n : Nat, RVs K β F H (List.replicate n ws).flatten (List.replicate n vs).flatten
  | 0 => by simpa using RVs.nil.mpr rfl
  | n + 1 => by
    rw [List.replicate_succ, List.replicate_succ, List.flatten_cons, List.flatten_cons]
    exact RVs.append h (RVs.flatten h n)
theorem RVs.isEmpty {ws : List W} {vs : List V} (h : RVs K β F H ws vs) : ws.isEmpty = vs.isEmpty := by
  have := h.length
  cases ws <;> cases vs <;> simp_all
/-! what is told of a value that is no address of ours does not lean on ours -/
mutual
theorem RV.nref {β' : List Addr} {F' : Addr → Prop} (hb : ∀ a, a ∉ β → ¬ F a → H a ≠ none → a ∉ β' ∧ ¬ F' a) : ∀ (w : W) (v : V), W.nref w = true → RV K β F H w v → RV K β' F' H w v
  | .non, v, _, h => by unfold RV at h ⊢; exact h
  | .bl b, v, _, h => by unfold RV at h ⊢; exact h
  | .int b, v, _, h => by unfold RV at h ⊢; exact h
  | .str b, v, _, h => by unfold RV at h ⊢; exact h
  | .tup xs, v, n, h => by
    unfold RV at h ⊢
    unfold W.nref at n
    obtain ⟨a, vs, e, ht, hr⟩ := h
    exact ⟨a, vs, e, ht, RVs.nref hb xs vs n hr⟩
  | .lst xs, v, n, h => by
    unfold RV at h ⊢
    unfold W.nref at n
    obtain ⟨a, vs, e, ht, n1, nf, hr⟩ := h
    obtain ⟨q1, q2⟩ := hb a n1 nf (by rw [ht]; simp)
    exact ⟨a, vs, e, ht, q1, q2, RVs.nref hb xs vs n hr⟩
  | .frz xs, v, n, h => by
    unfold RV at h ⊢
    unfold W.nref at n
    obtain ⟨a, vs, e, ht, hr⟩ := h
    refine ⟨a, vs, e, ?_, RVs.nref hb xs vs n hr⟩
    rcases ht with ⟨o, ht, n1, nf⟩ | ht
    · obtain ⟨q1, q2⟩ := hb a n1 nf (by rw [ht]; simp)
      exact .inl ⟨o, ht, q1, q2⟩
    · exact .inr ht
  | .ref i, v, n, h => by unfold W.nref at n; cases n
theorem RVs.nref {β' : List Addr} {F' : Addr → Prop} (hb : ∀ a, a ∉ β → ¬ F a → H a ≠ none → a ∉ β' ∧ ¬ F' a) : ∀ (ws : List W) (vs : List V), W.nrefs ws = true → RVs K β F H ws vs → RVs K β' F' H ws vs
  | [], vs, _, h => by unfold RVs at h ⊢; exact h
  | w :: ws, vs, n, h => by
    unfold RVs at h ⊢
    unfold W.nrefs at n
    rw [Bool.and_eq_true] at n
    obtain ⟨v, r, e, h1, h2⟩ := h
    exact ⟨v, r, e, RV.nref hb w v n.1 h1, RVs.nref hb ws r n.2 h2⟩
end
end

/-! ### the heap -/
/-- the key of a dict -/
def keyOf : W → Key
  | .int i => .inl i
  | .str s => .inr (ofL s)
  | _ => .inl 0
theorem keq_iff {a b : W} (ha : a.isKey = true) (hb : b.isKey = true) : W.keq a b = decide (keyOf a = keyOf b) := by
  cases a <;> simp [W.isKey] at ha <;> cases b <;> simp [W.isKey] at hb <;> simp [W.keq, keyOf]
  · rename_i i j
    by_cases e : i = j <;> simp [e]
  · rename_i s t
    by_cases e : s = t
    · simp [e]
    · have : ¬ ofL s = ofL t := fun q => e (ofL_inj q)
      simp [e, this]
theorem kV_keyOf {K : PySem.W.Frag} {β : List Addr} {F : Addr → Prop} {H : Hp} {a : W} (ha : a.isKey = true) : RV K β F H a (kV (keyOf a)) := by
  cases a <;> simp [W.isKey] at ha <;> simp [keyOf, kV, RV]
theorem RV.key {K : PySem.W.Frag} {β : List Addr} {F : Addr → Prop} {H : Hp} {a : W} {v : V} (ha : a.isKey = true) (h : RV K β F H a v) : v = kV (keyOf a) := by
  cases a <;> simp [W.isKey] at ha <;> simp [RV] at h <;> simp [keyOf, kV, h]
def RKV (K : PySem.W.Frag) (β : List Addr) (F : Addr → Prop) (H : Hp) (p : W × W) (q : Key × V) : Prop := p.1.isKey = true ∧ keyOf p.1 = q.1 ∧ RV K β F H p.2 q.2
abbrev RKVs (K : PySem.W.Frag) (β : List Addr) (F : Addr → Prop) (H : Hp) : List (W × W) → List (Key × V) → Prop := Paired (RKV K β F H)
def RFd (K : PySem.W.Frag) (β : List Addr) (F : Addr → Prop) (H : Hp) (nm : List Str) (p : Nat × W) (q : Str × V) : Prop := nm[p.1]? = some q.1 ∧ RV K β F H p.2 q.2
abbrev RFs (K : PySem.W.Frag) (β : List Addr) (F : Addr → Prop) (H : Hp) (nm : List Str) : List (Nat × W) → List (Str × V) → Prop := Paired (RFd K β F H nm)

/-- what is told of the program: its written part, its names, its classes, its tables of code objects -/
structure Gm where
  K : PySem.W.Frag
  nm : List Str
  cls : Nat → Addr
  exc : Nat → Addr
  T : List (Addr × Str)
def OR (Γ : Gm) (β : List Addr) (F : Addr → Prop) (H : Hp) (a : Addr) : CO → Prop
  | .lst false xs => ∃ vs, H a = some (.lst vs) ∧ RVs Γ.K β F H xs vs
  | .lst true xs => ∃ vs o, H a = some (.frz o (.lst vs)) ∧ RVs Γ.K β F H xs vs
  | .dic false kvs => ∃ ks, H a = some (.dK ks) ∧ RKVs Γ.K β F H kvs ks
  | .dic true kvs => ∃ ks o, H a = some (.frz o (.dK ks)) ∧ RKVs Γ.K β F H kvs ks
  | .ins C fs => ∃ dx gs, H a = some (.ins (Γ.cls C) dx gs) ∧ RFs Γ.K β F H Γ.nm fs gs
structure Rel (Γ : Gm) (β : List Addr) (F : Addr → Prop) (h : Hc) (H : Hp) : Prop where
  nd : β.Nodup
  len : β.length = h.length
  av : ∀ a ∈ β, ¬ F a
  fr : ∀ a, F a → Th H a
  th : ∀ a ∈ β, Th H a
  ob : ∀ (i : Nat) (o : CO) (a : Addr), h[i]? = some o → β[i]? = some a → OR Γ β F H a o
  tb : LamX.Tabs Γ.T H
theorem RKVs.step {K : PySem.W.Frag} {β β1 : List Addr} {F : Addr → Prop} {H H1 : Hp} (s : Step β H β1 H1) {kvs : List (W × W)} {ks : List (Key × V)} (r : RKVs K β F H kvs ks) : RKVs K β1 F H1 kvs ks :=
  L2.Paired.mapP r fun _ _ ⟨a, b, c⟩ => ⟨a, b, RV.step s _ _ c⟩
theorem RFs.step {K : PySem.W.Frag} {β β1 : List Addr} {F : Addr → Prop} {H H1 : Hp} {nm : List Str} (s : Step β H β1 H1) {kvs : List (Nat × W)} {ks : List (Str × V)} (r : RFs K β F H nm kvs ks) : RFs K β1 F H1 nm kvs ks :=
  L2.Paired.mapP r fun _ _ ⟨a, c⟩ => ⟨a, RV.step s _ _ c⟩
/-- what stands at a in the same way there -/
theorem OR.step {Γ : Gm} {β β1 : List Addr} {F : Addr → Prop} {H H1 : Hp} {a : Addr} (s : Step β H β1 H1) (e : H1 a = H a) : ∀ {o : CO}, OR Γ β F H a o → OR Γ β1 F H1 a o
  | .lst false xs, ⟨vs, h1, h2⟩ => ⟨vs, by rw [e]; exact h1, RVs.step s _ _ h2⟩
  | .lst true xs, ⟨vs, o, h1, h2⟩ => ⟨vs, o, by rw [e]; exact h1, RVs.step s _ _ h2⟩
  | .dic false kvs, ⟨ks, h1, h2⟩ => ⟨ks, by rw [e]; exact h1, h2.step s⟩
  | .dic true kvs, ⟨ks, o, h1, h2⟩ => ⟨ks, o, by rw [e]; exact h1, h2.step s⟩
  | .ins C fs, ⟨dx, gs, h1, h2⟩ => ⟨dx, gs, by rw [e]; exact h1, h2.step s⟩
section
variable {Γ : Gm} {β β1 : List Addr} {F : Addr → Prop} {h : Hc} {H H1 : Hp}
/-- the tables that tell code objects stay tables, at least -/
theorem tabs_upd {T : List (Addr × Str)} {H : Hp} {p : Addr} {o : HO} (t : LamX.Tabs T H) (hp : ∀ ps, H p ≠ some (.tbl ps)) (hc : ∀ c q, H c = some (LamX.CodeO c q) → c ≠ p) : LamX.Tabs T (upd H p o) := fun x hx => by
  obtain ⟨ps, h1, h2, h3⟩ := t x hx
  refine ⟨ps, ?_, h2, fun pos cv hcv => ?_⟩
  · rw [upd_ne (fun z => hp ps (by rw [← z]; exact h1))]
    exact h1
  · obtain ⟨c, e1, e2⟩ := h3 pos cv hcv
    refine ⟨c, e1, ?_⟩
    rw [upd_ne (hc c _ e2)]
    exact e2
theorem Rel.get (R : Rel Γ β F h H) {i : Nat} {o : CO} (e : h[i]? = some o) : ∃ a, β[i]? = some a ∧ OR Γ β F H a o := by
  have hi : i < β.length := by rw [R.len]; exact (List.getElem?_eq_some_iff.mp e).1
  exact ⟨β[i], List.getElem?_eq_getElem hi, R.ob i o _ e (List.getElem?_eq_getElem hi)⟩
/-- a step that leaves what is ours as it is -/
theorem Rel.quiet (R : Rel Γ β F h H) (s : Step β H β H1) (e : ∀ a ∈ β, H1 a = H a) (t : LamX.Tabs Γ.T H1) : Rel Γ β F h H1 :=
  ⟨R.nd, R.len, R.av, fun a fa => s.there a (R.fr a fa), fun a ha => s.there a (R.th a ha), fun i o a h1 h2 => (R.ob i o a h1 h2).step s (e a (List.mem_of_getElem? h2)), t⟩
theorem step_new {p : Addr} {o : HO} (hp : H p = none) : Step β H β (upd H p o) := by
  refine ⟨List.prefix_refl _, fun a u e n _ => ?_, fun _ h n => absurd h n, fun a e => ?_, fun a xs e => ?_, fun a o u e => ?_⟩
  · rw [upd_ne (ne_of_none e hp)]; exact e
  · obtain ⟨u, e, nt⟩ := e
    exact ⟨u, by rw [upd_ne (ne_of_none e hp)]; exact e, nt⟩
  · rw [upd_ne (ne_of_none e hp)]; exact e
  · rw [upd_ne (ne_of_none e hp)]; exact e
/-- a new object that is no one of ours -/
theorem Rel.fresh (R : Rel Γ β F h H) {p : Addr} {o : HO} (hp : H p = none) : Rel Γ β F h (upd H p o) :=
  R.quiet (step_new hp) (fun a ha => upd_ne fun z => (R.th a ha).ne (by rw [z]; exact hp)) (tabs_upd R.tb (fun ps z => by rw [hp] at z; cases z) fun c q e => ne_of_none e hp)
theorem step_mine {p : Addr} {o : HO} (hp : H p = none) : Step β H (β ++ [p]) (upd H p o) := by
  refine ⟨List.prefix_append _ _, (step_new (β := β) (o := o) hp).keep, fun a h n => ?_, (step_new (β := β) (o := o) hp).there, (step_new (β := β) (o := o) hp).tups, (step_new (β := β) (o := o) hp).frzs⟩
  rcases List.mem_append.mp h with h | h
  · exact absurd h n
  · rw [List.mem_singleton.mp h]; exact fun z => z.ne hp
/-- a new object of ours -/
theorem Rel.mine (R : Rel Γ β F h H) {p : Addr} {o : HO} {c : CO} (hp : H p = none) (hc : OR Γ (β ++ [p]) F (upd H p o) p c) (no : ∀ ps, o ≠ .tbl ps := by intro _ z; cases z) : Rel Γ (β ++ [p]) F (h ++ [c]) (upd H p o) := by
  have np : p ∉ β := fun z => (R.th p z).ne hp
  refine ⟨?_, by simp [R.len], fun a ha => ?_, fun a fa => (step_new (β := β) (o := o) hp).there a (R.fr a fa), fun a ha => ?_, fun i u a h1 h2 => ?_, (R.fresh (o := o) hp).tb⟩
  · rw [List.nodup_append]
    refine ⟨R.nd, by simp, fun a ha b hb => ?_⟩
    rw [List.mem_singleton.mp hb]
    intro z
    rw [z] at ha
    exact np ha
  · rcases List.mem_append.mp ha with ha | ha
    · exact R.av a ha
    · rw [List.mem_singleton.mp ha]
      exact fun z => (R.fr p z).ne hp
  · rcases List.mem_append.mp ha with ha | ha
    · exact (step_new (β := β) (o := o) hp).there a (R.th a ha)
    · rw [List.mem_singleton.mp ha]; exact ⟨o, upd_same, no⟩
  · by_cases hi : i < h.length
    · rw [List.getElem?_append_left hi] at h1
      rw [List.getElem?_append_left (by rw [R.len]; exact hi)] at h2
      exact (R.ob i u a h1 h2).step (step_mine hp) (upd_ne fun z => np (by rw [← z]; exact List.mem_of_getElem? h2))
    · have e : i = h.length := by
        have := (List.getElem?_eq_some_iff.mp h1).1
        simp at this
        omega
      subst e
      rw [List.getElem?_append_right (Nat.le_refl _)] at h1
      rw [List.getElem?_append_right (by rw [R.len]; exact Nat.le_refl _), R.len] at h2
      simp at h1 h2
      subst h1 h2
      exact hc
theorem step_write {p : Addr} {o u : HO} (hb : p ∈ β) (hp : H p = some u) (nt : ∀ xs, u ≠ .tup xs) (nf : ∀ o z, u ≠ .frz o z := by intro _ _ z; cases z) (no : ∀ ps, o ≠ .tbl ps := by intro _ z; cases z) : Step β H β (upd H p o) := by
  refine ⟨List.prefix_refl _, fun a z e n _ => ?_, fun _ h n => absurd h n, fun a e => ?_, fun a xs e => ?_, fun a o z e => ?_⟩
  · rw [upd_ne (fun q => n (by rw [q]; exact hb))]; exact e
  · by_cases q : a = p
    · rw [q]; exact ⟨o, upd_same, no⟩
    · obtain ⟨v, e, nv⟩ := e
      exact ⟨v, by rw [upd_ne q]; exact e, nv⟩
  · rw [upd_ne (fun q => nt xs (by rw [q, hp] at e; exact Option.some.inj e))]; exact e
  · rw [upd_ne (fun q => nf o z (by rw [q, hp] at e; exact Option.some.inj e))]; exact e
/-- an object of ours is written -/
theorem Rel.write (R : Rel Γ β F h H) {i : Nat} {p : Addr} {o u : HO} {c : CO} (hb : β[i]? = some p) (hp : H p = some u) (nt : ∀ xs, u ≠ .tup xs) (nb : ∀ ps, u ≠ .tbl ps) (nc : ∀ q, u ≠ LamX.CodeO p q)
    (hc : OR Γ β F (upd H p o) p c) (nf : ∀ o z, u ≠ .frz o z := by intro _ _ z; cases z) (no : ∀ ps, o ≠ .tbl ps := by intro _ z; cases z) : Rel Γ β F (h.set i c) (upd H p o) := by
  have hm : p ∈ β := List.mem_of_getElem? hb
  have s := step_write (β := β) (o := o) hm hp nt nf no
  refine ⟨R.nd, by simp [R.len], R.av, fun a fa => s.there a (R.fr a fa), fun a ha => s.there a (R.th a ha), fun j v a h1 h2 => ?_, tabs_upd R.tb (fun ps z => by rw [hp] at z; exact nb ps (Option.some.inj z)) fun c q e => fun z => by
    rw [z, hp] at e
    exact nc q (Option.some.inj e)⟩
  by_cases e : j = i
  · subst e
    rw [hb] at h2
    cases h2
    have hl : j < h.length := by rw [← R.len]; exact (List.getElem?_eq_some_iff.mp hb).1
    rw [List.getElem?_set_self hl] at h1
    cases h1
    exact hc
  · rw [List.getElem?_set_ne (Ne.symm e)] at h1
    refine (R.ob j v a h1 h2).step s (upd_ne fun z => e ?_)
    rw [z] at h2
    exact nodup_ix' R.nd h2 hb
where
  nodup_ix' {l : List Addr} (hN : l.Nodup) {i j : Nat} {x : Addr} (a : l[i]? = some x) (b : l[j]? = some x) : i = j := by
    obtain ⟨h1, e1⟩ := List.getElem?_eq_some_iff.mp a
    obtain ⟨h2, e2⟩ := List.getElem?_eq_some_iff.mp b
    exact (List.getElem_inj hN).mp (e1.trans e2.symm)
end

/-! ### another point of view: what is told of a value there is told of it here -/
structure Tr (K : PySem.W.Frag) (β : List Addr) (F : Addr → Prop) (H : Hp) (β' : List Addr) (F' : Addr → Prop) (H' : Hp) : Prop where
  keep : ∀ a o, H a = some o → a ∉ β → ¬ F a → (∀ ps, o ≠ .tbl ps) → H' a = some o ∧ a ∉ β' ∧ ¬ F' a
  tups : ∀ a xs, H a = some (.tup xs) → H' a = some (.tup xs)
  ix : ∀ (i : Nat) a, β[i]? = some a → β'[i]? = some a
  exts : ∀ a P, H a = some (.ext P) → a ∉ β → H' a = some (.ext P) ∧ a ∉ β'
section
variable {K : PySem.W.Frag} {β β' : List Addr} {F F' : Addr → Prop} {H H' : Hp}
mutual
theorem RV.tr (s : Tr K β F H β' F' H') : ∀ (w : W) (v : V), RV K β F H w v → RV K β' F' H' w v
  | .non, v, h => by unfold RV at h ⊢; exact h
  | .bl b, v, h => by unfold RV at h ⊢; exact h
  | .int b, v, h => by unfold RV at h ⊢; exact h
  | .str b, v, h => by unfold RV at h ⊢; exact h
  | .tup xs, v, h => by
    unfold RV at h ⊢
    obtain ⟨a, vs, e, ht, hr⟩ := h
    exact ⟨a, vs, e, ht.elim (fun z => .inl (s.tups a vs z)) .inr, RVs.tr s xs vs hr⟩
  | .lst xs, v, h => by
    unfold RV at h ⊢
    obtain ⟨a, vs, e, ht, n, nf, hr⟩ := h
    obtain ⟨h1, h2, h3⟩ := s.keep a _ ht n nf (fun ps z => by cases z)
    exact ⟨a, vs, e, h1, h2, h3, RVs.tr s xs vs hr⟩
  | .frz xs, v, h => by
    unfold RV at h ⊢
    obtain ⟨a, vs, e, ht, hr⟩ := h
    refine ⟨a, vs, e, ?_, RVs.tr s xs vs hr⟩
    rcases ht with ⟨o, ht, n, nf⟩ | ht
    · obtain ⟨h1, h2, h3⟩ := s.keep a _ ht n nf (fun ps z => by cases z)
      exact .inl ⟨o, h1, h2, h3⟩
    · exact .inr ht
  | .ref i, v, h => by
    unfold RV at h ⊢
    obtain ⟨a, e, ev⟩ := h
    exact ⟨a, s.ix i a e, ev⟩
theorem RVs.tr (s : Tr K β F H β' F' H') : ∀ (ws : List W) (vs : List V), RVs K β F H ws vs → RVs K β' F' H' ws vs
  | [], vs, h => by unfold RVs at h ⊢; exact h
  | w :: ws, vs, h => by
    unfold RVs at h ⊢
    obtain ⟨v, r, e, h1, h2⟩ := h
    exact ⟨v, r, e, RV.tr s w v h1, RVs.tr s ws r h2⟩
end
theorem RKVs.tr (s : Tr K β F H β' F' H') {kvs : List (W × W)} {ks : List (Key × V)} (r : RKVs K β F H kvs ks) : RKVs K β' F' H' kvs ks :=
  L2.Paired.mapP r fun _ _ ⟨a, b, c⟩ => ⟨a, b, RV.tr s _ _ c⟩
theorem RFs.tr (s : Tr K β F H β' F' H') {nm : List Str} {kvs : List (Nat × W)} {ks : List (Str × V)} (r : RFs K β F H nm kvs ks) : RFs K β' F' H' nm kvs ks :=
  L2.Paired.mapP r fun _ _ ⟨a, c⟩ => ⟨a, RV.tr s _ _ c⟩
theorem OR.tr {Γ : Gm} {a : Addr} (s : Tr Γ.K β F H β' F' H') (e : H' a = H a) : ∀ {o : CO}, OR Γ β F H a o → OR Γ β' F' H' a o
  | .lst false xs, ⟨vs, h1, h2⟩ => ⟨vs, by rw [e]; exact h1, RVs.tr s _ _ h2⟩
  | .lst true xs, ⟨vs, o, h1, h2⟩ => ⟨vs, o, by rw [e]; exact h1, RVs.tr s _ _ h2⟩
  | .dic false kvs, ⟨ks, h1, h2⟩ => ⟨ks, by rw [e]; exact h1, h2.tr s⟩
  | .dic true kvs, ⟨ks, o, h1, h2⟩ => ⟨ks, o, by rw [e]; exact h1, h2.tr s⟩
  | .ins C fs, ⟨dx, gs, h1, h2⟩ => ⟨dx, gs, by rw [e]; exact h1, h2.tr s⟩
theorem Step.tr {β1 : List Addr} {H1 : Hp} (s : Step β H β1 H1) : Tr K β F H β1 F H1 := by
  refine ⟨fun a o h n nf nt => ⟨s.keep a o h n nt, fun h1 => s.new a h1 n ⟨o, h, nt⟩, nf⟩, s.tups, fun i a e => ?_, fun a P e n => ⟨s.keep a _ e n (fun _ z => by cases z), fun h1 => s.new a h1 n ⟨_, e, fun _ z => by cases z⟩⟩⟩
  · obtain ⟨r, hr⟩ := s.pre
    rw [← hr]
    exact List.getElem?_append_left (List.getElem?_eq_some_iff.mp e).1 ▸ e
end
end PyI

set_option Elab.async false
set_option linter.all false
set_option maxRecDepth 100000
set_option maxHeartbeats 1000000
/-! PyI2: results, and the operators by values. -/
namespace PyI
open PySem PySem.Spec PyProof.Rows L2

/-- what is to hold behind a result -/
def Aft {α γ : Type} (Γ : Gm) (E : XK) (F : Addr → Prop) (RA : List Addr → Hp → α → γ → Prop) (β : List Addr) (H : Hp) (r : Res (α × Hc)) (Q : γ → Hp → Prop) : Prop := match r with
  | .ok p => ∀ v H1 β1, Step β H β1 H1 → Rel Γ β1 F p.2 H1 → RA β1 H1 p.1 v → Q v H1
  | .exc c h' => ∀ H1 β1, Step β H β1 H1 → Rel Γ β1 F h' H1 → E (.ref (Γ.exc c)) none H1
  | .no => False
abbrev AW (Γ : Gm) (F : Addr → Prop) : List Addr → Hp → W → V → Prop := fun β H w v => RV Γ.K β F H w v
abbrev AL (Γ : Gm) (F : Addr → Prop) : List Addr → Hp → List W → List V → Prop := fun β H w v => RVs Γ.K β F H w v
abbrev AB : List Addr → Hp → Bool → Bool → Prop := fun _ _ b c => b = c
/-- the same where nothing is raised -/
def AftO (Γ : Gm) (F : Addr → Prop) (β : List Addr) (H : Hp) (r : RW) (Q : VK) : Prop := match r with
  | .ok p => ∀ v H1 β1, Step β H β1 H1 → Rel Γ β1 F p.2 H1 → RV Γ.K β1 F H1 p.1 v → Q v H1
  | _ => False
section
variable {Γ : Gm} {β β1 : List Addr} {F : Addr → Prop} {h : Hc} {H H1 : Hp} {Q : VK} {E : XK}
theorem Aft.ok {α γ : Type} {RA : List Addr → Hp → α → γ → Prop} {a : α} {Q : γ → Hp → Prop} (q : Aft Γ E F RA β H (.ok (a, h)) Q) (R : Rel Γ β F h H) {v : γ} (r : RA β H a v) : Q v H :=
  q v H β (Step.refl _ _) R r
theorem Aft.okS {α γ : Type} {RA : List Addr → Hp → α → γ → Prop} {a : α} {Q : γ → Hp → Prop} (q : Aft Γ E F RA β H (.ok (a, h)) Q) (s : Step β H β1 H1) (R : Rel Γ β1 F h H1) {v : γ} (r : RA β1 H1 a v) : Q v H1 :=
  q v H1 β1 s R r
theorem AftO.ok {w : W} (q : AftO Γ F β H (.ok (w, h)) Q) (R : Rel Γ β F h H) {v : V} (r : RV Γ.K β F H w v) : Q v H := q v H β (Step.refl _ _) R r
theorem AftO.okS {w : W} (q : AftO Γ F β H (.ok (w, h)) Q) (s : Step β H β1 H1) (R : Rel Γ β1 F h H1) {v : V} (r : RV Γ.K β1 F H1 w v) : Q v H1 := q v H1 β1 s R r
theorem Aft.toO {r : RW} (hr : ∀ c h, r ≠ .exc c h) (q : Aft Γ E F (AW Γ F) β H r Q) : AftO Γ F β H r Q := by
  cases r with
  | ok p => exact q
  | exc c h => exact absurd rfl (hr c h)
  | no => exact q
/-- from here on -/
theorem Aft.from {α γ : Type} {RA : List Addr → Hp → α → γ → Prop} {r : Res (α × Hc)} {Q : γ → Hp → Prop} (q : Aft Γ E F RA β H r Q) (s : Step β H β1 H1) : Aft Γ E F RA β1 H1 r Q := by
  cases r with
  | ok p => exact fun v H2 β2 t => q v H2 β2 (s.trans t)
  | exc c h => exact fun H2 β2 t => q H2 β2 (s.trans t)
  | no => exact q
theorem AftO.from {r : RW} (q : AftO Γ F β H r Q) (s : Step β H β1 H1) : AftO Γ F β1 H1 r Q := by
  cases r with
  | ok p => exact fun v H2 β2 t => q v H2 β2 (s.trans t)
  | exc c h => exact q
  | no => exact q
theorem Aft.imp {α γ : Type} {RA : List Addr → Hp → α → γ → Prop} {r : Res (α × Hc)} {Q Q' : γ → Hp → Prop} (q : Aft Γ E F RA β H r Q) (i : ∀ v H, Q v H → Q' v H) : Aft Γ E F RA β H r Q' := by
  cases r with
  | ok p => exact fun v H2 β2 a b c => i _ _ (q v H2 β2 a b c)
  | exc c h => exact q
  | no => exact q
/-- one after another -/
theorem Aft.bind {α γ α' γ' : Type} {RA : List Addr → Hp → α → γ → Prop} {RB : List Addr → Hp → α' → γ' → Prop} {r : Res (α × Hc)} {f : α × Hc → Res (α' × Hc)} {Q : γ' → Hp → Prop} (q : Aft Γ E F RB β H (r.bind f) Q) :
    Aft Γ E F RA β H r (fun v H1 => ∃ β1 p, r = .ok p ∧ Step β H β1 H1 ∧ Rel Γ β1 F p.2 H1 ∧ RA β1 H1 p.1 v ∧ Aft Γ E F RB β1 H1 (f p) Q) := by
  cases r with
  | ok p => exact fun v H1 β1 s R a => ⟨β1, p, rfl, s, R, a, Aft.from (r := f p) q s⟩
  | exc c h => exact q
  | no => exact q
end

/-! ### a new list -/
section
variable {Γ : Gm} {β β1 : List Addr} {F : Addr → Prop} {h : Hc} {H H1 : Hp} {Q : VK} {E : XK}
theorem Rel.nb (R : Rel Γ β F h H) {p : Addr} (hp : H p = none) : p ∉ β ∧ ¬ F p := ⟨fun z => (R.th p z).ne hp, fun z => (R.fr p z).ne hp⟩
theorem mkL_fin (R : Rel Γ β F h H) {box : Bool} {xs : List W} {vs : List V} (r : RVs Γ.K β F H xs vs) (q : AftO Γ F β H (mkL box xs h) Q) : ∀ p, H p = none → Q (.ref p) (upd H p (.lst vs)) := fun p hp => by
  obtain ⟨n1, n2⟩ := R.nb hp
  unfold mkL at q
  cases box with
  | false =>
    refine AftO.okS q (step_new hp) (R.fresh hp) ?_
    unfold RV
    exact ⟨p, vs, rfl, upd_same, n1, n2, RVs.step (step_new hp) _ _ r⟩
  | true =>
    refine AftO.okS q (step_mine hp) (R.mine hp ⟨vs, upd_same, RVs.step (step_mine hp) _ _ r⟩) ?_
    unfold RV
    exact ⟨p, by rw [← R.len]; simp, rfl⟩
theorem mkL_aft (R : Rel Γ β F h H) {box : Bool} {xs : List W} {vs : List V} (r : RVs Γ.K β F H xs vs) (q : Aft Γ E F (AW Γ F) β H (mkL box xs h) Q) : ∀ p, H p = none → Q (.ref p) (upd H p (.lst vs)) :=
  mkL_fin R r (Aft.toO (by unfold mkL; split <;> intro c h z <;> cases z) q)
/-- a new tuple -/
theorem tup_fin (R : Rel Γ β F h H) {xs : List W} {vs : List V} (r : RVs Γ.K β F H xs vs) (q : AftO Γ F β H (.ok (.tup xs, h)) Q) : ∀ p, H p = none → Q (.ref p) (upd H p (.tup vs)) := fun p hp => by
  refine AftO.okS q (step_new hp) (R.fresh hp) ?_
  unfold RV
  exact ⟨p, vs, rfl, .inl upd_same, RVs.step (step_new hp) _ _ r⟩

/-! ### what stands at a value -/
theorem RV.lseq (R : Rel Γ β F h H) {w : W} {v : V} {xs : List W} (r : RV Γ.K β F H w v) (e : lseq h w = some xs) : ∃ a vs, v = .ref a ∧ H a = some (.lst vs) ∧ RVs Γ.K β F H xs vs := by
  unfold PyI.lseq at e
  split at e
  · cases e
    unfold RV at r
    obtain ⟨a, vs, e1, e2, _, _, e3⟩ := r
    exact ⟨a, vs, e1, e2, e3⟩
  · rename_i i
    split at e
    · rename_i lk ys ho
      cases e
      unfold RV at r
      obtain ⟨a, e1, e2⟩ := r
      obtain ⟨vs, q1, q2⟩ := R.ob _ _ _ ho e1
      exact ⟨a, vs, e2, q1, q2⟩
    · cases e
  · cases e
theorem RV.ref (R : Rel Γ β F h H) {i : Nat} {v : V} {o : CO} (r : RV Γ.K β F H (.ref i) v) (e : h[i]? = some o) : ∃ a, v = .ref a ∧ β[i]? = some a ∧ OR Γ β F H a o := by
  unfold RV at r
  obtain ⟨a, e1, e2⟩ := r
  exact ⟨a, e2, e1, R.ob _ _ _ e e1⟩
theorem RV.hl (R : Rel Γ β F h H) {i : Nat} {v : V} {lk : Bool} {xs : List W} (r : RV Γ.K β F H (.ref i) v) (e : h[i]? = some (.lst lk xs)) : ∃ a, v = .ref a ∧ β[i]? = some a ∧ ∃ vs, Rd H a (.lst vs) ∧ RVs Γ.K β F H xs vs := by
  obtain ⟨a, e1, e2, o⟩ := RV.ref R r e
  cases lk with
  | false => obtain ⟨vs, q1, q2⟩ := o; exact ⟨a, e1, e2, vs, .inl q1, q2⟩
  | true => obtain ⟨vs, ob, q1, q2⟩ := o; exact ⟨a, e1, e2, vs, .inr ⟨ob, q1⟩, q2⟩
theorem rv_int {K : PySem.W.Frag} {i : Int} {v : V} (r : RV K β F H (.int i) v) : v = .int i := by unfold RV at r; exact r
theorem rv_bl {K : PySem.W.Frag} {i : Bool} {v : V} (r : RV K β F H (.bl i) v) : v = .bl i := by unfold RV at r; exact r
theorem rv_str {K : PySem.W.Frag} {i : List Nat} {v : V} (r : RV K β F H (.str i) v) : v = .str (ofL i) := by unfold RV at r; exact r
theorem rv_non {K : PySem.W.Frag} {v : V} (r : RV K β F H .non v) : v = .non := by unfold RV at r; exact r
theorem rv_tup {K : PySem.W.Frag} {xs : List W} {v : V} (r : RV K β F H (.tup xs) v) : ∃ a vs, v = .ref a ∧ TupAt K H a vs ∧ RVs K β F H xs vs := by unfold RV at r; exact r
theorem rv_lst {K : PySem.W.Frag} {xs : List W} {v : V} (r : RV K β F H (.lst xs) v) : ∃ a vs, v = .ref a ∧ H a = some (.lst vs) ∧ a ∉ β ∧ ¬ F a ∧ RVs K β F H xs vs := by unfold RV at r; exact r
theorem rv_frz {K : PySem.W.Frag} {xs : List W} {v : V} (r : RV K β F H (.frz xs) v) : ∃ a vs, v = .ref a ∧ FrzAt K β F H a vs ∧ RVs K β F H xs vs := by unfold RV at r; exact r
theorem mk_int {K : PySem.W.Frag} (i : Int) : RV K β F H (.int i) (.int i) := by unfold RV; rfl
theorem mk_bl {K : PySem.W.Frag} (i : Bool) : RV K β F H (.bl i) (.bl i) := by unfold RV; rfl
theorem mk_non {K : PySem.W.Frag} : RV K β F H .non .non := by unfold RV; rfl
theorem mk_str {K : PySem.W.Frag} (i : List Nat) : RV K β F H (.str i) (.str (ofL i)) := by unfold RV; rfl
end

/-! ### binary operators -/
def rB (Γ : Gm) (f : Hc → W → W → RW) : R2 := fun x y H Q => ∃ β F h xw yw, Rel Γ β F h H ∧ RV Γ.K β F H xw x ∧ RV Γ.K β F H yw y ∧ AftO Γ F β H (f h xw yw) Q
theorem ofL_append (a b : List Nat) : ofL a ++ ofL b = ofL (a ++ b) := by
  show Str.append _ _ = _
  simp [ofL, Str.append]
theorem bitsOk_mul {i j : Int} (h : bitsOk i j = true) : IntMulOk i j := by
  have b : ∀ x : Int, Builtin.Int.intBits x ≤ x.natAbs.log2 + 1 := fun x => by
    unfold Builtin.Int.intBits
    split <;> omega
  have h1 := b i
  have h2 := b j
  have h3 : i.natAbs.log2 + j.natAbs.log2 < 100000000 := by simpa [bitsOk] using h
  have e : bitsLine = 134217728 := by decide
  unfold IntMulOk
  intro z
  rw [Bool.and_eq_true] at z
  have z2 := z.2
  unfold Builtin.Int.intTooBig at z2
  have z3 := of_decide_eq_true z2
  rw [e] at z3
  omega
theorem op_mulB {X : Cx} : OpR X (binaryOp .Mult) (rI (fun i j => bitsOk i j = true) fun i j => .int (i * j)) := opI fun _ _ _ _ _ _ _ hc q => mul_int q (bitsOk_mul hc)
theorem iop_mulB {X : Cx} : OpR X (inplaceOp .Mult) (rI (fun i j => bitsOk i j = true) fun i j => .int (i * j)) := opI fun _ _ _ _ _ _ _ hc q => imul_int q (bitsOk_mul hc)
section
variable {X : Cx} {Γ : Gm}
theorem op_bin {op : Operator} {box : Bool} (hK : X.K = Γ.K) : OpR X (binaryOp op) (rB Γ (binop op box)) := by
  intro pins s σ H x y v u Q I rx ry ⟨β, F, h, xw, yw, R, rxw, ryw, q⟩
  have lists : ∀ (a b : List W), lseq h xw = some a → lseq h yw = some b → op = .Add → AftO Γ F β H (if a.length + b.length ≤ LL then mkL box (a ++ b) h else .no) Q → wpAny (model X.prog X.w) X.A (binaryOp op v u) (EP X pins σ Q) X.xe s := by
    intro a b ea eb eo q0
    subst eo
    obtain ⟨p, vs, e1, e2, e3⟩ := rxw.lseq R ea
    obtain ⟨p', vs', e1', e2', e3'⟩ := ryw.lseq R eb
    split at q0
    · rename_i hl
      refine op_cat pins s σ H x y v u Q I rx ry ⟨p, p', vs, vs', e1, e1', e2, e2', ?_, mkL_fin R (e3.append e3') q0⟩
      rw [← e3.length, ← e3'.length]
      exact hl
    · exact q0.elim
  unfold binop at q
  split at q
  · rename_i i j
    have ex := rv_int rxw
    have ey := rv_int ryw
    split at q
    · exact op_add pins s σ H x y v u Q I rx ry ⟨i, j, ex, ey, q.ok R (mk_int _)⟩
    · exact op_sub pins s σ H x y v u Q I rx ry ⟨i, j, ex, ey, q.ok R (mk_int _)⟩
    · split at q
      · rename_i hb
        exact op_mulB pins s σ H x y v u Q I rx ry ⟨i, j, ex, ey, hb, q.ok R (mk_int _)⟩
      · exact q.elim
    · split at q
      · rename_i hb
        exact op_fdivW pins s σ H x y v u Q I rx ry ⟨i, j, ex, ey, hb, q.ok R (mk_int _)⟩
      · exact q.elim
    · split at q
      · rename_i hb
        exact op_mod pins s σ H x y v u Q I rx ry ⟨i, j, ex, ey, hb, q.ok R (mk_int _)⟩
      · exact q.elim
    · split at q
      · rename_i hb
        exact op_pow pins s σ H x y v u Q I rx ry ⟨i, j, ex, ey, hb, q.ok R (mk_int _)⟩
      · exact q.elim
    · exact q.elim
  · rename_i a b
    have ex := rv_str rxw
    have ey := rv_str ryw
    split at q
    · split at q
      · rename_i hl
        refine op_add_str pins s σ H x y v u Q I rx ry ⟨_, _, ex, ey, by rw [ofL_length, ofL_length]; exact hl, ?_⟩
        rw [ofL_append]
        exact q.ok R (mk_str _)
      · exact q.elim
    · exact q.elim
  · rename_i a b
    obtain ⟨p, vs, ex, hp, hr⟩ := rv_tup rxw
    obtain ⟨p', vs', ey, hp', hr'⟩ := rv_tup ryw
    split at q
    · split at q
      · exact q.elim
      · rename_i hne
        split at q
        · rename_i hl
          refine op_catT pins s σ H x y v u Q I rx ry ⟨p, p', vs, vs', ex, ey, by rw [hK]; exact hp.sq, by rw [hK]; exact hp'.sq, ?_, by rw [← hr.length, ← hr'.length]; exact hl, fun z => ?_, fun _ => tup_fin R (hr.append hr') q⟩
          · intro z
            rw [hr.isEmpty, z] at hne
            exact hne rfl
          · have eb : b = [] := by
              have := hr'.length
              rw [z] at this
              exact List.length_eq_zero_iff.mp this
            subst eb
            rw [List.append_nil] at q
            refine q.ok R ?_
            unfold RV
            exact ⟨p, vs, rfl, hp, hr⟩
        · exact q.elim
    · exact q.elim
  · rename_i k _
    split at q
    · rename_i xs ea
      split at q
      · rename_i hb
        obtain ⟨p, vs, e1, e2, e3⟩ := rxw.lseq R ea
        exact op_rep pins s σ H x y v u Q I rx ry ⟨p, k, vs, e1, rv_int ryw, e2, hb.1, hb.2.1, by rw [← e3.length]; exact hb.2.2, mkL_fin R (e3.flatten _) q⟩
      · exact q.elim
    · exact q.elim
  · split at q
    · rename_i a b ea eb
      exact lists a b ea eb rfl q
    · exact q.elim
/-- op= -/
theorem op_iop {op : Operator} (hK : X.K = Γ.K) : OpR X (inplaceOp op) (rB Γ (iop op)) := by
  intro pins s σ H x y v u Q I rx ry ⟨β, F, h, xw, yw, R, rxw, ryw, q⟩
  unfold iop at q
  split at q
  · rename_i i j
    have ex := rv_int rxw
    have ey := rv_int ryw
    split at q
    · exact iop_add pins s σ H x y v u Q I rx ry ⟨i, j, ex, ey, q.ok R (mk_int _)⟩
    · exact iop_sub pins s σ H x y v u Q I rx ry ⟨i, j, ex, ey, q.ok R (mk_int _)⟩
    · split at q
      · rename_i hb
        exact iop_mulB pins s σ H x y v u Q I rx ry ⟨i, j, ex, ey, hb, q.ok R (mk_int _)⟩
      · exact q.elim
    · split at q
      · rename_i hb
        exact iop_fdiv pins s σ H x y v u Q I rx ry ⟨i, j, ex, ey, hb, q.ok R (mk_int _)⟩
      · exact q.elim
    · split at q
      · rename_i hb
        exact iop_mod pins s σ H x y v u Q I rx ry ⟨i, j, ex, ey, hb, q.ok R (mk_int _)⟩
      · exact q.elim
    · exact q.elim
  · rename_i a b
    have ex := rv_str rxw
    have ey := rv_str ryw
    split at q
    · split at q
      · rename_i hl
        refine iop_add_str pins s σ H x y v u Q I rx ry ⟨_, _, ex, ey, by rw [ofL_length, ofL_length]; exact hl, ?_⟩
        rw [ofL_append]
        exact q.ok R (mk_str _)
      · exact q.elim
    · exact q.elim
  · rename_i a
    split at q
    · rename_i xs ys ho eb
      split at q
      · rename_i hl
        obtain ⟨p, ex, hb, vs, e1, e2⟩ := RV.ref R rxw ho
        obtain ⟨p', vs', e1', e2', e3'⟩ := ryw.lseq R eb
        have nt : ∀ zs, HO.lst vs ≠ .tup zs := fun _ z => by cases z
        refine iop_ext pins s σ H x y v u Q I rx ry ⟨p, p', vs, vs', ex, e1', e1, e2', by rw [← e2.length, ← e3'.length]; exact hl, ?_⟩
        have st := step_write (β := β) (o := .lst (vs ++ vs')) (List.mem_of_getElem? hb) e1 nt
        refine AftO.okS q st (R.write hb e1 nt (fun _ z => by cases z) (fun _ z => by unfold LamX.CodeO at z; cases z) ⟨_, upd_same, RVs.step st _ _ (e2.append e3')⟩) ?_
        unfold RV
        exact ⟨p, hb, rfl⟩
      · exact q.elim
    · exact q.elim
  · exact q.elim
end
end PyI

set_option Elab.async false
set_option linter.all false
set_option maxRecDepth 100000
set_option maxHeartbeats 1000000
/-! PyI3: data read off the heap; ==, in, subscripts, slices, comparisons, truth. -/
namespace PyI
open PySem PySem.Spec PyProof.Rows L2

mutual
def toD : W → PyData
  | .non => .none
  | .bl b => .bool b
  | .int i => .int i
  | .str s => .str (ofL s)
  | .tup xs => .tuple (toDs xs)
  | .lst xs => .list (toDs xs)
  | .frz _ => .dict []
  | .ref _ => .dict []
def toDs : List W → List PyData
  | [] => []
  | x :: r => toD x :: toDs r
end
theorem toDs_map : ∀ xs : List W, toDs xs = xs.map toD
  | [] => rfl
  | x :: r => by unfold toDs; rw [toDs_map r]; rfl
theorem ofL_beq (a b : List Nat) : (ofL a == ofL b) = (a == b) := by
  by_cases e : a = b
  · subst e; simp
  · have : ¬ ofL a = ofL b := fun q => e (ofL_inj q)
    rw [beq_eq_false_iff_ne.mpr this, beq_eq_false_iff_ne.mpr e]
mutual
theorem eqv_toD : ∀ t u : W, PyData.eqv (toD t) (toD u) = W.eqv t u
  | .non, u => by cases u <;> simp [toD, W.eqv, PyData.eqv]
  | .bl b, u => by cases u <;> simp [toD, W.eqv, PyData.eqv]
  | .int i, u => by cases u <;> simp [toD, W.eqv, PyData.eqv]
  | .str s, u => by cases u <;> simp [toD, W.eqv, PyData.eqv, ofL_beq]
  | .tup xs, u => by
    cases u <;> simp [toD, W.eqv, PyData.eqv]
    exact eqvs_toD xs _
  | .lst xs, u => by
    cases u <;> simp [toD, W.eqv, PyData.eqv]
    exact eqvs_toD xs _
  | .frz _, u => by cases u <;> simp [toD, W.eqv, PyData.eqv]
  | .ref _, u => by cases u <;> simp [toD, W.eqv, PyData.eqv]
theorem eqvs_toD : ∀ t u : List W, PyData.eqvAll (toDs t) (toDs u) = W.eqvs t u
  | [], u => by cases u <;> simp [toDs, W.eqvs, PyData.eqvAll]
  | x :: xs, u => by
    cases u with
    | nil => simp [toDs, W.eqvs, PyData.eqvAll]
    | cons y ys =>
      simp only [toDs, W.eqvs, PyData.eqvAll]
      rw [eqv_toD x y, eqvs_toD xs ys]
end
section
variable {Γ : Gm} {β β1 : List Addr} {F : Addr → Prop} {h : Hc} {H H1 : Hp} {Q : VK}
/-- what was read -/
structure Rdd (K : PySem.W.Frag) (H : Hp) (n : Nat) (v : V) (t : W) : Prop where
  dp : Dp K H v (toD t)
  de : (toD t).depth ≤ n
  pl : (toD t).plain = true
structure Rdds (K : PySem.W.Frag) (H : Hp) (n : Nat) (v : List V) (t : List W) : Prop where
  dp : DpAll K H v (toDs t)
  de : PyData.depthAll (toDs t) ≤ n
  pl : PyData.plainAll (toDs t) = true
theorem rdAll {n : Nat} (ih : ∀ w v t, RV Γ.K β F H w v → rd n h w = some t → Rdd Γ.K H n v t) : ∀ (ws : List W) (vs : List V) (ts : List W), RVs Γ.K β F H ws vs → optAll (rd n h) ws = some ts → Rdds Γ.K H n vs ts
  | [], vs, ts, r, e => by
    rw [RVs.nil.mp r]
    unfold optAll at e
    cases e
    exact ⟨DpAll.nil, by simp [toDs, PyData.depthAll], by simp [toDs, PyData.plainAll]⟩
  | w :: ws, vs, ts, r, e => by
    obtain ⟨v, rr, rfl, h1, h2⟩ := RVs.cons.mp r
    unfold optAll at e
    split at e
    · cases e
    · rename_i b eb
      split at e
      · cases e
      · rename_i sb es
        cases e
        have q1 := ih w v b h1 eb
        have q2 := rdAll ih ws rr sb h2 es
        refine ⟨by unfold toDs; exact DpAll.cons q1.dp q2.dp, ?_, ?_⟩
        · unfold toDs PyData.depthAll
          exact Nat.max_le.mpr ⟨q1.de, q2.de⟩
        · unfold toDs PyData.plainAll
          rw [q1.pl, q2.pl]; rfl
theorem rd_sound (R : Rel Γ β F h H) : ∀ (n : Nat) (w : W) (v : V) (t : W), RV Γ.K β F H w v → rd n h w = some t → Rdd Γ.K H n v t
  | 0, _, _, _, _, e => by unfold rd at e; cases e
  | n + 1, w, v, t, r, e => by
    have ih := rd_sound R n
    unfold rd at e
    split at e
    · obtain ⟨ts, e1, rfl⟩ := Option.map_eq_some_iff.mp e
      obtain ⟨a, vs, rfl, hp, hr⟩ := rv_tup r
      have q := rdAll ih _ _ _ hr e1
      refine ⟨by unfold toD; exact Dp.tup hp.sq q.dp, ?_, by unfold toD PyData.plain; exact q.pl⟩
      unfold toD PyData.depth
      exact Nat.succ_le_succ q.de
    · obtain ⟨ts, e1, rfl⟩ := Option.map_eq_some_iff.mp e
      obtain ⟨a, vs, rfl, hp, _, _, hr⟩ := rv_lst r
      have q := rdAll ih _ _ _ hr e1
      refine ⟨by unfold toD; exact Dp.lst (SqL.of hp) q.dp, ?_, by unfold toD PyData.plain; exact q.pl⟩
      unfold toD PyData.depth
      exact Nat.succ_le_succ q.de
    · obtain ⟨ts, e1, rfl⟩ := Option.map_eq_some_iff.mp e
      obtain ⟨a, vs, rfl, hp, hr⟩ := rv_frz r
      have q := rdAll ih _ _ _ hr e1
      refine ⟨by unfold toD; exact Dp.lst hp.sq q.dp, ?_, by unfold toD PyData.plain; exact q.pl⟩
      unfold toD PyData.depth
      exact Nat.succ_le_succ q.de
    · split at e
      · rename_i ho
        obtain ⟨ts, e1, rfl⟩ := Option.map_eq_some_iff.mp e
        obtain ⟨a, rfl, _, vs, hp, hr⟩ := RV.hl R r ho
        have q := rdAll ih _ _ _ hr e1
        refine ⟨by unfold toD; exact Dp.lst (.inl hp) q.dp, ?_, by unfold toD PyData.plain; exact q.pl⟩
        unfold toD PyData.depth
        exact Nat.succ_le_succ q.de
      · cases e
    all_goals (cases e)
    · rw [rv_non r]; exact ⟨by unfold toD; exact Dp.non, by simp [toD, PyData.depth], by simp [toD, PyData.plain]⟩
    · rw [rv_bl r]; exact ⟨by unfold toD; exact Dp.bl _, by simp [toD, PyData.depth], by simp [toD, PyData.plain]⟩
    · rw [rv_int r]; exact ⟨by unfold toD; exact Dp.int _, by simp [toD, PyData.depth], by simp [toD, PyData.plain]⟩
    · rw [rv_str r]; exact ⟨by unfold toD; exact Dp.str _, by simp [toD, PyData.depth], by simp [toD, PyData.plain]⟩
theorem rdKV_sound (R : Rel Γ β F h H) : ∀ (kvs : List (W × W)) (ks : List (Key × V)) (ts : List (W × W)), RKVs Γ.K β F H kvs ks → rdKV h kvs = some ts →
    Paired (fun (p : W × W) (q : Key × V) => p.1.isKey = true ∧ keyOf p.1 = q.1 ∧ Rdd Γ.K H 60 q.2 p.2) ts ks
  | [], ks, ts, r, e => by
    cases r
    unfold rdKV at e
    cases e
    exact .nil
  | (k, w) :: kvs, ks, ts, r, e => by
    cases r with
    | cons r1 r2 =>
      unfold rdKV at e
      split at e
      · rename_i t s e1 e2
        cases e
        exact .cons ⟨r1.1, r1.2.1, rd_sound R 60 _ _ _ r1.2.2 e1⟩ (rdKV_sound R _ _ _ r2 e2)
      · cases e
end

/-! ### == -/
section
variable {X : L2.Cx} {Γ : Gm} {pins : List (Addr × Obj)} {s : Shared} {σ : L2.St} {β : List Addr} {F : Addr → Prop} {h : Hc} {H : Hp}
theorem rdd_eq (hK : X.K = Γ.K) (I : L2.Inv X pins σ H s) {A : Around} (hu : A.units + 60 < cLine) {x y : V} {v u : Value} {t t' : W} (rx : RelV x v) (ry : RelV y u) (hx : Rdd Γ.K H 60 x t) (hy : Rdd Γ.K H 60 y t') : SeqAt.EqAt A s v u (W.eqv t t') := by
  rw [← eqv_toD]
  obtain ⟨as, r1⟩ := Dp.reads I _ x v (by rw [hK]; exact hx.dp) rx
  obtain ⟨bs, r2⟩ := Dp.reads I _ y u (by rw [hK]; exact hy.dp) ry
  refine PySem.SeqAt.eqAt_plain _ _ A s v u as bs r1 r2 hx.pl hy.pl ?_
  have := hx.de
  have := Nat.min_le_left (toD t).depth (toD t').depth
  omega
end
/-! ### dicts -/
section
variable {K : PySem.W.Frag} {β β1 : List Addr} {F : Addr → Prop} {h : Hc} {H H1 : Hp} {Q : VK}
theorem RKVs.key {kvs : List (W × W)} {ks : List (Key × V)} (r : RKVs K β F H kvs ks) : ∀ p ∈ kvs, p.1.isKey = true := by
  induction r with
  | nil => intro p hp; cases hp
  | cons a b ih =>
    intro p hp
    rcases List.mem_cons.mp hp with e | hp
    · rw [e]; exact a.1
    · exact ih p hp
theorem RKVs.get {kvs : List (W × W)} {ks : List (Key × V)} (r : RKVs K β F H kvs ks) {k : W} (hk : k.isKey = true) :
    (∀ w, dget kvs k = some w → ∃ v, valV ks (keyOf k) = some v ∧ RV K β F H w v) ∧ (dget kvs k = none → valV ks (keyOf k) = none) := by
  induction r with
  | nil => exact ⟨fun w e => by simp [dget] at e, fun _ => rfl⟩
  | @cons p q ps qs a b ih =>
    obtain ⟨j, u⟩ := p
    obtain ⟨a1, a2, a3⟩ := a
    have a1 : j.isKey = true := a1
    have a2 : keyOf j = q.1 := a2
    have e := keq_iff a1 hk
    by_cases hjk : keyOf j = keyOf k
    · rw [decide_eq_true hjk] at e
      refine ⟨fun w h1 => ?_, fun h1 => ?_⟩
      · unfold dget at h1
        rw [if_pos e] at h1
        cases h1
        exact ⟨q.2, valV_pos (by rw [← a2]; exact hjk), a3⟩
      · unfold dget at h1
        rw [if_pos e] at h1
        cases h1
    · rw [decide_eq_false hjk] at e
      have nq : ¬ q.1 = keyOf k := by rw [← a2]; exact hjk
      have ed : dget ((j, u) :: ps) k = dget ps k := by conv => lhs; unfold dget
                                                        rw [e]; rfl
      rw [ed, valV_neg nq]
      exact ih
theorem RKVs.some {kvs : List (W × W)} {ks : List (Key × V)} (r : RKVs K β F H kvs ks) {k w : W} (hk : k.isKey = true) (e : dget kvs k = some w) : ∃ v, valV ks (keyOf k) = some v ∧ RV K β F H w v := (r.get hk).1 w e
theorem RKVs.none {kvs : List (W × W)} {ks : List (Key × V)} (r : RKVs K β F H kvs ks) {k : W} (hk : k.isKey = true) (e : dget kvs k = none) : valV ks (keyOf k) = none := (r.get hk).2 e
theorem RKVs.isSome {kvs : List (W × W)} {ks : List (Key × V)} (r : RKVs K β F H kvs ks) {k : W} (hk : k.isKey = true) : (valV ks (keyOf k)).isSome = (dget kvs k).isSome := by
  cases e : dget kvs k with
  | none => rw [r.none hk e]; rfl
  | some w =>
    obtain ⟨v, e1, _⟩ := r.some hk e
    rw [e1]; rfl
theorem RKVs.any {kvs : List (W × W)} {ks : List (Key × V)} (r : RKVs K β F H kvs ks) {k : W} (hk : k.isKey = true) : (kvs.any fun p => W.keq p.1 k) = ks.any fun q => decide (q.1 = keyOf k) := by
  induction r with
  | nil => rfl
  | @cons p q ps qs a b ih =>
    rw [List.any_cons, List.any_cons, ih, keq_iff a.1 hk, a.2.1]
theorem RKVs.put {kvs : List (W × W)} {ks : List (Key × V)} (r : RKVs K β F H kvs ks) {k w : W} {v : V} (hk : k.isKey = true) (rv : RV K β F H w v) : RKVs K β F H (dput kvs k w) (putK ks (keyOf k) v) := by
  have rep : ∀ {kvs : List (W × W)} {ks : List (Key × V)}, RKVs K β F H kvs ks → RKVs K β F H (kvs.map fun p => if W.keq p.1 k then (p.1, w) else p) (ks.map fun q => if q.1 = keyOf k then (q.1, v) else q) := by
    intro kvs ks r
    induction r with
    | nil => exact .nil
    | @cons p q ps qs a b ih =>
      refine .cons ?_ ih
      have e := keq_iff a.1 hk
      rw [a.2.1] at e
      by_cases z : q.1 = keyOf k
      · rw [decide_eq_true z] at e
        simp only [e, z, if_true]
        exact ⟨a.1, by show keyOf p.1 = _; rw [a.2.1]; exact z, rv⟩
      · rw [decide_eq_false z] at e
        simp only [e, z, if_false, Bool.false_eq_true]
        exact a
  have app : ∀ {kvs : List (W × W)} {ks : List (Key × V)}, RKVs K β F H kvs ks → RKVs K β F H (kvs ++ [(k, w)]) (ks ++ [(keyOf k, v)]) := by
    intro kvs ks r
    induction r with
    | nil => exact .cons ⟨hk, rfl, rv⟩ .nil
    | cons a b ih => exact .cons a ih
  unfold dput putK
  rw [r.any hk]
  split
  · exact rep r
  · exact app r
theorem RKVs.del {kvs : List (W × W)} {ks : List (Key × V)} (r : RKVs K β F H kvs ks) {k : W} (hk : k.isKey = true) : RKVs K β F H (ddel kvs k) (dropK ks (keyOf k)) := by
  unfold ddel dropK
  induction r with
  | nil => exact .nil
  | @cons p q ps qs a b ih =>
    have e := keq_iff a.1 hk
    rw [a.2.1] at e
    by_cases z : q.1 = keyOf k
    · rw [decide_eq_true z] at e
      rw [List.filter_cons, List.filter_cons, if_neg (by simp [e]), if_neg (by simp [z])]
      exact ih
    · rw [decide_eq_false z] at e
      rw [List.filter_cons, List.filter_cons, if_pos (by simp [e]), if_pos (by simp [z])]
      exact .cons a ih
theorem RKVs.length {kvs : List (W × W)} {ks : List (Key × V)} (r : RKVs K β F H kvs ks) : kvs.length = ks.length := Paired.length r
theorem RKVs.isEmpty {kvs : List (W × W)} {ks : List (Key × V)} (r : RKVs K β F H kvs ks) : kvs.isEmpty = ks.isEmpty := by
  have := r.length
  cases kvs <;> cases ks <;> simp_all
theorem RKVs.keys {kvs : List (W × W)} {ks : List (Key × V)} (r : RKVs K β F H kvs ks) : RVs K β F H (kvs.map (·.1)) (ks.map fun q => kV q.1) := by
  induction r with
  | nil => exact RVs.nil.mpr rfl
  | @cons p q ps qs a b ih =>
    refine RVs.mk ?_ ih
    show RV K β F H p.1 (kV q.1)
    rw [← a.2.1]
    exact kV_keyOf a.1
theorem RKVs.vals {kvs : List (W × W)} {ks : List (Key × V)} (r : RKVs K β F H kvs ks) : RVs K β F H (kvs.map (·.2)) (ks.map (·.2)) := by
  induction r with
  | nil => exact RVs.nil.mpr rfl
  | cons a b ih => exact RVs.mk a.2.2 ih
end
section
variable {X : L2.Cx} {Γ : Gm} {pins : List (Addr × Obj)} {s : Shared} {σ : L2.St} {β : List Addr} {F : Addr → Prop} {h : Hc} {H : Hp}
abbrev RdKV (K : PySem.W.Frag) (H : Hp) : List (W × W) → List (Key × V) → Prop := Paired (fun (p : W × W) (q : Key × V) => p.1.isKey = true ∧ keyOf p.1 = q.1 ∧ Rdd K H 60 q.2 p.2)
theorem RdKV.get {K : PySem.W.Frag} {kvs : List (W × W)} {ks : List (Key × V)} (r : RdKV K H kvs ks) {k : W} (hk : k.isKey = true) :
    (∀ w, dget kvs k = some w → ∃ v, valV ks (keyOf k) = some v ∧ Rdd K H 60 v w) ∧ (dget kvs k = none → valV ks (keyOf k) = none) := by
  induction r with
  | nil => exact ⟨fun w e => by simp [dget] at e, fun _ => rfl⟩
  | @cons p q ps qs a b ih =>
    obtain ⟨j, u⟩ := p
    obtain ⟨a1, a2, a3⟩ := a
    have a1 : j.isKey = true := a1
    have a2 : keyOf j = q.1 := a2
    have e := keq_iff a1 hk
    by_cases hjk : keyOf j = keyOf k
    · rw [decide_eq_true hjk] at e
      refine ⟨fun w h1 => ?_, fun h1 => ?_⟩
      · unfold dget at h1
        rw [if_pos e] at h1
        cases h1
        exact ⟨q.2, valV_pos (by rw [← a2]; exact hjk), a3⟩
      · unfold dget at h1
        rw [if_pos e] at h1
        cases h1
    · rw [decide_eq_false hjk] at e
      have nq : ¬ q.1 = keyOf k := by rw [← a2]; exact hjk
      have ed : dget ((j, u) :: ps) k = dget ps k := by conv => lhs; unfold dget
                                                        rw [e]; rfl
      rw [ed, valV_neg nq]
      exact ih
theorem kv_hits (hK : X.K = Γ.K) (I : L2.Inv X pins σ H s) {A : Around} (hu : A.units + 60 < cLine) {ls : List (Key × V)} {vb : List (Key × Value)} {tb : List (W × W)} (rb : KV ls vb) (qb : RdKV Γ.K H tb ls) :
    ∀ {ks : List (Key × V)} {va : List (Key × Value)} {ta : List (W × W)}, KV ks va → RdKV Γ.K H ta ks →
      PySem.W.KeqHits A s vb va (ta.all fun p => match dget tb p.1 with
        | some v => W.eqv p.2 v
        | none => false)
  | [], _, _, ra, qa => by cases ra; cases qa; exact .nil
  | (k, v) :: ks, _, _, ra, qa => by
    cases ra with
    | @cons _ q _ va r1 r2 =>
      obtain ⟨kk, u⟩ := q
      cases qa with
      | @cons p _ ps _ a b =>
        obtain ⟨j, t⟩ := p
        obtain ⟨e1, e2⟩ := r1
        have e1 : k = kk := e1
        subst e1
        obtain ⟨a1, a2, a3⟩ := a
        have a1 : j.isKey = true := a1
        have a2 : keyOf j = k := a2
        have g := qb.get a1
        rw [a2] at g
        have rel := rb.val k
        rw [List.all_cons]
        cases ej : dget tb j with
        | none =>
          rw [g.2 ej] at rel
          simp only [ej, Bool.false_and]
          exact .miss (RelO.none_of rel)
        | some w =>
          obtain ⟨v', e3, r3⟩ := g.1 w ej
          rw [e3] at rel
          obtain ⟨u', e4, r4⟩ := RelO.some_of rel
          simp only [ej]
          exact .hit e4 (rdd_eq hK I hu e2 r4 a3 r3) (kv_hits hK I hu rb qb r2 b)
theorem dicAt_at (R : Rel Γ β F h H) {w : W} {v : V} {kvs : List (W × W)} (r : RV Γ.K β F H w v) (e : dicAt h w = some kvs) : ∃ a ks, v = .ref a ∧ Rd H a (.dK ks) ∧ RKVs Γ.K β F H kvs ks := by
  unfold dicAt at e
  split at e
  · split at e
    · rename_i lk ys ho
      cases e
      obtain ⟨a, e1, _, o⟩ := RV.ref R r ho
      cases lk with
      | false => obtain ⟨ks, q1, q2⟩ := o; exact ⟨a, ks, e1, .inl q1, q2⟩
      | true => obtain ⟨ks, ob, q1, q2⟩ := o; exact ⟨a, ks, e1, .inr ⟨ob, q1⟩, q2⟩
    · cases e
  · cases e
/-- what isEq0 tells holds -/
theorem eq0_at (hK : X.K = Γ.K) (I : L2.Inv X pins σ H s) (R : Rel Γ β F h H) {A : Around} (hu : A.units + 62 < cLine) {xw yw : W} {x y : V} {v u : Value} {c : Bool} (rxw : RV Γ.K β F H xw x) (ryw : RV Γ.K β F H yw y) (rx : RelV x v) (ry : RelV y u) (e : isEq0 h xw yw = some c) :
    SeqAt.EqP X.prog X.w A s v u c ∧ (∀ (E Q : Value → Shared → Prop), Q (.bool c) s → wpAny (model X.prog X.w) A (compareOp .Eq v u) Q E s) ∧ (∀ (E Q : Value → Shared → Prop), Q (.bool (!c)) s → wpAny (model X.prog X.w) A (compareOp .NotEq v u) Q E s) := by
  unfold isEq0 at e
  split at e
  · rename_i a b ea eb
    split at e
    · cases e
    rename_i hsame
    have hne : ∀ p p' : Addr, x = .ref p → y = .ref p' → p ≠ p' := fun p p' e1 e2 z => by
      subst z
      unfold dicAt at ea eb
      split at ea
      · split at eb
        · rename_i i j
          unfold RV at rxw ryw
          obtain ⟨a1, b1, c1⟩ := rxw
          obtain ⟨a2, b2, c2⟩ := ryw
          rw [e1] at c1
          rw [e2] at c2
          cases c1
          cases c2
          refine hsame ?_
          have := Rel.write.nodup_ix' R.nd b1 b2
          simp [sameRef, this]
        · cases eb
      · cases ea
    split at e
    · rename_i ta tb eta etb
      cases e
      obtain ⟨p, ks, rfl, hp, rk⟩ := dicAt_at R rxw ea
      obtain ⟨p', ls, rfl, hp', rl⟩ := dicAt_at R ryw eb
      obtain rfl : v = Value.ref p := rx
      obtain rfl : u = Value.ref p' := ry
      have qa := rdKV_sound R _ _ _ rk eta
      have qb := rdKV_sound R _ _ _ rl etb
      obtain ⟨_, ya, va, ra, da⟩ := hp.ok I.hok
      obtain ⟨_, yb, vb, rb, db⟩ := hp'.ok I.hok
      have hl : (va.length == vb.length) = (ta.length == tb.length) := by
        rw [← ra.length, ← rb.length, Paired.length qa, Paired.length qb]
      have hits := kv_hits hK I (A := A.in1) (by show A.units + 1 + 60 < cLine; omega) rb qb ra qa
      have E1 : ∀ (E Q : Value → Shared → Prop), Q (.bool (eqKV ta tb)) s → wpAny (model X.prog X.w) A (compareOp .Eq (.ref p) (.ref p')) Q E s := fun E Q q =>
        PySem.W.keq_eq (knd := mixKind X.prog X.w) ya yb da db (by omega) (fun _ => hits) (by rw [hl]; exact q)
      refine ⟨?_, E1, fun E Q q => PySem.W.keq_ne (knd := mixKind X.prog X.w) ya yb da db (by omega) (fun _ => hits) (by rw [hl]; exact q)⟩
      exact SeqAt.eqP_refs (hne p p' rfl rfl) E1
    · cases e
  · split at e
    · rename_i a b ea eb
      cases e
      have q1 := rd_sound R 60 _ _ _ rxw ea
      have q2 := rd_sound R 60 _ _ _ ryw eb
      obtain ⟨as, r1⟩ := Dp.reads I _ x v (by rw [hK]; exact q1.dp) rx
      obtain ⟨bs, r2⟩ := Dp.reads I _ y u (by rw [hK]; exact q2.dp) ry
      have hd : A.units + min (toD a).depth (toD b).depth < cLine := by
        have := q1.de
        have := Nat.min_le_left (toD a).depth (toD b).depth
        omega
      refine ⟨(rdd_eq hK I (by omega) rx ry q1 q2).eqP, fun E Q q => ?_, fun E Q q => ?_⟩
      · exact PySem.SeqAt.eq_plain r1 r2 q1.pl q2.pl hd (by rw [eqv_toD]; exact q)
      · exact PySem.SeqAt.ne_plain r1 r2 q1.pl q2.pl hd (by rw [eqv_toD]; exact q)
    · cases e
end
end PyI

set_option Elab.async false
set_option linter.all false
set_option maxRecDepth 100000
set_option maxHeartbeats 1000000
/-! PyI4: comparisons, subscripts, slices, truth, by values. -/
namespace PyI
open PySem PySem.Spec PyProof.Rows L2

def rC (Γ : Gm) (f : Hc → W → W → Option Bool) : R2 := fun x y H Q => ∃ β F h xw yw c, Rel Γ β F h H ∧ RV Γ.K β F H xw x ∧ RV Γ.K β F H yw y ∧ f h xw yw = some c ∧ Q (.bl c) H
section
variable {X : L2.Cx} {Γ : Gm} {pins : List (Addr × Obj)} {s : Shared} {σ : L2.St} {β : List Addr} {F : Addr → Prop} {h : Hc} {H : Hp}
theorem allEq_at (hK : X.K = Γ.K) (I : L2.Inv X pins σ H s) (R : Rel Γ β F h H) {A : Around} (hu : A.units + 62 < cLine) : ∀ {xs ys : List W} {vs us : List V} {its its' : List Value} {c : Bool}, RVs Γ.K β F H xs vs → RVs Γ.K β F H ys us → Vals vs its → Vals us its' → allEq h xs ys = some c →
    ∃ e : Nat → Bool, (∀ j (h1 : j < its.length) (h2 : j < its'.length), SeqAt.EqP X.prog X.w A s its[j] its'[j] (e j)) ∧ (xs.length = ys.length → (List.range its.length).all e = c)
  | [], ys, _, _, _, _, c, rx, ry, rv, ru, e => by
    rw [RVs.nil.mp rx] at rv
    cases rv
    unfold allEq at e
    cases e
    exact ⟨fun _ => true, fun j h1 => absurd h1 (by simp), fun _ => rfl⟩
  | x :: xs, [], _, _, _, _, c, rx, ry, rv, ru, e => by
    rw [RVs.nil.mp ry] at ru
    cases ru
    exact ⟨fun _ => true, fun j _ h2 => absurd h2 (by simp), fun z => by simp at z⟩
  | x :: xs, y :: ys, _, _, _, _, c, rx, ry, rv, ru, e => by
    obtain ⟨v, r, rfl, h1, h2⟩ := RVs.cons.mp rx
    obtain ⟨u, r', rfl, h1', h2'⟩ := RVs.cons.mp ry
    cases rv with
    | @cons _ a _ as p1 p2 =>
      cases ru with
      | @cons _ b _ bs p1' p2' =>
        unfold allEq at e
        split at e
        · rename_i b1 c1 e1 e2
          cases e
          obtain ⟨q1, _, _⟩ := eq0_at hK I R hu h1 h1' p1 p1' e1
          obtain ⟨f, q2, q3⟩ := allEq_at hK I R hu h2 h2' p2 p2' e2
          refine ⟨fun j => match j with | 0 => b1 | j + 1 => f j, fun j h3 h4 => ?_, fun z => ?_⟩
          · cases j with
            | zero => exact q1
            | succ j => exact q2 j (by simpa using h3) (by simpa using h4)
          · rw [List.length_cons, List.range_succ_eq_map, List.all_cons, List.all_map]
            rw [← q3 (by simpa using z)]
            rfl
        · cases e
theorem op_eqW (hK : X.K = Γ.K) (hu : X.A.units + 64 < cLine) : OpR X (compareOp .Eq) (rC Γ isEq) := by
  intro pins s σ H x y v u Q I rx ry ⟨β, F, h, xw, yw, c, R, rxw, ryw, e, q⟩
  unfold isEq at e
  split at e
  · rename_i b eb
    cases e
    exact (eq0_at hK I R (A := X.A) (by omega) rxw ryw rx ry eb).2.1 _ _ ⟨.bl c, H, I, rfl, q⟩
  · split at e
    · rename_i xs ys ea eb
      obtain ⟨p, vs, rfl, hp, rv⟩ := rxw.lseq R ea
      obtain ⟨p', us, rfl, hp', ru⟩ := ryw.lseq R eb
      obtain rfl : v = Value.ref p := rx
      obtain rfl : u = Value.ref p' := ry
      obtain ⟨its, r1, l1, _⟩ := I.list (SqL.of hp)
      obtain ⟨its', r1', l1', _⟩ := I.list (SqL.of hp')
      have n1 : its.length = xs.length := by rw [← r1.length, rv.length]
      have n2 : its'.length = ys.length := by rw [← r1'.length, ru.length]
      split at e
      · rename_i hl
        obtain ⟨f, q1, q2⟩ := allEq_at hK I R (A := X.A.in1) (by show X.A.units + 1 + 62 < cLine; omega) rv ru r1 r1' e
        refine SeqAt.rcP_lists (e := f) l1.isList l1'.isList (by simp [n1, n2, hl]) (by omega) (fun j h1 h2 => by simpa using q1 j (by simpa using h1) (by simpa using h2)) _ _ ?_
        rw [show its.toArray.size = its.length by simp, q2 hl]
        exact ⟨.bl c, H, I, rfl, q⟩
      · rename_i hl
        cases e
        exact SeqAt.eq_list_lengthsAt l1.isList l1'.isList (by simp [n1, n2, hl]) (by omega) ⟨.bl false, H, I, rfl, q⟩
    · cases e
theorem op_neW (hK : X.K = Γ.K) (hu : X.A.units + 64 < cLine) : OpR X (compareOp .NotEq) (rC Γ fun h x y => (isEq0 h x y).map (!·)) := by
  intro pins s σ H x y v u Q I rx ry ⟨β, F, h, xw, yw, c, R, rxw, ryw, e, q⟩
  obtain ⟨b, eb, rfl⟩ := Option.map_eq_some_iff.mp e
  exact (eq0_at hK I R (A := X.A) (by omega) rxw ryw rx ry eb).2.2 _ _ ⟨.bl (!b), H, I, rfl, q⟩
theorem any_toD (t : W) : ∀ ys : List W, ((toDs ys).any fun y => PyData.eqv y (toD t)) = ys.any fun u => W.eqv u t
  | [] => by simp [toDs]
  | y :: r => by unfold toDs; rw [List.any_cons, List.any_cons, any_toD t r, eqv_toD]
/-- x in y, x not in y -/
theorem in_at (hK : X.K = Γ.K) (hu : X.A.units + 64 < cLine) (I : L2.Inv X pins σ H s) (R : Rel Γ β F h H) {xw yw : W} {x y : V} {v u : Value} {c : Bool} (rxw : RV Γ.K β F H xw x) (ryw : RV Γ.K β F H yw y) (rx : RelV x v) (ry : RelV y u) (e : isIn h xw yw = some c)
    {Q : VK} : (Q (.bl c) H → wpAny (model X.prog X.w) X.A (compareOp .In v u) (EP X pins σ Q) X.xe s) ∧ (Q (.bl (!c)) H → wpAny (model X.prog X.w) X.A (compareOp .NotIn v u) (EP X pins σ Q) X.xe s) := by
  have lst : ∀ {p : Addr} {vs : List V} {xs ts : List W} {t : W}, y = .ref p → SqL Γ.K H p vs → RVs Γ.K β F H xs vs → rd 60 h xw = some t → optAll (rd 60 h) xs = some ts → c = (ts.any fun u => W.eqv u t) →
      (Q (.bl c) H → wpAny (model X.prog X.w) X.A (compareOp .In v u) (EP X pins σ Q) X.xe s) ∧ (Q (.bl (!c)) H → wpAny (model X.prog X.w) X.A (compareOp .NotIn v u) (EP X pins σ Q) X.xe s) := by
    intro p vs xs ts t ey hp hr e1 e2 ec
    have q1 := rd_sound R 60 _ _ _ rxw e1
    have q2 := rdAll (rd_sound R 60) _ _ _ hr e2
    obtain ⟨as, r1⟩ := Dp.reads I _ x v (by rw [hK]; exact q1.dp) rx
    obtain ⟨bs, r2⟩ := Dp.reads I (.list (toDs ts)) y u (by rw [hK, ey]; exact Dp.lst hp q2.dp) ry
    have hd : X.A.units + 1 + min (PyData.depthAll (toDs ts)) (toD t).depth < cLine := by
      have := q2.de
      have := Nat.min_le_left (PyData.depthAll (toDs ts)) (toD t).depth
      omega
    subst ec
    exact ⟨fun q => PySem.SeqAt.in_list_data r2 r1 q2.pl q1.pl hd (by rw [any_toD]; exact ⟨.bl _, H, I, rfl, q⟩), fun q => PySem.SeqAt.notIn_list_data r2 r1 q2.pl q1.pl hd (by rw [any_toD]; exact ⟨.bl _, H, I, rfl, q⟩)⟩
  unfold isIn at e
  split at e
  · rename_i t
    split at e
    · rename_i cc
      cases e
      have ex := rv_str rxw
      have ey := rv_str ryw
      have eo : ofL [cc] = ⟨#[cc]⟩ := rfl
      rw [eo] at ex
      refine ⟨fun q => op_in_sign pins s σ H x y v u Q I rx ry ⟨cc, _, ex, ey, ?_⟩, fun q => op_notIn_sign pins s σ H x y v u Q I rx ry ⟨cc, _, ex, ey, ?_⟩⟩
      · rw [ofL_toL]; exact q
      · rw [ofL_toL]; exact q
    · cases e
  · rename_i i
    split at e
    · rename_i lk kvs ho
      split at e
      · rename_i hk
        cases e
        obtain ⟨p, ey, _, o⟩ := RV.ref R ryw ho
        have ⟨ks, q1, q2⟩ : ∃ ks, Rd H p (.dK ks) ∧ RKVs Γ.K β F H kvs ks := by
          cases lk with
          | false => obtain ⟨ks, q1, q2⟩ := o; exact ⟨ks, .inl q1, q2⟩
          | true => obtain ⟨ks, ob, q1, q2⟩ := o; exact ⟨ks, .inr ⟨ob, q1⟩, q2⟩
        have ex := RV.key hk rxw
        subst ey
        obtain rfl : u = Value.ref p := ry
        have g : DGet H p x (valV ks (keyOf xw)) := .inl ⟨ks, keyOf xw, q1, ex, rfl⟩
        have es := q2.isSome hk
        refine ⟨fun q => d_in (by omega) I g rx fun s' I' => ⟨.bl _, H, I', rfl, by rw [es]; exact q⟩, fun q => d_notIn (by omega) I g rx fun s' I' => ⟨.bl _, H, I', rfl, by rw [es]; exact q⟩⟩
      · cases e
    · rename_i xs ho
      split at e
      · rename_i t ts e1 e2
        cases e
        obtain ⟨p, ey, _, vs, hp, hr⟩ := RV.hl R ryw ho
        exact lst ey (.inl hp) hr e1 e2 rfl
      · cases e
    · cases e
  · split at e
    · rename_i t ts e1 e2
      cases e
      obtain ⟨p, vs, ey, hp, _, _, hr⟩ := rv_lst ryw
      exact lst ey (SqL.of hp) hr e1 e2 rfl
    · cases e
  · split at e
    · rename_i t ts e1 e2
      cases e
      obtain ⟨p, vs, ey, hp, hr⟩ := rv_tup ryw
      have q1 := rd_sound R 60 _ _ _ rxw e1
      have q2 := rdAll (rd_sound R 60) _ _ _ hr e2
      obtain ⟨as, r1⟩ := Dp.reads I _ x v (by rw [hK]; exact q1.dp) rx
      obtain ⟨bs, r2⟩ := Dp.reads I (.tuple (toDs ts)) y u (by rw [hK, ey]; exact Dp.tup hp.sq q2.dp) ry
      have hd : X.A.units + 1 + min (PyData.depthAll (toDs ts)) (toD t).depth < cLine := by
        have := q2.de
        have := Nat.min_le_left (PyData.depthAll (toDs ts)) (toD t).depth
        omega
      exact ⟨fun q => PySem.SeqAt.in_tuple_data r2 r1 q2.pl q1.pl hd (by rw [any_toD]; exact ⟨.bl _, H, I, rfl, q⟩), fun q => PySem.SeqAt.notIn_tuple_data r2 r1 q2.pl q1.pl hd (by rw [any_toD]; exact ⟨.bl _, H, I, rfl, q⟩)⟩
    · cases e
  · cases e
theorem op_cmp {op : CmpOp} (hK : X.K = Γ.K) (hu : X.A.units + 64 < cLine) : OpR X (compareOp op) (rC Γ (cmpop op)) := by
  intro pins s σ H x y v u Q I rx ry ⟨β, F, h, xw, yw, c, R, rxw, ryw, e, q⟩
  cases op with
  | Eq => exact op_eqW hK hu pins s σ H x y v u Q I rx ry ⟨β, F, h, xw, yw, c, R, rxw, ryw, e, q⟩
  | NotEq => exact op_neW hK hu pins s σ H x y v u Q I rx ry ⟨β, F, h, xw, yw, c, R, rxw, ryw, e, q⟩
  | Lt =>
    simp only [cmpop] at e
    split at e <;> cases e
    exact op_lt pins s σ H x y v u Q I rx ry ⟨_, _, rv_int rxw, rv_int ryw, q⟩
  | LtE =>
    simp only [cmpop] at e
    split at e <;> cases e
    exact op_le pins s σ H x y v u Q I rx ry ⟨_, _, rv_int rxw, rv_int ryw, q⟩
  | Gt =>
    simp only [cmpop] at e
    split at e <;> cases e
    exact op_gt pins s σ H x y v u Q I rx ry ⟨_, _, rv_int rxw, rv_int ryw, q⟩
  | GtE =>
    simp only [cmpop] at e
    split at e <;> cases e
    exact op_ge pins s σ H x y v u Q I rx ry ⟨_, _, rv_int rxw, rv_int ryw, q⟩
  | Is =>
    simp only [cmpop] at e
    split at e
    · have ey := rv_non ryw
      refine op_isN pins s σ H x y v u Q I rx ry ⟨ey, ?_⟩
      split at e <;> cases e
      · rw [rv_non rxw]; exact q
      · have : x ≠ .non := fun z => by
          subst z
          cases xw <;> simp [RV] at rxw
          rename_i hn
          exact hn rfl
        rw [decide_eq_false this]; exact q
    · cases e
  | IsNot =>
    simp only [cmpop] at e
    split at e
    · have ey := rv_non ryw
      refine op_notN pins s σ H x y v u Q I rx ry ⟨ey, ?_⟩
      split at e <;> cases e
      · rw [rv_non rxw]; exact q
      · have : x ≠ .non := fun z => by
          subst z
          cases xw <;> simp [RV] at rxw
          rename_i hn
          exact hn rfl
        rw [decide_eq_false this]; exact q
    · cases e
  | In => exact (in_at hK hu I R rxw ryw rx ry e).1 q
  | NotIn =>
    obtain ⟨b, eb, rfl⟩ := Option.map_eq_some_iff.mp (show (isIn h xw yw).map (!·) = some c from e)
    exact (in_at hK hu I R rxw ryw rx ry eb).2 q

/-! ### truth -/
theorem truth_at (hK : X.K = Γ.K) (R : Rel Γ β F h H) {w : W} {v : V} {b : Bool} (r : RV Γ.K β F H w v) (e : truth h w = some b) : TruV X.K v H b := by
  have line : LL = sizeLine := by decide
  unfold truth at e
  split at e
  · cases e; rw [rv_non r]; exact rfl
  · cases e; rw [rv_bl r]; exact rfl
  · cases e; rw [rv_int r]; exact rfl
  · rename_i t
    split at e
    · rename_i hl
      cases e
      rw [rv_str r]
      refine ⟨by rw [ofL_length, ← line]; exact hl, ?_⟩
      rw [ofL_length]
      cases t <;> simp
      omega
    · cases e
  · cases e
    obtain ⟨p, vs, rfl, hp, hr⟩ := rv_tup r
    exact .inr (.inl ⟨vs, by rw [hK]; exact hp.sq, by rw [hr.isEmpty]⟩)
  · cases e
    obtain ⟨p, vs, rfl, hp, _, _, hr⟩ := rv_lst r
    exact .inl ⟨vs, SqL.of hp, by rw [hr.isEmpty]⟩
  · split at e
    · rename_i ho
      cases e
      obtain ⟨p, rfl, _, vs, hp, hr⟩ := RV.hl R r ho
      exact .inl ⟨vs, .inl hp, by rw [hr.isEmpty]⟩
    · rename_i kvs ho
      cases e
      obtain ⟨p, rfl, _, ks, q1, q2⟩ := RV.ref R r ho
      exact .inr (.inr ⟨ks, q1, by rw [q2.isEmpty]⟩)
    · cases e
  · cases e
end
end PyI

set_option Elab.async false
set_option linter.all false
set_option maxRecDepth 100000
set_option maxHeartbeats 1000000
/-! PyI5: subscripts, slices, built-in functions and methods, by values. -/
namespace PyI
open PySem PySem.Spec PyProof.Rows L2

section
variable {X : L2.Cx} {Γ : Gm} {pins : List (Addr × Obj)} {s : Shared} {σ : L2.St} {β : List Addr} {F : Addr → Prop} {h : Hc} {H : Hp}
/-! ### subscripts -/
def rDct : R2 := fun x y H Q => ∃ a v, x = .ref a ∧ DGet H a y (some v) ∧ Q v H
theorem ix_dict (hu : X.A.units + 1 < cLine) : IxR X rDct := by
  intro value slice pins s σ H x y v u Q I rx ry h hs
  obtain ⟨a, z, rfl, g, q⟩ := h
  obtain rfl : v = Value.ref a := rx
  have hT := dict_typeIs I g
  unfold subscriptTail
  refine wpAny_bind ?_
  rw [getitemInPython_of_ne hT.not_modules]
  refine wpAny_bind (wpAny_specialOf hT PySem.F.slot_dict_getitem.lookup ?_)
  have fin : wpAny (model X.prog X.w) X.A (subscripted slice false (.ref a) u) (fun r s₃ => wpAny (model X.prog X.w) X.A (letTemporaryGo value (.ref a) r >>= fun _ => pure r) (EP X pins σ Q) X.xe s₃) X.xe s := by
    rw [hs]
    exact wpAny_operating (d_getItem hu I g ry fun w' s3 I3 rw' => wpAny_bind (wpAny_letTemporaryGo (wpAny_pure ⟨z, H, I3, rw', q⟩)))
  first
    | exact wpAny_pure (wpAny_bind fin)
    | exact wpAny_bind (wpAny_pure (wpAny_bind fin))
    | exact wpAny_bind fin
def rIW (Γ : Gm) : R2 := fun x y H Q => ∃ β F h xw yw w, Rel Γ β F h H ∧ RV Γ.K β F H xw x ∧ RV Γ.K β F H yw y ∧ index h xw yw = some w ∧ ∀ v, RV Γ.K β F H w v → Q v H
theorem idxN_eq (n : Nat) (i : Int) : idxN n i = ixN n i := rfl
theorem atW_eq {α : Type} (xs : List α) (i : Int) : atW xs i = atI xs i := rfl
theorem RVs.at {K : PySem.W.Frag} {xs : List W} {vs : List V} (r : RVs K β F H xs vs) {i : Int} {w : W} (e : atW xs i = some w) : ∃ v, atI vs i = some v ∧ RV K β F H w v := by
  unfold atW at e
  obtain ⟨j, e1, e2⟩ := Option.bind_eq_some_iff.mp e
  obtain ⟨v, e3, r3⟩ := r.get e2
  refine ⟨v, ?_, r3⟩
  unfold atI
  rw [← r.length]
  show (idxN xs.length i).bind _ = _
  rw [e1]
  exact e3
theorem rkvs_rd (R : Rel Γ β F h H) {i : Nat} {lk : Bool} {kvs : List (W × W)} {v : V} (r : RV Γ.K β F H (.ref i) v) (ho : h[i]? = some (.dic lk kvs)) : ∃ p ks, v = .ref p ∧ β[i]? = some p ∧ Rd H p (.dK ks) ∧ RKVs Γ.K β F H kvs ks := by
  obtain ⟨p, ev, eb, o⟩ := RV.ref R r ho
  cases lk with
  | false => obtain ⟨ks, q1, q2⟩ := o; exact ⟨p, ks, ev, eb, .inl q1, q2⟩
  | true => obtain ⟨ks, ob, q1, q2⟩ := o; exact ⟨p, ks, ev, eb, .inr ⟨ob, q1⟩, q2⟩
theorem ix_W (hK : X.K = Γ.K) (hu : X.A.units + 64 < cLine) : IxR X (rIW Γ) := by
  intro value slice pins s σ H x y v u Q I rx ry ⟨β, F, h, xw, yw, w, R, rxw, ryw, e, q⟩ hs
  unfold index at e
  split at e
  · obtain ⟨p, vs, rfl, hp, hr⟩ := rv_tup rxw
    obtain ⟨z, e1, r1⟩ := hr.at e
    exact ix_tup value slice pins s σ H _ y v u Q I rx ry ⟨p, vs, _, z, rfl, rv_int ryw, by rw [hK]; exact hp.sq, e1, q z r1⟩ hs
  · obtain ⟨p, vs, rfl, hp, _, _, hr⟩ := rv_lst rxw
    obtain ⟨z, e1, r1⟩ := hr.at e
    exact ix_list value slice pins s σ H _ y v u Q I rx ry ⟨p, vs, _, z, rfl, rv_int ryw, SqL.of hp, e1, q z r1⟩ hs
  · rename_i t i
    split at e
    · rename_i hl
      obtain ⟨c, e1, rfl⟩ := Option.map_eq_some_iff.mp e
      refine ix_str value slice pins s σ H x y v u Q I rx ry ⟨ofL t, i, c, rv_str rxw, rv_int ryw, by rw [ofL_length]; exact hl, ?_, q _ (mk_str _)⟩ hs
      rw [ofL_toL]
      exact e1
    · cases e
  · rename_i a yw
    split at e
    · rename_i lk xs i ho
      obtain ⟨p, rfl, _, vs, hp, hr⟩ := RV.hl R rxw ho
      obtain ⟨z, e1, r1⟩ := hr.at e
      exact ix_list value slice pins s σ H _ y v u Q I rx ry ⟨p, vs, _, z, rfl, rv_int ryw, .inl hp, e1, q z r1⟩ hs
    · rename_i lk kvs _ ho
      split at e
      · rename_i hk
        obtain ⟨p, ks, rfl, _, hp, hr⟩ := rkvs_rd R rxw ho
        obtain ⟨z, e1, r1⟩ := hr.some hk e
        exact ix_dict (by omega) value slice pins s σ H _ y v u Q I rx ry ⟨p, z, rfl, .inl ⟨ks, _, hp, RV.key hk ryw, e1.symm⟩, q z r1⟩ hs
      · cases e
    · cases e
  · cases e
/-! ### slices -/
def rSW (Γ : Gm) (box : Bool) : V → Option Int → Option Int → Hp → VK → Prop := fun x lo hi H Q => ∃ β F h xw, Rel Γ β F h H ∧ RV Γ.K β F H xw x ∧ AftO Γ F β H (sliceW box h xw lo hi) Q
theorem sIdx_eq (n d : Nat) (o : Option Int) : sIdx n d o = HT.sIx n d o := by cases o <;> rfl
theorem RVs.cut {K : PySem.W.Frag} {xs : List W} {vs : List V} (r : RVs K β F H xs vs) (lo hi : Option Int) : RVs K β F H (PyI.cut xs lo hi) (cutV vs lo hi) := by
  unfold PyI.cut cutV
  rw [← r.length, sIdx_eq, sIdx_eq]
  exact (r.drop _).take _
theorem SlR.or {r r' : V → Option Int → Option Int → Hp → VK → Prop} (a : SlR X r) (b : SlR X r') : SlR X fun x lo hi H Q => r x lo hi H Q ∨ r' x lo hi H Q := by
  intro pins s σ H x v vl vu lo hi sl Q I rx hs pl pu h
  rcases h with h | h
  · exact a pins s σ H x v vl vu lo hi sl Q I rx hs pl pu h
  · exact b pins s σ H x v vl vu lo hi sl Q I rx hs pl pu h
theorem sl_W (hK : X.K = Γ.K) {box : Bool} : SlR X (rSW Γ box) := by
  intro pins s σ H x v vl vu lo hi sl Q I rx hs pl pu ⟨β, F, h, xw, R, rxw, q⟩
  unfold sliceW at q
  split at q
  · rename_i t
    split at q
    · rename_i hl
      refine sl_str pins s σ H x v vl vu lo hi sl Q I rx hs pl pu ⟨ofL t, rv_str rxw, by rw [ofL_length]; exact hl, ?_⟩
      have e : cutS (ofL t) lo hi = ofL (PyI.cut t lo hi) := by
        unfold cutS PyI.cut
        rw [ofL_length, ofL_toL, sIdx_eq, sIdx_eq]
        rfl
      rw [e]
      exact q.ok R (mk_str _)
    · exact q.elim
  · rename_i xs
    split at q
    · exact q.elim
    · rename_i hw
      obtain ⟨p, vs, rfl, hp, hr⟩ := rv_tup rxw
      refine sl_tup pins s σ H _ v vl vu lo hi sl Q I rx hs pl pu ⟨p, vs, rfl, by rw [hK]; exact hp.sq, ?_, tup_fin R (hr.cut lo hi) q⟩
      rw [← hr.length, ← sIdx_eq, ← sIdx_eq]
      exact hw
  · obtain ⟨p, vs, rfl, hp, hr⟩ := rv_frz rxw
    exact sl_list pins s σ H _ v vl vu lo hi sl Q I rx hs pl pu ⟨p, vs, rfl, by rw [hK]; exact hp.sq, mkL_fin R (hr.cut lo hi) q⟩
  · split at q
    · rename_i xs ea
      obtain ⟨p, vs, rfl, hp, hr⟩ := rxw.lseq R ea
      exact sl_list pins s σ H _ v vl vu lo hi sl Q I rx hs pl pu ⟨p, vs, rfl, SqL.of hp, mkL_fin R (hr.cut lo hi) q⟩
    · exact q.elim
/-! ### what is stored -/
def rSetW (Γ : Gm) : TSet := fun o i v H Q => ∃ β F h ow iw w h', Rel Γ β F h H ∧ RV Γ.K β F H ow o ∧ RV Γ.K β F H iw i ∧ RV Γ.K β F H w v ∧ setItemW h ow iw w = some h' ∧ ∀ H1, Step β H β H1 → Rel Γ β F h' H1 → Q H1
theorem set_W (hu : X.A.units + 64 < cLine) : PSet X (rSetW Γ) := by
  intro pins s σ H o i v ov iv u Q I ro ri rv ⟨β, F, h, ow, iw, w, h', R, row, riw, rw_, e, q⟩
  unfold setItemW at e
  split at e
  · rename_i a
    split at e
    · rename_i xs k ho
      obtain ⟨j, e1, rfl⟩ := Option.map_eq_some_iff.mp e
      obtain ⟨p, rfl, hb, vs, hp, hr⟩ := RV.ref R row ho
      have nt : ∀ zs, HO.lst vs ≠ .tup zs := fun _ z => by cases z
      have st := step_write (β := β) (o := .lst (vs.set j v)) (List.mem_of_getElem? hb) hp nt
      refine set_list pins s σ H _ i v ov iv u Q I ro ri rv ⟨p, vs, k, j, rfl, rv_int riw, hp, by rw [← hr.length]; exact e1, q _ st ?_⟩
      exact R.write hb hp nt (fun _ z => by cases z) (fun _ z => by unfold LamX.CodeO at z; cases z) ⟨_, upd_same, RVs.step st _ _ (hr.set j rw_)⟩
    · rename_i iw x0 i0 kvs ho
      split at e
      · rename_i hk
        cases e
        obtain ⟨p, rfl, hb, ks, hp, hr⟩ := RV.ref R row ho
        have nt : ∀ zs, HO.dK ks ≠ .tup zs := fun _ z => by cases z
        have st := step_write (β := β) (o := .dK (putK ks (keyOf iw) v)) (List.mem_of_getElem? hb) hp nt
        obtain rfl : ov = Value.ref p := ro
        have ei := RV.key hk.1 riw
        subst ei
        refine d_setItem (A := X.A) (by omega) I (DPut.k hp (by rw [← hr.length]; exact hk.2)) ri rv fun s' I' => ⟨_, I', q _ st ?_⟩
        exact R.write hb hp nt (fun _ z => by cases z) (fun _ z => by unfold LamX.CodeO at z; cases z) ⟨_, upd_same, (hr.put hk.1 rw_).step st⟩
      · cases e
    · cases e
  · cases e
/-! ### built-in functions -/
def rBI (Γ : Gm) (b : BI) (box : Bool) : List V → Hp → VK → Prop := fun xs H Q => ∃ β F h ws, Rel Γ β F h H ∧ RVs Γ.K β F H ws xs ∧ AftO Γ F β H (bi b box ws h) Q
theorem rvs1 {K : PySem.W.Frag} {w : W} {vs : List V} (r : RVs K β F H [w] vs) : ∃ v, vs = [v] ∧ RV K β F H w v := by
  obtain ⟨v, r, rfl, h1, h2⟩ := RVs.cons.mp r
  rw [RVs.nil.mp h2]
  exact ⟨v, rfl, h1⟩
theorem rvs2 {K : PySem.W.Frag} {w w' : W} {vs : List V} (r : RVs K β F H [w, w'] vs) : ∃ v v', vs = [v, v'] ∧ RV K β F H w v ∧ RV K β F H w' v' := by
  obtain ⟨v, r, rfl, h1, h2⟩ := RVs.cons.mp r
  obtain ⟨v', rfl, h3⟩ := rvs1 h2
  exact ⟨v, v', rfl, h1, h3⟩
/-- the value that names it -/
def biF : BI → Value
  | .abs => .builtin "abs" | .len => .builtin "len" | .max => .builtin "max" | .min => .builtin "min" | .sum => .builtin "sum" | .sorted => .builtin "sorted" | .any => .builtin "any" | .all => .builtin "all"
  | .int => .type "int" | .list => .type "list" | .dict => .type "dict" | .str => .type "str" | .tuple => .type "tuple"
theorem intsOf_at {K : PySem.W.Frag} : ∀ {ws : List W} {vs : List V} {ns : List Int}, RVs K β F H ws vs → intsOf ws = some ns → vs = ns.map V.int
  | [], vs, ns, r, e => by
    unfold intsOf at e
    cases e
    rw [RVs.nil.mp r]
    rfl
  | w :: ws, vs, ns, r, e => by
    obtain ⟨v, rr, rfl, h1, h2⟩ := RVs.cons.mp r
    cases w <;> simp [intsOf] at e
    obtain ⟨ms, e1, rfl⟩ := e
    rw [rv_int h1, intsOf_at h2 e1]
    rfl
theorem str_int (i : Int) : (toString i : Str) = ofL (digitsOf i) := by
  unfold digitsOf
  rw [ofL_of]
end
end PyI

set_option Elab.async false
set_option linter.all false
set_option maxRecDepth 100000
set_option maxHeartbeats 1000000
/-! PyI6: built-in functions by values. -/
namespace PyI
open PySem PySem.Spec PyProof.Rows L2
section
variable {X : L2.Cx} {Γ : Gm} {pins : List (Addr × Obj)} {s : Shared} {σ : L2.St} {β : List Addr} {F : Addr → Prop} {h : Hc} {H : Hp}
theorem rd_len {p : Addr} {ks : List (Key × V)} {Q : Value → Shared → Prop} (I : L2.Inv X pins σ H s) (e : Rd H p (.dK ks)) (q : ∀ t s', L2.Inv X pins σ H s' → Q (.int ks.length t) s') : wpAny (model X.prog X.w) X.A (call (.builtin "len") [.ref p]) Q X.xe s := d_len I e q
/-- tuple(d) is told elsewhere -/
def TupDict (X : L2.Cx) : Prop := CallR X (.type "tuple") (fun xs H Q => ∃ a kvs, xs = [V.ref a] ∧ H a = some (.dK kvs) ∧ ∀ p, H p = none → Q (.ref p) (upd H p (.tup (kvs.map fun q => kV q.1))))
theorem bi_W {b : BI} {box : Bool} (hK : X.K = Γ.K) (hc : X.calm = true) (htd : TupDict X) : CallR X (biF b) (rBI Γ b box) := by
  intro pins s σ H xs us Q I rv ⟨β, F, h, ws, R, rws, q⟩
  unfold bi at q
  split at q
  · obtain ⟨v, rfl, r⟩ := rvs1 rws
    exact call_abs pins s σ H _ us Q I rv ⟨_, by rw [rv_int r], q.ok R (mk_int _)⟩
  · obtain ⟨v, rfl, r⟩ := rvs1 rws
    exact call_int1 pins s σ H _ us Q I rv (.inl ⟨_, by rw [rv_int r], q.ok R (mk_int _)⟩)
  · obtain ⟨v, rfl, r⟩ := rvs1 rws
    exact call_int1 pins s σ H _ us Q I rv (.inr ⟨_, by rw [rv_bl r], q.ok R (mk_int _)⟩)
  · rename_i t
    split at q
    · rename_i hl
      obtain ⟨v, rfl, r⟩ := rvs1 rws
      have e := rv_str r
      subst e
      exact call_len pins s σ H _ us Q I rv ⟨_, t.length, rfl, ⟨by rw [ofL_length]; exact hl, by rw [ofL_length]⟩, q.ok R (mk_int _)⟩
    · exact q.elim
  · obtain ⟨v, rfl, r⟩ := rvs1 rws
    obtain ⟨p, vs, rfl, hp, hr⟩ := rv_tup r
    exact call_len pins s σ H _ us Q I rv ⟨_, vs.length, rfl, .inr ⟨vs, by rw [hK]; exact hp.sq, rfl⟩, by rw [← hr.length]; exact q.ok R (mk_int _)⟩
  · obtain ⟨v, rfl, r⟩ := rvs1 rws
    obtain ⟨p, vs, rfl, hp, _, _, hr⟩ := rv_lst r
    exact call_len pins s σ H _ us Q I rv ⟨_, vs.length, rfl, .inl ⟨vs, SqL.of hp, rfl⟩, by rw [← hr.length]; exact q.ok R (mk_int _)⟩
  · obtain ⟨v, rfl, r⟩ := rvs1 rws
    split at q
    · rename_i ho
      obtain ⟨p, rfl, _, vs, hp, hr⟩ := RV.hl R r ho
      exact call_len pins s σ H _ us Q I rv ⟨_, vs.length, rfl, .inl ⟨vs, .inl hp, rfl⟩, by rw [← hr.length]; exact q.ok R (mk_int _)⟩
    · rename_i ho
      obtain ⟨p, ks, rfl, _, hp, hr⟩ := rkvs_rd R r ho
      obtain ⟨u, rfl, ru⟩ := vals1 rv
      cases ru
      refine rd_len I hp fun t s' I' => ⟨.int ks.length, H, I', ⟨t, rfl⟩, ?_⟩
      rw [← hr.length]
      exact q.ok R (mk_int _)
    · exact q.elim
  · obtain ⟨v, rfl, r⟩ := rvs1 rws
    obtain ⟨p, vs, rfl, hp, hr⟩ := rv_tup r
    exact call_list_of pins s σ H _ us Q I rv ⟨p, vs, rfl, .inr (by rw [hK]; exact hp.sq), mkL_fin R hr q⟩
  · obtain ⟨v, rfl, r⟩ := rvs1 rws
    obtain ⟨p, vs, rfl, hp, _, _, hr⟩ := rv_lst r
    exact call_list_of pins s σ H _ us Q I rv ⟨p, vs, rfl, .inl (SqL.of hp), mkL_fin R hr q⟩
  · obtain ⟨v, rfl, r⟩ := rvs1 rws
    split at q
    · rename_i ho
      obtain ⟨p, rfl, _, vs, hp, hr⟩ := RV.hl R r ho
      exact call_list_of pins s σ H _ us Q I rv ⟨p, vs, rfl, .inl (.inl hp), mkL_fin R hr q⟩
    · rename_i ho
      obtain ⟨p, rfl, _, ks, hp, hr⟩ := RV.ref R r ho
      exact call_list_dK hc pins s σ H _ us Q I rv ⟨p, ks, rfl, hp, mkL_fin R hr.keys q⟩
    · exact q.elim
  · obtain ⟨v, rfl, r⟩ := rvs1 rws
    obtain ⟨p, vs, rfl, hp, hr⟩ := rv_tup r
    refine call_tuple_of pins s σ H _ us Q I rv ⟨p, vs, rfl, .inr ⟨by rw [hK]; exact hp.sq, q.ok R ?_⟩⟩
    unfold RV
    exact ⟨p, vs, rfl, hp, hr⟩
  · obtain ⟨v, rfl, r⟩ := rvs1 rws
    obtain ⟨p, vs, rfl, hp, _, _, hr⟩ := rv_lst r
    exact call_tuple_of pins s σ H _ us Q I rv ⟨p, vs, rfl, .inl ⟨SqL.of hp, tup_fin R hr q⟩⟩
  · obtain ⟨v, rfl, r⟩ := rvs1 rws
    split at q
    · rename_i ho
      obtain ⟨p, rfl, _, vs, hp, hr⟩ := RV.hl R r ho
      exact call_tuple_of pins s σ H _ us Q I rv ⟨p, vs, rfl, .inl ⟨.inl hp, tup_fin R hr q⟩⟩
    · rename_i ho
      obtain ⟨p, rfl, _, ks, hp, hr⟩ := RV.ref R r ho
      exact htd pins s σ H _ us Q I rv ⟨p, ks, rfl, hp, tup_fin R hr.keys q⟩
    · exact q.elim
  · obtain ⟨v, v', rfl, r, r'⟩ := rvs2 rws
    exact call_max2 hc pins s σ H _ us Q I rv ⟨_, _, by rw [rv_int r, rv_int r'], q.ok R (mk_int _)⟩
  · obtain ⟨v, v', rfl, r, r'⟩ := rvs2 rws
    exact call_min2 hc pins s σ H _ us Q I rv ⟨_, _, by rw [rv_int r, rv_int r'], q.ok R (mk_int _)⟩
  · split at q
    · rename_i xs ea
      split at q
      · rename_i ns en
        obtain ⟨v, rfl, r⟩ := rvs1 rws
        obtain ⟨p, vs, rfl, hp, hr⟩ := r.lseq R ea
        have e := intsOf_at hr en
        subst e
        exact cr_sum hc pins s σ H _ us Q I rv ⟨p, ns, rfl, SqL.of hp, q.ok R (mk_int _)⟩
      · exact q.elim
    · exact q.elim
  · rename_i i
    split at q
    · rename_i hl
      obtain ⟨v, rfl, r⟩ := rvs1 rws
      refine call_str_int pins s σ H _ us Q I rv ⟨i, by rw [rv_int r], hl, ?_⟩
      rw [str_int]
      exact q.ok R (mk_str _)
    · exact q.elim
  · exact q.elim
end
end PyI

set_option Elab.async false
set_option linter.all false
set_option maxRecDepth 100000
set_option maxHeartbeats 1000000
/-! PyI7: methods of built-in classes. -/
namespace PyI
open PySem PySem.Spec PyProof.Rows L2
section
variable {X : L2.Cx} {Γ : Gm} {pins : List (Addr × Obj)} {s : Shared} {σ : L2.St} {β : List Addr} {F : Addr → Prop} {h : Hc} {H : Hp}
/-- the value is of the built-in class T -/
def TyS (X : L2.Cx) (T : String) (x : V) (H : Hp) : Prop := ∀ (pins : List (Addr × Obj)) (σ : L2.St) (s : Shared) (v : Value), L2.Inv X pins σ H s → RelV x v → s.TypeIs v T ∧ ∀ a, v = .ref a → ∃ ob, s.heap.get? a = some ob ∧ ob.dict = none
theorem TyS.of {T : String} {x : V} (h : tyV X.K T x H) : TyS X T x H := fun pins σ s v I r => tyV_is I r h
theorem TyS.dict {p : Addr} {ks : List (Key × V)} (h : Rd H p (.dK ks)) : TyS X "dict" (.ref p) H := fun pins σ s v I r => by
  cases r
  obtain ⟨a, b, _⟩ := isD_at I (.inl ⟨ks, h⟩)
  exact ⟨a, b⟩
/-- a method that the receiver's class has, by values -/
structure BmAt (X : L2.Cx) (name : Str) (x : V) (H : Hp) (r : V → List V → Hp → VK → Prop) : Prop where
  ex : ∃ (T id : String), PlainAttrs T ∧ Slot T name id ∧ typeOf (.builtin id) = pure (.type "method_descriptor") ∧ MtR X id r ∧ TyS X T x H
/-- the methods that are told of, by class -/
def bmId : BT → BM → Option (String × String)
  | .list, .append => some ("list", "list.append")
  | .dict, .pop => some ("dict", "dict.pop")
  | .dict, .get => some ("dict", "dict.get")
  | _, _ => none
def tBmW (X : L2.Cx) (name : Str) (to : TE) (t : TA) : TE := fun σ H Q => to σ H fun x H1 => ∃ r, BmAt X name x H1 r ∧ t σ H1 fun xs H2 => r x xs H2 Q
section
variable {o e : Expr} {es : List Expr} {to : TE} {t : TA} {name : Str} {apos cpos : Pos}
theorem pe_bmW0 (ho : PE X o to) (hbase : attributeBase o name X.env (eval o X.env) = eval o X.env) (hline : (apos.endLine == cpos.line) = true) : PE X (.Call (.Attribute o name apos) [] [] cpos) (tBmW X name to fun _ H K => K [] H) := by
  refine ⟨fun pins s σ H Q I h => ?_⟩
  refine wpAny_Call_method0_late hbase hline (thn (ho.run pins s σ H _ I h) fun v s1 ⟨x, H1, I1, r1, r, ⟨T, id, pa, slot, hty, hm, ty⟩, q1⟩ => ?_)
  obtain ⟨h1, h2⟩ := ty pins σ s1 v I1 r1
  exact ⟨T, id, pa, slot, hty, h1, h2, Calls.callWith_builtin rfl (PySem.evalArgs_none (hm pins s1 σ H1 x [] v [] Q I1 r1 .nil q1))⟩
theorem pe_bmW (ho : PE X o to) (ha : PA X (e :: es) t)
    (hbase : attributeBase o name X.env (eval o X.env) = eval o X.env)
    (hfew : ((backTo cpos (starEach (e :: es) X.env)).all (fun x => !x.1) && (backToKw cpos (keywordEach [] X.env)).all (fun x => x.1.isSome)
      && decide ((e :: es).length + ([] : List Keyword).length + (if ([] : List Keyword).isEmpty then 0 else 1) < 30)) = true)
    (hline : (apos.endLine == cpos.line) = true) (hs : starEach (e :: es) X.env = (false, eval e X.env) :: starEach es X.env) (hplain : (backTo cpos (starEach es X.env)).any (·.1) = false) :
    PE X (.Call (.Attribute o name apos) (e :: es) [] cpos) (tBmW X name to t) := by
  refine ⟨fun pins s σ H Q I h => ?_⟩
  refine wpAny_Call_method_late hbase hfew hline rfl (thn (ho.run pins s σ H _ I h) fun v s1 ⟨x, H1, I1, r1, r, ⟨T, id, pa, slot, hty, hm, ty⟩, q1⟩ => ?_)
  obtain ⟨h1, h2⟩ := ty pins σ s1 v I1 r1
  refine ⟨T, id, pa, slot, hty, h1, h2, ?_⟩
  have hA := ha.run cpos pins s1 σ H1 _ I1 q1
  rw [hs] at hA ⊢
  refine Calls.callWith_builtin (by show (false || (backTo cpos (starEach es X.env)).any (·.1)) = false; rw [hplain] <;> rfl) (Calls.evalArgs_plain ?_)
  exact thn hA fun us s2 ⟨vs, H2, I2, r2, q2⟩ => hm pins s2 σ H2 x vs v us Q I2 r1 r2 q2
end
/-! ### dicts -/
def rDPop : V → List V → Hp → VK → Prop := fun x xs H Q => ∃ a kvs k, x = .ref a ∧ H a = some (.dK kvs) ∧
  ((xs = [kV k] ∧ ∃ v, valV kvs k = some v ∧ Q v (upd H a (.dK (dropK kvs k)))) ∨ ∃ d, xs = [kV k, d] ∧ (∀ v, valV kvs k = some v → Q v (upd H a (.dK (dropK kvs k)))) ∧ (valV kvs k = none → Q d H))
theorem mt_dpop : MtR X "dict.pop" rDPop := by
  intro pins s σ H x xs v us Q I rx rv h
  obtain ⟨a, kvs, k, rfl, ea, h⟩ := h
  obtain rfl : v = Value.ref a := rx
  rcases h with ⟨rfl, z, l, q⟩ | ⟨d, rfl, q1, q2⟩
  · obtain ⟨u, rfl, ru⟩ := vals1 rv
    exact d_pop I ea ru l (.inl rfl) fun w' s3 I3 rw' => ⟨z, _, I3, rw', q⟩
  · obtain ⟨u, fv, rfl, ru, rd⟩ := vals2 rv
    cases l : valV kvs k with
    | some z => exact d_pop I ea ru l (.inr ⟨fv, rfl⟩) fun w' s4 I4 rw' => ⟨z, _, I4, rw', q1 z l⟩
    | none => exact d_popD I ea ru l fun s4 I4 => ⟨d, H, I4, rd, q2 l⟩
def rDGet : V → List V → Hp → VK → Prop := fun x xs H Q => ∃ a y o, x = .ref a ∧ DGet H a y o ∧ ((xs = [y] ∧ Q (o.getD .non) H) ∨ ∃ d, xs = [y, d] ∧ Q (o.getD d) H)
theorem mt_dget (hu : X.A.units + 1 < cLine) : MtR X "dict.get" rDGet := by
  intro pins s σ H x xs v us Q I rx rv h
  obtain ⟨a, y, o, rfl, g, h⟩ := h
  obtain rfl : v = Value.ref a := rx
  rcases h with ⟨rfl, q⟩ | ⟨d, rfl, q⟩
  · obtain ⟨u, rfl, ru⟩ := vals1 rv
    exact d_get1 hu I g ru fun w' s3 I3 rw' => ⟨_, H, I3, rw', q⟩
  · obtain ⟨u, fv, rfl, ru, rd⟩ := vals2 rv
    exact d_get2 hu I g ru rd fun w' s3 I3 rw' => ⟨_, H, I3, rw', q⟩
/-- its name -/
def bmN : BM → Str
  | .append => "append" | .pop => "pop" | .get => "get" | .index => "index" | .count => "count" | .update => "update" | .setdefault => "setdefault" | .items => "items" | .join => "join"
def rBM (Γ : Gm) (T : BT) (m : BM) (box : Bool) : V → List V → Hp → VK → Prop := fun x xs H Q => ∃ β F h xw ws, Rel Γ β F h H ∧ RV Γ.K β F H xw x ∧ RVs Γ.K β F H ws xs ∧ AftO Γ F β H (bm T m box xw ws h) Q
theorem dpop_fin {a : Nat} {kvs : List (W × W)} {k v : W} {p : Addr} {ks : List (Key × V)} {u : V} {Q : VK} (R : Rel Γ β F h H) (hb : β[a]? = some p) (hp : H p = some (.dK ks)) (hr : RKVs Γ.K β F H kvs ks) (hk : k.isKey = true) (ru : RV Γ.K β F H v u)
    (q : AftO Γ F β H (.ok (v, h.set a (.dic false (ddel kvs k)))) Q) : Q u (upd H p (.dK (dropK ks (keyOf k)))) := by
  have nt : ∀ zs, HO.dK ks ≠ .tup zs := fun _ z => by cases z
  have st := step_write (β := β) (o := .dK (dropK ks (keyOf k))) (List.mem_of_getElem? hb) hp nt
  exact AftO.okS q st (R.write hb hp nt (fun _ z => by cases z) (fun _ z => by unfold LamX.CodeO at z; cases z) ⟨_, upd_same, (hr.del hk).step st⟩) (RV.step st _ _ ru)
theorem mt_bm (hu : X.A.units + 64 < cLine) {T : BT} {m : BM} {box : Bool} {cls id : String} (hid : bmId T m = some (cls, id)) : MtR X id (rBM Γ T m box) := by
  intro pins s σ H x xs v us Q I rx rv ⟨β, F, h, xw, ws, R, rxw, rws, q⟩
  unfold bm at q
  split at q
  · cases hid
    obtain ⟨y, rfl, ry⟩ := rvs1 rws
    split at q
    · rename_i ho
      split at q
      · rename_i hl
        obtain ⟨p, rfl, hb, vs, hp, hr⟩ := RV.ref R rxw ho
        refine mt_append pins s σ H _ _ v us Q I rx rv ⟨p, vs, y, rfl, rfl, hp, by rw [← hr.length]; exact hl, ?_⟩
        have nt : ∀ zs, HO.lst vs ≠ .tup zs := fun _ z => by cases z
        have st := step_write (β := β) (o := .lst (vs ++ [y])) (List.mem_of_getElem? hb) hp nt
        exact AftO.okS q st (R.write hb hp nt (fun _ z => by cases z) (fun _ z => by unfold LamX.CodeO at z; cases z) ⟨_, upd_same, RVs.step st _ _ (hr.append (RVs.mk ry (RVs.nil.mpr rfl)))⟩) mk_non
      · exact q.elim
    · exact q.elim
  · cases hid
    obtain ⟨y, rfl, ry⟩ := rvs1 rws
    split at q
    · rename_i ho
      split at q
      · rename_i hk
        obtain ⟨p, rfl, hb, ks, hp, hr⟩ := RV.ref R rxw ho
        obtain rfl := RV.key hk ry
        split at q
        · rename_i e
          obtain ⟨u, e1, ru⟩ := hr.some hk e
          exact mt_dpop pins s σ H _ _ v us Q I rx rv ⟨p, ks, _, rfl, hp, .inl ⟨rfl, u, e1, dpop_fin R hb hp hr hk ru q⟩⟩
        · exact q.elim
      · exact q.elim
    · exact q.elim
  · cases hid
    obtain ⟨y, d, rfl, ry, rd⟩ := rvs2 rws
    split at q
    · rename_i ho
      split at q
      · rename_i hk
        obtain ⟨p, rfl, hb, ks, hp, hr⟩ := RV.ref R rxw ho
        obtain rfl := RV.key hk ry
        split at q
        · rename_i e
          obtain ⟨u, e1, ru⟩ := hr.some hk e
          refine mt_dpop pins s σ H _ _ v us Q I rx rv ⟨p, ks, _, rfl, hp, .inr ⟨d, rfl, fun v' ev => ?_, fun ev => ?_⟩⟩
          · rw [e1] at ev
            cases ev
            exact dpop_fin R hb hp hr hk ru q
          · rw [e1] at ev
            cases ev
        · rename_i e
          have e1 := hr.none hk e
          refine mt_dpop pins s σ H _ _ v us Q I rx rv ⟨p, ks, _, rfl, hp, .inr ⟨d, rfl, fun v' ev => ?_, fun ev => ?_⟩⟩
          · rw [e1] at ev
            cases ev
          · exact q.ok R rd
      · exact q.elim
    · exact q.elim
  · cases hid
    obtain ⟨y, rfl, ry⟩ := rvs1 rws
    split at q
    · rename_i ho
      split at q
      · rename_i hk
        obtain ⟨p, ks, rfl, _, hp, hr⟩ := rkvs_rd R rxw ho
        obtain rfl := RV.key hk ry
        refine mt_dget (by omega) pins s σ H _ _ v us Q I rx rv ⟨p, _, _, rfl, .inl ⟨ks, _, hp, rfl, rfl⟩, .inl ⟨rfl, ?_⟩⟩
        refine q.ok R ?_
        cases e : dget _ _ with
        | none => rw [hr.none hk e]; exact mk_non
        | some w => obtain ⟨u, e1, ru⟩ := hr.some hk e; rw [e1]; exact ru
      · exact q.elim
    · exact q.elim
  · cases hid
    obtain ⟨y, d, rfl, ry, rd⟩ := rvs2 rws
    split at q
    · rename_i ho
      split at q
      · rename_i hk
        obtain ⟨p, ks, rfl, _, hp, hr⟩ := rkvs_rd R rxw ho
        obtain rfl := RV.key hk ry
        refine mt_dget (by omega) pins s σ H _ _ v us Q I rx rv ⟨p, _, _, rfl, .inl ⟨ks, _, hp, rfl, rfl⟩, .inr ⟨d, rfl, ?_⟩⟩
        refine q.ok R ?_
        cases e : dget _ _ with
        | none => rw [hr.none hk e]; exact rd
        | some w => obtain ⟨u, e1, ru⟩ := hr.some hk e; rw [e1]; exact ru
      · exact q.elim
    · exact q.elim
  · exact q.elim
/-- the receiver is of its class -/
theorem bmT_is (hK : X.K = Γ.K) (R : Rel Γ β F h H) {xw : W} {x : V} (r : RV Γ.K β F H xw x) {T : BT} {m : BM} {cls id : String} (e : bmT xw h = some T) (hid : bmId T m = some (cls, id)) : tyV X.K cls x H ∨ (cls = "dict" ∧ ∃ p ks, x = .ref p ∧ Rd H p (.dK ks)) := by
  unfold bmT at e
  split at e
  · cases e
    cases m <;> cases hid
  · cases e
    cases m <;> cases hid
  · cases e
    obtain ⟨p, vs, rfl, hp, _⟩ := rv_lst r
    cases m <;> cases hid
    exact .inl (.inl ⟨rfl, vs, SqL.of hp⟩)
  · split at e
    · rename_i ho
      cases e
      obtain ⟨p, rfl, _, vs, hp, _⟩ := RV.hl R r ho
      cases m <;> cases hid
      exact .inl (.inl ⟨rfl, vs, .inl hp⟩)
    · rename_i ho
      cases e
      obtain ⟨p, ks, rfl, _, hp, _⟩ := rkvs_rd R r ho
      cases m <;> cases hid <;> exact .inr ⟨rfl, p, ks, rfl, hp⟩
    · cases e
  · cases e
theorem bmT_ty (hK : X.K = Γ.K) (R : Rel Γ β F h H) {xw : W} {x : V} (r : RV Γ.K β F H xw x) {T : BT} {m : BM} {cls id : String} (e : bmT xw h = some T) (hid : bmId T m = some (cls, id)) : TyS X cls x H := by
  rcases bmT_is hK R r e hid with z | ⟨rfl, p, ks, rfl, z⟩
  · exact TyS.of z
  · exact TyS.dict z
theorem bmId_ok {T : BT} {m : BM} {cls id : String} (hid : bmId T m = some (cls, id)) : PlainAttrs cls ∧ Slot cls (bmN m) id ∧ typeOf (.builtin id) = pure (.type "method_descriptor") := by
  cases T <;> cases m <;> cases hid
  · exact ⟨PySem.F.plainAttrs_list, PySem.F.slot_list_append, PySem.F.type_list_append⟩
  · exact ⟨PySem.F.plainAttrs_dict, PySem.F.slot_dict_pop, PySem.F.type_dict_pop⟩
  · exact ⟨PySem.F.plainAttrs_dict, PySem.F.slot_dict_get, PySem.F.type_dict_get⟩
end
end PyI

set_option Elab.async false
set_option linter.all false
set_option maxRecDepth 100000
set_option maxHeartbeats 1000000
/-! PyI8: readings of expressions by the interpreter. -/
namespace PyI
open PySem PySem.Spec PyProof.Rows L2

theorem th_upd {H : Hp} {p a : Addr} {o : HO} (no : ∀ ps, o ≠ .tbl ps) (h : Th H a) : Th (upd H p o) a := by
  by_cases q : a = p
  · rw [q]; exact ⟨o, upd_same, no⟩
  · obtain ⟨v, e, nv⟩ := h
    exact ⟨v, by rw [upd_ne q]; exact e, nv⟩
/-! ### an object of ours that is not told of yet -/
abbrev FP (F : Addr → Prop) (p : Addr) : Addr → Prop := fun a => F a ∨ a = p
section
variable {Γ : Gm} {K : PySem.W.Frag} {β β1 : List Addr} {F : Addr → Prop} {h : Hc} {H H1 : Hp} {p : Addr} {o : HO}
theorem tr_foreign (hp : H p = none) : Tr K β F H β (FP F p) (upd H p o) :=
  ⟨fun a u e n nf _ => ⟨by rw [upd_ne (ne_of_none e hp)]; exact e, n, fun z => z.elim nf (ne_of_none e hp)⟩, fun a xs e => by rw [upd_ne (ne_of_none e hp)]; exact e, fun _ _ e => e, fun a P e n => ⟨by rw [upd_ne (ne_of_none e hp)]; exact e, n⟩⟩
theorem Rel.foreign (R : Rel Γ β F h H) (hp : H p = none) (no : ∀ ps, o ≠ .tbl ps := by intro _ z; cases z) : Rel Γ β (FP F p) h (upd H p o) := by
  have R1 := R.fresh (o := o) hp
  refine ⟨R.nd, R.len, fun a ha z => z.elim (R.av a ha) fun e => (R.th a ha).ne (by rw [e]; exact hp), fun a z => z.elim (R1.fr a) fun e => by rw [e]; exact ⟨o, upd_same, no⟩, R1.th, fun i c a e1 e2 => (R.ob i c a e1 e2).tr (tr_foreign hp) (upd_ne fun z => (R.th a (List.mem_of_getElem? e2)).ne (by rw [z]; exact hp)), R1.tb⟩
/-- it is written -/
theorem tr_alt {u : HO} (hp : H p = some u) (nt : ∀ xs, u ≠ .tup xs) (ne : ∀ P, u ≠ .ext P := by intro _ z; cases z) : Tr K β (FP F p) H β (FP F p) (upd H p o) :=
  ⟨fun a v e n nf _ => ⟨by rw [upd_ne (fun z => nf (.inr z))]; exact e, n, nf⟩, fun a xs e => by rw [upd_ne (fun z => nt xs (by rw [z, hp] at e; exact Option.some.inj e))]; exact e, fun _ _ e => e, fun a P e n => ⟨by rw [upd_ne (fun z => ne P (by rw [z, hp] at e; exact Option.some.inj e))]; exact e, n⟩⟩
theorem Rel.alt {u : HO} (R : Rel Γ β (FP F p) h H) (hp : H p = some u) (nt : ∀ xs, u ≠ .tup xs) (nb : ∀ ps, u ≠ .tbl ps) (nc : ∀ q, u ≠ LamX.CodeO p q) (no : ∀ ps, o ≠ .tbl ps := by intro _ z; cases z) (ne : ∀ P, u ≠ .ext P := by intro _ z; cases z) : Rel Γ β (FP F p) h (upd H p o) := by
  refine ⟨R.nd, R.len, R.av, fun a z => ?_, fun a ha => ?_, fun i c a e1 e2 => (R.ob i c a e1 e2).tr (tr_alt hp nt ne) (upd_ne fun z => R.av a (List.mem_of_getElem? e2) (.inr z)), tabs_upd R.tb (fun ps z => by rw [hp] at z; exact nb ps (Option.some.inj z)) fun c q e => fun z => by
    rw [z, hp] at e
    exact nc q (Option.some.inj e)⟩
  · exact th_upd no (R.fr a z)
  · exact th_upd no (R.th a ha)
theorem step_alt (s : Step β H β1 H1) (hp : H p = none) (no : ∀ ps, o ≠ .tbl ps := by intro _ z; cases z) : Step β H β1 (upd H1 p o) := by
  refine ⟨s.pre, fun a u e n nt => ?_, s.new, fun a e => ?_, fun a xs e => ?_, fun a o' u e => ?_⟩
  · rw [upd_ne (ne_of_none e hp)]; exact s.keep a u e n nt
  · exact th_upd no (s.there a e)
  · rw [upd_ne (ne_of_none e hp)]; exact s.tups a xs e
  · rw [upd_ne (ne_of_none e hp)]; exact s.frzs a o' u e
/-- it becomes one of the heap -/
theorem tr_adopt {u : HO} (hp : H p = some u) (nt : ∀ xs, u ≠ .tup xs) (np : p ∉ β) (nf : ¬ F p) (ne : ∀ P, u ≠ .ext P := by intro _ z; cases z) : Tr K β (FP F p) H (β ++ [p]) F (upd H p o) :=
  ⟨fun a v e n nf _ => ⟨by rw [upd_ne (fun z => nf (.inr z))]; exact e, fun z => (List.mem_append.mp z).elim n fun z => nf (.inr (List.mem_singleton.mp z)), fun z => nf (.inl z)⟩,
    fun a xs e => by rw [upd_ne (fun z => nt xs (by rw [z, hp] at e; exact Option.some.inj e))]; exact e, fun i a e => by rw [List.getElem?_append_left (List.getElem?_eq_some_iff.mp e).1]; exact e,
    fun a P e n => have q : a ≠ p := fun z => ne P (by rw [z, hp] at e; exact Option.some.inj e); ⟨by rw [upd_ne q]; exact e, fun z => (List.mem_append.mp z).elim n fun z => q (List.mem_singleton.mp z)⟩⟩
theorem Rel.adopt {u : HO} {c : CO} (R : Rel Γ β (FP F p) h H) (hp : H p = some u) (nt : ∀ xs, u ≠ .tup xs) (nb : ∀ ps, u ≠ .tbl ps) (nc : ∀ q, u ≠ LamX.CodeO p q) (nf : ¬ F p) (hc : OR Γ (β ++ [p]) F (upd H p o) p c) (no : ∀ ps, o ≠ .tbl ps := by intro _ z; cases z) (ne : ∀ P, u ≠ .ext P := by intro _ z; cases z) : Rel Γ (β ++ [p]) F (h ++ [c]) (upd H p o) := by
  have np : p ∉ β := fun z => R.av p z (.inr rfl)
  have R1 := R.alt (o := o) hp nt nb nc no ne
  refine ⟨?_, by simp [R.len], fun a ha => ?_, fun a fa => R1.fr a (.inl fa), fun a ha => ?_, fun i v a h1 h2 => ?_, R1.tb⟩
  · rw [List.nodup_append]
    refine ⟨R.nd, by simp, fun a ha b hb => ?_⟩
    rw [List.mem_singleton.mp hb]
    intro z
    rw [z] at ha
    exact np ha
  · rcases List.mem_append.mp ha with ha | ha
    · exact fun z => R.av a ha (.inl z)
    · rw [List.mem_singleton.mp ha]; exact nf
  · rcases List.mem_append.mp ha with ha | ha
    · exact R1.th a ha
    · rw [List.mem_singleton.mp ha]; exact ⟨o, upd_same, no⟩
  · by_cases hi : i < h.length
    · rw [List.getElem?_append_left hi] at h1
      rw [List.getElem?_append_left (by rw [R.len]; exact hi)] at h2
      exact (R.ob i v a h1 h2).tr (tr_adopt hp nt np nf ne) (upd_ne fun z => np (by rw [← z]; exact List.mem_of_getElem? h2))
    · have e : i = h.length := by
        have := (List.getElem?_eq_some_iff.mp h1).1
        simp at this
        omega
      subst e
      rw [List.getElem?_append_right (Nat.le_refl _)] at h1
      rw [List.getElem?_append_right (by rw [R.len]; exact Nat.le_refl _), R.len] at h2
      simp at h1 h2
      subst h1 h2
      exact hc
theorem step_adopt (s : Step β H β1 H1) (hp : H p = none) (np : p ∉ β1) (no : ∀ ps, o ≠ .tbl ps := by intro _ z; cases z) : Step β H (β1 ++ [p]) (upd H1 p o) := by
  have t := step_alt (o := o) s hp no
  refine ⟨t.pre.trans (List.prefix_append _ _), t.keep, fun a ha n => ?_, t.there, t.tups, t.frzs⟩
  rcases List.mem_append.mp ha with ha | ha
  · exact t.new a ha n
  · rw [List.mem_singleton.mp ha]; exact fun z => z.ne hp
/-- .. or stays a tree -/
theorem tr_drop : Tr K β (FP F p) H β F H := ⟨fun a v e n nf _ => ⟨e, n, fun z => nf (.inl z)⟩, fun a xs e => e, fun _ _ e => e, fun _ _ e n => ⟨e, n⟩⟩
theorem Rel.drop (R : Rel Γ β (FP F p) h H) : Rel Γ β F h H :=
  ⟨R.nd, R.len, fun a ha z => R.av a ha (.inl z), fun a z => R.fr a (.inl z), R.th, fun i c a e1 e2 => (R.ob i c a e1 e2).tr tr_drop rfl, R.tb⟩
end

/-! ### slots -/
/-- lambdas kept in a list: what tells the function object at f of the lambda k, its code object at c; q: the code's name -/
structure LamT where
  ob : Nat → Addr → Addr → Heap → Prop
  q : Str
def LMs (LO : LamT) (β : List Addr) (F : Addr → Prop) (H : Hp) (ids : List Nat) (v : V) : Prop := ∃ a fvs, v = .ref a ∧ H a = some (.lst fvs) ∧ a ∉ β ∧ ¬ F a ∧ Paired (fun k u => ∃ f c, u = V.ref f ∧ (H f = some (.ext (LO.ob k f c)) ∧ f ∉ β) ∧ H c = some (LamX.CodeO c LO.q) ∧ c ∉ β) ids fvs
def RS1 (K : PySem.W.Frag) (LO : LamT) (β : List Addr) (F : Addr → Prop) (H : Hp) : Sv → Option V → Prop
  | .un, _ => True
  | .v w, o => ∃ v, o = some v ∧ RV K β F H w v
  | .lams ids, o => ∃ v, o = some v ∧ LMs LO β F H ids v
structure RSl (K : PySem.W.Frag) (LO : LamT) (β : List Addr) (F : Addr → Prop) (H : Hp) (sl : Sl) (σ : L2.St) : Prop where
  len : sl.length = σ.length
  at_ : ∀ (i : Nat) s, sl[i]? = some s → ∃ o, σ[i]? = some o ∧ RS1 K LO β F H s o
def LamT.Ok (_ : LamT) : Prop := True
section
variable {K : PySem.W.Frag} {LO : LamT} {β β' : List Addr} {F F' : Addr → Prop} {H H' : Hp} {sl : Sl} {σ : L2.St}
theorem LMs.tr (lo : LO.Ok) (s : Tr K β F H β' F' H') {ids : List Nat} {v : V} (r : LMs LO β F H ids v) : LMs LO β' F' H' ids v := by
  obtain ⟨a, fvs, e, ha, n, nf, ps⟩ := r
  obtain ⟨h1, h2, h3⟩ := s.keep a _ ha n nf (fun ps z => by cases z)
  refine ⟨a, fvs, e, h1, h2, h3, L2.Paired.mapP ps fun k u ⟨f, c, e, ⟨hf, n⟩, hc, nc⟩ => ⟨f, c, e, s.exts f _ hf n, s.exts c _ hc nc⟩⟩
theorem RS1.tr (lo : LO.Ok) (t : Tr K β F H β' F' H') : ∀ {s : Sv} {o : Option V}, RS1 K LO β F H s o → RS1 K LO β' F' H' s o
  | .un, _, _ => True.intro
  | .v w, o, ⟨v, e, r⟩ => ⟨v, e, RV.tr t w v r⟩
  | .lams ids, o, ⟨v, e, r⟩ => ⟨v, e, r.tr lo t⟩
theorem RSl.tr (lo : LO.Ok) (t : Tr K β F H β' F' H') (r : RSl K LO β F H sl σ) : RSl K LO β' F' H' sl σ := ⟨r.len, fun i s e => let ⟨o, h1, h2⟩ := r.at_ i s e; ⟨o, h1, h2.tr lo t⟩⟩
theorem RSl.step (lo : LO.Ok) {β1 : List Addr} {H1 : Hp} (s : Step β H β1 H1) (r : RSl K LO β F H sl σ) : RSl K LO β1 F H1 sl σ := r.tr lo s.tr
theorem RSl.var (r : RSl K LO β F H sl σ) {i : Nat} {w : W} (e : sl[i]? = some (.v w)) : ∃ v, σ[i]? = some (some v) ∧ RV K β F H w v := by
  obtain ⟨o, h1, v, h2, h3⟩ := r.at_ i _ e
  exact ⟨v, by rw [h1, h2], h3⟩
theorem RSl.set (r : RSl K LO β F H sl σ) {i : Nat} {s : Sv} {o : Option V} (h : RS1 K LO β F H s o) : RSl K LO β F H (sl.set i s) (σ.set i o) := by
  refine ⟨by simp [r.len], fun j t e => ?_⟩
  by_cases hj : i = j
  · subst hj
    by_cases hi : i < sl.length
    · rw [List.getElem?_set_self hi] at e
      cases e
      exact ⟨o, List.getElem?_set_self (by rw [← r.len]; exact hi), h⟩
    · rw [List.getElem?_eq_none (by simpa using hi)] at e
      cases e
  · rw [List.getElem?_set_ne hj] at e
    obtain ⟨o', h1, h2⟩ := r.at_ j t e
    exact ⟨o', by rw [List.getElem?_set_ne hj]; exact h1, h2⟩
theorem RSl.setV (r : RSl K LO β F H sl σ) {i : Nat} {w : W} {v : V} (h : RV K β F H w v) : RSl K LO β F H (sl.set i (.v w)) (σ.set i (some v)) := r.set (show RS1 K LO β F H (.v w) (some v) from ⟨v, rfl, h⟩)
theorem RSl.wipe (r : RSl K LO β F H sl σ) : ∀ vs : List Nat, RSl K LO β F H (wipeS sl vs) (wipe σ vs)
  | [] => r
  | v :: vs => by
    unfold wipeS L2.wipe
    exact RSl.set (RSl.wipe r vs) True.intro
end

/-! ### readings -/
def tR {α γ : Type} (Γ : Gm) (LO : LamT) (E : XK) (RA : (Addr → Prop) → List Addr → Hp → α → γ → Prop) (m : Sl → Hc → Res (α × Hc)) : L2.St → Hp → (γ → Hp → Prop) → Prop :=
  fun σ H Q => ∃ β F h sl, Rel Γ β F h H ∧ RSl Γ.K LO β F H sl σ ∧ Aft Γ E F (RA F) β H (m sl h) Q
abbrev tE (Γ : Gm) (LO : LamT) (E : XK) (m : Sl → Hc → RW) : TE := tR Γ LO E (AW Γ) m
abbrev tT (Γ : Gm) (LO : LamT) (E : XK) (m : Sl → Hc → Res (Bool × Hc)) : TT := tR Γ LO E (fun _ => AB) m
abbrev tAs (Γ : Gm) (LO : LamT) (E : XK) (m : Sl → Hc → RWs) : TA := tR Γ LO E (AL Γ) m
theorem PEimp {X : L2.Cx} {e : Expr} {t t' : TE} (h : PE X e t) (i : ∀ σ H Q, t' σ H Q → t σ H Q) : PE X e t' := ⟨fun pins s σ H Q I q => h.run pins s σ H Q I (i σ H Q q)⟩
theorem PTimp {X : L2.Cx} {e : Expr} {t t' : TT} (h : PT X e t) (i : ∀ σ H Q, t' σ H Q → t σ H Q) : PT X e t' := ⟨fun pins s σ H Q I q => h.run pins s σ H Q I (i σ H Q q)⟩
theorem PWimp {X : L2.Cx} {e : Expr} {t t' : TT} (h : PW X e t) (i : ∀ σ H Q, t' σ H Q → t σ H Q) : PW X e t' := ⟨fun wh pins s σ H Q I q => h.run wh pins s σ H Q I (i σ H Q q)⟩
theorem PAimp {X : L2.Cx} {e : List Expr} {t t' : TA} (h : PA X e t) (i : ∀ σ H Q, t' σ H Q → t σ H Q) : PA X e t' := ⟨fun pos pins s σ H Q I q => h.run pos pins s σ H Q I (i σ H Q q)⟩

/-- what an expression's context must be -/
structure Fx (Γ : Gm) (LO : LamT) (E : XK) (X : L2.Cx) : Prop where
  hK : X.K = Γ.K
  lo : LO.Ok
  calm : X.calm = true
  units : X.A.units + 64 < cLine
  nodup : X.N.Nodup
  td : TupDict X
section
variable {Γ : Gm} {LO : LamT} {E : XK} {X : L2.Cx} {pos : Pos}
/-- two values, then an operator -/
theorem tR.two (C : Fx Γ LO E X) {m1 : Sl → Hc → RW} {m2 : Sl → Hc → RW} {g : Hc → W → W → RW} {r : R2} {σ : L2.St} {H : Hp} {Q : VK}
    (hr : ∀ {β F h xw yw x y H}, Rel Γ β F h H → RV Γ.K β F H xw x → RV Γ.K β F H yw y → Aft Γ E F (AW Γ F) β H (g h xw yw) Q → r x y H Q)
    (q : tE Γ LO E (fun sl h => (m1 sl h).bind fun (x, h1) => (m2 sl h1).bind fun (y, h2) => g h2 x y) σ H Q) : tOp r (tE Γ LO E m1) (tE Γ LO E m2) σ H Q := by
  obtain ⟨β, F, h, sl, R, S, q⟩ := q
  refine ⟨β, F, h, sl, R, S, Aft.imp (Aft.bind q) fun x H1 ⟨β1, (xw, h1), e, s1, R1, rx, q1⟩ => ?_⟩
  refine ⟨β1, F, h1, sl, R1, S.step C.lo s1, Aft.imp (Aft.bind q1) fun y H2 ⟨β2, (yw, h2), e2, s2, R2, ry, q2⟩ => ?_⟩
  exact hr R2 (RV.step s2 _ _ rx) ry q2
/-- one value, then something -/
theorem tR.one (C : Fx Γ LO E X) {m1 : Sl → Hc → RW} {g : Hc → W → RW} {r : V → Hp → VK → Prop} {σ : L2.St} {H : Hp} {Q : VK}
    (hr : ∀ {β F h xw x H}, Rel Γ β F h H → RV Γ.K β F H xw x → Aft Γ E F (AW Γ F) β H (g h xw) Q → r x H Q)
    (q : tE Γ LO E (fun sl h => (m1 sl h).bind fun (x, h1) => g h1 x) σ H Q) : tE Γ LO E m1 σ H fun x H1 => r x H1 Q := by
  obtain ⟨β, F, h, sl, R, S, q⟩ := q
  exact ⟨β, F, h, sl, R, S, Aft.imp (Aft.bind q) fun x H1 ⟨β1, (xw, h1), e, s1, R1, rx, q1⟩ => hr R1 rx q1⟩
theorem e_var {i : Nat} {x : Str} (hN : X.N[i]? = some x) (hv : Vis X.env.scope x) (hd : (x == ("__debug__" : Str)) = false) (hcd : (x == ("__classdict__" : Str)) = false) : PE X (.Name x pos) (tE Γ LO E fun sl h => sl.var i h) := by
  refine PEimp (pe_var hN hv hd hcd) fun σ H Q ⟨β, F, h, sl, R, S, q⟩ => ?_
  unfold Sl.var at q
  dsimp only at q
  split at q
  · rename_i w e
    obtain ⟨v, e1, r⟩ := S.var e
    exact ⟨v, e1, q.ok R r⟩
  · exact q.elim
theorem e_lit {t : TE} {e : Expr} {w : W} {v : V} (h : PE X e (tC v)) (r : ∀ β F H, RV Γ.K β F H w v) : PE X e (tE Γ LO E fun _ h => .ok (w, h)) :=
  PEimp h fun σ H Q ⟨β, F, h, sl, R, S, q⟩ => Aft.ok q R (r β F H)
theorem binop_noexc {op : Operator} {box : Bool} {h : Hc} {x y : W} {c : Nat} {h' : Hc} : binop op box h x y ≠ .exc c h' := by
  unfold binop mkL
  intro z
  repeat' (split at z)
  all_goals cases z
theorem e_bin (C : Fx Γ LO E X) {a b : Expr} {op : Operator} {box : Bool} {m1 m2 : Sl → Hc → RW} (ha : PE X a (tE Γ LO E m1)) (hb : PE X b (tE Γ LO E m2)) :
    PE X (.BinOp a op b pos) (tE Γ LO E fun sl h => (m1 sl h).bind fun (x, h1) => (m2 sl h1).bind fun (y, h2) => binop op box h2 x y) :=
  PEimp (pe_op (op_bin (box := box) C.hK) ha hb) fun σ H Q q => tR.two C (fun {β F h xw yw x y H} R rx ry q => ⟨β, F, h, xw, yw, R, rx, ry, q.toO fun _ _ => binop_noexc⟩) q
theorem e_neg (C : Fx Γ LO E X) {a : Expr} {m1 : Sl → Hc → RW} (ha : PE X a (tE Γ LO E m1)) :
    PE X (.UnaryOp .USub a pos) (tE Γ LO E fun sl h => (m1 sl h).bind fun (x, h1) => match x with
    | .int i => .ok (.int (-i), h1)
    | _ => .no) :=
  PEimp (pe_un un_neg ha) fun σ H Q q => tR.one C (g := fun h1 x => match x with
    | .int i => .ok (.int (-i), h1)
    | _ => .no) (fun {β F h xw x H} R rx q => by
      split at q
      · exact ⟨_, rv_int rx, q.ok R (mk_int _)⟩
      · exact q.elim) q
/-! ### truth -/
theorem tst_imp (C : Fx Γ LO E X) {m : Sl → Hc → RW} {σ : L2.St} {H : Hp} {Q : Bool → Hp → Prop} (q : tT Γ LO E (fun sl h => tst (m sl h)) σ H Q) : tE Γ LO E m σ H fun x H' => ∃ k, TruV X.K x H' k ∧ Q k H' := by
  obtain ⟨β, F, h, sl, R, S, q⟩ := q
  refine ⟨β, F, h, sl, R, S, ?_⟩
  have q : Aft Γ E F AB β H ((m sl h).bind fun p => match truth p.2 p.1 with
    | some b => .ok (b, p.2)
    | none => .no) Q := q
  refine Aft.imp (Aft.bind q) fun x H1 ⟨β1, (xw, h1), e, s1, R1, rx, q1⟩ => ?_
  dsimp only at q1
  split at q1
  · rename_i b e
    exact ⟨b, truth_at C.hK R1 rx e, q1.ok R1 rfl⟩
  · exact q1.elim
theorem t_plain (C : Fx Γ LO E X) {a : Expr} {m : Sl → Hc → RW} (ha : PE X a (tE Γ LO E m)) (he : ∀ whole, isTrue a X.env whole = (do let v ← whole; standAt a.pos; holding [v] (truthy v))) : PT X a (tT Γ LO E fun sl h => tst (m sl h)) :=
  PTimp (pt_truth ha he) fun σ H Q q => tst_imp C q
/-- what a test's reading is as a value -/
theorem tst_bl {r : Res (Bool × Hc)} : tst (r.bind fun (b, h1) => .ok (.bl b, h1)) = r := by
  cases r <;> rfl
theorem e_not (C : Fx Γ LO E X) {a : Expr} {m : Sl → Hc → RW} (ha : PE X a (tE Γ LO E m)) : PE X (.UnaryOp .Not a pos) (tE Γ LO E fun sl h => (tst (m sl h)).bind fun (b, h1) => .ok (.bl (!b), h1)) := by
  refine PEimp (pe_notT ha) fun σ H Q ⟨β, F, h, sl, R, S, q⟩ => ?_
  have q2 : tT Γ LO E (fun sl h => tst (m sl h)) σ H fun b H1 => Q (.bl (!b)) H1 := ⟨β, F, h, sl, R, S, Aft.imp (Aft.bind q) fun b H1 ⟨β1, (bw, h1), e, s1, R1, rx, q1⟩ => by
    cases rx
    exact q1.ok R1 (mk_bl _)⟩
  exact tst_imp C q2
theorem t_not (C : Fx Γ LO E X) {a : Expr} {m : Sl → Hc → RW} (ha : PT X a (tT Γ LO E fun sl h => tst (m sl h))) : PT X (.UnaryOp .Not a pos) (tT Γ LO E fun sl h => tst ((tst (m sl h)).bind fun (b, h1) => .ok (.bl (!b), h1))) := by
  refine PTimp (pt_not ha) fun σ H Q ⟨β, F, h, sl, R, S, q⟩ => ⟨β, F, h, sl, R, S, ?_⟩
  show Aft Γ E F AB β H (tst (m sl h)) fun c H1 => Q (!c) H1
  revert q
  dsimp only
  generalize tst (m sl h) = r
  intro q
  cases r with
  | ok p => exact fun v H1 β1 s R1 a => by cases a; exact q _ H1 β1 s R1 rfl
  | exc c h => exact q
  | no => exact q
/-- a value of a test's reading -/
theorem bl_imp {m : Sl → Hc → RW} {r : TE} {σ : L2.St} {H : Hp} {Q : Bool → Hp → Prop} (hb : ∀ sl h w h1, m sl h = .ok (w, h1) → ∃ b, w = .bl b) (q : tT Γ LO E (fun sl h => tst (m sl h)) σ H Q) : tE Γ LO E m σ H fun x H' => ∃ k, x = .bl k ∧ Q k H' := by
  obtain ⟨β, F, h, sl, R, S, q⟩ := q
  refine ⟨β, F, h, sl, R, S, ?_⟩
  have hb := hb sl h
  revert q hb
  dsimp only
  generalize m sl h = r
  intro q hb
  cases r with
  | ok p =>
    obtain ⟨b, e⟩ := hb p.1 p.2 rfl
    intro v H1 β1 s R1 a
    rw [e] at a
    have q : Aft Γ E F AB β H (tst (.ok (p.1, p.2))) Q := q
    rw [e] at q
    exact ⟨b, rv_bl a, q b H1 β1 s R1 rfl⟩
  | exc c h => exact q
  | no => exact q
/-! ### and, or -/
theorem e_and (C : Fx Γ LO E X) {a b : Expr} {rest : List Expr} {m1 m2 : Sl → Hc → RW} (ha : PE X a (tE Γ LO E m1)) (hb : PE X (.BoolOp .And (b :: rest) pos) (tE Γ LO E m2)) :
    PE X (.BoolOp .And (a :: b :: rest) pos) (tE Γ LO E fun sl h => (m1 sl h).bind fun (w, h1) => match truth h1 w with
    | some true => m2 sl h1
    | some false => .ok (w, h1)
    | none => .no) := by
  refine PEimp (pe_andT ha hb) fun σ H Q ⟨β, F, h, sl, R, S, q⟩ => ⟨β, F, h, sl, R, S, Aft.imp (Aft.bind q) fun x H1 ⟨β1, (xw, h1), e, s1, R1, rx, q1⟩ => ?_⟩
  dsimp only at q1
  split at q1
  · rename_i e
    exact ⟨true, truth_at C.hK R1 rx e, by rw [if_pos rfl]; exact ⟨β1, F, h1, sl, R1, S.step C.lo s1, q1⟩⟩
  · rename_i e
    exact ⟨false, truth_at C.hK R1 rx e, by rw [if_neg Bool.false_ne_true]; exact q1.ok R1 rx⟩
  · exact q1.elim
theorem e_or (C : Fx Γ LO E X) {a b : Expr} {rest : List Expr} {m1 m2 : Sl → Hc → RW} (ha : PE X a (tE Γ LO E m1)) (hb : PE X (.BoolOp .Or (b :: rest) pos) (tE Γ LO E m2)) :
    PE X (.BoolOp .Or (a :: b :: rest) pos) (tE Γ LO E fun sl h => (m1 sl h).bind fun (w, h1) => match truth h1 w with
    | some true => .ok (w, h1)
    | some false => m2 sl h1
    | none => .no) := by
  refine PEimp (pe_orT ha hb) fun σ H Q ⟨β, F, h, sl, R, S, q⟩ => ⟨β, F, h, sl, R, S, Aft.imp (Aft.bind q) fun x H1 ⟨β1, (xw, h1), e, s1, R1, rx, q1⟩ => ?_⟩
  dsimp only at q1
  split at q1
  · rename_i e
    exact ⟨true, truth_at C.hK R1 rx e, by rw [if_pos rfl]; exact q1.ok R1 rx⟩
  · rename_i e
    exact ⟨false, truth_at C.hK R1 rx e, by rw [if_neg Bool.false_ne_true]; exact ⟨β1, F, h1, sl, R1, S.step C.lo s1, q1⟩⟩
  · exact q1.elim
/-- tests in a row -/
theorem w_and1 (C : Fx Γ LO E X) {a : Expr} {m1 : Sl → Hc → Res (Bool × Hc)} (ha : PT X a (tT Γ LO E m1)) : PW X (.BoolOp .And [a] pos) (tT Γ LO E m1) := pw_and1 ha
theorem w_and (C : Fx Γ LO E X) {a b : Expr} {rest : List Expr} {m1 m2 : Sl → Hc → Res (Bool × Hc)} (ha : PT X a (tT Γ LO E m1)) (hb : PW X (.BoolOp .And (b :: rest) pos) (tT Γ LO E m2)) :
    PW X (.BoolOp .And (a :: b :: rest) pos) (tT Γ LO E fun sl h => (m1 sl h).bind fun (b, h1) => if b then m2 sl h1 else .ok (false, h1)) := by
  refine PWimp (pw_and ha hb) fun σ H Q ⟨β, F, h, sl, R, S, q⟩ => ⟨β, F, h, sl, R, S, Aft.imp (Aft.bind q) fun c H1 ⟨β1, (cw, h1), e, s1, R1, rx, q1⟩ => ?_⟩
  cases rx
  dsimp only at q1
  split at q1
  · rename_i e
    rw [if_pos e]
    exact ⟨β1, F, h1, sl, R1, S.step C.lo s1, q1⟩
  · rename_i e
    rw [if_neg e]
    exact q1.ok R1 rfl
theorem w_or (C : Fx Γ LO E X) {a b : Expr} {rest : List Expr} {m1 m2 : Sl → Hc → Res (Bool × Hc)} (ha : PT X a (tT Γ LO E m1)) (hb : PW X (.BoolOp .Or (b :: rest) pos) (tT Γ LO E m2)) :
    PW X (.BoolOp .Or (a :: b :: rest) pos) (tT Γ LO E fun sl h => (m1 sl h).bind fun (b, h1) => if b then .ok (true, h1) else m2 sl h1) := by
  refine PWimp (pw_or ha hb) fun σ H Q ⟨β, F, h, sl, R, S, q⟩ => ⟨β, F, h, sl, R, S, Aft.imp (Aft.bind q) fun c H1 ⟨β1, (cw, h1), e, s1, R1, rx, q1⟩ => ?_⟩
  cases rx
  dsimp only at q1
  split at q1
  · rename_i e
    rw [if_pos e]
    exact q1.ok R1 rfl
  · rename_i e
    rw [if_neg e]
    exact ⟨β1, F, h1, sl, R1, S.step C.lo s1, q1⟩
/-! ### comparisons -/
theorem cmp_fin {op : CmpOp} {β : List Addr} {F : Addr → Prop} {h : Hc} {xw yw : W} {x y : V} {H : Hp} {Q : VK} (R : Rel Γ β F h H) (rx : RV Γ.K β F H xw x) (ry : RV Γ.K β F H yw y) (q : Aft Γ E F (AW Γ F) β H (match cmpop op h xw yw with
    | some c => .ok (.bl c, h)
    | none => .no) Q) : rC Γ (cmpop op) x y H Q := by
  split at q
  · rename_i c e
    exact ⟨β, F, h, xw, yw, c, R, rx, ry, e, q.ok R (mk_bl _)⟩
  · exact q.elim
abbrev mCmp (op : CmpOp) (m1 m2 : Sl → Hc → RW) : Sl → Hc → RW := fun sl h => (m1 sl h).bind fun (x, h1) => (m2 sl h1).bind fun (y, h2) => match cmpop op h2 x y with
    | some c => .ok (.bl c, h2)
    | none => .no
theorem mCmp_bl {op : CmpOp} {m1 m2 : Sl → Hc → RW} (sl : Sl) (h : Hc) (w : W) (h1 : Hc) (e : mCmp op m1 m2 sl h = .ok (w, h1)) : ∃ b, w = .bl b := by
  unfold mCmp at e
  revert e
  cases m1 sl h with
  | ok p =>
    show (m2 sl p.2).bind _ = _ → _
    cases m2 sl p.2 with
    | ok p2 =>
      intro e
      dsimp only [Res.bind] at e
      split at e
      · cases e; exact ⟨_, rfl⟩
      · cases e
    | exc c h => intro e; cases e
    | no => intro e; cases e
  | exc c h => intro e; cases e
  | no => intro e; cases e
theorem e_cmp (C : Fx Γ LO E X) {a b : Expr} {op : CmpOp} {m1 m2 : Sl → Hc → RW} (ha : PE X a (tE Γ LO E m1)) (hb : PE X b (tE Γ LO E m2)) (hm : behindInMarks op b = false) : PE X (.Compare a [op] [b] pos) (tE Γ LO E (mCmp op m1 m2)) :=
  PEimp (pe_cmpR (op_cmp C.hK C.units) ha hb hm) fun σ H Q q => tR.two C (g := fun h2 x y => match cmpop op h2 x y with
    | some c => .ok (.bl c, h2)
    | none => .no) (fun R rx ry q => cmp_fin R rx ry q) q
theorem t_cmp (C : Fx Γ LO E X) {a b : Expr} {op : CmpOp} {m1 m2 : Sl → Hc → RW} (ha : PE X a (tE Γ LO E m1)) (hb : PE X b (tE Γ LO E m2)) (hm : behindInMarks op b = false) : PT X (.Compare a [op] [b] pos) (tT Γ LO E fun sl h => tst (mCmp op m1 m2 sl h)) :=
  PTimp (pt_cmpR (op_cmp C.hK C.units) ha hb hm) fun σ H Q q => tR.two C (g := fun h2 x y => match cmpop op h2 x y with
    | some c => .ok (.bl c, h2)
    | none => .no) (fun R rx ry q => cmp_fin R rx ry q) (bl_imp (r := fun _ _ _ => True) mCmp_bl q)
abbrev mCmp2 (op op' : CmpOp) (m1 m2 m3 : Sl → Hc → RW) : Sl → Hc → RW := fun sl h => (m1 sl h).bind fun (x, h1) => (m2 sl h1).bind fun (y, h2) => match cmpop op h2 x y with
    | some true => (m3 sl h2).bind fun (z, h3) => match cmpop op' h3 y z with
      | some k => .ok (.bl k, h3)
      | none => .no
    | some false => .ok (.bl false, h2)
    | none => .no
theorem mCmp2_bl {op op' : CmpOp} {m1 m2 m3 : Sl → Hc → RW} (sl : Sl) (h : Hc) (w : W) (h1 : Hc) (e : mCmp2 op op' m1 m2 m3 sl h = .ok (w, h1)) : ∃ b, w = .bl b := by
  unfold mCmp2 at e
  revert e
  cases m1 sl h with
  | ok p =>
    show (m2 sl p.2).bind _ = _ → _
    cases m2 sl p.2 with
    | ok p2 =>
      intro e
      dsimp only [Res.bind] at e
      split at e
      · revert e
        cases m3 sl p2.2 with
        | ok p3 =>
          intro e
          dsimp only at e
          split at e
          · cases e; exact ⟨_, rfl⟩
          · cases e
        | exc c h => intro e; cases e
        | no => intro e; cases e
      · cases e; exact ⟨_, rfl⟩
      · cases e
    | exc c h => intro e; cases e
    | no => intro e; cases e
  | exc c h => intro e; cases e
  | no => intro e; cases e
theorem chain_imp (C : Fx Γ LO E X) {op op' : CmpOp} {m1 m2 m3 : Sl → Hc → RW} {σ : L2.St} {H : Hp} {Q : VK} (q : tE Γ LO E (mCmp2 op op' m1 m2 m3) σ H Q) : tChain (rC Γ (cmpop op)) (rC Γ (cmpop op')) (tE Γ LO E m1) (tE Γ LO E m2) (tE Γ LO E m3) σ H Q := by
  obtain ⟨β, F, h, sl, R, S, q⟩ := q
  refine ⟨β, F, h, sl, R, S, Aft.imp (Aft.bind q) fun x H1 ⟨β1, (xw, h1), e, s1, R1, rx, q1⟩ => ?_⟩
  refine ⟨β1, F, h1, sl, R1, S.step C.lo s1, Aft.imp (Aft.bind q1) fun y H2 ⟨β2, (yw, h2), e2, s2, R2, ry, q2⟩ => ?_⟩
  have rx2 := RV.step s2 _ _ rx
  dsimp only at q2
  split at q2
  · rename_i ec
    refine ⟨β2, F, h2, xw, yw, true, R2, rx2, ry, ec, true, rfl, ?_⟩
    rw [if_pos rfl]
    refine ⟨β2, F, h2, sl, R2, (S.step C.lo s1).step C.lo s2, Aft.imp (Aft.bind q2) fun z H3 ⟨β3, (zw, h3), e3, s3, R3, rz, q3⟩ => ?_⟩
    exact cmp_fin R3 (RV.step s3 _ _ ry) rz q3
  · rename_i ec
    refine ⟨β2, F, h2, xw, yw, false, R2, rx2, ry, ec, false, rfl, ?_⟩
    rw [if_neg Bool.false_ne_true]
    exact q2.ok R2 (mk_bl _)
  · exact q2.elim
theorem e_cmp2 (C : Fx Γ LO E X) {a b c : Expr} {op op' : CmpOp} {m1 m2 m3 : Sl → Hc → RW} (ha : PE X a (tE Γ LO E m1)) (hb : PE X b (tE Γ LO E m2)) (hc : PE X c (tE Γ LO E m3)) (hm : lastMarks [op, op'] [b, c] = false) :
    PE X (.Compare a [op, op'] [b, c] pos) (tE Γ LO E (mCmp2 op op' m1 m2 m3)) :=
  PEimp (pe_chain (op_cmp C.hK C.units) (op_cmp C.hK C.units) ha hb hc hm) fun σ H Q q => chain_imp C q
theorem t_cmp2 (C : Fx Γ LO E X) {a b c : Expr} {op op' : CmpOp} {m1 m2 m3 : Sl → Hc → RW} (ha : PE X a (tE Γ LO E m1)) (hb : PE X b (tE Γ LO E m2)) (hc : PE X c (tE Γ LO E m3)) (hm : lastMarks [op, op'] [b, c] = false) :
    PT X (.Compare a [op, op'] [b, c] pos) (tT Γ LO E fun sl h => tst (mCmp2 op op' m1 m2 m3 sl h)) :=
  PTimp (pt_chain (op_cmp C.hK C.units) (op_cmp C.hK C.units) ha hb hc hm) fun σ H Q q => chain_imp C (bl_imp (r := fun _ _ _ => True) mCmp2_bl q)
theorem e_ifx (C : Fx Γ LO E X) {c a b : Expr} {mc : Sl → Hc → Res (Bool × Hc)} {m1 m2 : Sl → Hc → RW} (hc : PT X c (tT Γ LO E mc)) (ha : PE X a (tE Γ LO E m1)) (hb : PE X b (tE Γ LO E m2)) :
    PE X (.IfExp c a b pos) (tE Γ LO E fun sl h => (mc sl h).bind fun (k, h1) => if k then m1 sl h1 else m2 sl h1) := by
  refine PEimp (pe_ifExp hc ha hb) fun σ H Q ⟨β, F, h, sl, R, S, q⟩ => ⟨β, F, h, sl, R, S, Aft.imp (Aft.bind q) fun c H1 ⟨β1, (cw, h1), e, s1, R1, rx, q1⟩ => ?_⟩
  cases rx
  dsimp only at q1
  split at q1
  · rename_i e
    rw [if_pos e]
    exact ⟨β1, F, h1, sl, R1, S.step C.lo s1, q1⟩
  · rename_i e
    rw [if_neg e]
    exact ⟨β1, F, h1, sl, R1, S.step C.lo s1, q1⟩
end
end PyI

set_option Elab.async false
set_option linter.all false
set_option maxRecDepth 100000
set_option maxHeartbeats 1000000
/-! PyI9: readings: displays, subscripts, attributes, calls. -/
namespace PyI
open PySem PySem.Spec PyProof.Rows L2

/-! ### argument lists -/
def plainX : Expr → Bool
  | .Starred _ _ => false
  | _ => true
theorem star_cons {e : Expr} (h : plainX e = true) (es : List Expr) (env : Env) : starEach (e :: es) env = (false, eval e env) :: starEach es env := by
  cases e <;> first | rfl | (cases h)
theorem star_all : ∀ {es : List Expr} (h : es.all plainX = true) (pos : Pos) (env : Env), ((backTo pos (starEach es env)).any (·.1)) = false ∧ ((backTo pos (starEach es env)).all fun x => !x.1) = true
  | [], _, _, _ => ⟨rfl, rfl⟩
  | e :: es, h, pos, env => by
    rw [List.all_cons, Bool.and_eq_true] at h
    rw [star_cons h.1]
    obtain ⟨h1, h2⟩ := star_all h.2 pos env
    unfold backTo at h1 h2 ⊢
    rw [List.map_cons, List.any_cons, List.all_cons, h1, h2]
    exact ⟨rfl, rfl⟩
theorem few_ok {es : List Expr} (h : es.all plainX = true) (hn : es.length < 30) (pos : Pos) (env : Env) : ((backTo pos (starEach es env)).all (fun x => !x.1) && (backToKw pos (keywordEach [] env)).all (fun x => x.1.isSome)
      && decide (es.length + ([] : List Keyword).length + (if ([] : List Keyword).isEmpty then 0 else 1) < 30)) = true := by
  rw [(star_all h pos env).2, Bool.true_and, Bool.and_eq_true]
  refine ⟨rfl, decide_eq_true ?_⟩
  simpa using hn
def superX : Expr → Bool
  | .Call (.Name _ _) [] [] _ => false
  | _ => true
theorem base_ok {o : Expr} (h : superX o = true) (m : Str) (env : Env) (w : Sem Value) : attributeBase o m env w = w := by
  unfold attributeBase
  split
  · cases h
  · rfl
theorem meth_eval {o : Expr} {m : Str} {apos pos : Pos} {args : List Expr} {env : Env} (hs : superX o = true) (h : args.all plainX = true) (hn : args.length < 30) (hline : (apos.endLine == pos.line) = true) :
    eval (.Call (.Attribute o m apos) args [] pos) env = (do
      let ov ← eval o env
      standAt apos.atName
      let (f, first) ← holding [ov] (getMethod ov m (do return (← importBound o env).getD true))
      callWith pos f first (backTo pos (starEach args env)) (backToKw pos (keywordEach [] env))) := by
  have hform : methodCallForm (args.length + ([] : List Keyword).length) (backTo pos (starEach args env)) (backToKw pos (keywordEach [] env)) = true := few_ok h hn pos env
  have hpos : methodCallPos true o env apos pos = pure pos := by unfold methodCallPos; simp [hline]
  rw [arm_eval_Call, base_ok hs]
  unfold methodCall
  rw [hform, hpos]
  rfl
section
variable {Γ : Gm} {LO : LamT} {E : XK} {X : L2.Cx} {pos : Pos}
theorem a_nil : PA X [] (tAs Γ LO E fun _ h => .ok ([], h)) := PAimp pa_nil fun σ H Q ⟨β, F, h, sl, R, S, q⟩ => Aft.ok q R (RVs.nil.mpr rfl)
theorem a_cons (C : Fx Γ LO E X) {e : Expr} {es : List Expr} {m1 : Sl → Hc → RW} {m2 : Sl → Hc → RWs} (hp : plainX e = true) (ha : PE X e (tE Γ LO E m1)) (hs : PA X es (tAs Γ LO E m2)) :
    PA X (e :: es) (tAs Γ LO E fun sl h => (m1 sl h).bind fun (w, h1) => (m2 sl h1).bind fun (ws, h2) => .ok (w :: ws, h2)) := by
  refine PAimp (pa_cons ha hs (star_cons hp es X.env)) fun σ H Q ⟨β, F, h, sl, R, S, q⟩ => ⟨β, F, h, sl, R, S, Aft.imp (Aft.bind q) fun x H1 ⟨β1, (xw, h1), e, s1, R1, rx, q1⟩ => ?_⟩
  refine ⟨β1, F, h1, sl, R1, S.step C.lo s1, Aft.imp (Aft.bind q1) fun ys H2 ⟨β2, (yw, h2), e2, s2, R2, ry, q2⟩ => ?_⟩
  exact q2.ok R2 (RVs.mk (RV.step s2 _ _ rx) ry)
/-- how many there are -/
def LenIs (m : Sl → Hc → RWs) (n : Nat) : Prop := ∀ sl h ws h1, m sl h = .ok (ws, h1) → ws.length = n
theorem len_nil : LenIs (fun _ h => .ok ([], h)) 0 := fun _ _ _ _ e => by cases e; rfl
theorem len_cons {m1 : Sl → Hc → RW} {m2 : Sl → Hc → RWs} {n : Nat} (h : LenIs m2 n) : LenIs (fun sl h => (m1 sl h).bind fun (w, h1) => (m2 sl h1).bind fun (ws, h2) => .ok (w :: ws, h2)) (n + 1) := fun sl hh ws h1 e => by
  revert e
  dsimp only
  cases m1 sl hh with
  | ok p =>
    show (m2 sl p.2).bind _ = _ → _
    intro e
    cases e2 : m2 sl p.2 with
    | ok p2 =>
      rw [e2] at e
      cases e
      show p2.1.length + 1 = n + 1
      rw [h sl p.2 p2.1 p2.2 e2]
    | exc c h => rw [e2] at e; cases e
    | no => rw [e2] at e; cases e
  | exc c h => intro e; cases e
  | no => intro e; cases e
theorem e_tup (C : Fx Γ LO E X) {es : List Expr} {k : Nat} {m : Sl → Hc → RWs} {n : Nat} (ha : PA X es (tAs Γ LO E m)) (hl : LenIs m n) (hn : n ≤ LL) : PE X (.Tuple es k pos) (tE Γ LO E fun sl h => (m sl h).bind fun (ws, h1) => .ok (.tup ws, h1)) := by
  refine PEimp (pe_tup ha) fun σ H Q ⟨β, F, h, sl, R, S, q⟩ => ⟨β, F, h, sl, R, S, Aft.imp (Aft.bind q) fun xs H1 ⟨β1, (ws, h1), e, s1, R1, rx, q1⟩ => ?_⟩
  refine ⟨?_, tup_fin R1 rx (q1.toO fun _ _ z => by cases z)⟩
  rw [← RVs.length rx, hl sl h ws h1 e]
  exact hn
theorem e_lst (C : Fx Γ LO E X) {es : List Expr} {box : Bool} {m : Sl → Hc → RWs} {n : Nat} (ha : PA X es (tAs Γ LO E m)) (hl : LenIs m n) (hn : n ≤ LL) : PE X (.List es pos) (tE Γ LO E fun sl h => (m sl h).bind fun (ws, h1) => mkL box ws h1) := by
  refine PEimp (pe_lst ha) fun σ H Q ⟨β, F, h, sl, R, S, q⟩ => ⟨β, F, h, sl, R, S, Aft.imp (Aft.bind q) fun xs H1 ⟨β1, (ws, h1), e, s1, R1, rx, q1⟩ => ?_⟩
  refine ⟨?_, mkL_aft R1 rx q1⟩
  rw [← RVs.length rx, hl sl h ws h1 e]
  exact hn
/-! ### dicts -/
theorem e_dic0 (C : Fx Γ LO E X) : PE X (.Dict [] [] pos) (tE Γ LO E fun _ h => .ok (.ref h.length, h ++ [.dic false []])) := by
  refine PEimp pe_dnewK fun σ H Q ⟨β, F, h, sl, R, S, q⟩ p hp => ?_
  refine Aft.okS q (step_mine hp) (R.mine hp ⟨[], upd_same, .nil⟩) ?_
  show RV _ _ _ _ _ _
  unfold RV
  exact ⟨p, by rw [← R.len]; simp, rfl⟩
/-- the pairs' values in a row -/
def trsOf (Γ : Gm) (LO : LamT) (E : XK) : List ((Sl → Hc → RW) × (Sl → Hc → RW)) → List (TE × TE)
  | [] => []
  | (a, b) :: r => (tE Γ LO E a, tE Γ LO E b) :: trsOf Γ LO E r
def mPs : List ((Sl → Hc → RW) × (Sl → Hc → RW)) → Sl → Hc → RWs
  | [] => fun _ h => .ok ([], h)
  | (a, b) :: r => fun sl h => (a sl h).bind fun (w, h1) => (b sl h1).bind fun (u, h2) => (mPs r sl h2).bind fun (ws, h3) => .ok (w :: u :: ws, h3)
theorem pairs_imp (C : Fx Γ LO E X) {F : Addr → Prop} : ∀ (l : List ((Sl → Hc → RW) × (Sl → Hc → RW))) {σ : L2.St} {H : Hp} {Q : List (V × V) → Hp → Prop} {β : List Addr} {h : Hc} {sl : Sl}, Rel Γ β F h H → RSl Γ.K LO β F H sl σ →
    Aft Γ E F (AL Γ F) β H (mPs l sl h) (fun vs H1 => ∀ ps, vs = (ps.flatMap fun p => [p.1, p.2]) → Q ps H1) → tPairs (trsOf Γ LO E l) σ H Q
  | [], σ, H, Q, β, h, sl, R, S, q => (Aft.ok q R (RVs.nil.mpr rfl)) [] rfl
  | (a, b) :: r, σ, H, Q, β, h, sl, R, S, q => by
    refine ⟨β, F, h, sl, R, S, Aft.imp (Aft.bind q) fun x H1 ⟨β1, (xw, h1), e, s1, R1, rx, q1⟩ => ?_⟩
    refine ⟨β1, F, h1, sl, R1, S.step C.lo s1, Aft.imp (Aft.bind q1) fun y H2 ⟨β2, (yw, h2), e2, s2, R2, ry, q2⟩ => ?_⟩
    refine pairs_imp C r R2 ((S.step C.lo s1).step C.lo s2) (Aft.imp (Aft.bind q2) fun vs H3 ⟨β3, (ws, h3), e3, s3, R3, rz, q3⟩ ps eps => ?_)
    refine Aft.ok q3 R3 (RVs.mk (RV.step s3 _ _ (RV.step s2 _ _ rx)) (RVs.mk (RV.step s3 _ _ ry) rz)) ((x, y) :: ps) ?_
    rw [eps]
    rfl
theorem dicOf_at {K : PySem.W.Frag} {β : List Addr} {F : Addr → Prop} {H : Hp} : ∀ (ps : List (V × V)) {ws : List W} {kvs0 kvs : List (W × W)} {ks0 : List (Key × V)}, RVs K β F H ws (ps.flatMap fun p => [p.1, p.2]) → dicOf kvs0 ws = some kvs → RKVs K β F H kvs0 ks0 →
    ∃ qs : List (Key × V), ps = qs.map (fun kv => (kV kv.1, kv.2)) ∧ RKVs K β F H kvs (mergeK ks0 qs)
  | [], ws, kvs0, kvs, ks0, r, e, r0 => by
    have z : ws = [] := by
      have := RVs.length r
      exact List.length_eq_zero_iff.mp this
    subst z
    unfold dicOf at e
    cases e
    exact ⟨[], rfl, r0⟩
  | (x, y) :: ps, ws, kvs0, kvs, ks0, r, e, r0 => by
    cases ws with
    | nil => have := RVs.length r; simp at this
    | cons k ws =>
      obtain ⟨v1, r1, e1, rk, rr⟩ := RVs.cons.mp r
      cases ws with
      | nil =>
        have h2 := RVs.length rr
        rw [List.flatMap_cons] at e1
        cases e1
        simp at h2
      | cons v ws =>
        obtain ⟨v2, r2, e2, rv, rs⟩ := RVs.cons.mp rr
        subst e2
        rw [List.flatMap_cons] at e1
        cases e1
        unfold dicOf at e
        split at e
        · rename_i hk
          obtain rfl := RV.key hk rk
          obtain ⟨qs, e3, r3⟩ := dicOf_at ps rs e (r0.put hk rv)
          exact ⟨(keyOf k, y) :: qs, by rw [e3]; rfl, r3⟩
        · cases e
theorem e_dic (C : Fx Γ LO E X) {keys : List (Option Expr)} {values : List Expr} {l : List ((Sl → Hc → RW) × (Sl → Hc → RW))} (h : PPs X pos keys values (trsOf Γ LO E l)) (hall : keys.all (·.isSome) = true) (hl : keys.length = values.length) (h0 : keys ≠ [])
    (h15 : keys.length ≤ 15) (hlen : ∀ sl h ws h1, mPs l sl h = .ok (ws, h1) → ws.length ≤ 30) : PE X (.Dict keys values pos) (tE Γ LO E fun sl h => (mPs l sl h).bind fun (ws, h1) => match dicOf [] ws with
      | some kvs => .ok (.ref h1.length, h1 ++ [.dic false kvs])
      | none => .no) := by
  refine PEimp (pe_disp h hall hl h0 h15) fun σ H Q ⟨β, F, h, sl, R, S, q⟩ p hp => ?_
  have R1 := R.foreign (o := .dK []) hp
  have S1 : RSl Γ.K LO β (FP F p) (upd H p (.dK [])) sl σ := S.tr C.lo (tr_foreign hp)
  refine pairs_imp C l R1 S1 ?_
  have nF : ¬ F p := fun z => (R.fr p z).ne hp
  revert q
  have hlen := hlen sl h
  dsimp only
  generalize mPs l sl h = r at hlen
  cases r with
  | ok q0 =>
    intro q vs H1 β1 s1 R1 rx ps eps
    have q : Aft Γ E F (AW Γ F) β H (match dicOf [] q0.1 with
      | some kvs => .ok (.ref q0.2.length, q0.2 ++ [.dic false kvs])
      | none => .no) Q := q
    have keep : H1 p = some (.dK []) := s1.keep p _ upd_same (fun z => (R.th p z).ne hp) (fun _ z => by cases z)
    split at q
    · rename_i kvs ek
      subst eps
      obtain ⟨qs, e3, r3⟩ := dicOf_at ps rx ek (ks0 := []) .nil
      refine ⟨keep, qs, e3, ?_, ?_⟩
      · have l1 := hlen q0.1 q0.2 rfl
        have l2 := RVs.length rx
        have l3 : (ps.flatMap fun p => [p.1, p.2]).length = 2 * ps.length := by
          clear rx e3 l2
          induction ps with
          | nil => rfl
          | cons a r ih => rw [List.flatMap_cons, List.length_append, ih]; simp; omega
        have l4 : ps.length = qs.length := by rw [e3]; simp
        omega
      · have np : p ∉ β1 := fun z => R1.av p z (.inr rfl)
        have nt : ∀ xs, HO.dK [] ≠ .tup xs := fun _ z => by cases z
        have tr := tr_adopt (K := Γ.K) (o := .dK (mergeK [] qs)) keep nt np nF
        refine q (.ref p) _ (β1 ++ [p]) ?_ (R1.adopt keep nt (fun _ z => by cases z) (fun _ z => by unfold LamX.CodeO at z; cases z) nF ⟨_, upd_same, r3.tr tr⟩) ?_
        · exact step_adopt (Step.refl0 s1 hp) hp np
        · show RV _ _ _ _ _ _
          unfold RV
          exact ⟨p, by rw [← R1.len]; simp, rfl⟩
    · exact q.elim
  | exc c h1 =>
    intro q H1 β1 s1 R1
    exact q H1 β1 (Step.refl0 s1 hp) (R1.drop)
  | no => exact fun q => q
where
  Step.refl0 {β β1 : List Addr} {H H1 : Hp} {p : Addr} {o : HO} (s : Step β (upd H p o) β1 H1) (hp : H p = none) : Step β H β1 H1 := (step_new hp).trans s
end
end PyI

set_option Elab.async false
set_option linter.all false
set_option maxRecDepth 100000
set_option maxHeartbeats 1000000
/-! PyI10: readings: subscripts, attributes, calls. -/
namespace PyI
open PySem PySem.Spec PyProof.Rows L2
section
variable {Γ : Gm} {LO : LamT} {E : XK} {X : L2.Cx} {pos : Pos}
def sliceX : Expr → Bool
  | .Slice _ _ _ _ => false
  | _ => true
theorem ix_plain {b : Expr} (h : sliceX b = true) : PlainIx b := fun o i => by
  cases b <;> first | rfl | (cases h)
theorem e_idx (C : Fx Γ LO E X) {a b : Expr} {m1 m2 : Sl → Hc → RW} (ha : PE X a (tE Γ LO E m1)) (hb : PE X b (tE Γ LO E m2)) (hs : sliceX b = true) : PE X (.Subscript a b pos) (tE Γ LO E fun sl h => (m1 sl h).bind fun (x, h1) => (m2 sl h1).bind fun (y, h2) => match index h2 x y with
    | some w => .ok (w, h2)
    | none => .no) :=
  PEimp (pe_ix (ix_W C.hK C.units) ha hb (ix_plain hs)) fun σ H Q q => tR.two C (g := fun h2 x y => match index h2 x y with
    | some w => .ok (w, h2)
    | none => .no) (fun {β F h xw yw x y H} R rx ry q => by
      split at q
      · rename_i w e
        exact ⟨β, F, h, xw, yw, w, R, rx, ry, e, fun v r => q.ok R r⟩
      · exact q.elim) q
theorem sliceW_noexc {box : Bool} {h : Hc} {x : W} {l u : Option Int} {c : Nat} {h' : Hc} : sliceW box h x l u ≠ .exc c h' := by
  unfold sliceW mkL
  intro z
  repeat' (split at z)
  all_goals cases z
/-- a part of a slice -/
def tPt (Γ : Gm) (LO : LamT) (E : XK) (m : Sl → Hc → Res (Option Int × Hc)) : TO := fun σ H Q => ∃ β F h sl, Rel Γ β F h H ∧ RSl Γ.K LO β F H sl σ ∧ Aft Γ E F (fun _ _ w o => w = o) β H (m sl h) Q
theorem po_none' : PO X none (tPt Γ LO E fun _ h => partR (.ok (.non, h))) := ⟨fun pins s σ H Q I ⟨β, F, h, sl, R, S, q⟩ => po_none.run pins s σ H Q I (Aft.ok (α := Option Int) (γ := Option Int) (RA := fun _ _ w o => w = o) q R (v := none) rfl)⟩
theorem po_some' {e : Expr} {m : Sl → Hc → RW} (he : PE X e (tE Γ LO E m)) : PO X (some e) (tPt Γ LO E fun sl h => partR (m sl h)) := ⟨fun pins s σ H Q I ⟨β, F, h, sl, R, S, q⟩ => by
  rw [evalPart_some]
  have q : Aft Γ E F (fun _ _ w o => w = o) β H ((m sl h).bind fun p => match partOf p.1 with
    | some o => .ok (o, p.2)
    | none => .no) Q := q
  refine thn (he.run pins s σ H (fun v H1 => ∃ o, ((o = none ∧ v = .non) ∨ ∃ i, o = some i ∧ v = .int i) ∧ Q o H1) I ⟨β, F, h, sl, R, S, Aft.imp (Aft.bind q) fun x H1 ⟨β1, (xw, h1), e, s1, R1, rx, q1⟩ => ?_⟩) fun u s1 ⟨x, H1, I1, r1, o, ho, q1⟩ => ?_
  · dsimp only at q1
    split at q1
    · rename_i o e
      refine ⟨o, ?_, q1.ok R1 rfl⟩
      unfold partOf at e
      split at e
      · cases e; exact .inr ⟨_, rfl, rv_int rx⟩
      · cases e; exact .inl ⟨rfl, rv_non rx⟩
      · cases e
    · exact q1.elim
  · rcases ho with ⟨rfl, rfl⟩ | ⟨i, rfl, rfl⟩
    · cases r1
      exact ⟨none, H1, I1, .none, q1⟩
    · obtain ⟨t, rfl⟩ := r1
      exact ⟨some i, H1, I1, .int i t, q1⟩⟩
theorem e_slice (C : Fx Γ LO E X) {e : Expr} {lo hi : Option Expr} {box : Bool} {m1 : Sl → Hc → RW} {m2 m3 : Sl → Hc → Res (Option Int × Hc)} {p2 : Pos} (ha : PE X e (tE Γ LO E m1)) (hl : PO X lo (tPt Γ LO E m2)) (hu : PO X hi (tPt Γ LO E m3)) :
    PE X (.Subscript e (.Slice lo hi none p2) pos) (tE Γ LO E fun sl h => (m1 sl h).bind fun (x, h1) => (m2 sl h1).bind fun (l, h2) => (m3 sl h2).bind fun (u, h3) => sliceW box h3 x l u) := by
  refine PEimp (pe_slice (sl_W (box := box) C.hK) ha hl hu) fun σ H Q ⟨β, F, h, sl, R, S, q⟩ => ⟨β, F, h, sl, R, S, Aft.imp (Aft.bind q) fun x H1 ⟨β1, (xw, h1), e, s1, R1, rx, q1⟩ => ?_⟩
  refine ⟨β1, F, h1, sl, R1, S.step C.lo s1, Aft.imp (Aft.bind (RA := fun _ _ w o => w = o) q1) fun l H2 ⟨β2, (lw, h2), e2, s2, R2, rl, q2⟩ => ?_⟩
  refine ⟨β2, F, h2, sl, R2, (S.step C.lo s1).step C.lo s2, Aft.imp (Aft.bind (RA := fun _ _ w o => w = o) q2) fun u H3 ⟨β3, (uw, h3), e3, s3, R3, ru, q3⟩ => ?_⟩
  dsimp only at rl ru q3
  subst rl ru
  exact ⟨β3, F, h3, xw, R3, RV.step s3 _ _ (RV.step s2 _ _ rx), q3.toO fun _ _ => sliceW_noexc⟩
theorem e_rev (C : Fx Γ LO E X) {e : Expr} {k : Nat} {p1 p2 p3 : Pos} {box : Bool} {m : Sl → Hc → RW} (ha : PE X e (tE Γ LO E m)) :
    PE X (.Subscript e (.Slice none none (some (.UnaryOp .USub (.Constant (.int 1) k p1) p2)) p3) pos) (tE Γ LO E fun sl h => (m sl h).bind fun (x, h1) => match lseq h1 x with
    | some xs => mkL box xs.reverse h1
    | none => .no) :=
  PEimp (pe_revL ha) fun σ H Q ⟨β, F, h, sl, R, S, q⟩ => ⟨β, F, h, sl, R, S, Aft.imp (Aft.bind q) fun x H1 ⟨β1, (xw, h1), e, s1, R1, rx, q1⟩ => by
    dsimp only at q1
    split at q1
    · rename_i xs ea
      obtain ⟨p, vs, e1, e2, e3⟩ := RV.lseq R1 rx ea
      exact ⟨p, vs, e1, SqL.of e2, mkL_aft R1 (RVs.reverse e3) q1⟩
    · exact q1.elim⟩
/-! ### attributes -/
theorem RFs.get {K : PySem.W.Frag} {β : List Addr} {F : Addr → Prop} {H : Hp} {nm : List Str} (hn : nm.Nodup) {f : Nat} {y : Str} (hf : nm[f]? = some y) : ∀ {fs : List (Nat × W)} {gs : List (Str × V)}, RFs K β F H nm fs gs →
    (∀ w, fget fs f = some w → ∃ v, gs.lookup y = some v ∧ RV K β F H w v) ∧ (fget fs f = none → gs.lookup y = none)
  | [], _, .nil => ⟨fun w e => (by cases e), fun _ => rfl⟩
  | (g, w) :: fs, (z, v) :: gs, .cons ⟨h1, h2⟩ t => by
    obtain ⟨i1, i2⟩ := RFs.get hn hf t
    have h1 : nm[g]? = some z := h1
    by_cases e : g = f
    · subst e
      rw [hf] at h1
      cases h1
      refine ⟨fun w' e => ?_, fun e => ?_⟩
      · unfold fget at e
        rw [if_pos (by simp)] at e
        cases e
        exact ⟨v, by simp [List.lookup], h2⟩
      · unfold fget at e
        rw [if_pos (by simp)] at e
        cases e
    · have ne : ¬ y = z := fun q => by
        subst q
        exact e (L2.nodup_ix hn h1 hf)
      have l : List.lookup y ((z, v) :: gs) = gs.lookup y := by
        rw [List.lookup_cons]
        have : (y == z) = false := by simpa using ne
        rw [this]
      have ge : fget ((g, w) :: fs) f = fget fs f := by
        conv => lhs; unfold fget
        rw [if_neg (by simpa using e)]
      rw [l, ge]
      exact ⟨i1, i2⟩
theorem RFs.put {K : PySem.W.Frag} {β : List Addr} {F : Addr → Prop} {H : Hp} {nm : List Str} (hn : nm.Nodup) {f : Nat} {y : Str} (hf : nm[f]? = some y) {w : W} {v : V} (r : RV K β F H w v) : ∀ {fs : List (Nat × W)} {gs : List (Str × V)}, RFs K β F H nm fs gs → RFs K β F H nm (fput fs f w) (putF y v gs)
  | [], _, .nil => .cons ⟨hf, r⟩ .nil
  | (g, w0) :: fs, (z, v0) :: gs, .cons ⟨h1, h2⟩ t => by
    have h1 : nm[g]? = some z := h1
    unfold fput putF
    by_cases e : g = f
    · subst e
      rw [hf] at h1
      cases h1
      rw [if_pos (by simp), if_pos rfl]
      exact .cons ⟨hf, r⟩ t
    · have ne : ¬ y = z := fun q => by
        subst q
        exact e (L2.nodup_ix hn h1 hf)
      rw [if_neg (by simpa using e), if_neg (fun q => ne q.symm)]
      exact .cons ⟨h1, h2⟩ (RFs.put hn hf r t)
theorem RFs.length {K : PySem.W.Frag} {β : List Addr} {F : Addr → Prop} {H : Hp} {nm : List Str} {fs : List (Nat × W)} {gs : List (Str × V)} (r : RFs K β F H nm fs gs) : fs.length = gs.length := Paired.length r
/-- what is told of the classes -/
structure Cf (Γ : Gm) (I : Ix) : Prop where
  nm : Γ.nm.Nodup
  cls : ∀ C, (I.init C).isSome = true → Cls Γ.K (Γ.cls C)
  no : ∀ C f y, (I.init C).isSome = true → Γ.nm[f]? = some y → I.meth C f = none → NoAttr Γ.K (Γ.cls C) y
theorem insAt_at {I : Ix} (cf : Cf Γ I) {β : List Addr} {F : Addr → Prop} {h : Hc} {H : Hp} (R : Rel Γ β F h H) {w : W} {v : V} {a C : Nat} {fs : List (Nat × W)} (r : RV Γ.K β F H w v) (e : insAt I h w = some (a, C, fs)) :
    w = .ref a ∧ h[a]? = some (.ins C fs) ∧ (I.init C).isSome = true ∧ ∃ p dx gs, v = .ref p ∧ β[a]? = some p ∧ H p = some (.ins (Γ.cls C) dx gs) ∧ RFs Γ.K β F H Γ.nm fs gs := by
  unfold insAt at e
  split at e
  · rename_i a'
    split at e
    · rename_i C' fs' ho
      split at e
      · rename_i hi
        cases e
        obtain ⟨p, ev, hb, dx, gs, e1, e2⟩ := RV.ref R r ho
        exact ⟨rfl, ho, hi, p, dx, gs, ev, hb, e1, e2⟩
      · cases e
    · cases e
  · cases e
theorem attrW_at (C : Fx Γ LO E X) {I : Ix} (cf : Cf Γ I) {β : List Addr} {F : Addr → Prop} {h : Hc} {H : Hp} (R : Rel Γ β F h H) {w z : W} {v : V} {f : Nat} {y : Str} (hf : Γ.nm[f]? = some y) (r : RV Γ.K β F H w v) (e : attrW I h w f = some z) :
    ∃ p C dx gs u, v = .ref p ∧ H p = some (.ins C dx gs) ∧ Cls X.K C ∧ NoAttr X.K C y ∧ gs.lookup y = some u ∧ RV Γ.K β F H z u ∧ ∃ Cn, clsW I h w = some Cn ∧ C = Γ.cls Cn := by
  unfold attrW at e
  split at e
  · rename_i a Cn fs ei
    obtain ⟨_, _, hi, p, dx, gs, e1, _, e2, e3⟩ := insAt_at cf R r ei
    split at e
    · rename_i hm
      obtain ⟨u, l, ru⟩ := (RFs.get cf.nm hf e3).1 _ e
      exact ⟨p, _, dx, gs, u, e1, e2, by rw [C.hK]; exact cf.cls _ hi, by rw [C.hK]; exact cf.no _ _ _ hi hf (by simpa using hm), l, ru, _, by unfold clsW; rw [ei]; rfl, rfl⟩
    · cases e
  · cases e
theorem e_attr (C : Fx Γ LO E X) {I : Ix} (cf : Cf Γ I) {o : Expr} {f : Nat} {y : Str} {m : Sl → Hc → RW} (ho : PE X o (tE Γ LO E m)) (hs : superX o = true) (hf : Γ.nm[f]? = some y) :
    PE X (.Attribute o y pos) (tE Γ LO E fun sl h => (m sl h).bind fun (x, h1) => match attrW I h1 x f with
    | some w => .ok (w, h1)
    | none => .no) :=
  PEimp (pe_fld ho (base_ok hs _ _ _)) fun σ H Q ⟨β, F, h, sl, R, S, q⟩ => ⟨β, F, h, sl, R, S, Aft.imp (Aft.bind q) fun x H1 ⟨β1, (xw, h1), e, s1, R1, rx, q1⟩ => by
    dsimp only at q1
    split at q1
    · rename_i z ea
      obtain ⟨p, C', dx, gs, u, e1, e2, e3, e4, e5, e6, _⟩ := attrW_at C cf R1 hf rx ea
      exact ⟨p, C', dx, gs, u, e1, e2, e3, e4, e5, q1.ok R1 e6⟩
    · exact q1.elim⟩
/-! ### built-ins -/
theorem bi_noexc {b : BI} {box : Bool} {ws : List W} {h : Hc} {c : Nat} {h' : Hc} : bi b box ws h ≠ .exc c h' := by
  unfold bi mkL
  intro z
  repeat' (split at z)
  all_goals cases z
def biN : BI → Str
  | .abs => "abs" | .len => "len" | .max => "max" | .min => "min" | .sum => "sum" | .sorted => "sorted" | .any => "any" | .all => "all"
  | .int => "int" | .list => "list" | .dict => "dict" | .str => "str" | .tuple => "tuple"
theorem e_bi (C : Fx Γ LO E X) {b : BI} {box : Bool} {p : Pos} {e : Expr} {es : List Expr} {m : Sl → Hc → RWs} (hg : Gl X (biN b)) (hm : X.mg (biN b) = none) (hp : (e :: es).all plainX = true) (ha : PA X (e :: es) (tAs Γ LO E m)) :
    PE X (.Call (.Name (biN b) p) (e :: es) [] pos) (tE Γ LO E fun sl h => (m sl h).bind fun (ws, h1) => bi b box ws h1) := by
  have hp1 : plainX e = true := by rw [List.all_cons, Bool.and_eq_true] at hp; exact hp.1
  have hp2 : es.all plainX = true := by rw [List.all_cons, Bool.and_eq_true] at hp; exact hp.2
  have imp : ∀ σ H Q, tE Γ LO E (fun sl h => (m sl h).bind fun (ws, h1) => bi b box ws h1) σ H Q → tAs Γ LO E m σ H fun xs H1 => rBI Γ b box xs H1 Q := fun σ H Q ⟨β, F, h, sl, R, S, q⟩ =>
    ⟨β, F, h, sl, R, S, Aft.imp (Aft.bind q) fun xs H1 ⟨β1, (ws, h1), e, s1, R1, rx, q1⟩ => ⟨β1, F, h1, ws, R1, rx, q1.toO fun _ _ => bi_noexc⟩⟩
  have hc : CallR X (biF b) (rBI Γ b box) := bi_W C.hK C.calm C.td
  cases b
  all_goals first
    | exact PEimp (pe_callB (id := _) hc hg hm rfl ha (by decide) (by decide) (star_cons hp1 es X.env) (star_all hp2 pos X.env).1) imp
    | exact PEimp (pe_callTy (T := _) hc hg hm rfl ha (by decide) (by decide) (star_cons hp1 es X.env) (star_all hp2 pos X.env).1) imp
theorem bm_noexc {T : BT} {b : BM} {box : Bool} {x : W} {ws : List W} {h : Hc} {c : Nat} {h' : Hc} : bm T b box x ws h ≠ .exc c h' := by
  unfold bm
  intro z
  repeat' (split at z)
  all_goals cases z
theorem bm_has {T : BT} {b : BM} (hn : bmHas T b = true) : ∃ cls id, bmId T b = some (cls, id) := by
  cases T <;> cases b <;> first | exact ⟨_, _, rfl⟩ | cases hn
theorem bm_imp (C : Fx Γ LO E X) {b : BM} {box : Bool} {m1 : Sl → Hc → RW} {m2 : Sl → Hc → RWs} (σ : L2.St) (H : Hp) (Q : VK) (q : tE Γ LO E (fun sl h => (m1 sl h).bind fun (x, h1) => match bmT x h1 with
    | some T => if bmHas T b then (m2 sl h1).bind fun (ws, h2) => bm T b box x ws h2 else .no
    | none => .no) σ H Q) : tBmW X (bmN b) (tE Γ LO E m1) (tAs Γ LO E m2) σ H Q := by
  obtain ⟨β, F, h, sl, R, S, q⟩ := q
  refine ⟨β, F, h, sl, R, S, Aft.imp (Aft.bind q) fun x H1 ⟨β1, (xw, h1), e, s1, R1, rx, q1⟩ => ?_⟩
  dsimp only at q1
  split at q1
  · rename_i T eT
    split at q1
    · rename_i hb
      obtain ⟨cls, id, hid⟩ := bm_has hb
      obtain ⟨pa, slot, hty⟩ := bmId_ok hid
      refine ⟨rBM Γ T b box, ⟨cls, id, pa, slot, hty, mt_bm C.units hid, bmT_ty C.hK R1 rx eT hid⟩, β1, F, h1, sl, R1, S.step C.lo s1, Aft.imp (Aft.bind q1) fun ys H2 ⟨β2, (ws, h2), e2, s2, R2, ry, q2⟩ => ?_⟩
      exact ⟨β2, F, h2, xw, ws, R2, RV.step s2 _ _ rx, ry, q2.toO fun _ _ => bm_noexc⟩
    · exact q1.elim
  · exact q1.elim
theorem e_bm (C : Fx Γ LO E X) {b : BM} {box : Bool} {apos : Pos} {o : Expr} {es : List Expr} {m1 : Sl → Hc → RW} {m2 : Sl → Hc → RWs} (ho : PE X o (tE Γ LO E m1)) (ha : PA X es (tAs Γ LO E m2)) (h0 : es = [] → m2 = fun _ h => .ok ([], h)) (hs : superX o = true) (hp : es.all plainX = true) (hn : es.length < 30) (hline : (apos.endLine == pos.line) = true) :
    PE X (.Call (.Attribute o (bmN b) apos) es [] pos) (tE Γ LO E fun sl h => (m1 sl h).bind fun (x, h1) => match bmT x h1 with
    | some T => if bmHas T b then (m2 sl h1).bind fun (ws, h2) => bm T b box x ws h2 else .no
    | none => .no) := by
  cases es with
  | nil =>
    refine PEimp (pe_bmW0 ho (base_ok hs _ _ _) hline) fun σ H Q q => ?_
    have z := h0 rfl
    subst z
    obtain ⟨β, F, h, sl, R, S, q⟩ := bm_imp C (b := b) (box := box) (m1 := m1) (m2 := fun _ h => .ok ([], h)) σ H Q q
    refine ⟨β, F, h, sl, R, S, Aft.imp q fun x H1 ⟨r, hr, β1, F1, h1, sl1, R1, S1, q1⟩ => ⟨r, hr, ?_⟩⟩
    exact Aft.ok (RA := AL Γ F1) q1 R1 (RVs.nil.mpr rfl)
  | cons e es =>
    have hp1 : plainX e = true := by rw [List.all_cons, Bool.and_eq_true] at hp; exact hp.1
    have hp2 : es.all plainX = true := by rw [List.all_cons, Bool.and_eq_true] at hp; exact hp.2
    exact PEimp (pe_bmW ho ha (base_ok hs _ _ _) (few_ok hp hn pos X.env) hline (star_cons hp1 es X.env) (star_all hp2 pos X.env).1) (bm_imp C)
end
/-! ### calls of defs -/
/-- what a def of the program promises -/
def spI (Γ : Gm) (np : Nat) (φ : List W → Hc → RW) : Sp := fun vs H Q E => vs.length = np ∧ ∃ β F h ws, Rel Γ β F h H ∧ RVs Γ.K β F H ws vs ∧ Aft Γ E F (AW Γ F) β H (φ ws h) Q
structure FnF (Γ : Gm) (P : Program) (w : World) (K : PySem.W.Frag) (mg : Str → Option Value) (base : Heap) (φ : List W → Hc → RW) (k : Nat) (f : Addr) : Prop where
  ex : ∃ (np : Nat) (dfl : List W) (fd : FuncData) (ps : List Str) (dvs : List V), ps.length = np ∧ FnOk P w K mg base (L2.CX P w) k f fd ps (spI Γ np φ) ∧ PySem.W.keepIn K (.ref f) = true ∧
    (∀ β F H, RVs Γ.K β F H dfl dvs) ∧ dfl.length ≤ np ∧ (∀ j : Nat, ∃ ds, Vals (dvs.drop j) ds ∧ L2.Binds K fd ps ds) ∧
    ∀ ws h, φ ws h ≠ .no → np - dfl.length ≤ ws.length ∧ ws.length ≤ np ∧ φ ws h = φ (ws ++ dfl.drop (ws.length - (np - dfl.length))) h
theorem FnF.mono {Γ : Gm} {P : Program} {w : World} {K : PySem.W.Frag} {mg : Str → Option Value} {base : Heap} {φ : List W → Hc → RW} {j k : Nat} {f : Addr} (F : FnF Γ P w K mg base φ j f) (h : j ≤ k) : FnF Γ P w K mg base φ k f := by
  obtain ⟨np, dfl, fd, ps, dvs, e1, e2, e3⟩ := F.ex
  exact ⟨np, dfl, fd, ps, dvs, e1, e2.mono h, e3⟩
theorem Vals.drop' {xs : List V} {us : List Value} (h : Vals xs us) (n : Nat) : Vals (xs.drop n) (us.drop n) := Vals.drop n h
section
variable {Γ : Gm} {LO : LamT} {E : XK} {X : L2.Cx} {pos : Pos}
abbrev Tk (E : XK) (X : L2.Cx) : Prop := Takes X fun c d _ H => E c d H
theorem Tk.pass (t : Tk E X) : Passes (L2.CX X.prog X.w) X E := passes_call t fun _ _ _ _ h => h
theorem Aft.ne_no {α γ : Type} {F : Addr → Prop} {RA : List Addr → Hp → α → γ → Prop} {β : List Addr} {H : Hp} {r : Res (α × Hc)} {Q : γ → Hp → Prop} (q : Aft Γ E F RA β H r Q) : r ≠ .no := fun z => by
  rw [z] at q
  exact q
/-- a call in an empty heap -/
theorem iso_imp {β : List Addr} {F : Addr → Prop} {h : Hc} {H : Hp} {w : Res (W × Hc)} {Q : VK} (R : Rel Γ β F h H) (q : Aft Γ E F (AW Γ F) β H (match w with
    | .ok (w, _) => if W.nref w then .ok (w, h) else .no
    | .exc c _ => .exc c h
    | .no => .no) Q) : Rel Γ [] (fun a => F a ∨ a ∈ β) [] H ∧ Aft Γ E (fun a => F a ∨ a ∈ β) (AW Γ fun a => F a ∨ a ∈ β) [] H w Q := by
  refine ⟨⟨List.nodup_nil, rfl, fun a z => absurd z (by simp), fun a z => z.elim (R.fr a) (R.th a), fun a z => absurd z (by simp), fun i o a z => by simp at z, R.tb⟩, ?_⟩
  have back : ∀ {H2 : Hp} {β2 : List Addr} {h2 : Hc}, Step [] H β2 H2 → Rel Γ β2 (fun a => F a ∨ a ∈ β) h2 H2 → Step β H β H2 ∧ Rel Γ β F h H2 := fun {H2 β2 h2} s R2 => by
    have st : Step β H β H2 := ⟨List.prefix_refl _, fun a o e _ nt => s.keep a o e (by simp) nt, fun _ z n => absurd z n, s.there, s.tups, s.frzs⟩
    refine ⟨st, R.quiet st (fun a ha => ?_) R2.tb⟩
    obtain ⟨o, e, nt⟩ := R.th a ha
    rw [e, s.keep a o e (by simp) nt]
  cases w with
  | ok p =>
    intro v H2 β2 s R2 rv
    obtain ⟨st, R3⟩ := back s R2
    have q : Aft Γ E F (AW Γ F) β H (if W.nref p.1 then .ok (p.1, h) else .no) Q := q
    split at q
    · rename_i hn
      refine q v H2 β st R3 (RV.nref (fun a n1 n2 _ => ⟨fun z => n2 (.inr z), fun z => n2 (.inl z)⟩) _ _ hn rv)
    · exact q.elim
  | exc c h' =>
    intro H2 β2 s R2
    obtain ⟨st, R3⟩ := back s R2
    exact q H2 β st R3
  | no => exact q
theorem call_sp {np : Nat} {dfl : List W} {dvs : List V} {φ : List W → Hc → RW} {iso : Bool} {β : List Addr} {F : Addr → Prop} {h : Hc} {H : Hp} {ws : List W} {vs : List V} {Q : VK} (hd : ∀ β F H, RVs Γ.K β F H dfl dvs) (hle : dfl.length ≤ np)
    (ha : ∀ ws h, φ ws h ≠ .no → np - dfl.length ≤ ws.length ∧ ws.length ≤ np ∧ φ ws h = φ (ws ++ dfl.drop (ws.length - (np - dfl.length))) h)
    (R : Rel Γ β F h H) (r : RVs Γ.K β F H ws vs) (q : Aft Γ E F (AW Γ F) β H (callI iso φ ws h) Q) : spI Γ np φ (vs ++ dvs.drop (vs.length - (np - dfl.length))) H Q E := by
  have hl := RVs.length r
  have len : ∀ {h0}, φ ws h0 ≠ .no → (vs ++ dvs.drop (vs.length - (np - dfl.length))).length = np ∧ φ ws h0 = φ (ws ++ dfl.drop (vs.length - (np - dfl.length))) h0 := fun {h0} hn => by
    obtain ⟨h1, h2, h3⟩ := ha ws h0 hn
    refine ⟨?_, by rw [← hl]; exact h3⟩
    have := RVs.length (hd β F H)
    rw [List.length_append, List.length_drop]
    omega
  unfold callI at q
  cases iso with
  | false =>
    rw [if_neg Bool.false_ne_true] at q
    obtain ⟨l1, l2⟩ := len q.ne_no
    rw [l2] at q
    exact ⟨l1, β, F, h, _, R, r.append ((hd β F H).drop _), q⟩
  | true =>
    rw [if_pos rfl] at q
    split at q
    · rename_i hn
      obtain ⟨R2, q2⟩ := iso_imp R q
      obtain ⟨l1, l2⟩ := len q2.ne_no
      rw [l2] at q2
      exact ⟨l1, [], _, [], _, R2, (RVs.nref (fun a n nf _ => ⟨by simp, fun z => z.elim nf n⟩) _ _ hn r).append ((hd _ _ H).drop _), q2⟩
    · exact q.elim
theorem e_call (C : Fx Γ LO E X) (tk : Tk E X) {φ : List W → Hc → RW} {k : Nat} {f : Addr} {x : Str} {p : Pos} {es : List Expr} {m : Sl → Hc → RWs} {iso : Bool} (Fn : FnF Γ X.prog X.w X.K X.mg X.base φ k f) (hr : Room k X.A) (hg : Gl X x) (hm : X.mg x = some (.ref f)) (hdb : (x == ("__debug__" : Str)) = false)
    (ha : PA X es (tAs Γ LO E m)) (h0 : es = [] → m = fun _ h => .ok ([], h)) (hp : es.all plainX = true) (hl : LenIs m es.length) : PE X (.Call (.Name x p) es [] pos) (tE Γ LO E fun sl h => (m sl h).bind fun (ws, h1) => callI iso φ ws h1) := by
  obtain ⟨np, dfl, fd, ps, dvs, e1, e2, e3, e5, hle, e6, e7⟩ := Fn.ex
  obtain ⟨ds, e4, e6⟩ := e6 (es.length - (np - dfl.length))
  have imp : ∀ σ H Q, tE Γ LO E (fun sl h => (m sl h).bind fun (ws, h1) => callI iso φ ws h1) σ H Q → tCall (spI Γ np φ) (dvs.drop (es.length - (np - dfl.length))) E (tAs Γ LO E m) σ H Q := fun σ H Q ⟨β, F, h, sl, R, S, q⟩ =>
    ⟨β, F, h, sl, R, S, Aft.imp (Aft.bind q) fun xs H1 ⟨β1, (ws, h1), e, s1, R1, rx, q1⟩ => by
      have l : xs.length = es.length := by rw [← RVs.length rx]; exact hl sl h ws h1 e
      rw [← l]
      exact call_sp e5 hle e7 R1 rx q1⟩
  cases es with
  | nil =>
    have z := h0 rfl
    subst z
    refine PEimp (pe_call0 e2 hr hg hm e3 e6 e4 tk.pass hdb) fun σ H Q q => ?_
    obtain ⟨β, F, h, sl, R, S, q⟩ := imp σ H Q q
    exact Aft.ok (RA := AL Γ F) q R (RVs.nil.mpr rfl)
  | cons e es =>
    have hp1 : plainX e = true := by rw [List.all_cons, Bool.and_eq_true] at hp; exact hp.1
    have hp2 : es.all plainX = true := by rw [List.all_cons, Bool.and_eq_true] at hp; exact hp.2
    exact PEimp (pe_call e2 hr hg hm e3 e6 e4 tk.pass ha hdb (star_cons hp1 es X.env) (star_all hp2 pos X.env).1) imp
/-! ### new instances -/
theorem new_sp (C : Fx Γ LO E X) {np : Nat} {dfl : List W} {dvs : List V} {φ : List W → Hc → RW} {Cn : Nat} {β : List Addr} {F : Addr → Prop} {h : Hc} {H : Hp} {ws : List W} {vs : List V} {Q : VK} (hd : ∀ β F H, RVs Γ.K β F H dfl dvs) (hle : dfl.length ≤ np)
    (ha : ∀ ws h, φ ws h ≠ .no → np - dfl.length ≤ ws.length ∧ ws.length ≤ np ∧ φ ws h = φ (ws ++ dfl.drop (ws.length - (np - dfl.length))) h)
    (R : Rel Γ β F h H) (r : RVs Γ.K β F H ws vs) (q : Aft Γ E F (AW Γ F) β H (newI Cn φ ws h) Q) : ∀ x dx, H x = none → H dx = none → dx ≠ x →
      spI Γ np φ (.ref x :: (vs ++ dvs.drop (vs.length + 1 - (np - dfl.length)))) (upd (upd H dx (.own x)) x (.ins (Γ.cls Cn) dx [])) (fun v H2 => v = .non ∧ Q (.ref x) H2) E := by
  intro x dx hx hdx ne
  have hx2 : upd H dx (.own x) x = none := by rw [upd_ne (Ne.symm ne)]; exact hx
  have R1 := R.fresh (o := .own x) hdx
  have s1 := step_new (β := β) (o := .own x) hdx
  have s2 := step_mine (β := β) (o := .ins (Γ.cls Cn) dx []) hx2
  have R2 : Rel Γ (β ++ [x]) F (h ++ [.ins Cn []]) (upd (upd H dx (.own x)) x (.ins (Γ.cls Cn) dx [])) := R1.mine hx2 ⟨dx, [], upd_same, .nil⟩
  have st := s1.trans s2
  have rx : RV Γ.K (β ++ [x]) F (upd (upd H dx (.own x)) x (.ins (Γ.cls Cn) dx [])) (.ref h.length) (.ref x) := by
    unfold RV
    exact ⟨x, by rw [← R.len]; simp, rfl⟩
  have rr := RVs.mk rx (RVs.step st _ _ r)
  have q2 : Aft Γ E F (AW Γ F) (β ++ [x]) (upd (upd H dx (.own x)) x (.ins (Γ.cls Cn) dx [])) (φ (.ref h.length :: ws) (h ++ [.ins Cn []])) (fun v H2 => v = .non ∧ Q (.ref x) H2) := by
    unfold newI at q
    revert q
    generalize φ (.ref h.length :: ws) (h ++ [.ins Cn []]) = r
    intro q
    cases r with
    | ok p =>
      obtain ⟨w, h2⟩ := p
      cases w
      case non =>
        intro v H3 β3 s3 R3 rv
        refine ⟨rv_non rv, ?_⟩
        refine q _ H3 β3 (st.trans s3) R3 ?_
        exact RV.step s3 _ _ rx
      all_goals exact q.elim
    | exc c h2 => exact fun H3 β3 s3 R3 => q H3 β3 (st.trans s3) R3
    | no => exact q
  have q3 := call_sp (iso := false) hd hle ha R2 rr (by unfold callI; rw [if_neg Bool.false_ne_true]; exact q2)
  exact q3
theorem e_new (C : Fx Γ LO E X) (tk : Tk E X) {φ : List W → Hc → RW} {k Cn : Nat} {f : Addr} {x : Str} {p : Pos} {es : List Expr} {m : Sl → Hc → RWs} (Fn : FnF Γ X.prog X.w X.K X.mg X.base φ k f) (M : Mk X.K (Γ.cls Cn) f) (hr : Room (k + 1) X.A) (hg : Gl X x) (hm : X.mg x = some (.ref (Γ.cls Cn))) (hdb : (x == ("__debug__" : Str)) = false)
    (ha : PA X es (tAs Γ LO E m)) (h0 : es = [] → m = fun _ h => .ok ([], h)) (hp : es.all plainX = true) (hl : LenIs m es.length) : PE X (.Call (.Name x p) es [] pos) (tE Γ LO E fun sl h => (m sl h).bind fun (ws, h1) => newI Cn φ ws h1) := by
  obtain ⟨np, dfl, fd, ps, dvs, e1, e2, e3, e5, hle, e6, e7⟩ := Fn.ex
  obtain ⟨ds, e4, e6⟩ := e6 (es.length + 1 - (np - dfl.length))
  have imp : ∀ σ H Q, tE Γ LO E (fun sl h => (m sl h).bind fun (ws, h1) => newI Cn φ ws h1) σ H Q → tMake (Γ.cls Cn) (spI Γ np φ) (dvs.drop (es.length + 1 - (np - dfl.length))) E (tAs Γ LO E m) σ H Q := fun σ H Q ⟨β, F, h, sl, R, S, q⟩ =>
    ⟨β, F, h, sl, R, S, Aft.imp (Aft.bind q) fun xs H1 ⟨β1, (ws, h1), e, s1, R1, rx, q1⟩ => by
      have l : xs.length = es.length := by rw [← RVs.length rx]; exact hl sl h ws h1 e
      rw [← l]
      exact new_sp C e5 hle e7 R1 rx q1⟩
  cases es with
  | nil =>
    have z := h0 rfl
    subst z
    refine PEimp (pe_make0 M e2 hr hg hm e6 e4 tk.pass hdb) fun σ H Q q => ?_
    obtain ⟨β, F, h, sl, R, S, q⟩ := imp σ H Q q
    exact Aft.ok (RA := AL Γ F) q R (RVs.nil.mpr rfl)
  | cons e es =>
    have hp1 : plainX e = true := by rw [List.all_cons, Bool.and_eq_true] at hp; exact hp.1
    have hp2 : es.all plainX = true := by rw [List.all_cons, Bool.and_eq_true] at hp; exact hp.2
    exact PEimp (pe_make M e2 hr hg hm e6 e4 tk.pass ha hdb (star_cons hp1 es X.env) (star_all hp2 pos X.env).1) imp
/-! ### methods of instances -/
theorem e_meth (C : Fx Γ LO E X) (tk : Tk E X) {I : Ix} (cf : Cf Γ I) {k mi : Nat} {mn : Str} {apos : Pos} {o : Expr} {es : List Expr} {m1 : Sl → Hc → RW} {m : Sl → Hc → RWs} (hn : Γ.nm[mi]? = some mn)
    (hM : ∀ Cn f', (I.init Cn).isSome = true → I.meth Cn mi = some f' → ∃ fa, Meth X.K (Γ.cls Cn) mn fa ∧ FnF Γ X.prog X.w X.K X.mg X.base (I.call f') k fa) (hr : Room k X.A)
    (ho : PE X o (tE Γ LO E m1)) (ha : PA X es (tAs Γ LO E m)) (h0 : es = [] → m = fun _ h => .ok ([], h)) (hs : superX o = true) (hp : es.all plainX = true) (hn30 : es.length < 30) (hline : (apos.endLine == pos.line) = true) :
    PE X (.Call (.Attribute o mn apos) es [] pos) (tE Γ LO E fun sl h => (m1 sl h).bind fun (x, h1) => match insAt I h1 x with
    | some (_, C, fs) => match I.meth C mi, fget fs mi with
      | some f, none => (m sl h1).bind fun (ws, h2) => I.call f (x :: ws) h2
      | _, _ => .no
    | none => .no) := by
  refine ⟨fun pins s σ H Q I0 ⟨β, F, h, sl, R, S, q⟩ => ?_⟩
  refine PySem.W.methodCall_KW (thn (ho.run pins s σ H _ I0 ⟨β, F, h, sl, R, S, Aft.imp (Aft.bind q) fun x H1 z => z⟩) fun u s1 ⟨x, H1, I1, rx, β1, (xw, h1), e, st1, R1, rxw, q1⟩ => ?_) (meth_eval hs hp hn30 hline)
  dsimp only at q1
  split at q1
  · rename_i a Cn fs ei
    obtain ⟨ew, ho1, hi, p, dx, gs, ex, hb, eH, rf⟩ := insAt_at cf R1 rxw ei
    split at q1
    · rename_i f' hm hf
      obtain ⟨fa, hMt, Fn⟩ := hM Cn f' hi hm
      obtain ⟨np, dfl, fd, ps, dvs, e1, e2, e3, e5, hle, e6, e7⟩ := Fn.ex
      subst ex
      obtain rfl : u = Value.ref p := rx
      have hcl : Cls X.K (Γ.cls Cn) := by rw [C.hK]; exact cf.cls _ hi
      refine getmeth_ok I1 eH hcl hMt ((RFs.get cf.nm hn rf).2 hf) ?_
      have fin : ∀ (vs : List V) (us : List Value) (H2 : Hp) (s2 : Shared) (β2 : List Addr) (h2 : Hc) (ws : List W), L2.Inv X pins σ H2 s2 → Vals vs us → Step β1 H1 β2 H2 → Rel Γ β2 F h2 H2 → RVs Γ.K β2 F H2 ws vs → Aft Γ E F (AW Γ F) β2 H2 (I.call f' (xw :: ws) h2) Q →
          wpAny (model X.prog X.w) X.A (call (.ref fa) (.ref p :: us)) (EP X pins σ Q) X.xe s2 := fun vs us H2 s2 β2 h2 ws I2 rv s2' R2 rws q2 => by
        have rr := RVs.mk (RV.step s2' _ _ rxw) rws
        have sp := call_sp (iso := false) e5 hle e7 R2 rr (by unfold callI; rw [if_neg Bool.false_ne_true]; exact q2)
        obtain ⟨ds, e4, e6⟩ := e6 ((V.ref p :: vs).length - (np - dfl.length))
        exact run_fn (vs := .ref p :: vs) (us := .ref p :: us) e2 hr e6 e4 tk.pass I2 (.cons rfl rv) sp
      cases es with
      | nil =>
        have z := h0 rfl
        subst z
        exact PySem.W.callWith_K0 (first := [.ref p]) I1.kIn hMt.kp (fin [] [] H1 s1 β1 h1 [] I1 .nil (Step.refl _ _) R1 (RVs.nil.mpr rfl) q1)
      | cons e es =>
        have hp1 : plainX e = true := by rw [List.all_cons, Bool.and_eq_true] at hp; exact hp.1
        have hp2 : es.all plainX = true := by rw [List.all_cons, Bool.and_eq_true] at hp; exact hp.2
        refine PySem.W.callWith_K (first := [.ref p]) (h₀ := X.base) I1.ok.mod.kin hMt.kp (thn (ha.run pos pins s1 σ H1 _ I1 ⟨β1, F, h1, sl, R1, S.step C.lo st1, Aft.bind q1⟩) fun us s2 ⟨vs, H2, I2, r, β2, (ws, h2), e2', st2, R2, rws, q2⟩ => ⟨I2.kIn, ?_⟩) (star_cons hp1 es X.env) (star_all hp2 pos X.env).1
        exact fin vs us H2 s2 β2 h2 ws I2 r st2 R2 rws q2
    · exact q1.elim
  · exact q1.elim
end
end PyI

set_option Elab.async false
set_option linter.all false
set_option maxRecDepth 100000
set_option maxHeartbeats 1000000
/-! PyIE: enumerate of a tuple. -/
namespace PyI
open PySem PySem.Spec PyProof.Rows L2
set_option maxHeartbeats 2000000 in
theorem enum_newB {v : Value} {ob : Obj} {Hs : Heap → Prop} (B : Begins v ob Hs) :
    Meets (Builtin.«enumerate.__new__» ⟨[.type "enumerate", v], []⟩) (fun _ R s => Hs s.heap ∧
      R (.ok (.ret (.ref (s.heap.push ob).objs.size))) { s with heap := (s.heap.push ob).push { cls := .type "enumerate", data := .fields #[.none, .bool false, .ref s.heap.objs.size, rawInt 0, .none, .none] } }) :=
  .of_wp fun prog w A R s h => by
    obtain ⟨hp, gg, dd, tk, os⟩ := s
    obtain ⟨h1, h⟩ := h
    have hsub := sub_enumerate
    have q1 : ∀ {A' : Around} {E' : Value → Shared → Prop} {Q' : Value → Shared → Prop}, Q' (.ref hp.objs.size) ⟨hp.push ob, gg, dd, tk, os⟩ → wpAny (model prog w) A' (pyIter v) Q' E' ⟨hp, gg, dd, tk, os⟩ :=
      fun q => B.iter prog w _ _ ⟨hp, gg, dd, tk, os⟩ _ h1 q
    wp_walk using q1
    refine wpAny_stack_any fun st => wpAny_pure ?_
    split
    · rename_i c _ _ _ _ _
      cases (c == Value.type "enumerate") <;> (wp_walk using q1; exact ⟨_, rfl, h⟩)
    · wp_walk using q1
      exact ⟨_, rfl, h⟩
section
variable {prog : Program} {w : World} {A : Around} {E : Value → Shared → Prop} {s : Shared}
theorem enum_make {v : Value} {ob : Obj} {Hs : Heap → Prop} {Q : Value → Shared → Prop} (B : Begins v ob Hs) (h1 : Hs s.heap)
    (h : ∀ h', IsEnum h' (s.heap.objs.size + 1) s.heap.objs.size 0 .none → h'.get? s.heap.objs.size = some ob → (∀ b o, s.heap.get? b = some o → h'.get? b = some o) → Q (.ref (s.heap.objs.size + 1)) { s with heap := h' }) :
    wpAny (model prog w) A (call (.type "enumerate") [v]) Q E s := by
  refine callType_new F.called_enumerate (by decide) (F.typeCall_enumerate_1 _) (F.newCall_enumerate_1 _) (fun obj => F.args_object_init_2 obj _) F.entry_enumerate_new (enum_newB B) ⟨h1, ?_⟩
  have hz : (s.heap.push ob).objs.size = s.heap.objs.size + 1 := Heap.size_push ..
  show _ ∧ _
  rw [hz]
  have he : IsEnum ((s.heap.push ob).push { cls := .type "enumerate", data := .fields #[.none, .bool false, .ref s.heap.objs.size, rawInt 0, .none, .none] }) (s.heap.objs.size + 1) s.heap.objs.size 0 .none := by
    have z := Heap.get?_push_size (s.heap.push ob) (o := { cls := .type "enumerate", data := .fields #[.none, .bool false, .ref s.heap.objs.size, rawInt 0, .none, .none] }) rfl
    rw [hz] at z
    exact z
  exact ⟨⟨_, he, rfl⟩, h _ he (Heap.get?_push_of_some _ (Heap.get?_push_size _ B.free)) fun b o x => Heap.get?_push_of_some _ (Heap.get?_push_of_some _ x)⟩
end
/-- the tuple at a, each item in a new pair -/
def IteT (K : PySem.W.Frag) (a : Addr) : It :=
  ⟨fun i H => ∃ (xs : List V) (x : V), SqT K H a xs ∧ xs[i]? = some x, fun i H v H' => ∃ T x, v = .ref T ∧ H T = none ∧ H' = upd H T (.tup [.int (i : Nat), x]) ∧ ∀ xs, SqT K H a xs → xs[i]? = some x, fun i H => ∃ xs : List V, SqT K H a xs ∧ xs.length ≤ i⟩
theorem walk_enumT {K : PySem.W.Frag} {a : Addr} {xs : List V} : Walk (IteT K a) xs.length (fun H => SqT K H a xs) (YPair (fun i => some (.int (i : Nat))) (fun i => xs[i]?)) := by
  refine ⟨fun i _ hi q => ⟨xs, xs[i], q, by simp [hi]⟩, fun _ q => ⟨xs, q, Nat.le_refl _⟩, fun i H v H' _ q y => ?_⟩
  obtain ⟨T, x, h1, h2, h3, h4⟩ := y
  exact ⟨T, .int (i : Nat), x, h1, h2, h3, rfl, h4 xs q⟩
theorem turn_enumT {P : Program} {w : World} {K : PySem.W.Frag} {elts : List Expr} {kk : Nat} {tpos : Pos} (a e it : Addr) :
    Turn P w K (.Tuple elts kk tpos) (IteT K a) [e, it] e (fun i h => (∃ old, IsEnum h e it ((i : Nat) : Int) old) ∧ h.IsTupleIter it a i ∧ e ≠ it) where
  mem := by simp
  obj := fun i h st b hb => by
    obtain ⟨⟨old, he⟩, ⟨o, ho, hc, hd⟩, _⟩ := st
    have e' : b = e ∨ b = it := by simpa using hb
    rcases e' with z | z
    · rw [z]; exact ⟨_, he, fun v q => nomatch q⟩
    · rw [z]; exact ⟨o, ho, fun v q => by rw [hd] at q; cases q⟩
  keep := fun i h h' st k => let ⟨⟨old, he⟩, hi, hne⟩ := st; ⟨⟨old, k e (by simp) _ he⟩, hi.at fun o q => k it (by simp) o q, hne⟩
  item := by
    intro X hP hw hK hc i pins s σ H E I hf st hg
    subst hP hw hK
    obtain ⟨⟨old, he⟩, hit, hne⟩ := st
    obtain ⟨xs, x, hq, hx⟩ := hg
    obtain ⟨its, rv, p, hz⟩ := I.tuple hq
    have p' : s.heap.IsTuple a its.toArray := p
    have hel : e < s.heap.objs.size := Heap.lt_size he
    have hil : it < s.heap.objs.size := by obtain ⟨_, q, _⟩ := hit; exact Heap.lt_size q
    have nae : a ≠ e := fun z => by
      obtain ⟨o, q1, q2, _⟩ := p'
      rw [z] at q1
      have q3 : s.heap.get? e = some _ := he
      rw [q1] at q3
      cases q3
      exact absurd q2 (by simp)
    have nai : a ≠ it := fun z => by
      obtain ⟨o, q1, q2, _⟩ := p'
      obtain ⟨o', q3, q4, _⟩ := hit
      rw [z, q3] at q1
      cases q1
      rw [q4] at q2
      exact absurd q2 (by simp)
    have hlt : i < its.toArray.size := by
      have := (List.getElem?_eq_some_iff.mp hx).1
      have := rv.length
      simp
      omega
    have D := Draws.tuple (prog := X.prog) (w := X.w) (A := X.A.in1) (I.ok.hd hc) it a nai its.toArray
    refine wpAny_pyNext_enum_itemD D he ⟨hit, p'⟩ hlt hne (fun z => ?_) fun u h' tk hu ho hst' hT hsz hk => ?_
    · have z : e = it ∨ e = a := by simpa using z
      rcases z with z | z
      · exact hne z
      · exact nae z.symm
    · obtain ⟨y, hy, ry⟩ : ∃ y, xs[i]? = some y ∧ RelV y u := by
        obtain ⟨u', hu', ru'⟩ := rv.get hx
        have hu2 : its[i]? = some u := by simpa using hu
        rw [hu'] at hu2
        cases hu2
        exact ⟨x, hx, ru'⟩
      rw [hx] at hy
      cases hy
      obtain ⟨hit', _⟩ := hst'
      refine ⟨_, rfl, wpAny_letOwnedTupleGo_enum (s := { s with heap := h', toks := tk + 1 }) ho fun h'' he' sb => ?_⟩
      have hT2 : h''.get? s.heap.objs.size = some { cls := .type "tuple", data := .seq #[.int i tk, u] } := (sb.2 _ (Nat.ne_of_gt hel)).trans hT
      have new : ObjOk X.prog X.w (upd H s.heap.objs.size (.tup [.int (i : Nat), x])) h'' s.heap.objs.size (.tup [.int (i : Nat), x]) :=
        ⟨by show 2 ≤ sizeLine; decide, [.int i tk, u], .cons ⟨_, rfl⟩ (.cons ry .nil), ⟨_, hT2, rfl, _, rfl⟩⟩
      have I1 : Inv X pins σ (upd H s.heap.objs.size (.tup [.int (i : Nat), x])) { s with heap := h'', toks := tk + 1 } :=
        I.turnedNew (ch := [e, it]) (fun b ob hb q => (sb.2 b (fun z => hb (by simp [z]))).trans (hk b ob (fun z => hb (by simp [z])) (fun z => hb (by simp [z])) q)) hf (Nat.le_refl _) new
      refine ⟨.ref s.heap.objs.size, _, I1, rfl, ⟨_, x, rfl, I.hok.fresh (Nat.le_refl _), rfl, fun ys hy => by rw [I.tuple_inj hy hq]; exact hx⟩, ⟨⟨u, ?_⟩, hit'.at fun o q => (sb.2 it (Ne.symm hne)).trans q, hne⟩, fun b hb => ?_⟩
      · have e1 : ((i + 1 : Nat) : Int) = (i : Int) + 1 := by omega
        rw [e1]; exact he'
      · have hb' : b < s.heap.objs.size := by
          have e' : b = e ∨ b = it := by simpa using hb
          rcases e' with z | z
          · rw [z]; exact hel
          · rw [z]; exact hil
        rw [upd_ne (Nat.ne_of_lt hb')]
        exact (hf b hb).1
  done := by
    intro X hP hw hK hc i pins s σ H E I hf st hg
    subst hP hw hK
    obtain ⟨⟨old, he⟩, hit, hne⟩ := st
    obtain ⟨xs, hq, hx⟩ := hg
    obtain ⟨its, rv, p, hz⟩ := I.tuple hq
    have p' : s.heap.IsTuple a its.toArray := p
    obtain ⟨f0, f1, f2, f3, f4, f5⟩ := hf it (by simp)
    have hl := rv.length
    have nai : a ≠ it := fun z => by
      obtain ⟨o, q1, q2, _⟩ := p'
      obtain ⟨o', q3, q4, _⟩ := hit
      rw [z, q3] at q1
      cases q1
      rw [q4] at q2
      exact absurd q2 (by simp)
    have hT : s.TypeIs (.ref e) "enumerate" := ⟨_, he, rfl⟩
    unfold pyNext
    refine wpAny_bind (wpAny_attempt (wpAny_callSpecial?_slot (name := Str.ofString "__next__") hT F.slot_enumerate_next
      (wpAny_call_entry F.slot_enumerate_next hT F.entry_enumerate_next ?_ (F.args_enumerate_next_1 _))))
    show wpAny _ _ (field (.ref e) 2 >>= _) _ _ _
    refine wpAny_bind (wpAny_field he rfl (x := .ref it) rfl ?_)
    refine wpAny_bind (wpAny_nextOf_tuple_end (A := X.A.in1) (I.ok.hd hc) hit p' (i := i) (by simp; omega) fun h' x he' hx' => ?_)
    obtain ⟨o, ho, hcx⟩ := hx'
    refine wpAny_bind (wpAny_isInstance (T := "StopIteration") (b := true) ⟨o, ho, hcx⟩ isSubtype_stop ?_)
    exact wpAny_pure ⟨rfl, I.turned (t' := s.toks) (fun b o hb q => he' b o hb q) f0 f1 f3 f4 f5⟩
  self := fun A i s Q E st h => let ⟨⟨_, he⟩, _⟩ := st; wpAny_pyIter_enum he h
/-- over a list, over a tuple -/
def iEnum2 (K : PySem.W.Frag) (ta : TA) : TI := fun σ H R => ta σ H fun vs H1 => ∃ a, vs = [.ref a] ∧ ((∃ xs, SqL K H1 a xs ∧ R (Ite K a) H1) ∨ ∃ xs, SqT K H1 a xs ∧ R (IteT K a) H1)
theorem pi_enum2 {X : Cx} {e : Expr} {ta : TA} {p pos tpos : Pos} {elts : List Expr} {kk : Nat} (hg : Gl X "enumerate") (hm : X.mg "enumerate" = none) (ha : PA X [e] ta) (hs : starEach [e] X.env = [(false, eval e X.env)] := by rfl) :
    PI X (.Tuple elts kk tpos) (.Call (.Name "enumerate" p) [e] [] pos) (iEnum2 X.K ta) := by
  refine ⟨fun pins s σ H R I h => ?_⟩
  refine Call_ (ld_blt I hg hm boot_enumerate (PyProof.Rows.callWith_type1 (thn (ha.run pos pins s σ H _ I h) fun us s1 ⟨vs, H1, I1, r1, q1⟩ => ?_) hs rfl))
  obtain ⟨a, ex, q⟩ := q1
  subst ex
  cases r1 with
  | cons r rr =>
    cases rr
    cases r
    have fin : ∀ {J : It} {tn : Nat → Heap → Prop} {h' : Heap}, (∀ b o, s1.heap.get? b = some o → h'.get? b = some o) → IsEnum h' (s1.heap.objs.size + 1) s1.heap.objs.size 0 .none → Turn X.prog X.w X.K (.Tuple elts kk tpos) J [s1.heap.objs.size + 1, s1.heap.objs.size] (s1.heap.objs.size + 1) tn → tn 0 h' → R J H1 →
        PIE X pins σ (.Tuple elts kk tpos) R (.ref (s1.heap.objs.size + 1)) { s1 with heap := h' } := fun {J tn h'} hk he T t0 q => by
      have I2 : Inv X pins σ H1 { s1 with heap := h' } := I1.kept (t' := s1.toks) hk
      refine ⟨s1.heap.objs.size + 1, [s1.heap.objs.size + 1, s1.heap.objs.size], _, _, H1, rfl, I2, T, t0, fun b hb => ?_, q⟩
      have e' : b = s1.heap.objs.size + 1 ∨ b = s1.heap.objs.size := by simpa using hb
      have hle : s1.heap.objs.size ≤ b := by
        rcases e' with z | z
        · rw [z]; exact Nat.le_add_right _ _
        · rw [z]; exact Nat.le_refl _
      exact I1.fpOk hle (I1.hok.fresh hle)
    rcases q with ⟨xs, hq, q⟩ | ⟨xs, hq, q⟩
    · obtain ⟨its, rv, p', hz⟩ := I1.list hq
      refine call_enumerate_list p'.isList fun h' he hit hsz hk => wpAny_pyIter_enum he ?_
      exact fin hk he (turn_enum a (s1.heap.objs.size + 1) s1.heap.objs.size) ⟨⟨.none, he⟩, hit, Nat.succ_ne_self _⟩ q
    · obtain ⟨its, rv, p', hz⟩ := I1.tuple hq
      refine enum_make (begins_tuple a its.toArray) (show s1.heap.IsTuple a its.toArray from p') fun h' he hit hk => wpAny_pyIter_enum he ?_
      exact fin hk he (turn_enumT a (s1.heap.objs.size + 1) s1.heap.objs.size) ⟨⟨.none, he⟩, ⟨_, hit, rfl, rfl⟩, Nat.succ_ne_self _⟩ q
end PyI

set_option Elab.async false
set_option linter.all false
set_option maxRecDepth 100000
set_option maxHeartbeats 1000000
/-! PyI11: what is walked. -/
namespace PyI
open PySem PySem.Spec PyProof.Rows L2
/-- further on, seen from anywhere: trees and locked objects as they were -/
structure On (Γ : Gm) (β : List Addr) (F : Addr → Prop) (H : Hp) (β2 : List Addr) (F2 : Addr → Prop) (H2 : Hp) : Prop where
  tr : Tr Γ.K β F H β2 F2 H2
  frz : ∀ a o u, H a = some (.frz o u) → H2 a = some (.frz o u)
structure WkOk (Γ : Gm) (β : List Addr) (F : Addr → Prop) (H : Hp) (J : It) (xs : List W) : Prop where
  go : ∀ i β2 F2 H2, On Γ β F H β2 F2 H2 → i < xs.length → J.go i H2
  stop : ∀ β2 F2 H2, On Γ β F H β2 F2 H2 → J.stop xs.length H2
  yld : ∀ i β2 F2 H2 h2 x H3, On Γ β F H β2 F2 H2 → Rel Γ β2 F2 h2 H2 → i < xs.length → J.yld i H2 x H3 → ∃ w, xs[i]? = some w ∧ Step β2 H2 β2 H3 ∧ Rel Γ β2 F2 h2 H3 ∧ RV Γ.K β2 F2 H3 w x
/-- the walk that an evaluation comes to -/
def AftI (Γ : Gm) (E : XK) (F : Addr → Prop) (β : List Addr) (H : Hp) (ik : IK) (r : RWs) (R : It → Hp → Prop) : Prop := match r with
  | .ok (ws, h1) => ∃ xs, walkOf ik ws h1 = some (xs, none) ∧ ∀ J H1 β1, Step β H β1 H1 → Rel Γ β1 F h1 H1 → WkOk Γ β1 F H1 J xs → xs.length ≤ LL → R J H1
  | .exc c h' => ∀ H1 β1, Step β H β1 H1 → Rel Γ β1 F h' H1 → E (.ref (Γ.exc c)) none H1
  | .no => False
def tW (Γ : Gm) (LO : LamT) (E : XK) (ik : IK) (m : Sl → Hc → RWs) : TI := fun σ H R => ∃ β F h sl, Rel Γ β F h H ∧ RSl Γ.K LO β F H sl σ ∧ AftI Γ E F β H ik (m sl h) R
section
variable {Γ : Gm} {LO : LamT} {E : XK} {X : L2.Cx} {pos : Pos} {β : List Addr} {F : Addr → Prop} {h : Hc} {H : Hp} {tg : Expr}
theorem quietY {K : PySem.W.Frag} {xs : List W} {vs : List V} {J : It} {P : Hp → Prop} (wk : Walk J vs.length P (YAt vs)) (hP : ∀ β2 F2 H2, On Γ β F H β2 F2 H2 → P H2) (r : RVs Γ.K β F H xs vs) : WkOk Γ β F H J xs := by
  have l := RVs.length r
  refine ⟨fun i β2 F2 H2 on hi => wk.goes i H2 (by rw [← l]; exact hi) (hP _ _ _ on), fun β2 F2 H2 on => by rw [l]; exact wk.stops H2 (hP _ _ _ on), fun i β2 F2 H2 h2 x H3 on R hi y => ?_⟩
  obtain ⟨e, hx⟩ := wk.yields i H2 x H3 (by rw [← l]; exact hi) (hP _ _ _ on) y
  subst e
  obtain ⟨w, e1, e2⟩ := (RVs.tr on.tr _ _ r).getV hx
  exact ⟨w, e1, Step.refl _ _, R, e2⟩
theorem pairY {xs : List W} {n : Nat} {f g : Nat → Option V} {J : It} {P : Hp → Prop} (wk : Walk J n P (YPair f g)) (hn : xs.length = n) (hP : ∀ β2 F2 H2, On Γ β F H β2 F2 H2 → P H2)
    (r : ∀ i x y, i < n → f i = some x → g i = some y → ∃ a b, xs[i]? = some (.tup [a, b]) ∧ RV Γ.K β F H a x ∧ RV Γ.K β F H b y) : WkOk Γ β F H J xs := by
  refine ⟨fun i β2 F2 H2 on hi => wk.goes i H2 (by rw [← hn]; exact hi) (hP _ _ _ on), fun β2 F2 H2 on => by rw [hn]; exact wk.stops H2 (hP _ _ _ on), fun i β2 F2 H2 h2 v H3 on R hi yy => ?_⟩
  obtain ⟨T, x, y, ev, hT, eH, hx, hy⟩ := wk.yields i H2 v H3 (by rw [← hn]; exact hi) (hP _ _ _ on) yy
  obtain ⟨a, b, e, ra, rb⟩ := r i x y (by rw [← hn]; exact hi) hx hy
  subst ev eH
  refine ⟨_, e, step_new hT, R.fresh hT, ?_⟩
  unfold RV
  refine ⟨T, [x, y], rfl, .inl upd_same, ?_⟩
  exact RVs.step (step_new hT) _ _ (RVs.mk (RV.tr on.tr _ _ ra) (RVs.mk (RV.tr on.tr _ _ rb) (RVs.nil.mpr rfl)))
theorem wk_lst {K : PySem.W.Frag} {p : Addr} {xs : List W} {vs : List V} (hK : K = Γ.K) (hp : (H p = some (.lst vs) ∧ p ∉ β ∧ ¬ F p) ∨ (∃ o, H p = some (.frz o (.lst vs))) ∨ KLst Γ.K p vs) (r : RVs Γ.K β F H xs vs) : WkOk Γ β F H (Itl K p) xs :=
  quietY (K := K) walk_list (fun β2 F2 H2 on => by
    rcases hp with ⟨e, n, nf⟩ | ⟨o, e⟩ | e
    · exact SqL.of (on.tr.keep p _ e n nf (fun ps z => by cases z)).1
    · exact .inl (.inr ⟨o, on.frz p o _ e⟩)
    · rw [hK]; exact .inr e) r
theorem wk_enum {K : PySem.W.Frag} {p : Addr} {xs : List W} {vs : List V} (hK : K = Γ.K) (hp : (H p = some (.lst vs) ∧ p ∉ β ∧ ¬ F p) ∨ (∃ o, H p = some (.frz o (.lst vs))) ∨ KLst Γ.K p vs) (r : RVs Γ.K β F H xs vs) : WkOk Γ β F H (Ite K p) (enumW 0 xs) := by
  have key : ∀ (xs : List W) (n : Nat), (enumW n xs).length = xs.length ∧ ∀ (i : Nat) (w : W), xs[i]? = some w → (enumW n xs)[i]? = some (W.tup [.int ((n + i : Nat) : Int), w]) := fun xs => by
    induction xs with
    | nil => exact fun n => ⟨rfl, fun i w e => by simp at e⟩
    | cons x r ih =>
      intro n
      obtain ⟨h1, h2⟩ := ih (n + 1)
      refine ⟨by unfold enumW; simp [h1], fun i w e => ?_⟩
      unfold enumW
      cases i with
      | zero => simp at e; subst e; simp
      | succ i =>
        have := h2 i w (by simpa using e)
        rw [List.getElem?_cons_succ, this, show n + (i + 1) = n + 1 + i from by omega]
  obtain ⟨k1, k2⟩ := key xs 0
  refine pairY (walk_enum (K := K) (a := p) (xs := vs)) (by rw [k1]; exact RVs.length r) (fun β2 F2 H2 on => ?_) fun i x y hi hx hy => ?_
  · rcases hp with ⟨e, n, nf⟩ | ⟨o, e⟩ | e
    · exact SqL.of (on.tr.keep p _ e n nf (fun ps z => by cases z)).1
    · exact .inl (.inr ⟨o, on.frz p o _ e⟩)
    · rw [hK]; exact .inr e
  · obtain ⟨w, e1, e2⟩ := r.getV hy
    cases hx
    refine ⟨_, _, k2 i w e1, ?_, e2⟩
    rw [Nat.zero_add]
    exact mk_int _
theorem wk_enumT {K : PySem.W.Frag} {p : Addr} {xs : List W} {vs : List V} (hK : K = Γ.K) (hp : TupAt Γ.K H p vs) (r : RVs Γ.K β F H xs vs) : WkOk Γ β F H (IteT K p) (enumW 0 xs) := by
  have key : ∀ (xs : List W) (n : Nat), (enumW n xs).length = xs.length ∧ ∀ (i : Nat) (w : W), xs[i]? = some w → (enumW n xs)[i]? = some (W.tup [.int ((n + i : Nat) : Int), w]) := fun xs => by
    induction xs with
    | nil => exact fun n => ⟨rfl, fun i w e => by simp at e⟩
    | cons x r ih =>
      intro n
      obtain ⟨h1, h2⟩ := ih (n + 1)
      refine ⟨by unfold enumW; simp [h1], fun i w e => ?_⟩
      unfold enumW
      cases i with
      | zero => simp at e; subst e; simp
      | succ i =>
        have := h2 i w (by simpa using e)
        rw [List.getElem?_cons_succ, this, show n + (i + 1) = n + 1 + i from by omega]
  obtain ⟨k1, k2⟩ := key xs 0
  refine pairY (walk_enumT (K := K) (a := p) (xs := vs)) (by rw [k1]; exact RVs.length r) (fun β2 F2 H2 on => ?_) fun i x y hi hx hy => ?_
  · rw [hK]
    exact TupAt.sq (hp.elim (fun e => .inl (on.tr.tups _ _ e)) .inr)
  · obtain ⟨w, e1, e2⟩ := r.getV hy
    cases hx
    refine ⟨_, _, k2 i w e1, ?_, e2⟩
    rw [Nat.zero_add]
    exact mk_int _
theorem wk_tup {K : PySem.W.Frag} (hK : K = Γ.K) {p : Addr} {xs : List W} {vs : List V} (hp : TupAt Γ.K H p vs) (r : RVs Γ.K β F H xs vs) : WkOk Γ β F H (Itt K p) xs :=
  quietY (K := K) walk_tup (fun β2 F2 H2 on => by
    rw [hK]
    exact TupAt.sq (hp.elim (fun e => .inl (on.tr.tups _ _ e)) .inr)) r
theorem wk_str {t : List Nat} : WkOk Γ β F H (Its (ofL t)) (t.map fun c => W.str [c]) := by
  have l : (t.map fun c => W.str [c]).length = (ofL t).cps.size := by simp [ofL]
  refine ⟨fun i β2 F2 H2 on hi => walk_str.goes i H2 (by rw [← l]; exact hi) trivial, fun β2 F2 H2 on => by rw [l]; exact walk_str.stops H2 trivial, fun i β2 F2 H2 h2 x H3 on R hi y => ?_⟩
  obtain ⟨e, c, e1, e2⟩ := walk_str.yields i H2 x H3 (by rw [← l]; exact hi) trivial y
  subst e e2
  refine ⟨.str [c], ?_, Step.refl _ _, R, mk_str _⟩
  have : t[i]? = some c := by simpa [ofL] using e1
  simp [this]
theorem wk_range {lo : Int} {n : Nat} : WkOk Γ β F H (Itr lo n) (rangeW lo n) := by
  have key : ∀ (n : Nat) (lo : Int), (rangeW lo n).length = n ∧ ∀ i, i < n → (rangeW lo n)[i]? = some (.int (lo + i)) := fun n => by
    induction n with
    | zero => exact fun lo => ⟨rfl, fun i h => by omega⟩
    | succ n ih =>
      intro lo
      obtain ⟨h1, h2⟩ := ih (lo + 1)
      refine ⟨by unfold rangeW; simp [h1], fun i hi => ?_⟩
      unfold rangeW
      cases i with
      | zero => simp
      | succ i =>
        rw [List.getElem?_cons_succ, h2 i (by omega)]
        congr 2
        omega
  obtain ⟨k1, k2⟩ := key n lo
  refine ⟨fun i β2 F2 H2 on hi => walk_range.goes i H2 (by rw [k1] at hi; exact hi) trivial, fun β2 F2 H2 on => by rw [k1]; exact walk_range.stops H2 trivial, fun i β2 F2 H2 h2 x H3 on R hi y => ?_⟩
  rw [k1] at hi
  obtain ⟨e, e2⟩ := walk_range.yields i H2 x H3 hi trivial y
  subst e e2
  exact ⟨_, k2 i hi, Step.refl _ _, R, mk_int _⟩
theorem wk_keys {p : Addr} {o : Obj} {kvs : List (W × W)} {ks : List (Key × V)} (hp : H p = some (.frz o (.dK ks))) (r : RKVs Γ.K β F H kvs ks) : WkOk Γ β F H (Itk p o ks) (kvs.map (·.1)) := by
  have l : (kvs.map (·.1)).length = ks.length := by rw [List.length_map]; exact r.length
  have w := walk_keys (d := p) (o := o) (kvs := ks)
  refine ⟨fun i β2 F2 H2 on hi => w.goes i H2 (by rw [← l]; exact hi) (on.frz _ _ _ hp), fun β2 F2 H2 on => by rw [l]; exact w.stops H2 (on.frz _ _ _ hp), fun i β2 F2 H2 h2 x H3 on R hi y => ?_⟩
  obtain ⟨e, k, v, e1, e2⟩ := w.yields i H2 x H3 (by rw [← l]; exact hi) (on.frz _ _ _ hp) y
  subst e e2
  obtain ⟨w, e3, e4⟩ := (RVs.tr on.tr _ _ r.keys).getV (i := i) (v := kV k) (by simp [e1])
  exact ⟨w, e3, Step.refl _ _, R, e4⟩
theorem wk_values {p : Addr} {o : Obj} {kvs : List (W × W)} {ks : List (Key × V)} (hp : H p = some (.frz o (.dK ks))) (r : RKVs Γ.K β F H kvs ks) : WkOk Γ β F H (Itd p o ks) (kvs.map (·.2)) := by
  have l : (kvs.map (·.2)).length = ks.length := by rw [List.length_map]; exact r.length
  have w := walk_values (d := p) (o := o) (kvs := ks)
  refine ⟨fun i β2 F2 H2 on hi => w.goes i H2 (by rw [← l]; exact hi) (on.frz _ _ _ hp), fun β2 F2 H2 on => by rw [l]; exact w.stops H2 (on.frz _ _ _ hp), fun i β2 F2 H2 h2 x H3 on R hi y => ?_⟩
  obtain ⟨e, k, e1⟩ := w.yields i H2 x H3 (by rw [← l]; exact hi) (on.frz _ _ _ hp) y
  subst e
  obtain ⟨w, e3, e4⟩ := (RVs.tr on.tr _ _ r.vals).getV (i := i) (v := x) (by simp [e1])
  exact ⟨w, e3, Step.refl _ _, R, e4⟩
theorem Paired.getR {α γ : Type} {R : α → γ → Prop} : ∀ {as : List α} {bs : List γ}, Paired R as bs → ∀ {i : Nat} {b : γ}, bs[i]? = some b → ∃ a, as[i]? = some a ∧ R a b
  | _, _, .nil, i, b, e => by simp at e
  | a :: as, c :: bs, .cons h t, 0, b, e => by
    simp at e
    subst e
    exact ⟨a, rfl, h⟩
  | a :: as, c :: bs, .cons h t, i + 1, b, e => by
    obtain ⟨a', e1, e2⟩ := Paired.getR t (i := i) (by simpa using e)
    exact ⟨a', by simpa using e1, e2⟩
theorem wk_items {p : Addr} {o : Obj} {kvs : List (W × W)} {ks : List (Key × V)} (hp : H p = some (.frz o (.dK ks))) (r : RKVs Γ.K β F H kvs ks) : WkOk Γ β F H (Iti p o ks) (kvs.map fun p => .tup [p.1, p.2]) := by
  refine pairY (walk_items (d := p) (o := o) (kvs := ks)) (by rw [List.length_map]; exact r.length) (fun β2 F2 H2 on => on.frz _ _ _ hp) fun i x y hi hx hy => ?_
  obtain ⟨q, e1, rfl⟩ := Option.map_eq_some_iff.mp hx
  rw [e1] at hy
  cases hy
  obtain ⟨c, e2, h1, h2, h3⟩ := Paired.getR r e1
  refine ⟨c.1, c.2, by simp [e2], ?_, h3⟩
  rw [← h2]
  exact kV_keyOf h1
/-! ### sizes -/
structure Sz (K : PySem.W.Frag) (H : Hp) : Prop where
  lst : ∀ a vs, SqL K H a vs → vs.length ≤ LL
  tup : ∀ a vs, SqT K H a vs → vs.length ≤ LL
  dic : ∀ a ks, Rd H a (.dK ks) → ks.length ≤ LL
theorem Sz.of {pins : List (Addr × Obj)} {σ : L2.St} {s : Shared} (I : L2.Inv X pins σ H s) : Sz X.K H := by
  refine ⟨fun a vs e => ?_, fun a vs e => ?_, fun a ks e => ?_⟩
  · obtain ⟨_, _, _, z⟩ := I.list e
    exact z
  · obtain ⟨_, _, _, z⟩ := I.tuple e
    exact z
  · exact (dk_rd I.hok e).1
/-- a walk, its size told of -/
theorem PI.szd {wi : TI} {iter : Expr} (p : PI X tg iter wi) : PI X tg iter fun σ H R => wi σ H fun J H1 => Sz X.K H1 → R J H1 := ⟨fun pins s σ H R I q => by
  refine thn (p.run pins s σ H _ I q) fun v s1 q1 => thn q1 fun u s2 ⟨it, fp, tn, J, H', e, I2, T, t0, f, r⟩ => ?_
  exact ⟨it, fp, tn, J, H', e, I2, T, t0, f, r (Sz.of I2)⟩⟩
abbrev one (m : Sl → Hc → RW) : Sl → Hc → RWs := fun sl h => (m sl h).bind fun (w, h1) => .ok ([w], h1)
theorem hl_wk {i : Nat} {lk : Bool} {xs : List W} {v : V} (R : Rel Γ β F h H) (r : RV Γ.K β F H (.ref i) v) (e : h[i]? = some (.lst true xs)) : ∃ p vs, v = .ref p ∧ RVs Γ.K β F H xs vs ∧ ∃ o, H p = some (.frz o (.lst vs)) := by
  obtain ⟨p, e1, _, vs, o, e2, e3⟩ := RV.ref R r e
  exact ⟨p, vs, e1, e3, o, e2⟩
/-- a value walked -/
theorem w_val (C : Fx Γ LO E X) {l : Expr} {m : Sl → Hc → RW} (ha : PE X l (tE Γ LO E m)) : PI X tg l (tW Γ LO E .val (one m)) := by
  refine ⟨fun pins s σ H R I ⟨β, F, h, sl, Rl, S, q⟩ => ?_⟩
  unfold one at q
  cases hr : m sl h with
  | exc c h' =>
    rw [hr] at q
    exact (pi_list ha).run pins s σ H R I ⟨β, F, h, sl, Rl, S, by rw [hr]; exact q⟩
  | no =>
    rw [hr] at q
    exact q.elim
  | ok p =>
    obtain ⟨w, h1⟩ := p
    rw [hr] at q
    obtain ⟨xs, ew, qq⟩ := q
    replace ew : walkVal h1 w = some (xs, none) := ew
    unfold walkVal at ew
    split at ew
    · cases ew
      refine (PI.szd (pi_list ha)).run pins s σ H R I ⟨β, F, h, sl, Rl, S, ?_⟩
      rw [hr]
      intro v H1 β1 s1 R1 rv
      obtain ⟨a, vs, e, ht, n, nf, hv⟩ := rv_lst rv
      refine ⟨a, e, ⟨vs, SqL.of ht⟩, fun sz => qq _ H1 β1 s1 R1 (wk_lst C.hK (.inl ⟨ht, n, nf⟩) hv) ?_⟩
      rw [RVs.length hv]
      exact sz.lst _ _ (SqL.of ht)
    · cases ew
      refine (PI.szd (pi_list ha)).run pins s σ H R I ⟨β, F, h, sl, Rl, S, ?_⟩
      rw [hr]
      intro v H1 β1 s1 R1 rv
      obtain ⟨a, vs, e, ht, hv⟩ := rv_frz rv
      have sq : SqL X.K H1 a vs := by rw [C.hK]; exact ht.sq
      refine ⟨a, e, ⟨vs, sq⟩, fun sz => qq _ H1 β1 s1 R1 (wk_lst C.hK (.inr (ht.elim (fun ⟨o, z, _⟩ => .inl ⟨o, z⟩) .inr)) hv) ?_⟩
      rw [RVs.length hv]
      exact sz.lst _ _ sq
    · cases ew
      refine (PI.szd (pi_tup ha)).run pins s σ H R I ⟨β, F, h, sl, Rl, S, ?_⟩
      rw [hr]
      intro v H1 β1 s1 R1 rv
      obtain ⟨a, vs, e, ht, hv⟩ := rv_tup rv
      have sq : SqT X.K H1 a vs := by rw [C.hK]; exact ht.sq
      refine ⟨a, e, ⟨vs, sq⟩, fun sz => qq _ H1 β1 s1 R1 (wk_tup C.hK ht hv) ?_⟩
      rw [RVs.length hv]
      exact sz.tup _ _ sq
    · split at ew
      · rename_i hl
        cases ew
        refine (pi_str ha).run pins s σ H R I ⟨β, F, h, sl, Rl, S, ?_⟩
        rw [hr]
        intro v H1 β1 s1 R1 rv
        exact ⟨_, rv_str rv, qq _ H1 β1 s1 R1 wk_str (by rw [List.length_map]; exact hl)⟩
      · cases ew
    · split at ew
      · rename_i lk kvs ho
        cases lk with
        | false => cases ew
        | true =>
          cases ew
          refine (PI.szd (pi_keys ha)).run pins s σ H R I ⟨β, F, h, sl, Rl, S, ?_⟩
          rw [hr]
          intro v H1 β1 s1 R1 rv
          obtain ⟨a, e, _, ks, o, ht, hv⟩ := RV.ref R1 rv ho
          refine ⟨a, o, e, .inl ⟨ks, ht, fun sz => qq _ H1 β1 s1 R1 (wk_keys ht hv) ?_⟩⟩
          rw [List.length_map, hv.length]
          exact sz.dic _ _ (.inr ⟨o, ht⟩)
      · rename_i lk xs' ho
        cases lk with
        | false => cases ew
        | true =>
          cases ew
          refine (PI.szd (pi_list ha)).run pins s σ H R I ⟨β, F, h, sl, Rl, S, ?_⟩
          rw [hr]
          intro v H1 β1 s1 R1 rv
          obtain ⟨a, e, _, vs, o, ht, hv⟩ := RV.ref R1 rv ho
          have sq : SqL X.K H1 a vs := .inl (.inr ⟨o, ht⟩)
          refine ⟨a, e, ⟨vs, sq⟩, fun sz => qq _ H1 β1 s1 R1 (wk_lst C.hK (.inr (.inl ⟨o, ht⟩)) hv) ?_⟩
          rw [RVs.length hv]
          exact sz.lst _ _ sq
      · cases ew
    · cases ew
theorem rangeW_len : ∀ (lo : Int) (n : Nat), (rangeW lo n).length = n
  | lo, 0 => rfl
  | lo, n + 1 => by unfold rangeW; rw [List.length_cons, rangeW_len (lo + 1) n]
theorem w_range1 (C : Fx Γ LO E X) {a : Expr} {p : Pos} {m : Sl → Hc → RWs} (hg : Gl X "range") (hm : X.mg "range" = none) (ha : PA X [a] (tAs Γ LO E m)) (hl : LenIs m 1) (hp : plainX a = true) : PI X tg (.Call (.Name "range" p) [a] [] pos) (tW Γ LO E .range m) := by
  refine ⟨fun pins s σ H R I ⟨β, F, h, sl, Rl, S, q⟩ => (pi_range1 hg hm ha (star_cons hp [] X.env)).run pins s σ H R I ⟨β, F, h, sl, Rl, S, ?_⟩⟩
  have hl := hl sl h
  revert q
  generalize m sl h = r at hl
  cases r with
  | exc c h' => exact fun q => q
  | no => exact fun q => q
  | ok p =>
    intro q
    obtain ⟨ws, h1⟩ := p
    obtain ⟨xs, ew, qq⟩ := q
    intro vs H1 β1 s1 R1 rv
    replace ew : walkRange ws = some (xs, none) := ew
    unfold walkRange at ew
    replace hl := hl ws h1 rfl
    split at ew
    · rename_i n
      split at ew
      · rename_i hb
        cases ew
        obtain ⟨v, ev, rn⟩ := rvs1 rv
        subst ev
        refine ⟨n, by rw [rv_int rn], hb.1, ?_, qq _ H1 β1 s1 R1 wk_range ?_⟩
        · have := hb.2
          show n < 2 ^ 62
          have : LL = 16777216 := rfl
          omega
        · have := hb.2
          have e : (rangeW 0 n.toNat).length = n.toNat := rangeW_len _ _
          have : LL = 16777216 := rfl
          omega
      · cases ew
    · cases hl
    · cases ew
theorem w_range2 (C : Fx Γ LO E X) {a b : Expr} {p : Pos} {m : Sl → Hc → RWs} (hg : Gl X "range") (hm : X.mg "range" = none) (ha : PA X [a, b] (tAs Γ LO E m)) (hl : LenIs m 2) (hp : plainX a = true) (hp2 : plainX b = true) : PI X tg (.Call (.Name "range" p) [a, b] [] pos) (tW Γ LO E .range m) := by
  refine ⟨fun pins s σ H R I ⟨β, F, h, sl, Rl, S, q⟩ => (pi_range2 hg hm ha (by rw [star_cons hp, star_cons hp2]; rfl) (by rw [star_cons hp2]; rfl)).run pins s σ H R I ⟨β, F, h, sl, Rl, S, ?_⟩⟩
  have hl := hl sl h
  revert q
  generalize m sl h = r at hl
  cases r with
  | exc c h' => exact fun q => q
  | no => exact fun q => q
  | ok p =>
    intro q
    obtain ⟨ws, h1⟩ := p
    obtain ⟨xs, ew, qq⟩ := q
    intro vs H1 β1 s1 R1 rv
    replace ew : walkRange ws = some (xs, none) := ew
    unfold walkRange at ew
    replace hl := hl ws h1 rfl
    split at ew
    · cases hl
    · rename_i a b
      split at ew
      · rename_i hb
        cases ew
        obtain ⟨v, v', ev, rn, rm⟩ := rvs2 rv
        subst ev
        refine ⟨a, b, by rw [rv_int rn, rv_int rm], ⟨hb.1, hb.2.1, hb.2.2.1, hb.2.2.2.1⟩, qq _ H1 β1 s1 R1 wk_range ?_⟩
        have := hb.2.2.2.2
        have e : (rangeW a (b - a).toNat).length = (b - a).toNat := rangeW_len _ _
        have : LL = 16777216 := rfl
        omega
      · cases ew
    · cases ew
theorem dic_wk {f : W × W → W} {ws : List W} {xs : List W} (e : walkDic f h ws = some (xs, none)) : ∃ a kvs, ws = [.ref a] ∧ h[a]? = some (.dic true kvs) ∧ xs = kvs.map f := by
  unfold walkDic at e
  split at e
  · rename_i a
    split at e
    · rename_i lk kvs ho
      cases lk with
      | false => cases e
      | true => cases e; exact ⟨a, kvs, rfl, ho, rfl⟩
    · cases e
  · cases e
theorem w_values (C : Fx Γ LO E X) {e : Expr} {apos : Pos} {m : Sl → Hc → RW} (ha : PE X e (tE Γ LO E m)) (hs : superX e = true) (hline : (apos.endLine == pos.line) = true) : PI X tg (.Call (.Attribute e "values" apos) [] [] pos) (tW Γ LO E .values (one m)) := by
  refine ⟨fun pins s σ H R I ⟨β, F, h, sl, Rl, S, q⟩ => (PI.szd (pi_values ha (base_ok hs _ _ _) hline)).run pins s σ H R I ⟨β, F, h, sl, Rl, S, ?_⟩⟩
  unfold one at q
  revert q
  generalize m sl h = r
  cases r with
  | exc c h' => exact fun q => q
  | no => exact fun q => q
  | ok p =>
    obtain ⟨w0, h1⟩ := p
    intro ⟨xs, ew, qq⟩ v H1 β1 s1 R1 rv
    obtain ⟨a, kvs, e1, ho, e2⟩ := dic_wk ew
    cases e1
    subst e2
    obtain ⟨a, e, _, ks, o, ht, hv⟩ := RV.ref R1 rv ho
    refine ⟨a, o, ks, e, ht, fun sz => qq _ H1 β1 s1 R1 (wk_values ht hv) ?_⟩
    rw [List.length_map, hv.length]
    exact sz.dic _ _ (.inr ⟨o, ht⟩)
theorem w_items (C : Fx Γ LO E X) {e : Expr} {apos tpos : Pos} {elts : List Expr} {kk : Nat} {m : Sl → Hc → RW} (ha : PE X e (tE Γ LO E m)) (hs : superX e = true) (hline : (apos.endLine == pos.line) = true) :
    PI X (.Tuple elts kk tpos) (.Call (.Attribute e "items" apos) [] [] pos) (tW Γ LO E .items (one m)) := by
  refine ⟨fun pins s σ H R I ⟨β, F, h, sl, Rl, S, q⟩ => (PI.szd (pi_items ha (base_ok hs _ _ _) hline)).run pins s σ H R I ⟨β, F, h, sl, Rl, S, ?_⟩⟩
  unfold one at q
  revert q
  generalize m sl h = r
  cases r with
  | exc c h' => exact fun q => q
  | no => exact fun q => q
  | ok p =>
    obtain ⟨w0, h1⟩ := p
    intro ⟨xs, ew, qq⟩ v H1 β1 s1 R1 rv
    obtain ⟨a, kvs, e1, ho, e2⟩ := dic_wk ew
    cases e1
    subst e2
    obtain ⟨a, e, _, ks, o, ht, hv⟩ := RV.ref R1 rv ho
    refine ⟨a, o, ks, e, ht, fun sz => qq _ H1 β1 s1 R1 (wk_items ht hv) ?_⟩
    rw [List.length_map, hv.length]
    exact sz.dic _ _ (.inr ⟨o, ht⟩)
theorem enum_len : ∀ (n : Nat) (xs : List W), (enumW n xs).length = xs.length
  | _, [] => rfl
  | n, x :: r => by unfold enumW; rw [List.length_cons, enum_len (n + 1) r]; rfl
theorem w_enum (C : Fx Γ LO E X) {a : Expr} {p tpos : Pos} {elts : List Expr} {kk : Nat} {m : Sl → Hc → RWs} (hg : Gl X "enumerate") (hm : X.mg "enumerate" = none) (ha : PA X [a] (tAs Γ LO E m)) (hp : plainX a = true) :
    PI X (.Tuple elts kk tpos) (.Call (.Name "enumerate" p) [a] [] pos) (tW Γ LO E .enum m) := by
  refine ⟨fun pins s σ H R I ⟨β, F, h, sl, Rl, S, q⟩ => (PI.szd (pi_enum2 hg hm ha (star_cons hp [] X.env))).run pins s σ H R I ⟨β, F, h, sl, Rl, S, ?_⟩⟩
  revert q
  generalize m sl h = r
  cases r with
  | exc c h' => exact fun q => q
  | no => exact fun q => q
  | ok p =>
    intro q
    obtain ⟨ws, h1⟩ := p
    obtain ⟨xs, ew, qq⟩ := q
    intro vs H1 β1 s1 R1 rv
    replace ew : walkEnum h1 ws = some (xs, none) := ew
    unfold walkEnum at ew
    split at ew
    · cases ew
      obtain ⟨v, ev, rw_⟩ := rvs1 rv
      subst ev
      obtain ⟨a, vs, e, ht, n, nf, hv⟩ := rv_lst rw_
      subst e
      refine ⟨a, rfl, .inl ⟨vs, SqL.of ht, fun sz => qq _ H1 β1 s1 R1 (wk_enum C.hK (.inl ⟨ht, n, nf⟩) hv) ?_⟩⟩
      rw [enum_len, RVs.length hv]
      exact sz.lst _ _ (SqL.of ht)
    · cases ew
      obtain ⟨v, ev, rw_⟩ := rvs1 rv
      subst ev
      obtain ⟨a, vs, e, ht, hv⟩ := rv_frz rw_
      subst e
      have sq : SqL X.K H1 a vs := by rw [C.hK]; exact ht.sq
      refine ⟨a, rfl, .inl ⟨vs, sq, fun sz => qq _ H1 β1 s1 R1 (wk_enum C.hK (.inr (ht.elim (fun ⟨o, z, _⟩ => .inl ⟨o, z⟩) .inr)) hv) ?_⟩⟩
      rw [enum_len, RVs.length hv]
      exact sz.lst _ _ sq
    · cases ew
      obtain ⟨v, ev, rw_⟩ := rvs1 rv
      subst ev
      obtain ⟨a, vs, e, ht, hv⟩ := rv_tup rw_
      subst e
      have sq : SqT X.K H1 a vs := by rw [C.hK]; exact ht.sq
      refine ⟨a, rfl, .inr ⟨vs, sq, fun sz => qq _ H1 β1 s1 R1 (wk_enumT C.hK ht hv) ?_⟩⟩
      rw [enum_len, RVs.length hv]
      exact sz.tup _ _ sq
    · split at ew
      · rename_i lk xs' ho
        cases lk with
        | false => cases ew
        | true =>
          cases ew
          obtain ⟨v, ev, rw_⟩ := rvs1 rv
          subst ev
          obtain ⟨a, e, _, vs, o, ht, hv⟩ := RV.ref R1 rw_ ho
          subst e
          have sq : SqL X.K H1 a vs := .inl (.inr ⟨o, ht⟩)
          refine ⟨a, rfl, .inl ⟨vs, sq, fun sz => qq _ H1 β1 s1 R1 (wk_enum C.hK (.inr (.inl ⟨o, ht⟩)) hv) ?_⟩⟩
          rw [enum_len, RVs.length hv]
          exact sz.lst _ _ sq
      · cases ew
    · cases ew
end
end PyI

set_option Elab.async false
set_option linter.all false
set_option maxRecDepth 100000
set_option maxHeartbeats 1000000
/-! PyI12: targets, list comprehensions, what is locked meanwhile. -/
namespace PyI
open PySem PySem.Spec PyProof.Rows L2
theorem Tr.trans {K : PySem.W.Frag} {β β1 β2 : List Addr} {F F1 F2 : Addr → Prop} {H H1 H2 : Hp} (a : Tr K β F H β1 F1 H1) (b : Tr K β1 F1 H1 β2 F2 H2) : Tr K β F H β2 F2 H2 :=
  ⟨fun c o e n nf nt => let ⟨e1, n1, f1⟩ := a.keep c o e n nf nt; b.keep c o e1 n1 f1 nt, fun c xs e => b.tups c xs (a.tups c xs e), fun i c e => b.ix i c (a.ix i c e), fun c P e n => let ⟨e1, n1⟩ := a.exts c P e n; b.exts c P e1 n1⟩
theorem upd_self {H : Hp} {p : Addr} {o : HO} (e : H p = some o) : upd H p o = H := by
  funext a
  by_cases h : a = p
  · rw [h, upd_same, e]
  · rw [upd_ne h]
/-! ### targets -/
mutual
def tgS : Tg → List Nat
  | .one i => [i]
  | .many ts => tgSs ts
def tgSs : List Tg → List Nat
  | [] => []
  | t :: ts => tgS t ++ tgSs ts
end
theorem wipe_set {σ : L2.St} {i : Nat} {o : Option V} : ∀ {vs : List Nat}, i ∈ vs → L2.wipe (σ.set i o) vs = L2.wipe σ vs
  | v :: vs, h => by
    unfold L2.wipe
    by_cases e : i = v
    · subst e
      clear h
      induction vs with
      | nil => unfold L2.wipe; rw [List.set_set]
      | cons u us ih =>
        unfold L2.wipe
        by_cases e : i = u
        · subst e; rw [List.set_set, List.set_set]; exact ih
        · rw [List.set_comm _ _ (Ne.symm e), List.set_comm (l := L2.wipe σ us) _ _ (Ne.symm e), ih]
    · have h : i ∈ vs := by
        rcases List.mem_cons.mp h with h | h
        · exact absurd h e
        · exact h
      rw [wipe_set h]
section
variable {Γ : Gm} {LO : LamT} {E : XK} {X : L2.Cx} {pos : Pos} {β : List Addr} {F : Addr → Prop} {h : Hc} {H : Hp}
def tG (Γ : Gm) (LO : LamT) (t : Tg) : TG := fun x σ H Q => ∃ β F h sl w sl', Rel Γ β F h H ∧ RSl Γ.K LO β F H sl σ ∧ RV Γ.K β F H w x ∧ stTg t w sl = some sl' ∧ ∀ σ', RSl Γ.K LO β F H sl' σ' → (∀ vs : List Nat, tgS t ⊆ vs → L2.wipe σ' vs = L2.wipe σ vs) → Q σ' H
def tGs (Γ : Gm) (LO : LamT) (ts : List Tg) : TGs := fun xs σ H Q => ∃ β F h sl ws sl', Rel Γ β F h H ∧ RSl Γ.K LO β F H sl σ ∧ RVs Γ.K β F H ws xs ∧ stTgs ts ws sl = some sl' ∧ ∀ σ', RSl Γ.K LO β F H sl' σ' → (∀ vs : List Nat, tgSs ts ⊆ vs → L2.wipe σ' vs = L2.wipe σ vs) → Q σ' H
theorem PGimp {tg : Expr} {t t' : TG} (h : PG X tg t) (i : ∀ x σ H Q, t' x σ H Q → t x σ H Q) : PG X tg t' := ⟨fun pins s σ H v u Q I r q => h.run pins s σ H v u Q I r (i v σ H Q q)⟩
theorem PGsimp {tg : List Expr} {t t' : TGs} (h : PGs X tg t) (i : ∀ x σ H Q, t' x σ H Q → t x σ H Q) : PGs X tg t' := ⟨fun pins s σ H v u Q I r q => h.run pins s σ H v u Q I r (i v σ H Q q)⟩
theorem g_one (hN : X.N.Nodup) {i : Nat} {x : Str} (hi : X.N[i]? = some x) (hx : Loc X.env.scope x) (hf : X.fn x = true ∨ X.env.scope.names.lookup x = some .local) : PG X (.Name x pos) (tG Γ LO (.one i)) :=
  PGimp (pg_name hN hi hx hf) fun x σ H Q ⟨β, F, h, sl, w, sl', R, S, r, e, q⟩ => by
    unfold stTg at e
    split at e
    · cases e
      exact q _ (S.set ⟨x, rfl, r⟩) fun vs hv => wipe_set (hv (by simp [tgS]))
    · cases e
theorem gs_nil : PGs X [] (tGs Γ LO []) :=
  PGsimp pgs_nil fun xs σ H Q ⟨β, F, h, sl, ws, sl', R, S, r, e, q⟩ => by
    cases ws with
    | nil =>
      simp only [stTgs] at e
      cases e
      exact ⟨RVs.nil.mp r, q σ S fun _ _ => rfl⟩
    | cons => simp [stTgs] at e
theorem asg_cons {e : Expr} (h : plainX e = true) (es : List Expr) (env : Env) : assignEach (e :: es) env = (false, assign e env) :: assignEach es env := by
  cases e <;> first | rfl | (cases h)
theorem asg_all : ∀ {es : List Expr} (h : es.all plainX = true) (env : Env), (assignEach es env).length = es.length ∧ (assignEach es env).findIdx? (·.1) = none
  | [], _, _ => ⟨rfl, rfl⟩
  | e :: es, h, env => by
    rw [List.all_cons, Bool.and_eq_true] at h
    rw [asg_cons h.1]
    obtain ⟨h1, h2⟩ := asg_all h.2 env
    refine ⟨by rw [List.length_cons, h1]; rfl, ?_⟩
    rw [List.findIdx?_cons, h2]
    rfl
theorem gs_cons {e : Expr} {es : List Expr} {t : Tg} {ts : List Tg} (hp : plainX e = true) (h1 : PG X e (tG Γ LO t)) (h2 : PGs X es (tGs Γ LO ts)) : PGs X (e :: es) (tGs Γ LO (t :: ts)) :=
  PGsimp (pgs_cons h1 h2 (by rw [asg_cons hp]; rfl)) fun xs σ H Q ⟨β, F, h, sl, ws, sl', R, S, r, e, q⟩ => by
    cases ws with
    | nil => simp [stTgs] at e
    | cons w ws =>
      simp only [stTgs] at e
      split at e
      · rename_i sl1 e1
        obtain ⟨v, vr, ev, rv, rr⟩ := RVs.cons.mp r
        refine ⟨v, vr, ev, β, F, h, sl, w, sl1, R, S, rv, e1, fun σ1 S1 w1 => ⟨β, F, h, sl1, ws, sl', R, S1, rr, e, fun σ2 S2 w2 => q σ2 S2 fun vs hv => ?_⟩⟩
        unfold tgSs at hv
        rw [w2 vs (fun i hi => hv (List.mem_append_right _ hi)), w1 vs (fun i hi => hv (List.mem_append_left _ hi))]
      · cases e
theorem g_many (C : Fx Γ LO E X) {es : List Expr} {k : Nat} {ts : List Tg} (hp : es.all plainX = true) (hl : ts.length = es.length) (hs : PGs X es (tGs Γ LO ts)) : PG X (.Tuple es k pos) (tG Γ LO (.many ts)) :=
  PGimp (pg_tup C.calm hs (asg_all hp X.env).1 (asg_all hp X.env).2) fun x σ H Q ⟨β, F, h, sl, w, sl', R, S, r, e, q⟩ => by
    cases w with
    | tup ws =>
      simp only [stTg] at e
      obtain ⟨p, vs, ev, ht, hr⟩ := rv_tup r
      have lens : ∀ (ts : List Tg) (ws : List W) (sl : Sl), stTgs ts ws sl = some sl' → ws.length = ts.length := fun ts => by
        induction ts with
        | nil =>
          intro ws sl e
          cases ws with
          | nil => rfl
          | cons => simp [stTgs] at e
        | cons t ts ih =>
          intro ws sl e
          cases ws with
          | nil => simp [stTgs] at e
          | cons w ws =>
            simp only [stTgs] at e
            split at e
            · rw [List.length_cons, List.length_cons, ih _ _ e]
            · cases e
      refine ⟨p, vs, ev, by rw [C.hK]; exact ht.sq, by rw [← RVs.length hr, lens _ _ _ e]; exact hl, β, F, h, sl, ws, sl', R, S, hr, e, fun σ' S' hw => q σ' S' fun vs hv => hw vs ?_⟩
      unfold tgS at hv
      exact hv
    | _ => simp [stTg] at e
/-! ### list comprehensions -/
/-- a walk where nothing is to be locked -/
def wk1 {α : Type} (no : α) (exc : Nat → Hc → α) (ik : IK) (r : RWs) (k : List W → Hc → α) : α := match r with
  | .ok (ws, h1) => match walkOf ik ws h1 with
    | some (xs, none) => k xs h1
    | _ => no
  | .exc c h1 => exc c h1
  | .no => no
abbrev Eno : XK := fun _ _ _ => False
/-- a turn of a comprehension -/
def turnF (t : Tg) (own : List Nat) (mc : Sl → Hc → Res (Bool × Hc)) (me : Sl → Hc → RW) (sl : Sl) : W → Hc → Res (Option W × Hc) := fun x h => match stTg t x (wipeS sl own) with
  | some σ' => (mc σ' h).bind fun (k, h') => if k then (me σ' h').bind fun (w, h'') => .ok (some w, h'') else .ok (none, h')
  | none => .no
theorem noX_ok {α γ : Type} {r : Res α} {f : α → Res γ} (h : (noX r).bind f ≠ .no) : ∃ a, r = .ok a := by
  cases r with
  | ok a => exact ⟨a, rfl⟩
  | exc c h' => exact absurd rfl h
  | no => exact absurd rfl h
theorem turn_ok {t : Tg} {own : List Nat} {mc : Sl → Hc → Res (Bool × Hc)} {me : Sl → Hc → RW} {sl : Sl} {w : W} {r : List W} {h : Hc} {p : List W × Hc} (e : turns (turnF t own mc me sl) (w :: r) h = .ok p) :
    ∃ sl' b h1, stTg t w (wipeS sl own) = some sl' ∧ mc sl' h = .ok (b, h1) ∧ ((b = false ∧ turns (turnF t own mc me sl) r h1 = .ok p) ∨ (b = true ∧ ∃ z h2 ys h3, me sl' h1 = .ok (z, h2) ∧ turns (turnF t own mc me sl) r h2 = .ok (ys, h3) ∧ p = (z :: ys, h3))) := by
  unfold turns at e
  cases e1 : turnF t own mc me sl w h with
  | exc c h' => rw [e1] at e; cases e
  | no => rw [e1] at e; cases e
  | ok q =>
    obtain ⟨o, h1⟩ := q
    rw [e1] at e
    replace e : (turns (turnF t own mc me sl) r h1).bind (fun (ys, h2) => .ok (match (generalizing := false) o with | some y => y :: ys | none => ys, h2)) = .ok p := e
    unfold turnF at e1
    split at e1
    · rename_i sl' es
      cases e2 : mc sl' h with
      | exc c h' => rw [e2] at e1; cases e1
      | no => rw [e2] at e1; cases e1
      | ok q2 =>
        obtain ⟨b, h2⟩ := q2
        rw [e2] at e1
        refine ⟨sl', b, h2, es, e2, ?_⟩
        cases b with
        | false =>
          replace e1 : Res.ok (none, h2) = Res.ok (o, h1) := e1
          injection e1 with e1
          injection e1 with eo eh
          subst eo eh
          refine .inl ⟨rfl, ?_⟩
          revert e
          cases turns (turnF t own mc me sl) r h2 with
          | ok q3 => intro e; cases e; rfl
          | exc c h' => intro e; cases e
          | no => intro e; cases e
        | true =>
          replace e1 : ((me sl' h2).bind fun (w, h'') => Res.ok (some w, h'')) = Res.ok (o, h1) := e1
          cases e3 : me sl' h2 with
          | exc c h' => rw [e3] at e1; cases e1
          | no => rw [e3] at e1; cases e1
          | ok q3 =>
            obtain ⟨z, h3⟩ := q3
            rw [e3] at e1
            replace e1 : Res.ok (some z, h3) = Res.ok (o, h1) := e1
            injection e1 with e1
            injection e1 with eo eh
            subst eo eh
            cases e4 : turns (turnF t own mc me sl) r h3 with
            | exc c h' => rw [e4] at e; cases e
            | no => rw [e4] at e; cases e
            | ok q4 =>
              rw [e4] at e
              cases e
              exact .inr ⟨rfl, z, h3, q4.1, q4.2, rfl, e4, rfl⟩
    · cases e1
theorem lc_imp (C : Fx Γ LO E X) {own : List Nat} {ik : IK} {t : Tg} {box : Bool} {m : Sl → Hc → RWs} {mc : Sl → Hc → Res (Bool × Hc)} {me : Sl → Hc → RW} (hsub : tgS t ⊆ own) (σ : L2.St) (H : Hp) (Q : VK)
    (q : tE Γ LO E (fun sl h => wk1 .no .exc ik (m sl h) fun xs h1 => (noX (turns (turnF t own mc me sl) xs h1)).bind fun (ys, h2) => mkL box ys h2) σ H Q) : tLc (tW Γ LO E ik m) (tG Γ LO t) (tT Γ LO Eno mc) (tE Γ LO Eno me) own σ H Q := by
  obtain ⟨β, F, h, sl, R, S, q⟩ := q
  refine ⟨β, F, h, sl, R, S, ?_⟩
  revert q
  unfold wk1
  dsimp only
  generalize m sl h = r
  cases r with
  | exc c h' => exact fun q => q
  | no => exact fun q => q.elim
  | ok p =>
    obtain ⟨ws, h1⟩ := p
    intro q
    dsimp only at q
    split at q
    · rename_i xs ew
      refine ⟨xs, ew, fun J H1 β1 s1 R1 wk small D hD => ?_⟩
      have S1 := S.step C.lo s1
      have nFD : ¬ F D := fun z => (R1.fr D z).ne hD
      have npD : D ∉ β1 := fun z => (R1.th D z).ne hD
      -- what holds at each turn
      let Pv : Nat → Hp → Prop := fun i H2 => ∃ β2 h2 ys acc, On Γ β1 F H1 β2 (FP F D) H2 ∧ Step β1 H1 β2 H2 ∧ Rel Γ β2 (FP F D) h2 H2 ∧ H2 D = some (.lst acc) ∧ RVs Γ.K β2 (FP F D) H2 ys acc ∧ ys.length ≤ i ∧
        ∃ zs h3, turns (turnF t own mc me sl) (xs.drop i) h2 = .ok (zs, h3) ∧ Aft Γ E F (AW Γ F) β H (mkL box (ys ++ zs) h3) Q
      have hq := q
      obtain ⟨⟨zs, h3⟩, ez⟩ := noX_ok (Aft.ne_no hq)
      rw [ez] at q
      have p0 : Pv 0 (upd H1 D (.lst [])) := ⟨β1, h1, [], [], ⟨tr_foreign hD, fun a o u e => by rw [upd_ne (ne_of_none e hD)]; exact e⟩, step_new hD, R1.foreign hD, upd_same, RVs.nil.mpr rfl, Nat.le_refl _, zs, h3, ez, q⟩
      refine ⟨fun i m H2 => m = xs.length - i ∧ i ≤ xs.length ∧ Pv i H2, ⟨xs.length, by simp, Nat.zero_le _, p0⟩, ?_⟩
      rintro i m H2 ⟨rfl, hi, β2, h2, ys, acc, on, st, R2, hacc, ry, hlen, zs, h3, ez, q⟩
      by_cases hlt : i < xs.length
      · refine .inr ⟨wk.go i β2 _ H2 on hlt, Pv (i + 1), fun H' p' => ⟨xs.length - (i + 1), by omega, rfl, hlt, p'⟩, fun x H' y => ?_⟩
        obtain ⟨w, ewi, st', R3, rw3⟩ := wk.yld i β2 _ H2 h2 x H' on R2 hlt y
        have ed : xs.drop i = w :: xs.drop (i + 1) := by
          rw [List.drop_eq_getElem_cons hlt]
          congr 1
          exact Option.some.inj ((List.getElem?_eq_getElem hlt).symm.trans ewi)
        rw [ed] at ez
        obtain ⟨sl', b, h4, es, em, rest⟩ := turn_ok ez
        have SB := (((S1.tr C.lo on.tr).step C.lo st').wipe own)
        refine ⟨β2, FP F D, h2, wipeS sl own, w, sl', R3, SB, rw3, es, fun σ' S' hw => ⟨?_, β2, FP F D, h2, sl', R3, S', ?_⟩⟩
        · rw [hw _ hsub]
          exact wipe_idem σ _
        · rw [em]
          intro c H4 β4 s4 R4 ec
          cases ec
          have kD : ∀ {β5 H5}, Step β2 H' β5 H5 → H5 D = some (.lst acc) := fun {β5 H5} s5 => s5.keep D _ (st'.keep D _ hacc (fun z => R2.av D z (.inr rfl)) (fun _ z => by cases z)) (fun z => R2.av D z (.inr rfl)) (fun _ z => by cases z)
          rcases rest with ⟨rfl, rest⟩ | ⟨rfl, z, h5, ys', h6, eme, rest, ep⟩
          · rw [if_neg Bool.false_ne_true]
            have s5 := st'.trans s4
            exact ⟨β4, h4, ys, acc, ⟨on.tr.trans s5.tr, fun a o u e => s5.frzs a o u (on.frz a o u e)⟩, st.trans s5, R4, kD s4, RVs.step s5 _ _ ry, by omega, zs, h3, rest, q⟩
          · cases ep
            rw [if_pos rfl]
            refine ⟨β4, FP F D, h4, sl', R4, S'.step C.lo s4, ?_⟩
            rw [eme]
            intro y5 H5 β5 s5 R5 ry5
            have s6 := (st'.trans s4).trans s5
            have hD5 := kD (s4.trans s5)
            have nt : ∀ us, HO.lst acc ≠ .tup us := fun _ z => by cases z
            have tr5 := tr_alt (K := Γ.K) (β := β5) (F := F) (o := .lst (acc ++ [y5])) hD5 nt
            have lacc := RVs.length ry
            refine ⟨acc, hD5, ?_, β5, h5, ys ++ [z], acc ++ [y5], ⟨(on.tr.trans s6.tr).trans tr5, fun a o u e => ?_⟩, step_alt (st.trans s6) hD, R5.alt hD5 nt (fun _ z => by cases z) (fun _ z => by unfold LamX.CodeO at z; cases z), upd_same, ?_, ?_, ys', h3, rest, ?_⟩
            · rw [← lacc]
              show ys.length < LL
              omega
            · have e2 := s6.frzs a o u (on.frz a o u e)
              rw [upd_ne (fun z => by rw [z, hD5] at e2; cases e2)]
              exact e2
            · exact RVs.tr tr5 _ _ (RVs.append (RVs.step s6 _ _ ry) (RVs.mk ry5 (RVs.nil.mpr rfl)))
            · rw [List.length_append, List.length_singleton]
              omega
            · rw [List.append_assoc]
              exact q
      · have ei : i = xs.length := by omega
        subst ei
        refine .inl ⟨wk.stop β2 _ H2 on, ?_⟩
        rw [List.drop_length] at ez
        unfold turns at ez
        cases ez
        rw [List.append_nil] at q
        have nD2 : D ∉ β2 := fun z => R2.av D z (.inr rfl)
        unfold mkL at q
        cases box with
        | false =>
          refine q (.ref D) H2 β2 (s1.trans st) R2.drop ?_
          show RV _ _ _ _ _ _
          unfold RV
          exact ⟨D, acc, rfl, hacc, nD2, nFD, RVs.tr tr_drop _ _ ry⟩
        | true =>
          have nt : ∀ us, HO.lst acc ≠ .tup us := fun _ z => by cases z
          have e := upd_self hacc
          have tr := tr_adopt (K := Γ.K) (o := .lst acc) hacc nt nD2 nFD
          have R5 := R2.adopt (o := .lst acc) (c := .lst false ys) hacc nt (fun _ z => by cases z) (fun _ z => by unfold LamX.CodeO at z; cases z) nFD ⟨acc, upd_same, RVs.tr tr _ _ ry⟩
          have s5 := step_adopt (o := .lst acc) st hD nD2
          rw [e] at R5 s5
          refine q (.ref D) H2 (β2 ++ [D]) (s1.trans s5) R5 ?_
          show RV _ _ _ _ _ _
          unfold RV
          exact ⟨D, by rw [← R2.len]; simp, rfl⟩
    · exact q.elim
where
  wipe_idem (σ : L2.St) : ∀ vs : List Nat, L2.wipe (L2.wipe σ vs) vs = L2.wipe σ vs := fun vs => by
    have key : ∀ (us vs : List Nat) (σ : L2.St), us ⊆ vs → L2.wipe (L2.wipe σ us) vs = L2.wipe σ vs := fun us => by
      induction us with
      | nil => exact fun vs σ _ => rfl
      | cons u us ih =>
        intro vs σ hs
        show L2.wipe ((L2.wipe σ us).set u none) vs = _
        rw [wipe_set (hs (by simp))]
        exact ih vs σ fun i hi => hs (List.mem_cons_of_mem _ hi)
    exact key vs vs σ (fun _ h => h)
theorem e_lc1 (C : Fx Γ LO E X) {elt tg iter : Expr} {ifs : List Expr} {scope : Scope} {own : List (Str × Nat)} {ik : IK} {t : Tg} {box : Bool} {m : Sl → Hc → RWs} {mc : Sl → Hc → Res (Bool × Hc)} {me : Sl → Hc → RW}
    (hi : PI X tg iter (tW Γ LO E ik m)) (ok : BlkOk X.N X.env.scope scope own) (hsub : tgS t ⊆ own.map (·.2))
    (hg : ∀ (s : Shared) (H : Hp) (C : Addr) (cl : List (Str × Addr)) (fp : List Addr), PG (X.blk s H scope (compEnvC scope cl C X.env) fp) tg (tG Γ LO t))
    (ht : ∀ (s : Shared) (H : Hp) (C : Addr) (cl : List (Str × Addr)) (fp : List Addr), PTs (X.blk s H scope (compEnvC scope cl C X.env) fp) ifs (tT Γ LO Eno mc))
    (he : ∀ (s : Shared) (H : Hp) (C : Addr) (cl : List (Str × Addr)) (fp : List Addr), PE (X.blk s H scope (compEnvC scope cl C X.env) fp) elt (tE Γ LO Eno me)) (hs : ∀ x, foldedSetIterable iter X.env x = pure x) :
    PE X (.ListComp elt [⟨tg, iter, ifs, 0⟩] scope pos) (tE Γ LO E fun sl h => wk1 .no .exc ik (m sl h) fun xs h1 => (noX (turns (turnF t (own.map (·.2)) mc me sl) xs h1)).bind fun (ys, h2) => mkL box ys h2) :=
  PEimp (pe_lc C.calm C.nodup hi ok hg ht he hs) (lc_imp C hsub)
end
end PyI

set_option Elab.async false
set_option linter.all false
set_option maxRecDepth 100000
set_option maxHeartbeats 1000000
/-! PyI13: locks; statements. -/
namespace PyI
open PySem PySem.Spec PyProof.Rows L2
section
variable {Γ : Gm} {LO : LamT} {E : XK} {X : L2.Cx} {pos : Pos} {β β1 : List Addr} {F : Addr → Prop} {h : Hc} {H H1 : Hp} {a d : Addr} {u : HO}
theorem tr_mine {K : PySem.W.Frag} {o : HO} (hb : d ∈ β) (e : H d = some u) (nt : ∀ xs, u ≠ .tup xs) : Tr K β F H β F (upd H d o) :=
  ⟨fun c v e2 n nf _ => ⟨by rw [upd_ne (fun z => n (by rw [z]; exact hb))]; exact e2, n, nf⟩, fun c xs e2 => by rw [upd_ne (fun z => nt xs (by rw [z, e] at e2; exact Option.some.inj e2))]; exact e2, fun _ _ e => e, fun c P e2 n => ⟨by rw [upd_ne (fun z => n (by rw [z]; exact hb))]; exact e2, n⟩⟩
theorem Rel.put {i : Nat} {o : HO} {c : CO} (R : Rel Γ β F h H) (hb : β[i]? = some d) (e : H d = some u) (nt : ∀ xs, u ≠ .tup xs) (nb : ∀ ps, u ≠ .tbl ps) (nc : ∀ q, u ≠ LamX.CodeO d q) (no : ∀ ps, o ≠ .tbl ps) (hc : OR Γ β F (upd H d o) d c) : Rel Γ β F (h.set i c) (upd H d o) := by
  have hm : d ∈ β := List.mem_of_getElem? hb
  have s := tr_mine (K := Γ.K) (F := F) (o := o) hm e nt
  refine ⟨R.nd, by simp [R.len], R.av, fun a fa => th_upd no (R.fr a fa), fun a ha => th_upd no (R.th a ha), fun j v a h1 h2 => ?_, tabs_upd R.tb (fun ps z => by rw [e] at z; exact nb ps (Option.some.inj z)) fun c q e2 => fun z => by
    rw [z, e] at e2
    exact nc q (Option.some.inj e2)⟩
  by_cases e3 : j = i
  · subst e3
    rw [hb] at h2
    cases h2
    have hl : j < h.length := by rw [← R.len]; exact (List.getElem?_eq_some_iff.mp hb).1
    rw [List.getElem?_set_self hl] at h1
    cases h1
    exact hc
  · rw [List.getElem?_set_ne (Ne.symm e3)] at h1
    refine (R.ob j v a h1 h2).tr s (upd_ne fun z => e3 ?_)
    rw [z] at h2
    exact Rel.write.nodup_ix' R.nd h2 hb
/-! ### locks -/
theorem lock_at {i : Nat} {hl : Hc} (R : Rel Γ β F h H) (e : lockH i h = some hl) : ∃ d u, β[i]? = some d ∧ H d = some u ∧ Mut (some u) ∧ ((∃ vs, u = .lst vs) ∨ ∃ ks, u = .dK ks) ∧ ∀ od, Rel Γ β F hl (upd H d (.frz od u)) ∧ Step β H β (upd H d (.frz od u)) := by
  unfold lockH at e
  split at e
  · rename_i kvs ho
    cases e
    obtain ⟨d, hb, ks, e1, e2⟩ := R.get ho
    have nt : ∀ xs, HO.dK ks ≠ .tup xs := fun _ z => by cases z
    refine ⟨d, _, hb, e1, trivial, .inr ⟨ks, rfl⟩, fun od => ?_⟩
    have st := step_write (β := β) (o := .frz od (.dK ks)) (List.mem_of_getElem? hb) e1 nt
    exact ⟨R.put hb e1 nt (fun _ z => by cases z) (fun _ z => by unfold LamX.CodeO at z; cases z) (fun _ z => by cases z) ⟨ks, od, upd_same, e2.step st⟩, st⟩
  · rename_i xs ho
    cases e
    obtain ⟨d, hb, vs, e1, e2⟩ := R.get ho
    have nt : ∀ xs, HO.lst vs ≠ .tup xs := fun _ z => by cases z
    refine ⟨d, _, hb, e1, trivial, .inl ⟨vs, rfl⟩, fun od => ?_⟩
    have st := step_write (β := β) (o := .frz od (.lst vs)) (List.mem_of_getElem? hb) e1 nt
    exact ⟨R.put hb e1 nt (fun _ z => by cases z) (fun _ z => by unfold LamX.CodeO at z; cases z) (fun _ z => by cases z) ⟨vs, od, upd_same, RVs.step st _ _ e2⟩, st⟩
  · cases e
theorem unlock_at {i : Nat} {od : Obj} (hb : β[i]? = some d) (e0 : H d = some u) (hu : (∃ vs, u = .lst vs) ∨ ∃ ks, u = .dK ks) (s0 : Step β H β (upd H d (.frz od u))) (s : Step β (upd H d (.frz od u)) β1 H1) (R1 : Rel Γ β1 F h H1) :
    H1 d = some (.frz od u) ∧ Rel Γ β1 F (unlockH i h) (upd H1 d u) ∧ Step β H β1 (upd H1 d u) ∧ Tr Γ.K β1 F H1 β1 F (upd H1 d u) := by
  have ed := s.frzs d od u upd_same
  have nuf : ∀ o z, u ≠ .frz o z := by
    rcases hu with ⟨_, rfl⟩ | ⟨_, rfl⟩ <;> intro _ _ z <;> cases z
  have nut : ∀ xs, u ≠ .tup xs := by
    rcases hu with ⟨_, rfl⟩ | ⟨_, rfl⟩ <;> intro _ z <;> cases z
  have nub : ∀ xs, u ≠ .tbl xs := by
    rcases hu with ⟨_, rfl⟩ | ⟨_, rfl⟩ <;> intro _ z <;> cases z
  have nft : ∀ xs, HO.frz od u ≠ .tup xs := fun _ z => by cases z
  have hb1 : β1[i]? = some d := by
    obtain ⟨r, hr⟩ := s.pre
    rw [← hr]
    rw [List.getElem?_append_left (List.getElem?_eq_some_iff.mp hb).1]
    exact hb
  have hm : d ∈ β := List.mem_of_getElem? hb
  have hm1 : d ∈ β1 := List.mem_of_getElem? hb1
  have tr := tr_mine (K := Γ.K) (F := F) (o := u) hm1 ed nft
  have st := s0.trans s
  refine ⟨ed, ?_, ⟨st.pre, fun c v e n nt => ?_, st.new, fun c hc => th_upd nub (st.there c hc), fun c xs e => ?_, fun c o z e => ?_⟩, tr⟩
  · have hi : i < h.length := by rw [← R1.len]; exact (List.getElem?_eq_some_iff.mp hb1).1
    have o := R1.ob i h[i] d (List.getElem?_eq_getElem hi) hb1
    have eh : h[i]? = some h[i] := List.getElem?_eq_getElem hi
    revert o eh
    generalize h[i] = c
    intro o eh
    unfold unlockH
    rw [eh]
    cases c with
    | lst lk xs =>
      cases lk with
      | false =>
        obtain ⟨vs, e1, _⟩ := o
        rw [ed] at e1
        cases e1
      | true =>
        obtain ⟨vs, o2, e1, e2⟩ := o
        rw [ed] at e1
        cases e1
        exact R1.put hb1 ed nft (fun _ z => by cases z) (fun _ z => by unfold LamX.CodeO at z; cases z) nub ⟨vs, upd_same, RVs.tr tr _ _ e2⟩
    | dic lk kvs =>
      cases lk with
      | false =>
        obtain ⟨vs, e1, _⟩ := o
        rw [ed] at e1
        cases e1
      | true =>
        obtain ⟨ks, o2, e1, e2⟩ := o
        rw [ed] at e1
        cases e1
        exact R1.put hb1 ed nft (fun _ z => by cases z) (fun _ z => by unfold LamX.CodeO at z; cases z) nub ⟨ks, upd_same, e2.tr tr⟩
    | ins C fs =>
      obtain ⟨dx, gs, e1, _⟩ := o
      rw [ed] at e1
      cases e1
  · rw [upd_ne (fun z => n (by rw [z]; exact hm))]
    exact st.keep c v e n nt
  · have e2 := st.tups c xs e
    rw [upd_ne (fun z => nft xs (by rw [z, ed] at e2; exact Option.some.inj e2))]
    exact e2
  · rw [upd_ne (fun q => nuf o z (by rw [q, e0] at e; exact Option.some.inj e))]
    exact st.frzs c o z e
/-- the same with a lock, or without -/
theorem e_lock (C : Fx Γ LO E X) {e : Expr} {M M' : Sl → Hc → RW} (he : PE X e (tE Γ LO E M)) (hM : ∀ sl h, M' sl h = M sl h ∨ M' sl h = .no ∨ ∃ i hl, lockH i h = some hl ∧ M' sl h = unR i (M sl hl)) : PE X e (tE Γ LO E M') := by
  refine ⟨fun pins s σ H Q I ⟨β, F, h, sl, R, S, q⟩ => ?_⟩
  rcases hM sl h with e1 | e1 | ⟨i, hl, e1, e2⟩
  · rw [e1] at q
    exact he.run pins s σ H Q I ⟨β, F, h, sl, R, S, q⟩
  · rw [e1] at q
    exact q.elim
  · rw [e2] at q
    obtain ⟨d, u, hb, e0, hm, hu, hod⟩ := lock_at R e1
    refine (pe_lock he).run pins s σ H Q I ⟨d, u, e0, hm, fun od => ?_⟩
    obtain ⟨R1, s1⟩ := hod od
    refine ⟨β, F, hl, sl, R1, S.step C.lo s1, ?_⟩
    revert q
    generalize M sl hl = r
    intro q
    cases r with
    | ok p =>
      intro v H2 β2 s2 R2 rv
      obtain ⟨k1, k2, k3, k4⟩ := unlock_at hb e0 hu s1 s2 R2
      exact ⟨k1, q v _ β2 k3 k2 (RV.tr k4 _ _ rv)⟩
    | exc c h' => exact fun H2 β2 s2 R2 => q H2 β2 (s1.trans s2) R2
    | no => exact q
theorem walkK_E {ik : IK} {ev : Hc → RWs} {k : List W → Hc → RW} (h : Hc) : walkK .no .exc unR ik ev k h = wk1 .no .exc ik (ev h) k ∨ walkK .no .exc unR ik ev k h = .no ∨ ∃ i hl, lockH i h = some hl ∧ walkK .no .exc unR ik ev k h = unR i (wk1 .no .exc ik (ev hl) k) := by
  unfold walkK wk1
  cases ev h with
  | exc c h1 => exact .inl rfl
  | no => exact .inl rfl
  | ok p =>
    obtain ⟨ws, h1⟩ := p
    dsimp only
    cases walkOf ik ws h1 with
    | none => exact .inl rfl
    | some q =>
      obtain ⟨xs, o⟩ := q
      cases o with
      | none => exact .inl rfl
      | some i =>
        dsimp only
        cases hl : lockH i h with
        | none => exact .inr (.inl rfl)
        | some hl' =>
          dsimp only
          cases hev : ev hl' with
          | exc c h1 => exact .inr (.inl rfl)
          | no => exact .inr (.inl rfl)
          | ok p2 =>
            obtain ⟨ws2, h2⟩ := p2
            dsimp only
            cases hwk : walkOf ik ws2 h2 with
            | none => exact .inr (.inl rfl)
            | some q2 =>
              obtain ⟨xs2, o2⟩ := q2
              cases o2 with
              | none => exact .inr (.inr ⟨i, hl', hl, by rw [hev]; dsimp only; rw [hwk]⟩)
              | some j => exact .inr (.inl rfl)

/-! ### statements -/
/-- what is wanted behind a statement -/
def AftO2 (Γ : Gm) (LO : LamT) (E : XK) (F : Addr → Prop) (β : List Addr) (H : Hp) (o : Out) (D : Ends) : Prop := match o with
  | .nx sl h => ∀ σ' H1 β1, Step β H β1 H1 → Rel Γ β1 F h H1 → RSl Γ.K LO β1 F H1 sl σ' → D.nx σ' H1
  | .bk sl h => ∀ σ' H1 β1, Step β H β1 H1 → Rel Γ β1 F h H1 → RSl Γ.K LO β1 F H1 sl σ' → D.bk σ' H1
  | .ct sl h => ∀ σ' H1 β1, Step β H β1 H1 → Rel Γ β1 F h H1 → RSl Γ.K LO β1 F H1 sl σ' → D.ct σ' H1
  | .rt w h => ∀ v H1 β1, Step β H β1 H1 → Rel Γ β1 F h H1 → RV Γ.K β1 F H1 w v → D.rt v H1
  | .exc c h => ∀ H1 β1, Step β H β1 H1 → Rel Γ β1 F h H1 → E (.ref (Γ.exc c)) none H1
  | .no => False
def tS (Γ : Gm) (LO : LamT) (E : XK) (m : Sl → Hc → Out) : TS := fun D σ H => ∃ β F h sl, Rel Γ β F h H ∧ RSl Γ.K LO β F H sl σ ∧ AftO2 Γ LO E F β H (m sl h) D
theorem PSimp {st : Stmt} {t t' : TS} (h : PS X st t) (i : ∀ D σ H, t' D σ H → t D σ H) : PS X st t' := ⟨fun pins s σ H D I q => h.run pins s σ H D I (i D σ H q)⟩
theorem PSsimp {st : List Stmt} {t t' : TS} (h : PSs X st t) (i : ∀ D σ H, t' D σ H → t D σ H) : PSs X st t' := ⟨fun pins s σ H D I q => h.run pins s σ H D I (i D σ H q)⟩
theorem AftO2.from {o : Out} {D : Ends} (q : AftO2 Γ LO E F β H o D) (s : Step β H β1 H1) : AftO2 Γ LO E F β1 H1 o D := by
  cases o with
  | nx sl h => exact fun σ' H2 β2 t => q σ' H2 β2 (s.trans t)
  | bk sl h => exact fun σ' H2 β2 t => q σ' H2 β2 (s.trans t)
  | ct sl h => exact fun σ' H2 β2 t => q σ' H2 β2 (s.trans t)
  | rt w h => exact fun v H2 β2 t => q v H2 β2 (s.trans t)
  | exc c h => exact fun H2 β2 t => q H2 β2 (s.trans t)
  | no => exact q
theorem AftO2.nx {sl : Sl} {D : Ends} {σ' : L2.St} (q : AftO2 Γ LO E F β H (.nx sl h) D) (R : Rel Γ β F h H) (S : RSl Γ.K LO β F H sl σ') : D.nx σ' H := q σ' H β (Step.refl _ _) R S
theorem AftO2.nxS {sl : Sl} {D : Ends} {σ' : L2.St} (q : AftO2 Γ LO E F β H (.nx sl h) D) (s : Step β H β1 H1) (R : Rel Γ β1 F h H1) (S : RSl Γ.K LO β1 F H1 sl σ') : D.nx σ' H1 := q σ' H1 β1 s R S
/-- a value, then the rest of a statement -/
theorem AftO2.of {α γ : Type} {RA : List Addr → Hp → α → γ → Prop} {r : Res (α × Hc)} {f : α × Hc → Out} {D : Ends} (q : AftO2 Γ LO E F β H (Out.of r f) D) :
    Aft Γ E F RA β H r (fun v H1 => ∃ β1 p, r = .ok p ∧ Step β H β1 H1 ∧ Rel Γ β1 F p.2 H1 ∧ RA β1 H1 p.1 v ∧ AftO2 Γ LO E F β1 H1 (f p) D) := by
  cases r with
  | ok p => exact fun v H1 β1 s R a => ⟨β1, p, rfl, s, R, a, AftO2.from (o := f p) q s⟩
  | exc c h => exact q
  | no => exact q
theorem s_pass : PS X (.Pass pos) (tS Γ LO E fun sl h => .nx sl h) := PSimp ps_pass fun D σ H ⟨β, F, h, sl, R, S, q⟩ => AftO2.nx q R S
theorem s_brk : PS X (.Break pos) (tS Γ LO E fun sl h => .bk sl h) := PSimp ps_break fun D σ H ⟨β, F, h, sl, R, S, q⟩ => q σ H β (Step.refl _ _) R S
theorem s_cnt : PS X (.Continue pos) (tS Γ LO E fun sl h => .ct sl h) := PSimp ps_continue fun D σ H ⟨β, F, h, sl, R, S, q⟩ => q σ H β (Step.refl _ _) R S
def compX : Expr → Bool
  | .ListComp _ _ _ _ => false
  | .SetComp _ _ _ _ => false
  | .DictComp _ _ _ _ _ => false
  | _ => true
theorem swaps_no {e : Expr} (h : compX e = true) (t : Option Expr) (l : Nat) (env : Env) : swapsWith e t l env = pure false := by
  cases e <;> first | rfl | (cases h)
theorem s_expr (C : Fx Γ LO E X) {e : Expr} {m : Sl → Hc → RW} (he : PE X e (tE Γ LO E m)) (hx : compX e = true) : PS X (.Expr e pos) (tS Γ LO E fun sl h => Out.of (m sl h) fun (_, h1) => .nx sl h1) :=
  PSimp (ps_expr he (swaps_no hx _ _ _)) fun D σ H ⟨β, F, h, sl, R, S, q⟩ => ⟨β, F, h, sl, R, S, Aft.imp (AftO2.of q) fun x H1 ⟨β1, (xw, h1), e, s1, R1, rx, q1⟩ => AftO2.nx q1 R1 (S.step C.lo s1)⟩
theorem s_ret (C : Fx Γ LO E X) {e : Expr} {m : Sl → Hc → RW} (he : PE X e (tE Γ LO E m)) : PS X (.Return (some e) pos) (tS Γ LO E fun sl h => Out.of (m sl h) fun (w, h1) => .rt w h1) :=
  PSimp (ps_ret he) fun D σ H ⟨β, F, h, sl, R, S, q⟩ => ⟨β, F, h, sl, R, S, Aft.imp (AftO2.of q) fun x H1 ⟨β1, (xw, h1), e, s1, R1, rx, q1⟩ => q1 x H1 β1 (Step.refl _ _) R1 rx⟩
theorem s_retN : PS X (.Return none pos) (tS Γ LO E fun _ h => .rt .non h) := PSimp ps_retN fun D σ H ⟨β, F, h, sl, R, S, q⟩ => q .non H β (Step.refl _ _) R mk_non
theorem s_ite (C : Fx Γ LO E X) {c : Expr} {a b : List Stmt} {mc : Sl → Hc → Res (Bool × Hc)} {m1 m2 : Sl → Hc → Out} (hc : PT X c (tT Γ LO E mc)) (ha : PSs X a (tS Γ LO E m1)) (hb : PSs X b (tS Γ LO E m2)) :
    PS X (.If c a b pos) (tS Γ LO E fun sl h => Out.of (mc sl h) fun (k, h1) => if k then m1 sl h1 else m2 sl h1) :=
  PSimp (ps_if hc ha hb) fun D σ H ⟨β, F, h, sl, R, S, q⟩ => ⟨β, F, h, sl, R, S, Aft.imp (AftO2.of q) fun k H1 ⟨β1, (kw, h1), e, s1, R1, rx, q1⟩ => by
    cases rx
    dsimp only at q1
    split at q1
    · rename_i e
      rw [if_pos e]
      exact ⟨β1, F, h1, sl, R1, S.step C.lo s1, q1⟩
    · rename_i e
      rw [if_neg e]
      exact ⟨β1, F, h1, sl, R1, S.step C.lo s1, q1⟩⟩
theorem ss_nil : PSs X [] (tS Γ LO E fun sl h => .nx sl h) := PSsimp pss_nil fun D σ H ⟨β, F, h, sl, R, S, q⟩ => AftO2.nx q R S
theorem ss_cons {st : Stmt} {r : List Stmt} {m1 m2 : Sl → Hc → Out} (h1 : PS X st (tS Γ LO E m1)) (h2 : PSs X r (tS Γ LO E m2)) : PSs X (st :: r) (tS Γ LO E fun sl h => (m1 sl h).then fun sl h => m2 sl h) :=
  PSsimp (pss_cons h1 h2) fun D σ H ⟨β, F, h, sl, R, S, q⟩ => ⟨β, F, h, sl, R, S, by
    revert q
    dsimp only
    generalize m1 sl h = o
    cases o with
    | nx sl1 h1 => exact fun q σ' H1 β1 s1 R1 S1 => ⟨β1, F, h1, sl1, R1, S1, AftO2.from q s1⟩
    | bk sl h => exact fun q => q
    | ct sl h => exact fun q => q
    | rt w h => exact fun q => q
    | exc c h => exact fun q => q
    | no => exact fun q => q⟩
end
end PyI

set_option Elab.async false
set_option linter.all false
set_option maxRecDepth 100000
set_option maxHeartbeats 1000000
/-! PyI14: statements. -/
namespace PyI
open PySem PySem.Spec PyProof.Rows L2
section
variable {Γ : Gm} {LO : LamT} {E : XK} {X : L2.Cx} {pos : Pos} {β β1 : List Addr} {F : Addr → Prop} {h : Hc} {H H1 : Hp}
theorem s_asg (C : Fx Γ LO E X) {tg e : Expr} {t : Tg} {m : Sl → Hc → RW} (he : PE X e (tE Γ LO E m)) (hg : PG X tg (tG Γ LO t)) (hs : swapsWithSole [tg] e pos.line X.env = pure false) (hw : swappedStores [tg] e X.env = pure none) (hp : plainX tg = true) :
    PS X (.Assign [tg] e pos) (tS Γ LO E fun sl h => Out.of (m sl h) fun (w, h1) => match stTg t w sl with
    | some sl' => .nx sl' h1
    | none => .no) :=
  PSimp (ps_asg he hg hs hw (by rw [asg_cons hp]; rfl)) fun D σ H ⟨β, F, h, sl, R, S, q⟩ => ⟨β, F, h, sl, R, S, Aft.imp (AftO2.of q) fun x H1 ⟨β1, (xw, h1), e, s1, R1, rx, q1⟩ => by
    dsimp only at q1
    split at q1
    · rename_i sl' es
      exact ⟨β1, F, h1, sl, xw, sl', R1, S.step C.lo s1, rx, es, fun σ' S' _ => AftO2.nx q1 R1 S'⟩
    · exact q1.elim⟩
/-! ### locks around statements -/
theorem s_lock (C : Fx Γ LO E X) {st : Stmt} {M M' : Sl → Hc → Out} (hst : PS X st (tS Γ LO E M)) (hM : ∀ sl h, M' sl h = M sl h ∨ M' sl h = .no ∨ ∃ i hl, lockH i h = some hl ∧ M' sl h = Out.unlock i (M sl hl)) : PS X st (tS Γ LO E M') := by
  refine ⟨fun pins s σ H D I ⟨β, F, h, sl, R, S, q⟩ => ?_⟩
  rcases hM sl h with e1 | e1 | ⟨i, hl, e1, e2⟩
  · rw [e1] at q
    exact hst.run pins s σ H D I ⟨β, F, h, sl, R, S, q⟩
  · rw [e1] at q
    exact q.elim
  · rw [e2] at q
    obtain ⟨d, u, hb, e0, hm, hu, hod⟩ := lock_at R e1
    refine (ps_lock hst).run pins s σ H D I ⟨d, u, e0, hm, fun od => ?_⟩
    obtain ⟨R1, s1⟩ := hod od
    refine ⟨β, F, hl, sl, R1, S.step C.lo s1, ?_⟩
    revert q
    generalize M sl hl = r
    intro q
    cases r with
    | nx sl' h' =>
      intro σ' H2 β2 s2 R2 S2
      obtain ⟨k1, k2, k3, k4⟩ := unlock_at hb e0 hu s1 s2 R2
      exact ⟨k1, q σ' _ β2 k3 k2 (S2.tr C.lo k4)⟩
    | bk sl' h' =>
      intro σ' H2 β2 s2 R2 S2
      obtain ⟨k1, k2, k3, k4⟩ := unlock_at hb e0 hu s1 s2 R2
      exact ⟨k1, q σ' _ β2 k3 k2 (S2.tr C.lo k4)⟩
    | ct sl' h' =>
      intro σ' H2 β2 s2 R2 S2
      obtain ⟨k1, k2, k3, k4⟩ := unlock_at hb e0 hu s1 s2 R2
      exact ⟨k1, q σ' _ β2 k3 k2 (S2.tr C.lo k4)⟩
    | rt w h' =>
      intro v H2 β2 s2 R2 rv
      obtain ⟨k1, k2, k3, k4⟩ := unlock_at hb e0 hu s1 s2 R2
      exact ⟨k1, q v _ β2 k3 k2 (RV.tr k4 _ _ rv)⟩
    | exc c h' => exact fun H2 β2 s2 R2 => q H2 β2 (s1.trans s2) R2
    | no => exact q
theorem walkK_S {ik : IK} {ev : Hc → RWs} {k : List W → Hc → Out} (h : Hc) : walkK .no .exc Out.unlock ik ev k h = wk1 .no .exc ik (ev h) k ∨ walkK .no .exc Out.unlock ik ev k h = .no ∨ ∃ i hl, lockH i h = some hl ∧ walkK .no .exc Out.unlock ik ev k h = Out.unlock i (wk1 .no .exc ik (ev hl) k) := by
  unfold walkK wk1
  cases ev h with
  | exc c h1 => exact .inl rfl
  | no => exact .inl rfl
  | ok p =>
    obtain ⟨ws, h1⟩ := p
    dsimp only
    cases walkOf ik ws h1 with
    | none => exact .inl rfl
    | some q =>
      obtain ⟨xs, o⟩ := q
      cases o with
      | none => exact .inl rfl
      | some i =>
        dsimp only
        cases hl : lockH i h with
        | none => exact .inr (.inl rfl)
        | some hl' =>
          dsimp only
          cases hev : ev hl' with
          | exc c h1 => exact .inr (.inl rfl)
          | no => exact .inr (.inl rfl)
          | ok p2 =>
            obtain ⟨ws2, h2⟩ := p2
            dsimp only
            cases hwk : walkOf ik ws2 h2 with
            | none => exact .inr (.inl rfl)
            | some q2 =>
              obtain ⟨xs2, o2⟩ := q2
              cases o2 with
              | none => exact .inr (.inr ⟨i, hl', hl, by rw [hev]; dsimp only; rw [hwk]⟩)
              | some j => exact .inr (.inl rfl)
/-- x = [.. for ..] on one line, x a local name -/
theorem s_setLc1 (C : Fx Γ LO E X) {i : Nat} {y : Str} {py spos : Pos} {elt tg iter : Expr} {ifs : List Expr} {scope : Scope} {own : List (Str × Nat)} {ik : IK} {t : Tg} {box : Bool} {m : Sl → Hc → RWs} {mc : Sl → Hc → Res (Bool × Hc)} {me : Sl → Hc → RW}
    (hy : X.N[i]? = some y) (hyl : X.env.scope.names.lookup y = some .local) (hk : X.env.scope.kind = .function) (hl : (py.line == pos.line) = true) (ha : (scope.names.any fun (n, k) => n == y && (k == .local || k == .cell)) = false)
    (hi : PI X tg iter (tW Γ LO E ik m)) (ok : BlkOk X.N X.env.scope scope own) (hsub : tgS t ⊆ own.map (·.2))
    (hg : ∀ (s : Shared) (H : Hp) (C : Addr) (cl : List (Str × Addr)) (fp : List Addr), PG (X.blk s H scope (compEnvC scope cl C X.env) fp) tg (tG Γ LO t))
    (ht : ∀ (s : Shared) (H : Hp) (C : Addr) (cl : List (Str × Addr)) (fp : List Addr), PTs (X.blk s H scope (compEnvC scope cl C X.env) fp) ifs (tT Γ LO Eno mc))
    (he : ∀ (s : Shared) (H : Hp) (C : Addr) (cl : List (Str × Addr)) (fp : List Addr), PE (X.blk s H scope (compEnvC scope cl C X.env) fp) elt (tE Γ LO Eno me)) (hs : ∀ x, foldedSetIterable iter X.env x = pure x) :
    PS X (.Assign [.Name y py] (.ListComp elt [⟨tg, iter, ifs, 0⟩] scope pos) spos) (tS Γ LO E fun sl h => Out.of (wk1 .no .exc ik (m sl h) fun xs h1 => (noX (turns (turnF t (own.map (·.2)) mc me sl) xs h1)).bind fun (ys, h2) => mkL box ys h2) fun (w, h1) => match stTg (.one i) w sl with
      | some sl' => .nx sl' h1
      | none => .no) :=
  PSimp (ps_setLc C.calm C.nodup hy hyl (sw_true hk hyl hl ha) hi ok hg ht he hs) fun D σ H ⟨β, F, h, sl, R, S, q⟩ => lc_imp C (box := box) hsub σ H _ ⟨β, F, h, sl, R, S, Aft.imp (AftO2.of (RA := AW Γ F) q) fun x H1 ⟨β1, (xw, h1), e, s1, R1, rx, q1⟩ => by
    dsimp only at q1
    unfold stTg at q1
    split at q1
    · rename_i sl' es
      split at es
      · cases es
        exact AftO2.nx q1 R1 ((S.step C.lo s1).set ⟨x, rfl, rx⟩)
      · cases es
    · exact q1.elim⟩
theorem asg_unlock {r : RW} {i : Nat} {t : Tg} {sl : Sl} : Out.of (unR i r) (fun (w, h1) => match stTg t w sl with
      | some sl' => .nx sl' h1
      | none => .no) = Out.unlock i (Out.of r fun (w, h1) => match stTg t w sl with
      | some sl' => .nx sl' h1
      | none => .no) := by
  cases r with
  | ok p =>
    obtain ⟨w, h1⟩ := p
    show (match stTg t w sl with
      | some sl' => Out.nx sl' (unlockH i h1)
      | none => .no) = Out.unlock i (match stTg t w sl with
      | some sl' => .nx sl' h1
      | none => .no)
    cases stTg t w sl <;> rfl
  | exc c h1 => rfl
  | no => rfl
/-! ### attributes, items -/
theorem putA (C : Fx Γ LO E X) {I : Ix} (cf : Cf Γ I) {w z : W} {v u : V} {f : Nat} {y : Str} {h' : Hc} (R : Rel Γ β F h H) (hf : Γ.nm[f]? = some y) (r : RV Γ.K β F H w v) (ru : RV Γ.K β F H z u) (e : setAttrW I h w f z = some h') :
    ∃ p C dx gs, v = .ref p ∧ H p = some (.ins C dx gs) ∧ Cls X.K C ∧ NoAttr X.K C y ∧ gs.length < 1000 ∧ Rel Γ β F h' (upd H p (.ins C dx (putF y u gs))) ∧ Step β H β (upd H p (.ins C dx (putF y u gs))) ∧ ∃ Cn, clsW I h w = some Cn ∧ C = Γ.cls Cn := by
  unfold setAttrW at e
  split at e
  · rename_i a Cn fs ei
    obtain ⟨_, ho, hi, p, dx, gs, e1, hb, e2, e3⟩ := insAt_at cf R r ei
    split at e
    · rename_i hm
      cases e
      have nt : ∀ zs, HO.ins (Γ.cls Cn) dx gs ≠ .tup zs := fun _ z => by cases z
      have st := step_write (β := β) (o := .ins (Γ.cls Cn) dx (putF y u gs)) (List.mem_of_getElem? hb) e2 nt
      refine ⟨p, _, dx, gs, e1, e2, by rw [C.hK]; exact cf.cls _ hi, by rw [C.hK]; exact cf.no _ _ _ hi hf (by simpa using hm.1), by rw [← e3.length]; exact hm.2, ?_, st, _, by unfold clsW; rw [ei]; rfl, rfl⟩
      exact R.write hb e2 nt (fun _ z => by cases z) (fun _ z => by unfold LamX.CodeO at z; cases z) ⟨dx, _, upd_same, (e3.put cf.nm hf ru).step st⟩
    · cases e
  · cases e
theorem s_setAttr (C : Fx Γ LO E X) {I : Ix} (cf : Cf Γ I) {o e : Expr} {f : Nat} {y : Str} {p' : Pos} {mo m : Sl → Hc → RW} (ho : PE X o (tE Γ LO E mo)) (he : PE X e (tE Γ LO E m)) (hf : Γ.nm[f]? = some y) (hs : swapsWith e (some (.Attribute o y p')) pos.line X.env = pure false) :
    PS X (.Assign [.Attribute o y p'] e pos) (tS Γ LO E fun sl h => Out.of (m sl h) fun (w, h1) => Out.of (mo sl h1) fun (x, h2) => nxO sl (setAttrW I h2 x f w)) :=
  PSimp (ps_fld ho he hs) fun D σ H ⟨β, F, h, sl, R, S, q⟩ => ⟨β, F, h, sl, R, S, Aft.imp (AftO2.of q) fun w H1 ⟨β1, (ww, h1), e, s1, R1, rw_, q1⟩ => by
    refine ⟨β1, F, h1, sl, R1, S.step C.lo s1, Aft.imp (AftO2.of q1) fun x H2 ⟨β2, (xw, h2), e2, s2, R2, rx, q2⟩ => ?_⟩
    dsimp only at q2
    cases e3 : setAttrW I h2 xw f ww with
    | none => rw [e3] at q2; exact q2.elim
    | some h3 =>
      rw [e3] at q2
      obtain ⟨p, Cn, dx, gs, k1, k2, k3, k4, k5, k6, k7, _⟩ := putA C cf R2 hf rx (RV.step s2 _ _ rw_) e3
      exact ⟨p, Cn, dx, gs, k1, k2, k3, k4, k5, AftO2.nxS q2 k7 k6 (((S.step C.lo s1).step C.lo s2).step C.lo k7)⟩⟩
/-- neither break nor continue nor return -/
def _root_.PyI.Out.Pl (o : Out) : Prop := ∀ sl h, o ≠ .bk sl h ∧ o ≠ .ct sl h ∧ ∀ w, o ≠ .rt w h
theorem _root_.PyI.Out.pl_nx {sl : Sl} : Out.Pl (.nx sl h) := fun _ _ => ⟨fun z => (by cases z), fun z => (by cases z), fun w' z => by cases z⟩
theorem _root_.PyI.Out.pl_no : Out.Pl .no := fun _ _ => ⟨fun z => (by cases z), fun z => (by cases z), fun w' z => by cases z⟩
theorem _root_.PyI.Out.pl_exc {c : Nat} : Out.Pl (.exc c h) := fun _ _ => ⟨fun z => (by cases z), fun z => (by cases z), fun w' z => by cases z⟩
theorem _root_.PyI.Out.pl_nxO {sl : Sl} {o : Option Hc} : Out.Pl (nxO sl o) := by
  cases o
  · exact Out.pl_no
  · exact Out.pl_nx
theorem _root_.PyI.Out.pl_of {α : Type} {f : α → Out} (r : Res α) (hf : ∀ p, Out.Pl (f p)) : Out.Pl (Out.of r f) := by
  cases r with
  | ok p => exact hf p
  | exc c h => exact Out.pl_exc
  | no => exact Out.pl_no
theorem _root_.PyI.Out.pl_then {o : Out} {f : Sl → Hc → Out} (ho : Out.Pl o) (hf : ∀ sl h, Out.Pl (f sl h)) : Out.Pl (o.then f) := by
  cases o with
  | nx sl h => exact hf sl h
  | bk sl' h' => exact absurd rfl (ho sl' h').1
  | ct sl' h' => exact absurd rfl (ho sl' h').2.1
  | rt w' h' => exact absurd rfl ((ho [] h').2.2 w')
  | exc c h => exact Out.pl_exc
  | no => exact Out.pl_no
theorem AftO2.pl {o : Out} {D : Ends} (hn : Out.Pl o) (q : AftO2 Γ LO E F β H o D) {rt : VK} {bk ct : L2.St → Hp → Prop} : AftO2 Γ LO E F β H o { nx := D.nx, rt := rt, bk := bk, ct := ct } := by
  cases o with
  | nx sl1 h1 => exact q
  | bk sl' h' => exact absurd rfl (hn sl' h').1
  | ct sl' h' => exact absurd rfl (hn sl' h').2.1
  | rt w' h' => exact absurd rfl ((hn [] h').2.2 w')
  | exc c h => exact q
  | no => exact q
/-- a target o[i], o.f, a name, in a row of targets -/
def gP (Γ : Gm) (LO : LamT) (E : XK) (m : W → Sl → Hc → Out) : TG := fun x σ H Q => ∃ β F h sl w, Rel Γ β F h H ∧ RSl Γ.K LO β F H sl σ ∧ RV Γ.K β F H w x ∧ AftO2 Γ LO E F β H (m w sl h) { nx := Q, rt := fun _ _ => False }
def gPs (Γ : Gm) (LO : LamT) (E : XK) (m : List W → Sl → Hc → Out) : TGs := fun xs σ H Q => ∃ β F h sl ws, Rel Γ β F h H ∧ RSl Γ.K LO β F H sl σ ∧ RVs Γ.K β F H ws xs ∧ AftO2 Γ LO E F β H (m ws sl h) { nx := Q, rt := fun _ _ => False }
theorem p_name (C : Fx Γ LO E X) {i : Nat} {x : Str} (hi : X.N[i]? = some x) (hx : Loc X.env.scope x) (hf : X.fn x = true ∨ X.env.scope.names.lookup x = some .local) : PG X (.Name x pos) (gP Γ LO E fun w sl h => if i < sl.length then .nx (sl.set i (.v w)) h else .no) :=
  PGimp (pg_name C.nodup hi hx hf) fun x σ H Q ⟨β, F, h, sl, w, R, S, r, q⟩ => by
    dsimp only at q
    split at q
    · exact AftO2.nx q R (S.set ⟨x, rfl, r⟩)
    · exact q.elim
theorem subP_ok {o i : Expr} (hs : sliceX i = true) (env : Env) (v : Value) : assign (.Subscript o i pos) env v = (do
      let ov ← holding [v] (eval o env)
      let iv ← holding [v, ov] (eval i env)
      standAt pos
      holding [v, ov, iv] (setItem ov iv v)
      release [v, ov, iv] []) := by
  cases i <;> first | rfl | (cases hs)
theorem p_sub (C : Fx Γ LO E X) {o i : Expr} {mo mi : Sl → Hc → RW} (ho : PE X o (tE Γ LO E mo)) (hi : PE X i (tE Γ LO E mi)) (hs : sliceX i = true) :
    PG X (.Subscript o i pos) (gP Γ LO E fun w sl h => Out.of (mo sl h) fun (x, h1) => Out.of (mi sl h1) fun (y, h2) => nxO sl (setItemW h2 x y w)) :=
  PGimp (pg_sub ho hi (set_W C.units) (subP_ok hs X.env)) fun x σ H Q ⟨β, F, h, sl, w, R, S, r, q⟩ =>
    ⟨β, F, h, sl, R, S, Aft.imp (AftO2.of q) fun o H1 ⟨β1, (ow, h1), e, s1, R1, ro, q1⟩ => ⟨β1, F, h1, sl, R1, S.step C.lo s1, Aft.imp (AftO2.of q1) fun i H2 ⟨β2, (iw, h2), e2, s2, R2, ri, q2⟩ => by
      dsimp only at q2
      cases e3 : setItemW h2 ow iw w with
      | none => rw [e3] at q2; exact q2.elim
      | some h3 =>
        rw [e3] at q2
        exact ⟨β2, F, h2, ow, iw, w, h3, R2, RV.step s2 _ _ ro, ri, RV.step s2 _ _ (RV.step s1 _ _ r), e3, fun H3 s3 R3 => AftO2.nxS q2 s3 R3 (((S.step C.lo s1).step C.lo s2).step C.lo s3)⟩⟩⟩
theorem p_attr (C : Fx Γ LO E X) {I : Ix} (cf : Cf Γ I) {o : Expr} {f : Nat} {y : Str} {mo : Sl → Hc → RW} (ho : PE X o (tE Γ LO E mo)) (hf : Γ.nm[f]? = some y) :
    PG X (.Attribute o y pos) (gP Γ LO E fun w sl h => Out.of (mo sl h) fun (x, h1) => nxO sl (setAttrW I h1 x f w)) := by
  refine ⟨fun pins s σ H v u Q I0 r ⟨β, F, h, sl, w, R, S, rv, q⟩ => ?_⟩
  have ea : assign (.Attribute o y pos) X.env u = (do
      let ov ← holding [u] (eval o X.env)
      standAt pos.atName
      holding [u, ov] (setAttr ov y u)
      release [u, ov] []) := rfl
  rw [ea]
  refine wpAny_bind (wpAny_holding (thn (ho.run pins s σ H _ I0 ⟨β, F, h, sl, R, S, AftO2.of q⟩) fun ov s1 ⟨x, H1, I1, r1, β1, (xw, h1), e, st1, R1, rx, q1⟩ => ?_))
  refine wpAny_bind (wpAny_standAt (wpAny_bind (wpAny_holding ?_)))
  dsimp only at q1 rx
  cases e3 : setAttrW I h1 xw f w with
  | none => rw [e3] at q1; exact q1.elim
  | some h3 =>
    rw [e3] at q1
    obtain ⟨p, Cn, dx, gs, k1, k2, k3, k4, k5, k6, k7, _⟩ := putA C cf R1 hf rx (RV.step st1 _ _ rv) e3
    subst k1
    obtain rfl : ov = Value.ref p := r1
    exact setattr_ok I1 k2 k3 k4 k5 r fun s2 I2 => wpAny_release ⟨σ, _, I2, AftO2.nxS q1 k7 k6 ((S.step C.lo st1).step C.lo k7)⟩
theorem ps_nil' : PGs X [] (gPs Γ LO E fun ws sl h => match ws with
    | [] => .nx sl h
    | _ => .no) :=
  PGsimp pgs_nil fun xs σ H Q ⟨β, F, h, sl, ws, R, S, r, q⟩ => by
    cases ws with
    | nil => exact ⟨RVs.nil.mp r, AftO2.nx q R S⟩
    | cons w ws => exact q.elim
theorem ps_cons' (C : Fx Γ LO E X) {e : Expr} {es : List Expr} {m1 : W → Sl → Hc → Out} {m2 : List W → Sl → Hc → Out} (hp : plainX e = true) (h1 : PG X e (gP Γ LO E m1)) (h2 : PGs X es (gPs Γ LO E m2)) (hn : ∀ w sl h, Out.Pl (m1 w sl h)) :
    PGs X (e :: es) (gPs Γ LO E fun ws sl h => match ws with
    | w :: ws => (m1 w sl h).then fun sl h => m2 ws sl h
    | [] => .no) :=
  PGsimp (pgs_cons h1 h2 (by rw [asg_cons hp]; rfl)) fun xs σ H Q ⟨β, F, h, sl, ws, R, S, r, q⟩ => by
    cases ws with
    | nil => exact q.elim
    | cons w ws =>
      obtain ⟨v, vr, ev, rv, rr⟩ := RVs.cons.mp r
      refine ⟨v, vr, ev, β, F, h, sl, w, R, S, rv, ?_⟩
      have hn := hn w sl h
      revert q
      dsimp only
      generalize m1 w sl h = o at hn
      cases o with
      | nx sl1 h1 => exact fun q σ1 H1 β1 s1 R1 S1 => ⟨β1, F, h1, sl1, ws, R1, S1, RVs.step s1 _ _ rr, AftO2.from q s1⟩
      | bk sl' h' => exact absurd rfl (hn sl' h').1
      | ct sl' h' => exact absurd rfl (hn sl' h').2.1
      | rt w' h' => exact absurd rfl ((hn [] h').2.2 w')
      | exc c h => exact fun q => q
      | no => exact fun q => q
theorem s_parT (C : Fx Γ LO E X) {ts es : List Expr} {k k2 : Nat} {p1 p2 : Pos} {n : Nat} {m : Sl → Hc → RWs} {mp : List W → Sl → Hc → Out} (ha : PA X es (tAs Γ LO E m)) (hl : LenIs m n) (hn : n ≤ LL) (hp : ts.all plainX = true) (hts : ts.length = n) (hg : PGs X ts (gPs Γ LO E mp)) (hw : swappedStores [.Tuple ts k p1] (.Tuple es k2 p2) X.env = pure none)
    (hmp : ∀ ws sl h, Out.Pl (mp ws sl h)) :
    PS X (.Assign [.Tuple ts k p1] (.Tuple es k2 p2) pos) (tS Γ LO E fun sl h => Out.of (m sl h) fun (ws, h1) => mp ws sl h1) :=
  PSimp (ps_asg (e_tup C ha hl hn) (pg_tup C.calm hg ((asg_all hp X.env).1.trans hts) (asg_all hp X.env).2) (show swapsWith (.Tuple es k2 p2) (some (.Tuple ts k p1)) pos.line X.env = pure false from swaps_no rfl _ _ _) hw rfl) fun D σ H ⟨β, F, h, sl, R, S, q⟩ => ⟨β, F, h, sl, R, S, by
    have hl := hl sl h
    revert q
    dsimp only
    generalize m sl h = r at hl
    cases r with
    | ok p =>
      obtain ⟨ws, h1⟩ := p
      intro q x H1 β1 s1 R1 rx
      obtain ⟨a, vs, ev, ht, hr⟩ := rv_tup rx
      refine ⟨a, vs, ev, by rw [C.hK]; exact ht.sq, by rw [← RVs.length hr]; exact hl ws h1 rfl, β1, F, h1, sl, ws, R1, S.step C.lo s1, hr, ?_⟩
      exact AftO2.pl (hmp ws sl h1) (AftO2.from (o := mp ws sl h1) q s1)
    | exc c h' => exact fun q => q
    | no => exact fun q => q⟩
/-- one target o[i] -/
theorem s_setSub (C : Fx Γ LO E X) {o i e : Expr} {mo mi m : Sl → Hc → RW} {p1 : Pos} (ho : PE X o (tE Γ LO E mo)) (hi : PE X i (tE Γ LO E mi)) (he : PE X e (tE Γ LO E m)) (hs : sliceX i = true) (hsw : swapsWith e (some (.Subscript o i p1)) pos.line X.env = pure false) :
    PS X (.Assign [.Subscript o i p1] e pos) (tS Γ LO E fun sl h => Out.of (m sl h) fun (w, h1) => Out.of (mo sl h1) fun (x, h2) => Out.of (mi sl h2) fun (y, h3) => nxO sl (setItemW h3 x y w)) :=
  PSimp (ps_asg he (p_sub C ho hi hs) hsw rfl rfl) fun D σ H ⟨β, F, h, sl, R, S, q⟩ => ⟨β, F, h, sl, R, S, Aft.imp (AftO2.of q) fun w H1 ⟨β1, (ww, h1), e, s1, R1, rw_, q1⟩ => ⟨β1, F, h1, sl, ww, R1, S.step C.lo s1, rw_, by
    revert q1
    dsimp only
    exact fun q1 => AftO2.pl (Out.pl_of _ fun p => Out.pl_of _ fun p2 => Out.pl_nxO) q1⟩⟩
/-! ### a, b = x, y by swapped stores -/
theorem s_par2 (C : Fx Γ LO E X) {i j : Nat} {x y : Str} {a b : Expr} {px py p1 p2 : Pos} {k k2 : Nat} {m : Sl → Hc → RWs} (hi : X.N[i]? = some x) (hj : X.N[j]? = some y) (hij : i ≠ j) (hx : X.env.scope.names.lookup x = some .local) (hy : X.env.scope.names.lookup y = some .local)
    (ha : PA X [a, b] (tAs Γ LO E m)) (hw : swappedStores [.Tuple [.Name x px, .Name y py] k p1] (.Tuple [a, b] k2 p2) X.env = pure (some [x, y])) :
    PS X (.Assign [.Tuple [.Name x px, .Name y py] k p1] (.Tuple [a, b] k2 p2) pos) (tS Γ LO E fun sl h => Out.of (m sl h) fun (ws, h1) => match ws with
      | [w1, w2] => .nx ((sl.set i (.v w1)).set j (.v w2)) h1
      | _ => .no) :=
  PSimp (ps_par C.calm C.nodup hi hj hij hx hy ha hw (show swapsWith (.Tuple [a, b] k2 p2) (some (.Tuple [.Name x px, .Name y py] k p1)) pos.line X.env = pure false from swaps_no rfl _ _ _)) fun D σ H ⟨β, F, h, sl, R, S, q⟩ =>
    ⟨β, F, h, sl, R, S, Aft.imp (AftO2.of q) fun vs H1 ⟨β1, (ws, h1), e, s1, R1, rx, q1⟩ => by
      dsimp only at q1 rx
      split at q1
      · obtain ⟨v, v', ev, r1, r2⟩ := rvs2 rx
        exact ⟨v, v', ev, AftO2.nx q1 R1 (((S.step C.lo s1).setV r1).setV r2)⟩
      · exact q1.elim⟩
theorem s_par3 (C : Fx Γ LO E X) {i j l : Nat} {x y z : Str} {a b c : Expr} {px py pz p1 p2 : Pos} {k k2 : Nat} {m : Sl → Hc → RWs} (hi : X.N[i]? = some x) (hj : X.N[j]? = some y) (hl : X.N[l]? = some z) (hij : i ≠ j) (hil : i ≠ l) (hjl : j ≠ l)
    (hx : X.env.scope.names.lookup x = some .local) (hy : X.env.scope.names.lookup y = some .local) (hz : X.env.scope.names.lookup z = some .local)
    (ha : PA X [a, b, c] (tAs Γ LO E m)) (hw : swappedStores [.Tuple [.Name x px, .Name y py, .Name z pz] k p1] (.Tuple [a, b, c] k2 p2) X.env = pure (some [x, y, z])) :
    PS X (.Assign [.Tuple [.Name x px, .Name y py, .Name z pz] k p1] (.Tuple [a, b, c] k2 p2) pos) (tS Γ LO E fun sl h => Out.of (m sl h) fun (ws, h1) => match ws with
      | [w1, w2, w3] => .nx (((sl.set i (.v w1)).set j (.v w2)).set l (.v w3)) h1
      | _ => .no) :=
  PSimp (ps_par3 C.calm C.nodup hi hj hl hij hil hjl hx hy hz ha hw (show swapsWith (.Tuple [a, b, c] k2 p2) (some (.Tuple [.Name x px, .Name y py, .Name z pz] k p1)) pos.line X.env = pure false from swaps_no rfl _ _ _)) fun D σ H ⟨β, F, h, sl, R, S, q⟩ =>
    ⟨β, F, h, sl, R, S, Aft.imp (AftO2.of q) fun vs H1 ⟨β1, (ws, h1), e, s1, R1, rx, q1⟩ => by
      dsimp only at q1 rx
      split at q1
      · obtain ⟨v, r, ev, r1, rr⟩ := RVs.cons.mp rx
        obtain ⟨v', v'', ev2, r2, r3⟩ := rvs2 rr
        subst ev2
        exact ⟨v, v', v'', ev, AftO2.nx q1 R1 ((((S.step C.lo s1).setV r1).setV r2).setV r3)⟩
      · exact q1.elim⟩
/-! ### op= -/
theorem iop_noexc {op : Operator} {h : Hc} {x y : W} {c : Nat} {h' : Hc} : iop op h x y ≠ .exc c h' := by
  unfold iop
  intro z
  repeat' (split at z)
  all_goals cases z
theorem s_augN (C : Fx Γ LO E X) {i : Nat} {x : Str} {e : Expr} {op : Operator} {p1 : Pos} {m : Sl → Hc → RW} (hi : X.N[i]? = some x) (hx : Loc X.env.scope x) (hf : X.fn x = true ∨ X.env.scope.names.lookup x = some .local) (he : PE X e (tE Γ LO E m)) :
    PS X (.AugAssign (.Name x p1) op e pos) (tS Γ LO E fun sl h => Out.of (sl.var i h) fun (x, h0) => Out.of (m sl h0) fun (y, h1) => Out.of (iop op h1 x y) fun (w, h2) => .nx (sl.set i (.v w)) h2) :=
  PSimp (ps_aug C.nodup hi hx he (op_iop C.hK) hf) fun D σ H ⟨β, F, h, sl, R, S, q⟩ => by
    dsimp only at q
    unfold Sl.var at q
    split at q
    · rename_i w e
      obtain ⟨v, ev, rv⟩ := S.var e
      replace q : AftO2 Γ LO E F β H (Out.of (m sl h) fun (y, h1) => Out.of (iop op h1 w y) fun (w, h2) => .nx (sl.set i (.v w)) h2) D := q
      refine ⟨v, ev, β, F, h, sl, R, S, Aft.imp (AftO2.of q) fun y H1 ⟨β1, (yw, h1), e, s1, R1, ry, q1⟩ => ?_⟩
      have q2 : Aft Γ E F (AW Γ F) β1 H1 (iop op h1 w yw) _ := AftO2.of q1
      exact ⟨β1, F, h1, w, yw, R1, RV.step s1 _ _ rv, ry, (Aft.imp q2 fun z H2 ⟨β2, (zw, h2), e2, s2, R2, rz, q3⟩ => AftO2.nx q3 R2 (((S.step C.lo s1).step C.lo s2).setV rz)).toO fun _ _ => iop_noexc⟩
    · exact q.elim
theorem s_augA (C : Fx Γ LO E X) {I : Ix} (cf : Cf Γ I) {o e : Expr} {f : Nat} {y : Str} {op : Operator} {p1 : Pos} {mo m : Sl → Hc → RW} (ho : PE X o (tE Γ LO E mo)) (he : PE X e (tE Γ LO E m)) (hf : Γ.nm[f]? = some y) :
    PS X (.AugAssign (.Attribute o y p1) op e pos) (tS Γ LO E fun sl h => Out.of (mo sl h) fun (x, h1) => match attrW I h1 x f with
    | some z => Out.of (m sl h1) fun (y, h2) => Out.of (iop op h2 z y) fun (w, h3) => if clsW I h1 x = clsW I h3 x then nxO sl (setAttrW I h3 x f w) else .no
    | none => .no) :=
  PSimp (ps_fldaug ho he (op_iop C.hK)) fun D σ H ⟨β, F, h, sl, R, S, q⟩ => ⟨β, F, h, sl, R, S, Aft.imp (AftO2.of q) fun x H1 ⟨β1, (xw, h1), e, s1, R1, rx, q1⟩ => by
    dsimp only at q1 rx
    split at q1
    · rename_i z ea
      obtain ⟨p, Cn, dx, gs, u, k1, k2, k3, k4, k5, k6, c1, c2, c3⟩ := attrW_at C cf R1 hf rx ea
      refine ⟨p, Cn, dx, gs, u, k1, k2, k3, k4, k5, β1, F, h1, sl, R1, S.step C.lo s1, Aft.imp (AftO2.of q1) fun yv H2 ⟨β2, (yw, h2), e2, s2, R2, ry, q2⟩ => ?_⟩
      have q3 : Aft Γ E F (AW Γ F) β2 H2 (iop op h2 z yw) _ := AftO2.of q2
      refine ⟨β2, F, h2, z, yw, R2, RV.step s2 _ _ k6, ry, (Aft.imp q3 fun w H3 ⟨β3, (ww, h3), e3, s3, R3, rw_, q4⟩ => ?_).toO fun _ _ => iop_noexc⟩
      dsimp only at q4 rw_
      split at q4
      · rename_i ec
        cases e4 : setAttrW I h3 xw f ww with
        | none => rw [e4] at q4; exact q4.elim
        | some h4 =>
          rw [e4] at q4
          obtain ⟨p', Cn', dx', gs', j1, j2, j3, j4, j5, j6, j7, d1, d2, d3⟩ := putA C cf R3 hf (RV.step s3 _ _ (RV.step s2 _ _ rx)) rw_ e4
          rw [k1] at j1
          cases j1
          rw [c2, d2] at ec
          cases ec
          subst d3 c3
          exact ⟨dx', gs', j2, j5, AftO2.nxS q4 j7 j6 ((((S.step C.lo s1).step C.lo s2).step C.lo s3).step C.lo j7)⟩
      · exact q4.elim
    · exact q1.elim⟩
end
end PyI

set_option Elab.async false
set_option linter.all false
set_option maxRecDepth 100000
set_option maxHeartbeats 1000000
/-! PyI15: items in place, del, loops, raise. -/
namespace PyI
open PySem PySem.Spec PyProof.Rows L2
section
variable {Γ : Gm} {LO : LamT} {E : XK} {X : L2.Cx} {pos : Pos} {β β1 : List Addr} {F : Addr → Prop} {h : Hc} {H H1 : Hp}
def rGW (Γ : Gm) : V → V → Hp → VK → Prop := fun x y H Q => ∃ β F h xw yw w, Rel Γ β F h H ∧ RV Γ.K β F H xw x ∧ RV Γ.K β F H yw y ∧ getW h xw yw = some w ∧ ∀ v, RV Γ.K β F H w v → Q v H
theorem get_W (hu : X.A.units + 64 < cLine) : PGet X (rGW Γ) := by
  intro pins s σ H o i ov iv Q I ro ri ⟨β, F, h, xw, yw, w, R, rx, ry, e, q⟩
  unfold getW at e
  split at e
  · rename_i a yw
    split at e
    · rename_i xs k ho
      split at e
      · rename_i hk
        obtain ⟨p, ep, hb, vs, hp, hr⟩ := RV.ref R rx ho
        subst ep
        obtain rfl : ov = Value.ref p := ro
        obtain ⟨v, ev, rv⟩ := hr.get e
        have ei := rv_int ry
        subst ei
        obtain ⟨t, rfl⟩ := ri
        obtain ⟨its, rvs, pl, hz⟩ := I.list (SqL.of hp)
        obtain ⟨u, eu, ru⟩ := rvs.get ev
        exact wpAny_getItem_list pl.isList hk.1 hk.2 (by simpa using eu) ⟨v, H, I, ru, q v rv⟩
      · cases e
    · rename_i kvs _ ho
      split at e
      · rename_i hk
        obtain ⟨p, ep, hb, ks, hp, hr⟩ := RV.ref R rx ho
        subst ep
        obtain rfl : ov = Value.ref p := ro
        obtain ⟨v, ev, rv⟩ := hr.some hk e
        have ei := RV.key hk ry
        subst ei
        exact d_getItem (by omega) I (.inl ⟨ks, _, .inl hp, rfl, ev.symm⟩) ri fun w' s3 I3 rw' => ⟨v, H, I3, rw', q v rv⟩
      · cases e
    · cases e
  · cases e
theorem aug_store {i : Expr} (hs : sliceX i = true) (ov iv new : Value) : augStore i ov iv new = (do holding [new, ov, iv] (setItem ov iv new); release [new, ov, iv] []; pure .next) := by
  cases i <;> first | rfl | (cases hs)
theorem s_augS (C : Fx Γ LO E X) {o i e : Expr} {op : Operator} {p1 : Pos} {mo mi m : Sl → Hc → RW} (ho : PE X o (tE Γ LO E mo)) (hi : PE X i (tE Γ LO E mi)) (he : PE X e (tE Γ LO E m)) (hs : sliceX i = true) :
    PS X (.AugAssign (.Subscript o i p1) op e pos) (tS Γ LO E fun sl h => Out.of (mo sl h) fun (x, h1) => Out.of (mi sl h1) fun (k, h2) => match getW h2 x k with
    | some z => Out.of (m sl h2) fun (y, h3) => Out.of (iop op h3 z y) fun (w, h4) => nxO sl (setItemW h4 x k w)
    | none => .no) :=
  PSimp (ps_augS ho hi (get_W (Γ := Γ) C.units) he (op_iop (Γ := Γ) C.hK) (set_W (Γ := Γ) C.units) (aug_store hs)) fun D σ H ⟨β, F, h, sl, R, S, q⟩ => ⟨β, F, h, sl, R, S, Aft.imp (AftO2.of q) fun x H1 ⟨β1, (xw, h1), e, s1, R1, rx, q1⟩ =>
    ⟨β1, F, h1, sl, R1, S.step C.lo s1, Aft.imp (AftO2.of q1) fun k H2 ⟨β2, (kw, h2), e2, s2, R2, rk, q2⟩ => by
      dsimp only at q2 rx rk
      split at q2
      · rename_i z ez
        have rx2 := RV.step s2 _ _ rx
        refine ⟨β2, F, h2, xw, kw, z, R2, rx2, rk, ez, fun v rv => ⟨β2, F, h2, sl, R2, (S.step C.lo s1).step C.lo s2, Aft.imp (AftO2.of q2) fun y H3 ⟨β3, (yw, h3), e3, s3, R3, ry, q3⟩ => ?_⟩⟩
        have q4 : Aft Γ E F (AW Γ F) β3 H3 (iop op h3 z yw) _ := AftO2.of q3
        refine ⟨β3, F, h3, z, yw, R3, RV.step s3 _ _ rv, ry, (Aft.imp q4 fun w H4 ⟨β4, (ww, h4), e4, s4, R4, rw_, q5⟩ => ?_).toO fun _ _ => iop_noexc⟩
        dsimp only at q5 rw_
        cases e5 : setItemW h4 xw kw ww with
        | none => rw [e5] at q5; exact q5.elim
        | some h5 =>
          rw [e5] at q5
          have st := s3.trans s4
          exact ⟨β4, F, h4, xw, kw, ww, h5, R4, RV.step st _ _ rx2, RV.step st _ _ rk, rw_, e5, fun H5 s5 R5 => AftO2.nxS q5 s5 R5 ((((S.step C.lo s1).step C.lo s2).step C.lo st).step C.lo s5)⟩
      · exact q2.elim⟩⟩
theorem s_del (C : Fx Γ LO E X) {o i : Expr} {p1 : Pos} {mo mi : Sl → Hc → RW} (ho : PE X o (tE Γ LO E mo)) (hi : PE X i (tE Γ LO E mi)) :
    PS X (.Delete [.Subscript o i p1] pos) (tS Γ LO E fun sl h => Out.of (mo sl h) fun (x, h1) => Out.of (mi sl h1) fun (y, h2) => nxO sl (delItemW h2 x y)) :=
  PSimp (ps_ddel ho hi) fun D σ H ⟨β, F, h, sl, R, S, q⟩ => ⟨β, F, h, sl, R, S, Aft.imp (AftO2.of q) fun x H1 ⟨β1, (xw, h1), e, s1, R1, rx, q1⟩ =>
    ⟨β1, F, h1, sl, R1, S.step C.lo s1, Aft.imp (AftO2.of q1) fun k H2 ⟨β2, (kw, h2), e2, s2, R2, rk, q2⟩ => by
      dsimp only at q2 rx rk
      have rx2 := RV.step s2 _ _ rx
      unfold delItemW at q2
      split at q2
      · rename_i a
        split at q2
        · rename_i kvs ho
          split at q2
          · rename_i hk
            obtain ⟨p, ep, hb, ks, hp, hr⟩ := RV.ref R2 rx2 ho
            have nt : ∀ zs, HO.dK ks ≠ .tup zs := fun _ z => by cases z
            have st := step_write (β := β2) (o := .dK (dropK ks (keyOf kw))) (List.mem_of_getElem? hb) hp nt
            refine ⟨p, ks, keyOf kw, ep, hp, RV.key hk.1 rk, by rw [hr.isSome hk.1]; exact hk.2, AftO2.nxS q2 st ?_ (((S.step C.lo s1).step C.lo s2).step C.lo st)⟩
            exact R2.write hb hp nt (fun _ z => by cases z) (fun _ z => by unfold LamX.CodeO at z; cases z) ⟨_, upd_same, (hr.del hk.1).step st⟩
          · exact q2.elim
        · exact q2.elim
      · exact q2.elim⟩⟩
/-! ### loops -/
theorem setX_ok {iter : Expr} (h : (match iter with | .Set _ _ _ => false | _ => true) = true) (env : Env) (x : Value) : foldedSetIterable iter env x = pure x := by
  cases iter <;> first | rfl | (cases h)
/-- behind a loop's turn -/
def turnO (o : Out) (f : Sl → Hc → Out) : Out := match o with
  | .nx σ' h' => f σ' h'
  | .ct σ' h' => f σ' h'
  | .bk σ' h' => .nx σ' h'
  | o => o
theorem AftO2.turn {o : Out} {f : Sl → Hc → Out} {D : Ends} {N : L2.St → Hp → Prop} (q : AftO2 Γ LO E F β H (turnO o f) D) (hN : ∀ sl h σ' H1 β1, Step β H β1 H1 → Rel Γ β1 F h H1 → RSl Γ.K LO β1 F H1 sl σ' → AftO2 Γ LO E F β H (f sl h) D → N σ' H1) :
    AftO2 Γ LO E F β H o { D with nx := N, ct := N, bk := D.nx } := by
  cases o with
  | nx sl h => exact fun σ' H1 β1 s R S => hN sl h σ' H1 β1 s R S q
  | ct sl h => exact fun σ' H1 β1 s R S => hN sl h σ' H1 β1 s R S q
  | bk sl h => exact q
  | rt w h => exact q
  | exc c h => exact q
  | no => exact q
theorem forL_cons {f : W → Sl → Hc → Out} {x : W} {r : List W} {sl : Sl} {h : Hc} : forL f (x :: r) sl h = turnO (f x sl h) fun sl h => forL f r sl h := by
  conv => lhs; unfold forL
  cases f x sl h <;> rfl
theorem s_for1 (C : Fx Γ LO E X) (hp : PassesOwn (model X.prog X.w) X.A X.env X.xe) {tg iter : Expr} {body : List Stmt} {ik : IK} {t : Tg} {m : Sl → Hc → RWs} {mb : Sl → Hc → Out} (hi : PI X tg iter (tW Γ LO E ik m)) (hg : PG X tg (tG Γ LO t)) (hb : PSs X body (tS Γ LO E mb)) (hs : ∀ x, foldedSetIterable iter X.env x = pure x) :
    PS X (.For tg iter body [] pos) (tS Γ LO E fun sl h => wk1 .no .exc ik (m sl h) fun xs h1 => forL (fun x σ h => match stTg t x σ with
      | some σ' => mb σ' h
      | none => .no) xs sl h1) := by
  refine PSimp (ps_for hp C.calm hi hg hb hs) fun D σ H ⟨β, F, h, sl, R, S, q⟩ => ⟨β, F, h, sl, R, S, ?_⟩
  revert q
  unfold wk1
  dsimp only
  generalize m sl h = r
  cases r with
  | exc c h' => exact fun q => q
  | no => exact fun q => q.elim
  | ok p =>
    obtain ⟨ws, h1⟩ := p
    intro q
    dsimp only at q
    split at q
    · rename_i xs ew
      refine ⟨xs, ew, fun J H1 β1 s1 R1 wk small => ?_⟩
      let f : W → Sl → Hc → Out := fun x σ h => match stTg t x σ with
        | some σ' => mb σ' h
        | none => .no
      have q : AftO2 Γ LO E F β H (forL f xs sl h1) D := q
      let Pv : Nat → L2.St → Hp → Prop := fun i σ2 H2 => ∃ β2 h2 sl2, Step β1 H1 β2 H2 ∧ Rel Γ β2 F h2 H2 ∧ RSl Γ.K LO β2 F H2 sl2 σ2 ∧ AftO2 Γ LO E F β2 H2 (forL f (xs.drop i) sl2 h2) D
      refine ⟨fun i m σ2 H2 => m = xs.length - i ∧ i ≤ xs.length ∧ Pv i σ2 H2, ⟨xs.length, by simp, Nat.zero_le _, β1, h1, sl, Step.refl _ _, R1, S.step C.lo s1, AftO2.from q s1⟩, ?_⟩
      rintro i m σ2 H2 ⟨rfl, hi, β2, h2, sl2, st, R2, S2, q2⟩
      have on : On Γ β1 F H1 β2 F H2 := ⟨st.tr, st.frzs⟩
      by_cases hlt : i < xs.length
      · refine .inr ⟨wk.go i β2 _ H2 on hlt, Pv (i + 1), fun σ' H' p' => ⟨xs.length - (i + 1), by omega, rfl, hlt, p'⟩, fun x H' y => ?_⟩
        obtain ⟨w, ewi, st', R3, rw3⟩ := wk.yld i β2 _ H2 h2 x H' on R2 hlt y
        have ed : xs.drop i = w :: xs.drop (i + 1) := by
          rw [List.drop_eq_getElem_cons hlt]
          congr 1
          exact Option.some.inj ((List.getElem?_eq_getElem hlt).symm.trans ewi)
        rw [ed, forL_cons] at q2
        cases es : stTg t w sl2 with
        | none =>
          have ef : f w sl2 h2 = .no := by show (match stTg t w sl2 with | some σ' => mb σ' h2 | none => Out.no) = .no; rw [es]
          rw [ef] at q2
          exact q2.elim
        | some sl3 =>
          have ef : f w sl2 h2 = mb sl3 h2 := by show (match stTg t w sl2 with | some σ' => mb σ' h2 | none => Out.no) = mb sl3 h2; rw [es]
          rw [ef] at q2
          refine ⟨β2, F, h2, sl2, w, sl3, R3, S2.step C.lo st', rw3, es, fun σ' S' _ => ⟨β2, F, h2, sl3, R3, S', AftO2.turn (AftO2.from q2 st') fun sl5 h5 σ5 H5 β5 s5 R5 S5 q5 => ?_⟩⟩
          exact ⟨β5, h5, sl5, (st.trans st').trans s5, R5, S5, AftO2.from q5 s5⟩
      · have ei : i = xs.length := by omega
        subst ei
        refine .inl ⟨wk.stop β2 _ H2 on, ?_⟩
        rw [List.drop_length] at q2
        exact AftO2.nx q2 R2 S2
    · exact q.elim
theorem whlL_succ {c : Sl → Hc → Res (Bool × Hc)} {b : Sl → Hc → Out} {n : Nat} {sl : Sl} {h : Hc} : whlL c b (n + 1) sl h = Out.of (c sl h) fun (k, h1) => if k then turnO (b sl h1) fun sl h => whlL c b n sl h else .nx sl h1 := by
  conv => lhs; unfold whlL
  cases c sl h with
  | ok p =>
    obtain ⟨k, h1⟩ := p
    show (if k then _ else _) = (if k then _ else _)
    cases k with
    | true =>
      rw [if_pos rfl, if_pos rfl]
      cases b sl h1 <;> rfl
    | false => rfl
  | exc c h1 => rfl
  | no => rfl
theorem s_whl (C : Fx Γ LO E X) (hp : PassesOwn (model X.prog X.w) X.A X.env X.xe) {c : Expr} {body : List Stmt} {mc : Sl → Hc → Res (Bool × Hc)} {mb : Sl → Hc → Out} {n : Nat} (hc : PT X c (tT Γ LO E mc)) (hb : PSs X body (tS Γ LO E mb)) :
    PS X (.While c body [] pos) (tS Γ LO E fun sl h => whlL mc mb n sl h) := by
  refine PSimp (ps_while hp hc hb) fun D σ H ⟨β, F, h, sl, R, S, q⟩ => ?_
  refine ⟨fun n σ H => ∃ β h sl, Rel Γ β F h H ∧ RSl Γ.K LO β F H sl σ ∧ AftO2 Γ LO E F β H (whlL mc mb n sl h) D, ⟨n, β, h, sl, R, S, q⟩, ?_⟩
  rintro n σ H ⟨β, h, sl, R, S, q⟩
  cases n with
  | zero => exact q.elim
  | succ n =>
    rw [whlL_succ] at q
    refine ⟨β, F, h, sl, R, S, Aft.imp (AftO2.of q) fun k H1 ⟨β1, (kw, h1), e, s1, R1, rk, q1⟩ => ?_⟩
    cases rk
    dsimp only at q1
    split at q1
    · rename_i e
      rw [if_pos e]
      refine ⟨_, fun σ' H' p => ⟨n, Nat.lt_succ_self n, p⟩, β1, F, h1, sl, R1, S.step C.lo s1, AftO2.turn q1 fun sl5 h5 σ5 H5 β5 s5 R5 S5 q5 => ⟨β5, h5, sl5, R5, S5, AftO2.from q5 s5⟩⟩
    · rename_i e
      rw [if_neg e]
      exact AftO2.nx q1 R1 (S.step C.lo s1)
/-! ### raise -/
theorem s_raise (C : Fx Γ LO E X) (tk : Tk E X) {B : String} {newId initId : String} {bmB : List Value} {c : Nat} {x m : Str} {j : Nat} {p p2 pos' : Pos} (Fb : ExcBaseFacts B newId initId bmB) (q : PySem.W.excIn X.K (Γ.exc c) bmB newId = true) (gC : X.mg x = some (.ref (Γ.exc c))) (kC : PySem.W.keepIn X.K (.ref (Γ.exc c)) = true) (r : Raises X (.ref (Γ.exc c))) (hg : Gl X x)
    (hdb : (x == ("__debug__" : Str)) = false) : PS X (.Raise (some (.Call (.Name x p) [.Constant (.str m) j p2] [] pos')) none pos) (tS Γ LO E fun _ h => .exc c h) :=
  PSimp (ps_raise C.calm tk (pmk_own Fb q gC kC r hg hdb)) fun D σ H ⟨β, F, h, sl, R, S, q⟩ => q H β (Step.refl _ _) R
end
end PyI

set_option Elab.async false
set_option linter.all false
set_option maxRecDepth 100000
set_option maxHeartbeats 1000000
/-! PyI16: tuple of a dict; what is told of a lambda. -/
namespace PyI
open PySem PySem.Spec PyProof.Rows L2
section
variable {prog : Program} {w : World} {A : Around} {E : Value → Shared → Prop} {s : Shared} {T : String} {r d : Addr} {n : Nat} {P : Nat → Value → Prop} {OK : Heap → Prop}
/-- the items of what is walked, in a list of the machine's own -/
theorem collect_src (K : PySem.W.KdlSrc prog w T r d n P OK) (hh : A.handled = none) (hok : OK s.heap) (hn : n ≤ sizeLine) {Q : List Value → Shared → Prop}
    (hQ : ∀ (h' : Heap) (tk : Nat) (acc : Array Value), (∀ b o, s.heap.get? b = some o → h'.get? b = some o) → ItemsOf P acc n → Q acc.toList { s with heap := h', toks := tk }) : wpAny (model prog w) A (collect (.ref r)) Q E s := by
  unfold collect
  refine wpAny_bind (wpAny_runValue (codeAny_builtin F.entry_proto_collect ?_))
  rw [Around.under_plainId F.plain_proto_collect _]
  show wpAny _ A.in1 (newList [] >>= fun l => again (.builtin "list.__iadd__" ⟨[l, .ref r], []⟩)) _ _ s
  refine wpAny_bind (wpAny_newObj_type ?_)
  refine wpAny_pure ⟨plainId_quiet F.plain_list_iadd _, codeAny_builtin F.entry_list_iadd ?_⟩
  rw [Around.under_plainId F.plain_list_iadd _]
  show wpAny _ A.in1 (Builtin.List.listExtendWith (.ref s.heap.objs.size) (.ref r) (.ref s.heap.objs.size)) _ _ _
  have hS : (s.heap.push { cls := .type "list", data := .seq ([] : List Value).toArray }).get? s.heap.objs.size = some { cls := .type "list", data := .seq #[] 0 } := Heap.get?_push_size _ rfl
  obtain ⟨t1, t2⟩ := K.there _ hok
  refine wpAny_mono (PySem.W.kdl_extend (A := A) (R := fun rr s' => rr = .ok (.ret (.ref s.heap.objs.size)) ∧ ∃ (h' : Heap) (tk : Nat) (acc : Array Value) (c' : Nat), s' = { s with heap := h', toks := tk } ∧
      (∀ b o, s.heap.get? b = some o → h'.get? b = some o) ∧ h'.get? s.heap.objs.size = some { cls := .type "list", dict := none, data := .seq acc c', slots := #[] } ∧ ItemsOf P acc n)
    (s := { s with heap := s.heap.push { cls := .type "list", data := .seq ([] : List Value).toArray } }) K hh (K.keep _ _ hok fun b _ o e => Heap.get?_push_of_some _ e) _ (Nat.ne_of_gt t1) (Nat.ne_of_gt t2) _ 0 hS
    (fun h' tk acc c' hk e hi => ⟨rfl, h', tk, acc, c', rfl, fun b o q => hk b o (Nat.ne_of_lt (Heap.lt_size q)) (Heap.get?_push_of_some _ q), e, hi⟩) hn) (fun fin s' h => ?_) (fun e s' h => absurd h.1 (by simp))
  have fin1 : ∀ {rr : Result} {s' : Shared}, (rr = .ok (.ret (.ref s.heap.objs.size)) ∧ ∃ (h' : Heap) (tk : Nat) (acc : Array Value) (c' : Nat), s' = { s with heap := h', toks := tk } ∧
      (∀ b o, s.heap.get? b = some o → h'.get? b = some o) ∧ h'.get? s.heap.objs.size = some { cls := .type "list", dict := none, data := .seq acc c', slots := #[] } ∧ ItemsOf P acc n) →
      wpAny (model prog w) A (load s.heap.objs.size >>= fun o => match o.data with | .seq items _ => pure items.toList | _ => unsupported "internal:list-expected") Q E s' := fun {rr s'} h => by
    obtain ⟨_, h', tk, acc, c', rfl, hk, hS', hi⟩ := h
    exact wpAny_bind (wpAny_load hS' (wpAny_pure (hQ h' tk acc hk hi)))
  cases fin with
  | done f =>
    obtain ⟨e, rest⟩ := h
    cases e
    obtain ⟨h', tk, acc, c', rfl, hk, hS', hi⟩ := rest
    show wpAny _ A (load s.heap.objs.size >>= _) _ _ _
    exact wpAny_bind (wpAny_load hS' (wpAny_pure (hQ h' tk acc hk hi)))
  | again c' =>
    refine ⟨h.1, codeAny_mono h.2 fun rr s'' hr' => ?_⟩
    obtain ⟨rfl, h', tk, acc, c', rfl, hk, hS', hi⟩ := hr'
    show wpAny _ A (load s.heap.objs.size >>= _) _ _ _
    exact wpAny_bind (wpAny_load hS' (wpAny_pure (hQ h' tk acc hk hi)))
theorem code_tuple_src (K : PySem.W.KdlSrc prog w T r d n P OK) (hh : A.handled = none) (hok : OK s.heap) (hn : n ≤ sizeLine) {Q₁ : Value → Shared → Prop}
    (h : ∀ (h' : Heap) (tk : Nat) (acc : Array Value), (∀ b o, s.heap.get? b = some o → h'.get? b = some o) → ItemsOf P acc n → Q₁ (.ref h'.objs.size) { s with heap := h'.push { cls := .type "tuple", data := .seq acc }, toks := tk }) :
    codeAny (model prog w) A (.call (.builtin "tuple.__new__") ⟨[.type "tuple", .ref r], []⟩) (wants Q₁ E) s := by
  refine codeAny_of_tree ?_
  show wpAny _ A.in1 (do checkBuiltinCall "tuple.__new__" ⟨[.type "tuple", .ref r], []⟩; again (.builtin "tuple.__new__" ⟨[.type "tuple", .ref r], []⟩)) _ _ s
  refine wpAny_bind (wpAny_of_eq (F.newCall_tuple_1 _) (wpAny_pure ⟨plainId_quiet F.plain_tuple_new _, codeAny_builtin F.entry_tuple_new ?_⟩))
  rw [Around.under_plainId F.plain_tuple_new _]
  have hsub := sub_tuple_self
  have hinit := init_tuple_lookup
  have hmh := madeHere_tuple
  have hTI : s.TypeIs (.ref r) T := K.type s hok
  have hh1 : A.in1.handled = none := hh
  have nT := K.notTuple
  wp_walk using wpAny_typeOf hTI, collect_src (A := A.in1) K hh1 hok hn
  intro h' tk acc hk hacc
  show wpAny _ _ (Builtin.Tuple.tupleExact acc.toList.toArray >>= fun v => ret v) _ _ _
  unfold Builtin.Tuple.tupleExact
  refine wpAny_bind (wpAny_newObj_type ?_ (by show acc.toList.toArray.size ≤ sizeLine; simp only [Array.toArray_toList]; rw [hacc.1]; exact hn))
  refine wpAny_pure ?_
  have e : acc.toList.toArray = acc := by simp
  rw [e]
  exact h h' tk acc hk hacc
theorem call_tuple_src (K : PySem.W.KdlSrc prog w T r d n P OK) (hh : A.handled = none) (hok : OK s.heap) (hn : n ≤ sizeLine) {Q : Value → Shared → Prop}
    (hQ : ∀ (h' : Heap) (tk : Nat) (acc : Array Value), (∀ b o, s.heap.get? b = some o → h'.get? b = some o) → ItemsOf P acc n → Q (.ref h'.objs.size) { s with heap := h'.push { cls := .type "tuple", data := .seq acc }, toks := tk }) :
    wpAny (model prog w) A (call (.type "tuple") [.ref r]) Q E s := by
  refine callType_codes (Q₁ := fun obj s₁ => s₁.TypeIs obj "tuple" ∧ Q obj s₁) F.called_tuple (F.typeCall_tuple_1 _) F.entry_object_init
    (code_tuple_src (A := A.in1) K hh hok hn fun h' tk acc hk hacc => ⟨⟨_, Heap.get?_push_size _ rfl, rfl⟩, hQ h' tk acc hk hacc⟩) fun obj s₁ h₁ => ?_
  exact ⟨h₁.1, F.args_object_init_2 obj _, object_init_meets F.called_tuple.init.lookup F.called_tuple.made (by decide) prog w A.in1 _ s₁ ⟨h₁.1, rfl, h₁.2⟩⟩
end
theorem tupDict {X : L2.Cx} (hc : X.calm = true) : TupDict X := by
  intro pins s σ H xs us Q I r h
  obtain ⟨p, kvs, e, hk, q⟩ := h
  subst e
  obtain ⟨u, eu, rx⟩ := vals1 r
  subst eu
  obtain rfl : u = Value.ref p := rx
  obtain ⟨z, lo, vs, rk, hd⟩ := (show ObjOk X.prog X.w H s.heap p (.dK kvs) from I.hok p _ hk)
  obtain ⟨ep, hat⟩ := hd.dictAt
  have hl : kvs.length = vs.length := Paired.length rk
  refine call_tuple_src (PySem.W.kdl_dict (knd := mixKind X.prog X.w) (kvs := vs) (ep := ep) lo) (I.ok.hd hc) hat (by rw [← hl]; exact z) fun h' tk acc' hkeep hacc => ?_
  have rv : Vals (kvs.map fun kv => kV kv.1) acc'.toList := by
    have el : acc'.toList.length = acc'.size := by simp
    refine vals_of_at (by rw [List.length_map, el, hacc.1, hl]) fun j x w h1 h2 => ?_
    obtain ⟨k, y, hky, hi⟩ := hacc.2 j w (by rw [← Array.getElem?_toList]; exact h2)
    have e1 : (kvs.map (·.1))[j]? = some k := by
      rw [KV.keys rk, List.getElem?_map, hky] <;> rfl
    have e2 : (kvs.map fun kv => kV kv.1)[j]? = some (kV k) := by
      have e3 : (kvs.map fun kv => kV kv.1) = (kvs.map (·.1)).map kV := by rw [List.map_map] <;> rfl
      rw [e3, List.getElem?_map, e1] <;> rfl
    rw [e2] at h1
    cases h1
    exact keyIs_rel hi
  have I1 : L2.Inv X pins σ H { s with heap := h', toks := tk } := I.kept hkeep
  refine ⟨.ref h'.objs.size, upd H h'.objs.size (.tup (kvs.map fun kv => kV kv.1)), I1.laid (t' := tk) (fun b o e => Heap.get?_push_of_some _ e) (Nat.le_refl _) (show ObjOk X.prog X.w _ _ _ (.tup (kvs.map fun kv => kV kv.1)) from ⟨?_, acc'.toList, rv, ?_⟩), rfl, q _ (I1.hok.fresh (Nat.le_refl _))⟩
  · rw [List.length_map]; exact z
  · have := IsTup.new h' acc'
    simpa using this
/-! ### told(lambda: ..) -/
section
variable {Γ : Gm} {LO : LamT} {E : XK} {X : L2.Cx} {pos : Pos}
theorem quiet_ext {β : List Addr} {F : Addr → Prop} {h : Hc} {H H1 : Hp} (R : Rel Γ β F h H) (e : LamX.ExtN H H1) (t : LamX.Tabs Γ.T H1) : Step β H β H1 ∧ Rel Γ β F h H1 := by
  have st : Step β H β H1 := ⟨List.prefix_refl _, fun a o h _ nt => e a o h nt, fun _ h n => absurd h n, fun a ⟨o, h, nt⟩ => ⟨o, e a o h nt, nt⟩, fun a xs h => e a _ h (fun _ z => by cases z), fun a o u h => e a _ h (fun _ z => by cases z)⟩
  refine ⟨st, R.quiet st (fun a ha => ?_) t⟩
  obtain ⟨o, h, nt⟩ := R.th a ha
  rw [h, e a o h nt]
/-- the def that calls a lambda and tells of the one exception -/
structure TellF (Γ : Gm) (X : L2.Cx) (x : Str) (hs : List (Nat × List Nat)) : Prop where
  ex : ∃ (a : Str) (g : Addr) (pg : Arguments) (bg : List Stmt) (sg : Scope) (dV kV doc pm cdv ct oc : Value) (an od : Option Addr) (osl : Array (Option Value)) (Ng : List Str) (CS : Nat) (ret : List Nat),
    hs = [(CS, ret)] ∧ (x == ("__debug__" : Str)) = false ∧ X.mg x = some (.ref g) ∧ PySem.W.keepIn X.K (.ref g) = true ∧ X.K.lookup g = some ⟨oc, od, .func (PySem.W.fnOf x x pg bg sg dV kV doc pm an cdv ct), osl⟩ ∧ PySem.W.codeIn X.K cdv x = true ∧
    L2.Binds X.K (PySem.W.fnOf x x pg bg sg dV kV doc pm an cdv ct) [a] [] ∧ FnScope Ng [a] sg ∧ Ng[0]? = some a ∧ Vis sg a ∧ (a == ("__debug__" : Str)) = false ∧ (a == ("__classdict__" : Str)) = false ∧
    LamX.GivesTo X Ng x sg g cdv bg a (X.env.qual ++ "<lambda>") (LamX.TTold X.K (Γ.exc CS) (ofL ret)) ∧ PySem.W.exmOne X.K (.ref (Γ.exc CS)) (.ref (Γ.exc CS)) = some true
/-- where lambdas are made -/
structure LamF (Γ : Gm) (X : L2.Cx) : Prop where
  ex : ∃ c P, LamX.TabB X.base X.mg c P ∧ X.env.code = .ref c ∧ (P, X.env.qual ++ "<lambda>") ∈ Γ.T ∧ ∀ p ∈ Γ.T, p.1 = P → p.2 = X.env.qual ++ "<lambda>"
theorem e_told (C : Fx Γ LO E X) {x : Str} {hs : List (Nat × List Nat)} {k : Nat} {p lpos : Pos} {params : Arguments} {body : Expr} {scope : Scope} {m : Sl → Hc → RW} (hg : Gl X x) (Tf : TellF Γ X x hs) (Lf : LamF Γ X) (hr : Room (k + 2) X.A) (L : LamX.LamS X.env.scope scope)
    (hdef : defaultsOf params X.env = ([], [])) (hbind : ∀ (q : Str) (cl : List (Str × Addr)) (pm cv ctv : Value), bindArgs (PySem.W.kla_fn "<lambda>" q params body scope cl pm cv ctv) ⟨[], []⟩ = pure [])
    (hbody : ∀ (A : Around) (outer : List Env) (s : Shared) (H : Hp) (E : XK) (f c' : Addr), Room k (A.deeper (LamX.lamEnv X scope s.heap.objs.size f c')) → PE (LamX.lamCx X A outer s H E scope f c') body (tE Γ LO E m)) :
    PE X (.Call (.Name x p) [.Lambda params body scope lpos] [] pos) (tE Γ LO E fun sl h => catchT hs (m sl h)) := by
  obtain ⟨a, g, pg, bg, sg, dV, kV, doc, pm, cdv, ct, oc, an, od, osl, Ng, CS, ret, ehs, hdb, hm, hk, lk, hcg, hb, Sg, hNg, hva, hd, hcd, hG, hex⟩ := Tf.ex
  obtain ⟨c, P, TB, hcode, hmT, hu⟩ := Lf.ex
  refine PEimp (LamX.pe_lamcall (t := fun E => tE Γ LO E m) hg hm hk lk hcg hb Sg hNg hva hG TB hcode hmT hu hr L hdef hbind hbody hdb hd hcd) fun σ H Q ⟨β, F, h, sl, R, S, q⟩ => ⟨R.tb, fun H1 eN T1 => ?_⟩
  obtain ⟨st, R1⟩ := quiet_ext R eN T1
  refine ⟨β, F, h, sl, R1, S.step C.lo st, ?_⟩
  revert q
  dsimp only
  generalize m sl h = r
  intro q
  cases r with
  | ok p => exact Aft.from q st
  | no => exact q
  | exc c h' =>
    intro H2 β2 s2 R2
    have q : Aft Γ E F (AW Γ F) β H (match hs.lookup c with
      | some s => .ok (.str s, h')
      | none => .no) Q := q
    subst ehs
    by_cases ec : c = CS
    · subst ec
      have q : Aft Γ E F (AW Γ F) β H (.ok (.str ret, h')) Q := by
        simpa using q
      exact ⟨true, hex, fun _ => q _ H2 β2 (st.trans s2) R2 (mk_str _), fun z => by cases z⟩
    · have e0 : List.lookup c [(CS, ret)] = none := by
        rw [List.lookup_cons]
        have : (c == CS) = false := by simpa using ec
        rw [this]
        rfl
      rw [e0] at q
      exact q.elim
end
end PyI

set_option Elab.async false
set_option linter.all false
set_option maxRecDepth 100000
set_option maxHeartbeats 1000000
/-! PyI17: whether a core term is that of a text; what must be told of a program. -/
namespace PyI
open PySem PySem.Spec PyProof.Rows L2
/-- the names: constants, defs, classes, exceptions, tellers, attributes -/
structure Tb where
  gn : List Str
  fn : List Str
  cn : List Str
  en : List Str
  tn : List Str
  nm : List Str
  /-- the lambdas that are kept in lists -/
  lx : List E := []
/-- where an expression stands -/
structure Fs where
  N : List Str
  sc : Scope
  fn : Str → Bool
  lam : Bool
  gen : Bool := false
def visB (sc : Scope) (x : Str) : Bool := match sc.names.lookup x with
  | some .local => true
  | some .cell => true
  | some .free => true
  | _ => false
def locB (f : Fs) (x : Str) : Bool := match f.sc.names.lookup x with
  | some .local => true
  | some .cell => f.fn x
  | _ => false
def glB (sc : Scope) (x : Str) : Bool := match sc.names.lookup x with
  | some .globalImplicit => !(x == ("__debug__" : Str))
  | _ => false
def nmB (x : Str) : Bool := !(x == ("__debug__" : Str)) && !(x == ("__classdict__" : Str))
theorem visB_ok {sc : Scope} {x : Str} (h : visB sc x = true) : Vis sc x := by
  unfold visB at h
  split at h
  · exact .inl ‹_›
  · exact .inr (.inl ‹_›)
  · exact .inr (.inr ‹_›)
  · cases h
theorem locB_ok {f : Fs} {x : Str} (h : locB f x = true) : Loc f.sc x ∧ (f.fn x = true ∨ f.sc.names.lookup x = some .local) := by
  unfold locB at h
  split at h
  · exact ⟨.inl ‹_›, .inr ‹_›⟩
  · exact ⟨.inr ‹_›, .inl h⟩
  · cases h
theorem glB_ok {sc : Scope} {x : Str} (h : glB sc x = true) : sc.names.lookup x = some .globalImplicit ∧ (x == ("__debug__" : Str)) = false := by
  unfold glB at h
  split at h
  · exact ⟨‹_›, by simpa using h⟩
  · cases h
theorem nmB_ok {x : Str} (h : nmB x = true) : (x == ("__debug__" : Str)) = false ∧ (x == ("__classdict__" : Str)) = false := by
  unfold nmB at h
  simpa using h
def ownOf (N : List Str) (own : List Nat) : List (Str × Nat) := own.map fun i => (N.getD i Str.empty, i)
theorem ownOf_snd (N : List Str) (own : List Nat) : (ownOf N own).map (·.2) = own := by
  unfold ownOf
  rw [List.map_map]
  exact List.map_id own
def noPar : Arguments → Bool
  | ⟨[], [], none, [], [], none, []⟩ => true
  | _ => false
def setB : Expr → Bool
  | .Set _ _ _ => false
  | _ => true
/-! targets -/
mutual
def chkG (f : Fs) : Tg → Expr → Bool
  | .one i, .Name x _ => decide (f.N[i]? = some x) && locB f x
  | .many ts, .Tuple es _ _ => decide (ts.length = es.length) && es.all plainX && chkGs f ts es
  | _, _ => false
def chkGs (f : Fs) : List Tg → List Expr → Bool
  | [], [] => true
  | t :: ts, e :: es => chkG f t e && chkGs f ts es
  | _, _ => false
end
def isTup : Expr → Bool
  | .Tuple _ _ _ => true
  | _ => false
/-- the frame of a comprehension's block -/
def Fs.blk (f : Fs) (scope : Scope) : Fs := { N := f.N, sc := relS scope f.sc, fn := fun x => scope.names.lookup x == some .cell, lam := false }
def Fs.inLam (f : Fs) (scope : Scope) : Fs := { N := f.N, sc := scope, fn := fun _ => false, lam := false }
mutual
/-- m: as a test -/
def chkE (T : Tb) (xt : Fs → Bool → E → Expr → Bool) : E → Bool → Fs → Expr → Bool
  | .var i, _, f, .Name x _ => decide (f.N[i]? = some x) && visB f.sc x && nmB x
  | .lit (.int i), _, _, .Constant (.int j) _ _ => decide (i = j)
  | .lit (.str s), _, _, .Constant (.str x) _ _ => decide (ofL s = x)
  | .lit (.bl b), _, _, .Constant (.bool c) _ _ => b == c
  | .lit .non, _, _, .Constant .none _ _ => true
  | .glob g, _, f, .Name x _ => decide (T.gn[g]? = some x) && glB f.sc x
  | .bin _ op a b, _, f, .BinOp l op' r _ => decide (op = op') && chkE T xt a false f l && chkE T xt b false f r
  | .neg a, _, f, .UnaryOp .USub e _ => chkE T xt a false f e
  | .not a, m, f, .UnaryOp .Not e _ => chkE T xt a m f e
  | .and es, m, f, .BoolOp .And l _ => !m && chkAs T xt es false f l
  | .or es, m, f, .BoolOp .Or l _ => !m && chkAs T xt es false f l
  | .andT es, m, f, .BoolOp .And l _ => m && chkAs T xt es true f l
  | .orT es, m, f, .BoolOp .Or l _ => m && chkAs T xt es true f l
  | .cmp op a b, _, f, .Compare l [op'] [r] _ => decide (op = op') && !behindInMarks op r && chkE T xt a false f l && chkE T xt b false f r
  | .cmp2 op op' a b c, _, f, .Compare l [p, p'] [r, t] _ => decide (op = p) && decide (op' = p') && !lastMarks [op, op'] [r, t] && chkE T xt a false f l && chkE T xt b false f r && chkE T xt c false f t
  | .ifx c a b, m, f, .IfExp t x y _ => !m && chkE T xt c true f t && chkE T xt a false f x && chkE T xt b false f y
  | .tup es, _, f, .Tuple l _ _ => decide (l.length ≤ 1000) && chkEs T xt es f l
  | .lst _ es, _, f, .List l _ => decide (l.length ≤ 1000) && chkEs T xt es f l
  | .dic es, _, f, .Dict ks vs _ => decide (ks.length ≤ 15) && decide (ks.length = vs.length) && chkPs T xt es f ks vs
  | .idx a i, _, f, .Subscript x y _ => sliceX y && chkE T xt a false f x && chkE T xt i false f y
  | .slice _ a lo hi, _, f, .Subscript x (.Slice l u none _) _ => chkE T xt a false f x && (match l with
      | none => (match lo with | .lit .non => true | _ => false)
      | some l => chkE T xt lo false f l) && (match u with
      | none => (match hi with | .lit .non => true | _ => false)
      | some u => chkE T xt hi false f u)
  | .rev _ a, _, f, .Subscript x (.Slice none none (some (.UnaryOp .USub (.Constant (.int 1) _ _) _)) _) _ => chkE T xt a false f x
  | .attr o a, _, f, .Attribute x y _ => decide (T.nm[a]? = some y) && superX x && chkE T xt o false f x
  | .call _ g es, _, f, .Call (.Name x _) l [] _ => decide (T.fn[g]? = some x) && decide (x ≠ Str.empty) && glB f.sc x && l.all plainX && chkEs T xt es f l
  | .new C es, _, f, .Call (.Name x _) l [] _ => decide (T.cn[C]? = some x) && glB f.sc x && l.all plainX && chkEs T xt es f l
  | .meth o a es, _, f, .Call (.Attribute x y apos) l [] pos => decide (T.nm[a]? = some y) && superX x && l.all plainX && decide (l.length < 30) && (apos.endLine == pos.line) && chkE T xt o false f x && chkEs T xt es f l
  | .bi b _ es, _, f, .Call (.Name x _) l [] _ => decide (x = biN b) && glB f.sc x && l.all plainX && !l.isEmpty && chkEs T xt es f l
  | .bm b _ o es, _, f, .Call (.Attribute x y apos) l [] pos => decide (y = bmN b) && superX x && l.all plainX && decide (l.length < 30) && (apos.endLine == pos.line) && chkE T xt o false f x && chkEs T xt es f l
  | .told t e, _, f, .Call (.Name x _) [.Lambda params body scope _] [] _ => f.lam && decide (T.tn[t]? = some x) && glB f.sc x && LamX.lamSB f.sc scope && noPar params && chkE T xt e false (f.inLam scope) body
  | .lc _ own t ik ies c e, _, f, .ListComp elt [⟨tg, iter, ifs, 0⟩] scope _ => blkC f.N f.sc scope (ownOf f.N own) && decide (tgS t ⊆ own) && setB iter && chkG (f.blk scope) t tg && (match ik, ies, iter with
      | .val, [c], iter => chkE T xt c false f iter
      | .range, [c], .Call (.Name x _) [a] [] _ => decide (x = ("range" : Str)) && glB f.sc x && plainX a && chkE T xt c false f a
      | .range, [c, d], .Call (.Name x _) [a, b] [] _ => decide (x = ("range" : Str)) && glB f.sc x && plainX a && plainX b && chkE T xt c false f a && chkE T xt d false f b
      | .items, [c], .Call (.Attribute y n apos) [] [] pos => decide (n = ("items" : Str)) && isTup tg && superX y && (apos.endLine == pos.line) && chkE T xt c false f y
      | .values, [c], .Call (.Attribute y n apos) [] [] pos => decide (n = ("values" : Str)) && superX y && (apos.endLine == pos.line) && chkE T xt c false f y
      | .enum, [c], .Call (.Name x _) [a] [] _ => decide (x = ("enumerate" : Str)) && isTup tg && glB f.sc x && plainX a && chkE T xt c false f a
      | _, _, _ => false) && (match c, ifs with
      | [], [] => true
      | [c], [i] => chkE T xt c true (f.blk scope) i
      | _, _ => false) && chkE T xt e false (f.blk scope) elt
  | c, m, f, e => xt f m c e
def chkEs (T : Tb) (xt : Fs → Bool → E → Expr → Bool) : List E → Fs → List Expr → Bool
  | [], _, [] => true
  | c :: cs, f, e :: es => plainX e && chkE T xt c false f e && chkEs T xt cs f es
  | _, _, _ => false
/-- at least one -/
def chkAs (T : Tb) (xt : Fs → Bool → E → Expr → Bool) : List E → Bool → Fs → List Expr → Bool
  | [c], m, f, [e] => chkE T xt c m f e
  | c :: cs, m, f, e :: es => chkE T xt c m f e && chkAs T xt cs m f es
  | _, _, _, _ => false
def chkPs (T : Tb) (xt : Fs → Bool → E → Expr → Bool) : List E → Fs → List (Option Expr) → List Expr → Bool
  | [], _, [], [] => true
  | k :: v :: r, f, some x :: ks, y :: vs => chkE T xt k false f x && chkE T xt v false f y && chkPs T xt r f ks vs
  | _, _, _, _ => false
end
def chkW (T : Tb) (xt : Fs → Bool → E → Expr → Bool) (f : Fs) (ik : IK) (ies : List E) (tg iter : Expr) : Bool := match ik, ies, iter with
  | .val, [c], iter => chkE T xt c false f iter
  | .range, [c], .Call (.Name x _) [a] [] _ => decide (x = ("range" : Str)) && glB f.sc x && plainX a && chkE T xt c false f a
  | .range, [c, d], .Call (.Name x _) [a, b] [] _ => decide (x = ("range" : Str)) && glB f.sc x && plainX a && plainX b && chkE T xt c false f a && chkE T xt d false f b
  | .items, [c], .Call (.Attribute y n apos) [] [] pos => decide (n = ("items" : Str)) && isTup tg && superX y && (apos.endLine == pos.line) && chkE T xt c false f y
  | .values, [c], .Call (.Attribute y n apos) [] [] pos => decide (n = ("values" : Str)) && superX y && (apos.endLine == pos.line) && chkE T xt c false f y
  | .enum, [c], .Call (.Name x _) [a] [] _ => decide (x = ("enumerate" : Str)) && isTup tg && glB f.sc x && plainX a && chkE T xt c false f a
  | _, _, _ => false
/-- a lambda that is kept in a list -/
def lkB (T : Tb) (f : Fs) (k : Nat) (pa : Arguments) (bo : Expr) (sc : Scope) : Bool := LamX.lamSB f.sc sc && noPar pa && (match T.lx[k]? with
  | some e => chkE T (fun _ _ _ _ => false) e false (f.inLam sc) bo
  | none => false)
def lamO (env : Env) (lk : Nat → Arguments → Expr → Scope → Bool) : LamT where
  ob := fun k f c h => ∃ (pa : Arguments) (bo : Expr) (sc : Scope) (pm ctv : Value), lk k pa bo sc = true ∧ h.get? f = some (PySem.W.kla_obj "<lambda>" (env.qual ++ "<lambda>") pa bo sc (cloFrom env.cells sc.names []) pm c ctv)
  q := env.qual ++ "<lambda>"
/-! ### what is told of the program -/
structure Wd (Γ : Gm) (T : Tb) (I : Ix) (K0 : Nat) (P : Program) (w : World) (K : PySem.W.Frag) (mg : Str → Option Value) (base : Heap) : Prop where
  hK : K = Γ.K
  nm : T.nm = Γ.nm
  cf : Cf Γ I
  glob : ∀ (g : Nat) (w : W) (x : Str), I.glob[g]? = some w → T.gn[g]? = some x → ∃ u v, mg x = some u ∧ RelV v u ∧ ∀ β F H, RV Γ.K β F H w v
  call : ∀ (f : Nat) (x : Str), T.fn[f]? = some x → x ≠ Str.empty → ∃ fa, mg x = some (.ref fa) ∧ FnF Γ P w K mg base (I.call f) K0 fa
  new_ : ∀ (C : Nat) (x : Str) (f : Nat), T.cn[C]? = some x → I.init C = some f → ∃ fa, mg x = some (.ref (Γ.cls C)) ∧ Mk K (Γ.cls C) fa ∧ FnF Γ P w K mg base (I.call f) K0 fa
  meth : ∀ C m f y, (I.init C).isSome = true → I.meth C m = some f → Γ.nm[m]? = some y → ∃ fa, Meth K (Γ.cls C) y fa ∧ FnF Γ P w K mg base (I.call f) K0 fa
  bltn : ∀ x ∈ ([("range" : Str), "enumerate", "abs", "len", "max", "min", "sum", "sorted", "any", "all", "int", "list", "dict", "str", "tuple"] : List Str), mg x = none
  exc : ∀ (c : Nat) (x : Str), T.en[c]? = some x → ∃ (B newId initId : String) (bmB : List Value), ExcBaseFacts B newId initId bmB ∧ PySem.W.excIn K (Γ.exc c) bmB newId = true ∧ mg x = some (.ref (Γ.exc c)) ∧ PySem.W.keepIn K (.ref (Γ.exc c)) = true ∧ PySem.W.subIn K (.ref (Γ.exc c)) (.type "BaseException") = some true ∧ PySem.W.typeIn K (.ref (Γ.exc c)) = some (.type "type")
/-- what the making of a generator asks of the def -/
structure GenF (Tt : List (Addr × Str)) (X : L2.Cx) : Prop where
  ex : ∃ c P, LamX.TabB X.base X.mg c P ∧ X.env.code = .ref c ∧ (P, X.env.qual ++ "<genexpr>") ∈ Tt ∧ ∀ p ∈ Tt, p.1 = P → p.2 = X.env.qual ++ "<genexpr>"
/-- .. and of a frame -/
structure Frm (Γ : Gm) (LO : LamT) (T : Tb) (I : Ix) (K0 : Nat) (E : XK) (f : Fs) (X : L2.Cx) : Prop where
  lo : LO.Ok
  calm : X.calm = true
  nodup : X.N.Nodup
  tk : Tk E X
  wd : Wd Γ T I K0 X.prog X.w X.K X.mg X.base
  N_ : X.N = f.N
  sc_ : X.env.scope = f.sc
  fn_ : ∀ x, f.fn x = true → X.fn x = true
  kind : f.sc.kind = .function
  room : Room (K0 + 1) X.A
  lam : f.lam = true → Room (K0 + 3) X.A ∧ LamF Γ X ∧ (∀ (t : Nat) (x : Str), T.tn[t]? = some x → TellF Γ X x (I.told t)) ∧ LO = lamO X.env (lkB T f)
  gen : f.gen = true → Room (K0 + 3) X.A ∧ GenF Γ.T X
section
variable {Γ : Gm} {LO : LamT} {T : Tb} {I : Ix} {K0 : Nat} {E : XK} {f : Fs} {X : L2.Cx}
theorem Frm.fx (r : Frm Γ LO T I K0 E f X) : Fx Γ LO E X := ⟨r.wd.hK, r.lo, r.calm, r.room.units, r.nodup, tupDict r.calm⟩
theorem Frm.gl (r : Frm Γ LO T I K0 E f X) {x : Str} (h : glB f.sc x = true) : Gl X x ∧ (x == ("__debug__" : Str)) = false := by
  obtain ⟨h1, h2⟩ := glB_ok h
  refine ⟨?_, h2⟩
  show X.env.scope.names.lookup x = _
  rw [r.sc_]
  exact h1
theorem Frm.vis (r : Frm Γ LO T I K0 E f X) {x : Str} (h : visB f.sc x = true) : Vis X.env.scope x := by rw [r.sc_]; exact visB_ok h
theorem Frm.loc (r : Frm Γ LO T I K0 E f X) {x : Str} (h : locB f x = true) : Loc X.env.scope x ∧ (X.fn x = true ∨ X.env.scope.names.lookup x = some .local) := by
  obtain ⟨h1, h2⟩ := locB_ok h
  rw [r.sc_]
  exact ⟨h1, h2.elim (fun z => .inl (r.fn_ x z)) .inr⟩
theorem Frm.blk (r : Frm Γ LO T I K0 E f X) {scope : Scope} {own : List (Str × Nat)} (ok : BlkOk X.N X.env.scope scope own) (s : Shared) (H : Hp) (C : Addr) (cl : List (Str × Addr)) (fp : List Addr) :
    Frm Γ LO T I K0 Eno (f.blk scope) (X.blk s H scope (compEnvC scope cl C X.env) fp) :=
  ⟨r.lo, r.calm, r.nodup, L2.takes0, r.wd, r.N_, by show relS scope X.env.scope = _; rw [r.sc_]; rfl, fun x h => h, ok.kind, r.room, fun h => (by cases h), fun h => (by cases h)⟩
theorem Frm.inLam (r : Frm Γ LO T I K0 E f X) {scope : Scope} (L : LamX.LamS X.env.scope scope) {A : Around} {outer : List Env} {s : Shared} {H : Hp} {E' : XK} {g c' : Addr} (hr : Room (K0 + 1) (A.deeper (LamX.lamEnv X scope s.heap.objs.size g c'))) :
    Frm Γ LO T I K0 E' (f.inLam scope) (LamX.lamCx X A outer s H E' scope g c') :=
  ⟨r.lo, rfl, r.nodup, takes_of rfl rfl rfl rfl, r.wd, r.N_, rfl, fun x h => (by cases h), L.kind, hr, fun h => (by cases h), fun h => (by cases h)⟩
end
end PyI

set_option Elab.async false
set_option linter.all false
set_option maxRecDepth 100000
set_option maxHeartbeats 1000000
/-! PyI18: expressions: what the interpreter tells is so. -/
namespace PyI
open PySem PySem.Spec PyProof.Rows L2
section
variable {Γ : Gm} {LO : LamT} {T : Tb} {I : Ix} {K0 : Nat} {xt : Fs → Bool → E → Expr → Bool}
/-- both readings -/
def Rds (Γ : Gm) (LO : LamT) (I : Ix) (E' : XK) (X : L2.Cx) (m : Bool) (c : E) (e : Expr) : Prop := (m = false → PE X e (tE Γ LO E' (evE I c))) ∧ (m = true → PT X e (tT Γ LO E' fun sl h => tst (evE I c sl h)))
theorem Rds.of {E' : XK} {X : L2.Cx} {m : Bool} {c : E} {e : Expr} {M : Sl → Hc → RW} (C : Fx Γ LO E' X) (he : PE X e (tE Γ LO E' M)) (hM : evE I c = M) (hp : ∀ whole, isTrue e X.env whole = (do let v ← whole; standAt e.pos; holding [v] (truthy v))) : Rds Γ LO I E' X m c e := by
  subst hM
  exact ⟨fun _ => he, fun _ => t_plain C he hp⟩
theorem Rds.e {E' : XK} {X : L2.Cx} {c : E} {e : Expr} (r : Rds Γ LO I E' X false c e) : PE X e (tE Γ LO E' (evE I c)) := r.1 rfl
theorem Rds.t {E' : XK} {X : L2.Cx} {c : E} {e : Expr} (r : Rds Γ LO I E' X true c e) : PT X e (tT Γ LO E' fun sl h => tst (evE I c sl h)) := r.2 rfl
def Ok1 (Γ : Gm) (LO : LamT) (T : Tb) (I : Ix) (K0 : Nat) (xt : Fs → Bool → E → Expr → Bool) (c : E) : Prop := ∀ (m : Bool) (f : Fs) (e : Expr) (E' : XK) (X : L2.Cx), Frm Γ LO T I K0 E' f X → chkE T xt c m f e = true → Rds Γ LO I E' X m c e
theorem evEs_nil : evEs I [] = fun _ h => .ok ([], h) := by funext σ h; rw [evEs]
theorem evEs_cons {c : E} {cs : List E} : evEs I (c :: cs) = fun σ h => (evE I c σ h).bind fun (w, h1) => (evEs I cs σ h1).bind fun (ws, h2) => .ok (w :: ws, h2) := by funext σ h; rw [evEs]
theorem evEs_one {c : E} : evEs I [c] = one (evE I c) := by
  rw [evEs_cons, evEs_nil]
  rfl
theorem len_es : ∀ cs : List E, LenIs (evEs I cs) cs.length
  | [] => by rw [evEs_nil]; exact len_nil
  | c :: cs => by rw [evEs_cons]; exact len_cons (len_es cs)
/-- a walk's reading -/
theorem walk_ok {E' : XK} {f : Fs} {X : L2.Cx} (r : Frm Γ LO T I K0 E' f X) {ik : IK} {ies : List E} {tg iter : Expr} (ih : ∀ c ∈ ies, Ok1 Γ LO T I K0 xt c) (h : chkW T xt f ik ies tg iter = true) : PI X tg iter (tW Γ LO E' ik (evEs I ies)) := by
  have C := r.fx
  have rg : X.mg "range" = none := r.wd.bltn _ (by simp)
  have en : X.mg "enumerate" = none := r.wd.bltn _ (by simp)
  unfold chkW at h
  split at h
  · rw [evEs_one]
    exact w_val C (ih _ (by simp) _ _ _ _ _ r h).e
  · simp only [Bool.and_eq_true, decide_eq_true_eq] at h
    obtain ⟨⟨⟨h1, h2⟩, h3⟩, h4⟩ := h
    subst h1
    have ha := (ih _ (by simp) _ _ _ _ _ r h4).e
    have := len_es (I := I)
    refine w_range1 C (r.gl h2).1 rg ?_ (len_es _) h3
    rw [evEs_cons, evEs_nil]
    exact a_cons C h3 ha a_nil
  · simp only [Bool.and_eq_true, decide_eq_true_eq] at h
    obtain ⟨⟨⟨⟨⟨h1, h2⟩, h3⟩, h4⟩, h5⟩, h6⟩ := h
    subst h1
    have ha := (ih _ (by simp) _ _ _ _ _ r h5).e
    have hb := (ih _ (by simp) _ _ _ _ _ r h6).e
    refine w_range2 C (r.gl h2).1 rg ?_ (len_es _) h3 h4
    rw [evEs_cons, evEs_cons, evEs_nil]
    exact a_cons C h3 ha (a_cons C h4 hb a_nil)
  · simp only [Bool.and_eq_true, decide_eq_true_eq] at h
    obtain ⟨⟨⟨⟨h1, h2⟩, h3⟩, h4⟩, h5⟩ := h
    subst h1
    cases tg <;> first | (cases h2; done) | skip
    rw [evEs_one]
    exact w_items C (ih _ (by simp) _ _ _ _ _ r h5).e h3 h4
  · simp only [Bool.and_eq_true, decide_eq_true_eq] at h
    obtain ⟨⟨⟨h1, h3⟩, h4⟩, h5⟩ := h
    subst h1
    rw [evEs_one]
    exact w_values C (ih _ (by simp) _ _ _ _ _ r h5).e h3 h4
  · simp only [Bool.and_eq_true, decide_eq_true_eq] at h
    obtain ⟨⟨⟨⟨h1, h2⟩, h3⟩, h4⟩, h5⟩ := h
    subst h1
    cases tg <;> first | (cases h2; done) | skip
    refine w_enum C (r.gl h3).1 en ?_ h4
    rw [evEs_cons, evEs_nil]
    exact a_cons C h4 (ih _ (by simp) _ _ _ _ _ r h5).e a_nil
  · cases h
/-! ### targets -/
mutual
theorem tgt_ok {f : Fs} {X : L2.Cx} {E' : XK} (C : Fx Γ LO E' X) (hN : X.N = f.N) (hl : ∀ x, locB f x = true → Loc X.env.scope x ∧ (X.fn x = true ∨ X.env.scope.names.lookup x = some .local)) : ∀ (t : Tg) (e : Expr), chkG f t e = true → PG X e (tG Γ LO t)
  | .one i, e, h => by
    unfold chkG at h
    split at h
    · rename_i heq
      cases heq
      simp only [Bool.and_eq_true, decide_eq_true_eq] at h
      obtain ⟨h1, h2⟩ := hl _ h.2
      exact g_one C.nodup (by rw [hN]; exact h.1) h1 h2
    · rename_i heq; cases heq
    · cases h
  | .many ts, e, h => by
    unfold chkG at h
    split at h
    · rename_i heq; cases heq
    · rename_i heq
      cases heq
      simp only [Bool.and_eq_true, decide_eq_true_eq] at h
      exact g_many C h.1.2 h.1.1 (tgts_ok C hN hl _ _ h.2 h.1.2)
    · cases h
theorem tgts_ok {f : Fs} {X : L2.Cx} {E' : XK} (C : Fx Γ LO E' X) (hN : X.N = f.N) (hl : ∀ x, locB f x = true → Loc X.env.scope x ∧ (X.fn x = true ∨ X.env.scope.names.lookup x = some .local)) : ∀ (ts : List Tg) (es : List Expr), chkGs f ts es = true → es.all plainX = true → PGs X es (tGs Γ LO ts)
  | [], [], _, _ => gs_nil
  | [], _ :: _, h, _ => by simp [chkGs] at h
  | _ :: _, [], h, _ => by simp [chkGs] at h
  | t :: ts, e :: es, h, hp => by
    simp only [chkGs, Bool.and_eq_true] at h
    rw [List.all_cons, Bool.and_eq_true] at hp
    exact gs_cons hp.1 (tgt_ok C hN hl _ _ h.1) (tgts_ok C hN hl _ _ h.2 hp.2)
end
/-! ### all -/
theorem biN_mem (b : BI) : biN b ∈ ([("range" : Str), "enumerate", "abs", "len", "max", "min", "sum", "sorted", "any", "all", "int", "list", "dict", "str", "tuple"] : List Str) := by cases b <;> simp [biN]
theorem chkEs_len {f : Fs} : ∀ {cs : List E} {es : List Expr}, chkEs T xt cs f es = true → cs.length = es.length
  | [], [], _ => rfl
  | [], _ :: _, h => by simp [chkEs] at h
  | _ :: _, [], h => by simp [chkEs] at h
  | c :: cs, e :: es, h => by
    simp only [chkEs, Bool.and_eq_true] at h
    rw [List.length_cons, List.length_cons, chkEs_len h.2]
theorem noPar_ok {p : Arguments} (h : noPar p = true) : p = ⟨[], [], none, [], [], none, []⟩ := by
  unfold noPar at h
  split at h
  · rfl
  · cases h
theorem blkC_ok {N : List Str} {sc scope : Scope} {own : List (Str × Nat)} (h : blkC N sc scope own = true) : BlkOk N sc scope own := blkOk_by h
theorem es_ok : ∀ (cs : List E), (∀ c ∈ cs, Ok1 Γ LO T I K0 xt c) → ∀ {f : Fs} {es : List Expr} {E' : XK} {X : L2.Cx}, Frm Γ LO T I K0 E' f X → chkEs T xt cs f es = true → PA X es (tAs Γ LO E' (evEs I cs))
  | [], _, f, [], E', X, r, _ => by rw [evEs_nil]; exact a_nil
  | [], _, _, _ :: _, _, _, _, h => by simp [chkEs] at h
  | _ :: _, _, _, [], _, _, _, h => by simp [chkEs] at h
  | c :: cs, ih, f, e :: es, E', X, r, h => by
    simp only [chkEs, Bool.and_eq_true] at h
    rw [evEs_cons]
    exact a_cons r.fx h.1.1 (ih c (by simp) _ _ _ _ _ r h.1.2).e (es_ok cs (fun c hc => ih c (List.mem_cons_of_mem _ hc)) r h.2)
theorem nil_es {cs : List E} {f : Fs} {es : List Expr} (h : chkEs T xt cs f es = true) (e : es = []) : evEs I cs = fun _ h => .ok ([], h) := by
  have := chkEs_len h
  subst e
  have : cs = [] := List.length_eq_zero_iff.mp this
  subst this
  exact evEs_nil
theorem and_ok : ∀ (cs : List E), (∀ c ∈ cs, Ok1 Γ LO T I K0 xt c) → ∀ {f : Fs} {es : List Expr} {E' : XK} {X : L2.Cx} {pos : Pos}, Frm Γ LO T I K0 E' f X → chkAs T xt cs false f es = true → PE X (.BoolOp .And es pos) (tE Γ LO E' (evAnd I cs))
  | [], _, _, _, _, _, _, _, h => by simp [chkAs] at h
  | [c], ih, f, es, E', X, pos, r, h => by
    cases es with
    | nil => simp [chkAs] at h
    | cons e es =>
      cases es with
      | nil =>
        simp only [chkAs] at h
        have e1 : evAnd I [c] = evE I c := by funext σ h; rw [evAnd]
        rw [e1]
        exact pe_one (ih c (by simp) _ _ _ _ _ r h).e
      | cons => simp [chkAs] at h
  | c :: c' :: cs, ih, f, es, E', X, pos, r, h => by
    cases es with
    | nil => simp [chkAs] at h
    | cons e es =>
      cases es with
      | nil => simp [chkAs] at h
      | cons e2 es =>
        simp only [chkAs, Bool.and_eq_true] at h
        have e1 : evAnd I (c :: c' :: cs) = fun σ h => (evE I c σ h).bind fun (w, h1) => match truth h1 w with
          | some true => evAnd I (c' :: cs) σ h1
          | some false => .ok (w, h1)
          | none => .no := by funext σ h; rw [evAnd] <;> first | rfl | (intro z; cases z)
        rw [e1]
        exact e_and r.fx (ih c (by simp) _ _ _ _ _ r h.1).e (and_ok (c' :: cs) (fun c hc => ih c (List.mem_cons_of_mem _ hc)) r (by simpa only [chkAs] using h.2))
theorem or_ok : ∀ (cs : List E), (∀ c ∈ cs, Ok1 Γ LO T I K0 xt c) → ∀ {f : Fs} {es : List Expr} {E' : XK} {X : L2.Cx} {pos : Pos}, Frm Γ LO T I K0 E' f X → chkAs T xt cs false f es = true → PE X (.BoolOp .Or es pos) (tE Γ LO E' (evOr I cs))
  | [], _, _, _, _, _, _, _, h => by simp [chkAs] at h
  | [c], ih, f, es, E', X, pos, r, h => by
    cases es with
    | nil => simp [chkAs] at h
    | cons e es =>
      cases es with
      | nil =>
        simp only [chkAs] at h
        have e1 : evOr I [c] = evE I c := by funext σ h; rw [evOr]
        rw [e1]
        exact pe_one (ih c (by simp) _ _ _ _ _ r h).e
      | cons => simp [chkAs] at h
  | c :: c' :: cs, ih, f, es, E', X, pos, r, h => by
    cases es with
    | nil => simp [chkAs] at h
    | cons e es =>
      cases es with
      | nil => simp [chkAs] at h
      | cons e2 es =>
        simp only [chkAs, Bool.and_eq_true] at h
        have e1 : evOr I (c :: c' :: cs) = fun σ h => (evE I c σ h).bind fun (w, h1) => match truth h1 w with
          | some true => .ok (w, h1)
          | some false => evOr I (c' :: cs) σ h1
          | none => .no := by funext σ h; rw [evOr] <;> first | rfl | (intro z; cases z)
        rw [e1]
        exact e_or r.fx (ih c (by simp) _ _ _ _ _ r h.1).e (or_ok (c' :: cs) (fun c hc => ih c (List.mem_cons_of_mem _ hc)) r (by simpa only [chkAs] using h.2))
theorem tst_and {c : E} {cs : List E} (σ : Sl) (h : Hc) : tst (evAndT I (c :: cs) σ h) = (tst (evE I c σ h)).bind fun (b, h1) => if b then tst (evAndT I cs σ h1) else .ok (false, h1) := by
  rw [evAndT]
  cases tst (evE I c σ h) with
  | ok p =>
    obtain ⟨b, h1⟩ := p
    cases b <;> rfl
  | exc c h => rfl
  | no => rfl
theorem tst_or {c : E} {cs : List E} (σ : Sl) (h : Hc) : tst (evOrT I (c :: cs) σ h) = (tst (evE I c σ h)).bind fun (b, h1) => if b then .ok (true, h1) else tst (evOrT I cs σ h1) := by
  rw [evOrT]
  cases tst (evE I c σ h) with
  | ok p =>
    obtain ⟨b, h1⟩ := p
    cases b <;> rfl
  | exc c h => rfl
  | no => rfl
theorem res_eta {α : Type} (r : Res (Bool × α)) (f : Bool → α → Res (Bool × α)) (hf : ∀ b h, f b h = .ok (b, h)) : r.bind (fun (b, h1) => f b h1) = r := by
  cases r with
  | ok p => exact hf p.1 p.2
  | exc c h => rfl
  | no => rfl
theorem andT_ok : ∀ (cs : List E), (∀ c ∈ cs, Ok1 Γ LO T I K0 xt c) → ∀ {f : Fs} {es : List Expr} {E' : XK} {X : L2.Cx} {pos : Pos}, Frm Γ LO T I K0 E' f X → chkAs T xt cs true f es = true → PW X (.BoolOp .And es pos) (tT Γ LO E' fun sl h => tst (evAndT I cs sl h))
  | [], _, _, _, _, _, _, _, h => by simp [chkAs] at h
  | [c], ih, f, es, E', X, pos, r, h => by
    cases es with
    | nil => simp [chkAs] at h
    | cons e es =>
      cases es with
      | nil =>
        simp only [chkAs] at h
        have e1 : (fun sl h => tst (evAndT I [c] sl h)) = fun sl h => tst (evE I c sl h) := by
          funext σ h
          rw [tst_and]
          cases tst (evE I c σ h) with
          | ok p =>
            obtain ⟨b, h1⟩ := p
            cases b
            · rfl
            · show tst (evAndT I [] σ h1) = _
              rw [evAndT]
              rfl
          | exc c h => rfl
          | no => rfl
        rw [e1]
        exact pw_and1 (ih c (by simp) _ _ _ _ _ r h).t
      | cons => simp [chkAs] at h
  | c :: c' :: cs, ih, f, es, E', X, pos, r, h => by
    cases es with
    | nil => simp [chkAs] at h
    | cons e es =>
      cases es with
      | nil => simp [chkAs] at h
      | cons e2 es =>
        simp only [chkAs, Bool.and_eq_true] at h
        have e1 : (fun sl h => tst (evAndT I (c :: c' :: cs) sl h)) = fun sl h => (tst (evE I c sl h)).bind fun (b, h1) => if b then tst (evAndT I (c' :: cs) sl h1) else .ok (false, h1) := by
          funext σ h
          exact tst_and σ h
        rw [e1]
        exact w_and r.fx (ih c (by simp) _ _ _ _ _ r h.1).t (andT_ok (c' :: cs) (fun c hc => ih c (List.mem_cons_of_mem _ hc)) r (by simpa only [chkAs] using h.2))
theorem orT_ok : ∀ (cs : List E), (∀ c ∈ cs, Ok1 Γ LO T I K0 xt c) → ∀ {f : Fs} {es : List Expr} {E' : XK} {X : L2.Cx} {pos : Pos}, Frm Γ LO T I K0 E' f X → chkAs T xt cs true f es = true → PW X (.BoolOp .Or es pos) (tT Γ LO E' fun sl h => tst (evOrT I cs sl h))
  | [], _, _, _, _, _, _, _, h => by simp [chkAs] at h
  | [c], ih, f, es, E', X, pos, r, h => by
    cases es with
    | nil => simp [chkAs] at h
    | cons e es =>
      cases es with
      | nil =>
        simp only [chkAs] at h
        have e1 : (fun sl h => tst (evOrT I [c] sl h)) = fun sl h => tst (evE I c sl h) := by
          funext σ h
          rw [tst_or]
          cases tst (evE I c σ h) with
          | ok p =>
            obtain ⟨b, h1⟩ := p
            cases b
            · show tst (evOrT I [] σ h1) = _
              rw [evOrT]
              rfl
            · rfl
          | exc c h => rfl
          | no => rfl
        rw [e1]
        exact pw_or1 (ih c (by simp) _ _ _ _ _ r h).t
      | cons => simp [chkAs] at h
  | c :: c' :: cs, ih, f, es, E', X, pos, r, h => by
    cases es with
    | nil => simp [chkAs] at h
    | cons e es =>
      cases es with
      | nil => simp [chkAs] at h
      | cons e2 es =>
        simp only [chkAs, Bool.and_eq_true] at h
        have e1 : (fun sl h => tst (evOrT I (c :: c' :: cs) sl h)) = fun sl h => (tst (evE I c sl h)).bind fun (b, h1) => if b then .ok (true, h1) else tst (evOrT I (c' :: cs) sl h1) := by
          funext σ h
          exact tst_or σ h
        rw [e1]
        exact w_or r.fx (ih c (by simp) _ _ _ _ _ r h.1).t (orT_ok (c' :: cs) (fun c hc => ih c (List.mem_cons_of_mem _ hc)) r (by simpa only [chkAs] using h.2))
def prsOf (I : Ix) : List E → List ((Sl → Hc → RW) × (Sl → Hc → RW))
  | k :: v :: r => (evE I k, evE I v) :: prsOf I r
  | _ => []
theorem prs_ev : ∀ (cs : List E) {f : Fs} {ks : List (Option Expr)} {vs : List Expr}, chkPs T xt cs f ks vs = true → mPs (prsOf I cs) = evEs I cs
  | [], f, ks, vs, h => by rw [evEs_nil]; rfl
  | [c], f, ks, vs, h => by
    cases ks <;> cases vs <;> simp [chkPs] at h
  | k :: v :: r, f, ks, vs, h => by
    cases ks with
    | nil => cases vs <;> simp [chkPs] at h
    | cons x ks =>
      cases x with
      | none => cases vs <;> simp [chkPs] at h
      | some x =>
        cases vs with
        | nil => simp [chkPs] at h
        | cons y vs =>
          simp only [chkPs, Bool.and_eq_true] at h
          rw [evEs_cons, evEs_cons, ← prs_ev r h.2]
          funext σ hh
          show (evE I k σ hh).bind _ = _
          cases evE I k σ hh with
          | ok p =>
            show (evE I v σ p.2).bind _ = ((evE I v σ p.2).bind _).bind _
            cases evE I v σ p.2 with
            | ok p2 =>
              show (mPs (prsOf I r) σ p2.2).bind _ = ((mPs (prsOf I r) σ p2.2).bind _).bind _
              cases mPs (prsOf I r) σ p2.2 <;> rfl
            | exc c h => rfl
            | no => rfl
          | exc c h => rfl
          | no => rfl
theorem prs_ok : ∀ (cs : List E), (∀ c ∈ cs, Ok1 Γ LO T I K0 xt c) → ∀ {f : Fs} {ks : List (Option Expr)} {vs : List Expr} {E' : XK} {X : L2.Cx} {pos : Pos}, Frm Γ LO T I K0 E' f X → chkPs T xt cs f ks vs = true → PPs X pos ks vs (trsOf Γ LO E' (prsOf I cs)) ∧ ks.all (·.isSome) = true
  | [], _, f, ks, vs, E', X, pos, r, h => by
    cases ks <;> cases vs <;> simp [chkPs] at h
    exact ⟨pps_nil, rfl⟩
  | [c], _, f, ks, vs, E', X, pos, r, h => by
    cases ks <;> cases vs <;> simp [chkPs] at h
  | k :: v :: cs, ih, f, ks, vs, E', X, pos, r, h => by
    cases ks with
    | nil => cases vs <;> simp [chkPs] at h
    | cons x ks =>
      cases x with
      | none => cases vs <;> simp [chkPs] at h
      | some x =>
        cases vs with
        | nil => simp [chkPs] at h
        | cons y vs =>
          simp only [chkPs, Bool.and_eq_true] at h
          obtain ⟨h1, h2⟩ := prs_ok cs (fun c hc => ih c (List.mem_cons_of_mem _ (List.mem_cons_of_mem _ hc))) r h.2
          exact ⟨pps_cons (ih k (by simp) _ _ _ _ _ r h.1.1).e (ih v (by simp) _ _ _ _ _ r h.1.2).e h1, by rw [List.all_cons, h2]; rfl⟩
theorem prs_len : ∀ (cs : List E) {f : Fs} {ks : List (Option Expr)} {vs : List Expr}, chkPs T xt cs f ks vs = true → cs.length = 2 * ks.length
  | [], f, ks, vs, h => by cases ks <;> cases vs <;> simp [chkPs] at h; rfl
  | [c], f, ks, vs, h => by cases ks <;> cases vs <;> simp [chkPs] at h
  | k :: v :: cs, f, ks, vs, h => by
    cases ks with
    | nil => cases vs <;> simp [chkPs] at h
    | cons x ks =>
      cases x with
      | none => cases vs <;> simp [chkPs] at h
      | some x =>
        cases vs with
        | nil => simp [chkPs] at h
        | cons y vs =>
          simp only [chkPs, Bool.and_eq_true] at h
          have := prs_len cs h.2
          simp only [List.length_cons]
          omega
theorem PTsimp {X : L2.Cx} {is : List Expr} {t t' : TT} (h : PTs X is t) (i : ∀ σ H Q, t' σ H Q → t σ H Q) : PTs X is t' := ⟨fun pins s σ H Q I q => h.run pins s σ H Q I (i σ H Q q)⟩
theorem ts_nil {X : L2.Cx} {E' : XK} : PTs X [] (tT Γ LO E' fun _ h => .ok (true, h)) := PTsimp pts_nil fun σ H Q ⟨β, F, h, sl, R, S, q⟩ => Aft.ok (RA := AB) q R rfl
/-! ### all expressions -/
variable (hxt : ∀ {m : Bool} {f : Fs} {c : E} {e : Expr} {E' : XK} {X : L2.Cx}, Frm Γ LO T I K0 E' f X → xt f m c e = true → Rds Γ LO I E' X m c e)
include hxt
/-- the parts of a list comprehension -/
structure LcP (Γ : Gm) (LO : LamT) (I : Ix) (E' : XK) (f : Fs) (X : L2.Cx) (own : List Nat) (t : Tg) (ik : IK) (ies c : List E) (e : E) (elt tg iter : Expr) (ifs : List Expr) (scope : Scope) : Prop where
  hw : PI X tg iter (tW Γ LO E' ik (evEs I ies))
  ok : BlkOk X.N X.env.scope scope (ownOf f.N own)
  hsub : tgS t ⊆ (ownOf f.N own).map (·.2)
  hg : ∀ (s : Shared) (H : Hp) (C : Addr) (cl : List (Str × Addr)) (fp : List Addr), PG (X.blk s H scope (compEnvC scope cl C X.env) fp) tg (tG Γ LO t)
  ht : ∀ (s : Shared) (H : Hp) (C : Addr) (cl : List (Str × Addr)) (fp : List Addr), PTs (X.blk s H scope (compEnvC scope cl C X.env) fp) ifs (tT Γ LO Eno (evIf I c))
  he : ∀ (s : Shared) (H : Hp) (C : Addr) (cl : List (Str × Addr)) (fp : List Addr), PE (X.blk s H scope (compEnvC scope cl C X.env) fp) elt (tE Γ LO Eno (evE I e))
  hs : ∀ x, foldedSetIterable iter X.env x = pure x
omit hxt in
theorem lc_parts {f : Fs} {E' : XK} {X : L2.Cx} (r : Frm Γ LO T I K0 E' f X) {box m : Bool} {own : List Nat} {t : Tg} {ik : IK} {ies c : List E} {e : E} {elt tg iter : Expr} {ifs : List Expr} {scope : Scope} {pos : Pos}
    (ihl : ∀ c' ∈ ies, Ok1 Γ LO T I K0 xt c') (ihc : ∀ c' ∈ c, Ok1 Γ LO T I K0 xt c') (ihe : Ok1 Γ LO T I K0 xt e) (h : chkE T xt (.lc box own t ik ies c e) m f (.ListComp elt [⟨tg, iter, ifs, 0⟩] scope pos) = true) : LcP Γ LO I E' f X own t ik ies c e elt tg iter ifs scope := by
  unfold chkE at h
  simp only [Bool.and_eq_true, decide_eq_true_eq] at h
  obtain ⟨⟨⟨⟨⟨⟨h1, h2⟩, h3⟩, h4⟩, h5⟩, h6⟩, h7⟩ := h
  have ok : BlkOk X.N X.env.scope scope (ownOf f.N own) := by rw [r.N_, r.sc_]; exact blkC_ok h1
  refine ⟨walk_ok r ihl h5, ok, by rw [ownOf_snd]; exact h2, fun s H Ca cl fp => tgt_ok (f := f.blk scope) (r.blk ok s H Ca cl fp).fx r.N_ (fun x h => (r.blk ok s H Ca cl fp).loc h) t tg h4, fun s H Ca cl fp => ?_, fun s H Ca cl fp => (ihe _ _ _ _ _ (r.blk ok s H Ca cl fp) h7).e, fun x => setX_ok (by cases iter <;> first | rfl | exact h3) X.env x⟩
  split at h6
  · have e1 : evIf I [] = fun _ h => .ok (true, h) := by funext σ h; rw [evIf]
    rw [e1]
    exact ts_nil
  · rename_i c0 i0
    have e1 : evIf I [c0] = fun σ h => tst (evE I c0 σ h) := by funext σ h; rw [evIf]
    rw [e1]
    exact pts_one (ihc c0 (by simp) _ _ _ _ _ (r.blk ok s H Ca cl fp) h6).t
  · cases h6
omit hxt in
theorem ev_lc {box : Bool} {own : List Nat} {t : Tg} {ik : IK} {ies c : List E} {e : E} (sl : Sl) (h : Hc) : evE I (.lc box own t ik ies c e) sl h = walkK .no .exc unR ik (fun h => evEs I ies sl h) (fun xs h1 => (noX (turns (turnF t own (evIf I c) (evE I e) sl) xs h1)).bind fun (ys, h2) => mkL box ys h2) h := by rw [evE]; rfl
theorem ev_ok (n : Nat) : ∀ c : E, sizeOf c < n → Ok1 Γ LO T I K0 xt c := by
  induction n with
  | zero => exact fun c h => absurd h (Nat.not_lt_zero _)
  | succ n ih =>
    intro c hn m f e E' X r h
    have ihl : ∀ cs : List E, sizeOf cs < n → ∀ c ∈ cs, Ok1 Γ LO T I K0 xt c := fun cs hs c hc => ih c (Nat.lt_trans (List.sizeOf_lt_of_mem hc) hs)
    have C := r.fx
    unfold chkE at h
    split at h
    all_goals (try (simp only [Bool.and_eq_true, decide_eq_true_eq, Bool.not_eq_true'] at h))
    · -- var
      obtain ⟨⟨h1, h2⟩, h3⟩ := h
      obtain ⟨h4, h5⟩ := nmB_ok h3
      exact Rds.of C (e_var (by rw [r.N_]; exact h1) (r.vis h2) h4 h5) (by funext σ h; rw [evE] <;> rfl) (fun _ => rfl)
    · rename_i i j k pos
      subst h
      exact Rds.of C (e_lit (t := tC (.int i)) pe_int fun β F H => mk_int _) (by funext σ h; rw [evE] <;> rfl) (fun _ => rfl)
    · rename_i s x k pos
      subst h
      exact Rds.of C (e_lit (t := tC (.str (ofL s))) pe_str fun β F H => mk_str _) (by funext σ h; rw [evE] <;> rfl) (fun _ => rfl)
    · rename_i b c k pos
      have h := eq_of_beq h
      subst h
      exact Rds.of C (e_lit (t := tC (.bl b)) pe_bl fun β F H => mk_bl _) (by funext σ h; rw [evE] <;> rfl) (fun _ => rfl)
    · exact Rds.of C (e_lit (t := tC .non) pe_non fun β F H => mk_non) (by funext σ h; rw [evE] <;> rfl) (fun _ => rfl)
    · -- glob
      rename_i g x pos
      obtain ⟨h1, h2⟩ := h
      obtain ⟨h3, h4⟩ := r.gl h2
      refine Rds.of (M := fun _ h => match I.glob[g]? with
        | some w => .ok (w, h)
        | none => .no) C ?_ (by funext σ h; rw [evE] <;> rfl) (fun _ => rfl)
      cases eg : I.glob[g]? with
      | none => exact ⟨fun pins s σ H Q I0 ⟨β, F, h, sl, R, S, q⟩ => q.elim⟩
      | some w =>
        obtain ⟨u, v, g1, g2, g3⟩ := r.wd.glob g w _ eg h1
        exact e_lit (t := tC v) (pe_glob h3 g1 g2 h4) g3
    · -- bin
      rename_i box op a b l op' rr pos
      obtain ⟨⟨h1, h2⟩, h3⟩ := h
      subst h1
      exact Rds.of C (e_bin (box := box) C (ih a (by simp at hn; omega) _ _ _ _ _ r h2).e (ih b (by simp at hn; omega) _ _ _ _ _ r h3).e) (by funext σ h; rw [evE] <;> rfl) (fun _ => rfl)
    · rename_i a e pos
      exact Rds.of C (e_neg C (ih a (by simp at hn; omega) _ _ _ _ _ r h).e) (by funext σ h; rw [evE] <;> rfl) (fun _ => rfl)
    · -- not
      rename_i a e pos
      have hM : evE I (.not a) = fun σ h => (tst (evE I a σ h)).bind fun (b, h1) => .ok (.bl (!b), h1) := by funext σ h; rw [evE] <;> rfl
      have ia := ih a (by simp at hn; omega) _ _ _ _ _ r h
      refine ⟨fun e => ?_, fun e => ?_⟩
      · subst e
        rw [hM]
        exact e_not C ia.e
      · subst e
        rw [hM]
        exact t_not C ia.t
    · -- and
      rename_i es l pos
      have hM : evE I (.and es) = evAnd I es := by funext σ h; rw [evE] <;> rfl
      refine ⟨fun _ => ?_, fun e => ?_⟩
      · rw [hM]
        exact and_ok es (ihl es (by simp at hn; omega)) r h.2
      · rw [e] at h; cases h.1
    · rename_i es l pos
      have hM : evE I (.or es) = evOr I es := by funext σ h; rw [evE] <;> rfl
      refine ⟨fun _ => ?_, fun e => ?_⟩
      · rw [hM]
        exact or_ok es (ihl es (by simp at hn; omega)) r h.2
      · rw [e] at h; cases h.1
    · rename_i es l pos
      have hM : evE I (.andT es) = evAndT I es := by funext σ h; rw [evE] <;> rfl
      refine ⟨fun e => ?_, fun _ => ?_⟩
      · rw [e] at h; cases h.1
      · rw [hM]
        exact (andT_ok es (ihl es (by simp at hn; omega)) r h.2).pt
    · rename_i es l pos
      have hM : evE I (.orT es) = evOrT I es := by funext σ h; rw [evE] <;> rfl
      refine ⟨fun e => ?_, fun _ => ?_⟩
      · rw [e] at h; cases h.1
      · rw [hM]
        exact (orT_ok es (ihl es (by simp at hn; omega)) r h.2).pt
    · -- cmp
      rename_i op a b l op' rr pos
      obtain ⟨⟨⟨h1, h2⟩, h3⟩, h4⟩ := h
      subst h1
      have hM : evE I (.cmp op a b) = mCmp op (evE I a) (evE I b) := by funext σ h; rw [evE] <;> rfl
      have ia := (ih a (by simp at hn; omega) _ _ _ _ _ r h3).e
      have ib := (ih b (by simp at hn; omega) _ _ _ _ _ r h4).e
      exact ⟨fun _ => by rw [hM]; exact e_cmp C ia ib h2, fun _ => by rw [hM]; exact t_cmp C ia ib h2⟩
    · rename_i op op' a b c l p p' rr t pos
      obtain ⟨⟨⟨⟨⟨h1, h2⟩, h3⟩, h4⟩, h5⟩, h6⟩ := h
      subst h1 h2
      have hM : evE I (.cmp2 op op' a b c) = mCmp2 op op' (evE I a) (evE I b) (evE I c) := by funext σ h; rw [evE] <;> rfl
      have ia := (ih a (by simp at hn; omega) _ _ _ _ _ r h4).e
      have ib := (ih b (by simp at hn; omega) _ _ _ _ _ r h5).e
      have ic := (ih c (by simp at hn; omega) _ _ _ _ _ r h6).e
      exact ⟨fun _ => by rw [hM]; exact e_cmp2 C ia ib ic h3, fun _ => by rw [hM]; exact t_cmp2 C ia ib ic h3⟩
    · -- ifx
      rename_i c a b t x y pos
      obtain ⟨⟨⟨h1, h2⟩, h3⟩, h4⟩ := h
      have hM : evE I (.ifx c a b) = fun σ h => (tst (evE I c σ h)).bind fun (k, h1) => if k then evE I a σ h1 else evE I b σ h1 := by funext σ h; rw [evE] <;> rfl
      refine ⟨fun _ => ?_, fun e => ?_⟩
      · rw [hM]
        exact e_ifx C (ih c (by simp at hn; omega) _ _ _ _ _ r h2).t (ih a (by simp at hn; omega) _ _ _ _ _ r h3).e (ih b (by simp at hn; omega) _ _ _ _ _ r h4).e
      · rw [e] at h1; cases h1
    · -- tup
      rename_i es l k pos
      exact Rds.of C (e_tup C (es_ok es (ihl es (by simp at hn; omega)) r h.2) (len_es es) (by have := chkEs_len h.2; have := h.1; show _ ≤ 16777216; omega)) (by funext σ h; rw [evE] <;> rfl) (fun _ => rfl)
    · rename_i box es l pos
      exact Rds.of C (e_lst (box := box) C (es_ok es (ihl es (by simp at hn; omega)) r h.2) (len_es es) (by have := chkEs_len h.2; have := h.1; show _ ≤ 16777216; omega)) (by funext σ h; rw [evE] <;> rfl) (fun _ => rfl)
    · -- dic
      rename_i es ks vs pos
      obtain ⟨⟨h1, h2⟩, h3⟩ := h
      have hM : evE I (.dic es) = fun sl h => (mPs (prsOf I es) sl h).bind fun (ws, h1) => match dicOf [] ws with
        | some kvs => .ok (.ref h1.length, h1 ++ [.dic false kvs])
        | none => .no := by funext σ h; rw [prs_ev es h3, evE] <;> rfl
      obtain ⟨p1, p2⟩ := prs_ok (pos := pos) es (ihl es (by simp at hn; omega)) r h3
      have pl := prs_len es h3
      by_cases h0 : ks = []
      · subst h0
        have e1 : es = [] := List.length_eq_zero_iff.mp (by simpa using pl)
        have e2 : vs = [] := List.length_eq_zero_iff.mp (by rw [← h2]; rfl)
        subst e1 e2
        refine Rds.of (M := fun _ h => .ok (.ref h.length, h ++ [.dic false []])) C (e_dic0 C) ?_ (fun _ => rfl)
        rw [hM]
        rfl
      · exact Rds.of C (e_dic C p1 p2 h2 h0 h1 (fun sl h ws h1 e => by
          rw [prs_ev es h3] at e
          rw [len_es es sl h ws h1 e]
          omega)) hM (fun _ => rfl)
    · -- idx
      rename_i a i x y pos
      exact Rds.of C (e_idx C (ih a (by simp at hn; omega) _ _ _ _ _ r h.1.2).e (ih i (by simp at hn; omega) _ _ _ _ _ r h.2).e h.1.1) (by funext σ h; rw [evE] <;> rfl) (fun _ => rfl)
    · -- slice
      rename_i box a lo hi x l u p2 pos
      obtain ⟨⟨h1, h2⟩, h3⟩ := h
      have part : ∀ (c : E) (o : Option Expr), sizeOf c < n → (match o with
          | none => (match c with | .lit .non => true | _ => false)
          | some l => chkE T xt c false f l) = true → PO X o (tPt Γ LO E' fun sl h => partR (evE I c sl h)) := fun c o hs h => by
        cases o with
        | none =>
          dsimp only at h
          split at h
          · have e1 : (fun (sl : Sl) h => partR (evE I (.lit .non) sl h)) = fun _ h => partR (.ok (.non, h)) := by funext σ h; rw [evE] <;> rfl
            rw [e1]
            exact po_none'
          · cases h
        | some l => exact po_some' (ih c hs _ _ _ _ _ r h).e
      exact Rds.of C (e_slice (box := box) C (ih a (by simp at hn; omega) _ _ _ _ _ r h1).e (part lo l (by simp at hn; omega) h2) (part hi u (by simp at hn; omega) h3)) (by funext σ h; rw [evE] <;> rfl) (fun _ => rfl)
    · -- rev
      rename_i box a x k p1 p2 p3 pos
      exact Rds.of C (e_rev (box := box) C (ih a (by simp at hn; omega) _ _ _ _ _ r h).e) (by funext σ h; rw [evE] <;> rfl) (fun _ => rfl)
    · -- attr
      rename_i o a x y pos
      obtain ⟨⟨h1, h2⟩, h3⟩ := h
      exact Rds.of C (e_attr C r.wd.cf (f := a) (ih o (by simp at hn; omega) _ _ _ _ _ r h3).e h2 (by rw [← r.wd.nm]; exact h1)) (by funext σ h; rw [evE] <;> rfl) (fun _ => rfl)
    · -- call
      rename_i iso g es x p l pos
      obtain ⟨⟨⟨⟨h1, h0⟩, h2⟩, h3⟩, h4⟩ := h
      obtain ⟨g1, g2⟩ := r.gl h2
      obtain ⟨fa, m1, m2⟩ := r.wd.call g _ h1 h0
      have hl := len_es (I := I) es
      rw [chkEs_len h4] at hl
      exact Rds.of C (e_call (iso := iso) C r.tk m2 (r.room.mono (Nat.le_succ _)) g1 m1 g2 (es_ok es (ihl es (by simp at hn; omega)) r h4) (nil_es h4) h3 hl) (by funext σ h; rw [evE] <;> rfl) (fun _ => rfl)
    · -- new
      rename_i Cn es x p l pos
      obtain ⟨⟨⟨h1, h2⟩, h3⟩, h4⟩ := h
      obtain ⟨g1, g2⟩ := r.gl h2
      have hl := len_es (I := I) es
      rw [chkEs_len h4] at hl
      cases ei : I.init Cn with
      | none =>
        refine Rds.of (M := fun _ _ => .no) C ⟨fun pins s σ H Q I0 ⟨β, F, h, sl, R, S, q⟩ => q.elim⟩ ?_ (fun _ => rfl)
        funext σ h
        rw [evE, ei]
      | some fi =>
        obtain ⟨fa, m1, m2, m3⟩ := r.wd.new_ Cn _ fi h1 ei
        refine Rds.of C (e_new (Cn := Cn) C r.tk m3 m2 r.room g1 m1 g2 (es_ok es (ihl es (by simp at hn; omega)) r h4) (nil_es h4) h3 hl) ?_ (fun _ => rfl)
        funext σ h
        rw [evE, ei]
    · -- meth
      rename_i o a es x y apos l pos
      obtain ⟨⟨⟨⟨⟨⟨h1, h2⟩, h3⟩, h4⟩, h5⟩, h6⟩, h7⟩ := h
      have hl := len_es (I := I) es
      rw [chkEs_len h7] at hl
      have hy : Γ.nm[a]? = some y := by rw [← r.wd.nm]; exact h1
      exact Rds.of C (e_meth C r.tk r.wd.cf (k := K0) (mi := a) hy (fun Cn f' hi hm => r.wd.meth Cn a f' y hi hm hy) (r.room.mono (Nat.le_succ _)) (ih o (by simp at hn; omega) _ _ _ _ _ r h6).e (es_ok es (ihl es (by simp at hn; omega)) r h7) (nil_es h7) h2 h3 h4 h5) (by funext σ h; rw [evE] <;> rfl) (fun _ => rfl)
    · -- bi
      rename_i b box es x p l pos
      obtain ⟨⟨⟨⟨h1, h2⟩, h3⟩, h4⟩, h5⟩ := h
      subst h1
      obtain ⟨g1, g2⟩ := r.gl h2
      cases l with
      | nil => simp at h4
      | cons e0 l =>
        exact Rds.of C (e_bi (b := b) (box := box) C g1 (r.wd.bltn _ (biN_mem b)) h3 (es_ok es (ihl es (by simp at hn; omega)) r h5)) (by funext σ h; rw [evE] <;> rfl) (fun _ => rfl)
    · -- bm
      rename_i b box o es x y apos l pos
      obtain ⟨⟨⟨⟨⟨⟨h1, h2⟩, h3⟩, h4⟩, h5⟩, h6⟩, h7⟩ := h
      subst h1
      exact Rds.of C (e_bm (b := b) (box := box) C (ih o (by simp at hn; omega) _ _ _ _ _ r h6).e (es_ok es (ihl es (by simp at hn; omega)) r h7) (nil_es h7) h2 h3 h4 h5) (by funext σ h; rw [evE] <;> rfl) (fun _ => rfl)
    · -- told
      rename_i t e x p params body scope lp pos
      obtain ⟨⟨⟨⟨⟨h1, h2⟩, h3⟩, h4⟩, h5⟩, h6⟩ := h
      obtain ⟨g1, g2⟩ := r.gl h3
      obtain ⟨k1, k2, k3, _⟩ := r.lam h1
      have L : LamX.LamS X.env.scope scope := by rw [r.sc_]; exact LamX.lamS_by h4
      have hpar := noPar_ok h5
      subst hpar
      exact Rds.of C (e_told C (k := K0 + 1) g1 (k3 t _ h2) k2 k1 L rfl (fun q cl pm cv ctv => rfl) (fun A outer s H E2 g c' hr => (ih e (by simp at hn; omega) _ _ _ _ _ (r.inLam L hr) h6).e)) (by funext σ h; rw [evE] <;> rfl) (fun _ => rfl)
    · -- lc
      rename_i box own t ik ies c e elt tg iter ifs scope pos
      have P := lc_parts (box := box) (m := m) (pos := pos) (c := c) (e := e) (ifs := ifs) (elt := elt) r (ihl ies (by simp at hn; omega)) (ihl c (by simp at hn; omega)) (ih e (by simp at hn; omega)) (by unfold chkE; simp only [Bool.and_eq_true, decide_eq_true_eq]; exact h)
      have key := e_lc1 (box := box) (pos := pos) C P.hw P.ok P.hsub P.hg P.ht P.he P.hs
      refine Rds.of C (e_lock (M' := evE I (.lc box own t ik ies c e)) C key fun sl h => ?_) rfl (fun _ => rfl)
      rw [ownOf_snd, ev_lc]
      exact walkK_E h
    · exact hxt r h
end
end PyI

set_option Elab.async false
set_option linter.all false
set_option maxRecDepth 100000
set_option maxHeartbeats 1000000
/-! PyI19: statements: what the interpreter tells is so. -/
namespace PyI
open PySem PySem.Spec PyProof.Rows L2
/-- the local names on one line that a row of targets is -/
def swNames (sc : Scope) (ts : List Expr) : List Str := ts.filterMap fun
  | .Name id pos => if sc.names.lookup id == some .local && pos.line == (ts.head?.map (·.pos.line)).getD 0 then some id else none
  | _ => none
theorem sw_none {sc : Scope} {env : Env} (he : env.scope = sc) {ts vs : List Expr} {k k2 : Nat} {p p2 : Pos} (h : (!(ts.length == 2 || ts.length == 3) || (swNames sc ts).length != ts.length) = true) : swappedStores [.Tuple ts k p] (.Tuple vs k2 p2) env = pure none := by
  subst he
  unfold swappedStores
  dsimp only
  split
  · rfl
  · rename_i h1
    split
    · rfl
    · have h3 : ((swNames env.scope ts).length != ts.length || (swNames env.scope ts).eraseDups.length != (swNames env.scope ts).length) = true := by
        rw [Bool.or_eq_true] at h
        rcases h with h | h
        · exfalso
          apply h1
          rw [h]
          rfl
        · rw [h]; rfl
      exact if_pos h3
theorem sw_some {sc : Scope} {env : Env} (he : env.scope = sc) (hk : sc.kind = .function) {ts vs : List Expr} {k k2 : Nat} {p p2 : Pos} (h0 : (ts.length == 2 || ts.length == 3) = true) (hl : (vs.length == ts.length) = true) (hv : vs.all plainX = true) (hn : ((swNames sc ts).length == ts.length) = true)
    (hd : ((swNames sc ts).eraseDups.length == (swNames sc ts).length) = true) (hf : vs.all (foldedForSure 8) = false) (hc : vs.all (constantsAlone 8) = false) : swappedStores [.Tuple ts k p] (.Tuple vs k2 p2) env = pure (some (swNames sc ts)) := by
  subst he
  unfold swappedStores
  dsimp only
  have hb : env.blockKind = .function := by unfold Env.blockKind; rw [hk]; rfl
  have h1 : ¬ (!(ts.length == 2 || ts.length == 3) || vs.length != ts.length || env.blockKind != .function) = true := by
    rw [h0, hb]
    simp only [bne, hl]
    decide
  have h2 : ¬ (vs.any fun | .Starred .. => true | _ => false) = true := by
    rw [List.any_eq_true]
    rintro ⟨x, hx, e⟩
    have := List.all_eq_true.mp hv x hx
    cases x <;> first | (cases e; done) | (cases this; done)
  have h3 : ¬ ((swNames env.scope ts).length != ts.length || (swNames env.scope ts).eraseDups.length != (swNames env.scope ts).length) = true := by
    simp only [bne, hn, hd]
    decide
  refine (if_neg h1).trans ((if_neg h2).trans ((if_neg h3).trans ?_))
  rw [hf, if_neg Bool.false_ne_true, hc]
  exact if_neg Bool.false_ne_true
theorem swaps_sub {e o i : Expr} {p : Pos} {l : Nat} {env : Env} : swapsWith e (some (.Subscript o i p)) l env = pure false := by cases e <;> rfl
theorem swaps_attr {e o : Expr} {y : Str} {p : Pos} {l : Nat} {env : Env} : swapsWith e (some (.Attribute o y p)) l env = pure false := by cases e <;> rfl
theorem swaps_tup {e : Expr} {ts : List Expr} {k : Nat} {p : Pos} {l : Nat} {env : Env} : swapsWith e (some (.Tuple ts k p)) l env = pure false := by cases e <;> rfl
/-- a target and a value that are stored without more ado -/
def asgB : Expr → Expr → Bool
  | .Name _ _, e => compX e
  | .Tuple _ _ _, e => !isTup e
  | _, _ => false
theorem asgB_ok {tg e : Expr} (h : asgB tg e = true) (l : Nat) (env : Env) : swapsWithSole [tg] e l env = pure false ∧ swappedStores [tg] e env = pure none ∧ plainX tg = true := by
  cases tg <;> simp only [asgB, Bool.false_eq_true] at h
  · rename_i x p
    exact ⟨(show swapsWith e (some (.Name x p)) l env = pure false from swaps_no h _ _ _), by cases e <;> rfl, rfl⟩
  · rename_i ts k p
    refine ⟨(show swapsWith e (some (.Tuple ts k p)) l env = pure false from swaps_tup), ?_, rfl⟩
    cases e <;> first | rfl | (cases h; done)
def chkPT (T : Tb) (xt : Fs → Bool → E → Expr → Bool) (f : Fs) : PTg → Expr → Bool
  | .n i, .Name x _ => decide (f.N[i]? = some x) && locB f x
  | .s o i, .Subscript x y _ => sliceX y && chkE T xt o false f x && chkE T xt i false f y
  | .a o a, .Attribute x y _ => decide (T.nm[a]? = some y) && chkE T xt o false f x
  | _, _ => false
def chkPTs (T : Tb) (xt : Fs → Bool → E → Expr → Bool) (f : Fs) : List PTg → List Expr → Bool
  | [], [] => true
  | t :: ts, e :: es => chkPT T xt f t e && chkPTs T xt f ts es
  | _, _ => false
def isDoc : Stmt → Bool
  | .Expr (.Constant (.str _) _ _) _ => true
  | _ => false
mutual
def chkS (T : Tb) (xt : Fs → Bool → E → Expr → Bool) (xs : Fs → S → Stmt → Bool) : S → Fs → Stmt → Bool
  | .pass, _, .Pass _ => true
  | .brk, _, .Break _ => true
  | .cnt, _, .Continue _ => true
  | .expr e, f, .Expr x _ => compX x && chkE T xt e false f x
  | .ret [], _, .Return none _ => true
  | .ret [e], f, .Return (some x) _ => chkE T xt e false f x
  | .asg (.one i) (.lc box own t ik ies c e), f, .Assign [.Name y py] (.ListComp elt [⟨tg, iter, ifs, 0⟩] scope pos) _ => decide (f.N[i]? = some y) && decide (f.sc.names.lookup y = some .local) && (py.line == pos.line) && !(scope.names.any fun (n, k) => n == y && (k == .local || k == .cell)) && chkE T xt (.lc box own t ik ies c e) false f (.ListComp elt [⟨tg, iter, ifs, 0⟩] scope pos)
  | .asg t e, f, .Assign [tg] x _ => asgB tg x && chkG f t tg && chkE T xt e false f x
  | .setSub o i e, f, .Assign [.Subscript x y _] v _ => sliceX y && chkE T xt o false f x && chkE T xt i false f y && chkE T xt e false f v
  | .setAttr o a e, f, .Assign [.Attribute x y _] v _ => decide (T.nm[a]? = some y) && chkE T xt o false f x && chkE T xt e false f v
  | .par [.n i, .n j] es, f, .Assign [.Tuple [.Name x px, .Name y py] _ _] (.Tuple [a, b] _ _) _ => if (swNames f.sc [.Name x px, .Name y py]).length == 2 then
      decide (f.N[i]? = some x) && decide (f.N[j]? = some y) && decide (i ≠ j) && decide (f.sc.names.lookup x = some .local) && decide (f.sc.names.lookup y = some .local) && plainX a && plainX b &&
      decide (swNames f.sc [.Name x px, .Name y py] = [x, y]) && ([x, y].eraseDups.length == 2) && !([a, b].all (foldedForSure 8)) && !([a, b].all (constantsAlone 8)) && chkEs T xt es f [a, b]
    else locB f x && locB f y && decide (f.N[i]? = some x) && decide (f.N[j]? = some y) && chkEs T xt es f [a, b]
  | .par [.n i, .n j, .n l] es, f, .Assign [.Tuple [.Name x px, .Name y py, .Name z pz] _ _] (.Tuple [a, b, c] _ _) _ => if (swNames f.sc [.Name x px, .Name y py, .Name z pz]).length == 3 then
      decide (f.N[i]? = some x) && decide (f.N[j]? = some y) && decide (f.N[l]? = some z) && decide (i ≠ j) && decide (i ≠ l) && decide (j ≠ l) && decide (f.sc.names.lookup x = some .local) && decide (f.sc.names.lookup y = some .local) && decide (f.sc.names.lookup z = some .local) && plainX a && plainX b && plainX c &&
      decide (swNames f.sc [.Name x px, .Name y py, .Name z pz] = [x, y, z]) && ([x, y, z].eraseDups.length == 3) && !([a, b, c].all (foldedForSure 8)) && !([a, b, c].all (constantsAlone 8)) && chkEs T xt es f [a, b, c]
    else locB f x && locB f y && locB f z && decide (f.N[i]? = some x) && decide (f.N[j]? = some y) && decide (f.N[l]? = some z) && chkEs T xt es f [a, b, c]
  | .par ts es, f, .Assign [.Tuple tgs _ _] (.Tuple vs _ _) _ => (!(tgs.length == 2 || tgs.length == 3) || (swNames f.sc tgs).length != tgs.length) && decide (tgs.length = vs.length) && decide (vs.length ≤ 1000) && tgs.all plainX && chkPTs T xt f ts tgs && chkEs T xt es f vs
  | .augN i op e, f, .AugAssign (.Name x _) op' v _ => decide (f.N[i]? = some x) && locB f x && decide (op = op') && chkE T xt e false f v
  | .augA o a op e, f, .AugAssign (.Attribute x y _) op' v _ => decide (T.nm[a]? = some y) && decide (op = op') && chkE T xt o false f x && chkE T xt e false f v
  | .augS o i op e, f, .AugAssign (.Subscript x y _) op' v _ => sliceX y && decide (op = op') && chkE T xt o false f x && chkE T xt i false f y && chkE T xt e false f v
  | .del o i, f, .Delete [.Subscript x y _] _ => chkE T xt o false f x && chkE T xt i false f y
  | .ite c a b, f, .If t x y _ => chkE T xt c true f t && chkB T xt xs a f x && chkB T xt xs b f y
  | .whl c b, f, .While t x [] _ => chkE T xt c true f t && chkB T xt xs b f x
  | .for t ik ies b, f, .For tg iter x [] _ => setB iter && chkG f t tg && chkW T xt f ik ies tg iter && chkB T xt xs b f x
  | .raise c, f, .Raise (some (.Call (.Name x _) [.Constant (.str _) _ _] [] _)) none _ => decide (T.en[c]? = some x) && glB f.sc x
  | c, f, st => xs f c st
def chkB (T : Tb) (xt : Fs → Bool → E → Expr → Bool) (xs : Fs → S → Stmt → Bool) : List S → Fs → List Stmt → Bool
  | [], _, [] => true
  | c :: cs, f, s :: ss => chkS T xt xs c f s && chkB T xt xs cs f ss
  | _, _, _ => false
end
/-- a def's text but for its own words on it -/
def undoc : List Stmt → List Stmt
  | s :: r => if isDoc s then undoc r else s :: r
  | [] => []
section
variable {Γ : Gm} {LO : LamT} {T : Tb} {I : Ix} {K0 : Nat} {xt : Fs → Bool → E → Expr → Bool} {xs : Fs → S → Stmt → Bool}
structure FrmS (Γ : Gm) (LO : LamT) (T : Tb) (I : Ix) (K0 : Nat) (E : XK) (f : Fs) (X : L2.Cx) : Prop extends Frm Γ LO T I K0 E f X where
  own : PassesOwn (model X.prog X.w) X.A X.env X.xe
def OkS (Γ : Gm) (LO : LamT) (T : Tb) (I : Ix) (K0 : Nat) (xt : Fs → Bool → E → Expr → Bool) (xs : Fs → S → Stmt → Bool) (c : S) : Prop := ∀ (f : Fs) (s : Stmt) (E' : XK) (X : L2.Cx), FrmS Γ LO T I K0 E' f X → chkS T xt xs c f s = true → PS X s (tS Γ LO E' (exS I c))
def OkB (Γ : Gm) (LO : LamT) (T : Tb) (I : Ix) (K0 : Nat) (xt : Fs → Bool → E → Expr → Bool) (xs : Fs → S → Stmt → Bool) (c : List S) : Prop := ∀ (f : Fs) (s : List Stmt) (E' : XK) (X : L2.Cx), FrmS Γ LO T I K0 E' f X → chkB T xt xs c f s = true → PSs X s (tS Γ LO E' (exB I c))
/-- targets in a row -/
theorem stPTs_nil : stPTs I [] = fun ws sl h => match ws with
    | [] => .nx sl h
    | _ => .no := by
  funext ws sl h
  cases ws <;> rfl
theorem stPTs_cons {t : PTg} {ts : List PTg} : stPTs I (t :: ts) = fun ws sl h => match ws with
    | w :: ws => (stPT I t w sl h).then fun sl h => stPTs I ts ws sl h
    | [] => .no := by
  funext ws sl h
  cases ws <;> rfl
theorem stPT_pl (t : PTg) (w : W) (sl : Sl) (h : Hc) : Out.Pl (stPT I t w sl h) := by
  cases t with
  | n i =>
    show Out.Pl (if i < sl.length then .nx (sl.set i (.v w)) h else .no)
    by_cases hh : i < sl.length
    · rw [if_pos hh]; exact Out.pl_nx
    · rw [if_neg hh]; exact Out.pl_no
  | s o i => exact Out.pl_of _ fun p => Out.pl_of _ fun p2 => Out.pl_nxO
  | a o f => exact Out.pl_of _ fun p => Out.pl_nxO
theorem stPTs_pl : ∀ (ts : List PTg) (ws : List W) (sl : Sl) (h : Hc), Out.Pl (stPTs I ts ws sl h)
  | [], ws, sl, h => by
    rw [stPTs_nil]
    cases ws
    · exact Out.pl_nx
    · exact Out.pl_no
  | t :: ts, ws, sl, h => by
    rw [stPTs_cons]
    cases ws
    · exact Out.pl_no
    · exact Out.pl_then (stPT_pl t _ sl h) fun sl h => stPTs_pl ts _ sl h
theorem s_le {X : L2.Cx} {E' : XK} {st : Stmt} {m m' : Sl → Hc → Out} (h : PS X st (tS Γ LO E' m)) (hm : ∀ sl h, m' sl h = m sl h ∨ m' sl h = .no) : PS X st (tS Γ LO E' m') := PSimp h fun D σ H ⟨β, F, h, sl, R, S, q⟩ => ⟨β, F, h, sl, R, S, by
  rcases hm sl h with z | z
  · rw [← z]; exact q
  · rw [z] at q; exact q.elim⟩
theorem par2_le {i j : Nat} {sl : Sl} {r : RWs} : Out.of r (fun (ws, h1) => stPTs I [.n i, .n j] ws sl h1) = Out.of r (fun (ws, h1) => match ws with
    | [w1, w2] => .nx ((sl.set i (.v w1)).set j (.v w2)) h1
    | _ => .no) ∨ Out.of r (fun (ws, h1) => stPTs I [.n i, .n j] ws sl h1) = .no := by
  cases r with
  | exc c h => exact .inl rfl
  | no => exact .inl rfl
  | ok p =>
    obtain ⟨ws, h1⟩ := p
    show stPTs I [.n i, .n j] ws sl h1 = _ ∨ stPTs I [.n i, .n j] ws sl h1 = .no
    rw [stPTs_cons]
    cases ws with
    | nil => exact .inr rfl
    | cons w1 ws =>
      show (stPT I (.n i) w1 sl h1).then _ = _ ∨ (stPT I (.n i) w1 sl h1).then _ = .no
      have e1 : stPT I (.n i) w1 sl h1 = if i < sl.length then .nx (sl.set i (.v w1)) h1 else .no := rfl
      rw [e1]
      by_cases hi : i < sl.length
      · rw [if_pos hi]
        show stPTs I [.n j] ws (sl.set i (.v w1)) h1 = _ ∨ stPTs I [.n j] ws (sl.set i (.v w1)) h1 = .no
        rw [stPTs_cons]
        cases ws with
        | nil => exact .inr rfl
        | cons w2 ws =>
          show (stPT I (.n j) w2 (sl.set i (.v w1)) h1).then _ = _ ∨ (stPT I (.n j) w2 (sl.set i (.v w1)) h1).then _ = .no
          have e2 : stPT I (.n j) w2 (sl.set i (.v w1)) h1 = if j < (sl.set i (.v w1)).length then .nx ((sl.set i (.v w1)).set j (.v w2)) h1 else .no := rfl
          rw [e2]
          by_cases hj : j < (sl.set i (.v w1)).length
          · rw [if_pos hj]
            show stPTs I [] ws _ h1 = _ ∨ stPTs I [] ws _ h1 = .no
            rw [stPTs_nil]
            cases ws with
            | nil => exact .inl rfl
            | cons => exact .inr rfl
          · rw [if_neg hj]; exact .inr rfl
      · rw [if_neg hi]; exact .inr rfl
theorem par3_le {i j l : Nat} {sl : Sl} {r : RWs} : Out.of r (fun (ws, h1) => stPTs I [.n i, .n j, .n l] ws sl h1) = Out.of r (fun (ws, h1) => match ws with
    | [w1, w2, w3] => .nx (((sl.set i (.v w1)).set j (.v w2)).set l (.v w3)) h1
    | _ => .no) ∨ Out.of r (fun (ws, h1) => stPTs I [.n i, .n j, .n l] ws sl h1) = .no := by
  cases r with
  | exc c h => exact .inl rfl
  | no => exact .inl rfl
  | ok p =>
    obtain ⟨ws, h1⟩ := p
    show stPTs I [.n i, .n j, .n l] ws sl h1 = _ ∨ stPTs I [.n i, .n j, .n l] ws sl h1 = .no
    rw [stPTs_cons]
    cases ws with
    | nil => exact .inr rfl
    | cons w1 ws =>
      show (stPT I (.n i) w1 sl h1).then _ = _ ∨ (stPT I (.n i) w1 sl h1).then _ = .no
      have e1 : stPT I (.n i) w1 sl h1 = if i < sl.length then .nx (sl.set i (.v w1)) h1 else .no := rfl
      rw [e1]
      by_cases hi : i < sl.length
      · rw [if_pos hi]
        show stPTs I [.n j, .n l] ws (sl.set i (.v w1)) h1 = _ ∨ stPTs I [.n j, .n l] ws (sl.set i (.v w1)) h1 = .no
        rcases par2_le (I := I) (i := j) (j := l) (sl := sl.set i (.v w1)) (r := .ok (ws, h1)) with z | z
        · refine .inl ((show stPTs I [.n j, .n l] ws (sl.set i (.v w1)) h1 = _ from z).trans ?_)
          cases ws with
          | nil => rfl
          | cons w2 ws =>
            cases ws with
            | nil => rfl
            | cons w3 ws => cases ws <;> rfl
        · exact .inr z
      · rw [if_neg hi]; exact .inr rfl
variable (hxt : ∀ {m : Bool} {f : Fs} {c : E} {e : Expr} {E' : XK} {X : L2.Cx}, Frm Γ LO T I K0 E' f X → xt f m c e = true → Rds Γ LO I E' X m c e)
include hxt
theorem ev (c : E) {f : Fs} {e : Expr} {E' : XK} {X : L2.Cx} (r : Frm Γ LO T I K0 E' f X) (h : chkE T xt c false f e = true) : PE X e (tE Γ LO E' (evE I c)) := (ev_ok hxt _ c (Nat.lt_succ_self _) _ _ _ _ _ r h).e
theorem evT (c : E) {f : Fs} {e : Expr} {E' : XK} {X : L2.Cx} (r : Frm Γ LO T I K0 E' f X) (h : chkE T xt c true f e = true) : PT X e (tT Γ LO E' fun sl h => tst (evE I c sl h)) := (ev_ok hxt _ c (Nat.lt_succ_self _) _ _ _ _ _ r h).t
theorem evs (cs : List E) {f : Fs} {es : List Expr} {E' : XK} {X : L2.Cx} (r : Frm Γ LO T I K0 E' f X) (h : chkEs T xt cs f es = true) : PA X es (tAs Γ LO E' (evEs I cs)) := es_ok cs (fun c _ => ev_ok hxt _ c (Nat.lt_succ_self _)) r h
theorem pt_one {f : Fs} {E' : XK} {X : L2.Cx} (r : Frm Γ LO T I K0 E' f X) : ∀ (t : PTg) (e : Expr), chkPT T xt f t e = true → PG X e (gP Γ LO E' (stPT I t))
  | .n i, e, h => by
    unfold chkPT at h
    split at h
    · rename_i heq
      cases heq
      simp only [Bool.and_eq_true, decide_eq_true_eq] at h
      obtain ⟨h1, h2⟩ := r.loc h.2
      exact p_name r.fx (by rw [r.N_]; exact h.1) h1 h2
    · rename_i heq; cases heq
    · rename_i heq; cases heq
    · cases h
  | .s o i, e, h => by
    unfold chkPT at h
    split at h
    · rename_i heq; cases heq
    · rename_i heq
      cases heq
      simp only [Bool.and_eq_true] at h
      exact p_sub r.fx (ev hxt o r h.1.2) (ev hxt i r h.2) h.1.1
    · rename_i heq; cases heq
    · cases h
  | .a o a, e, h => by
    unfold chkPT at h
    split at h
    · rename_i heq; cases heq
    · rename_i heq; cases heq
    · rename_i heq
      cases heq
      simp only [Bool.and_eq_true, decide_eq_true_eq] at h
      exact p_attr r.fx r.wd.cf (ev hxt o r h.2) (by rw [← r.wd.nm]; exact h.1)
    · cases h
theorem pts_all {f : Fs} {E' : XK} {X : L2.Cx} (r : Frm Γ LO T I K0 E' f X) : ∀ (ts : List PTg) (es : List Expr), chkPTs T xt f ts es = true → es.all plainX = true → PGs X es (gPs Γ LO E' (stPTs I ts))
  | [], [], _, _ => by rw [stPTs_nil]; exact ps_nil'
  | [], _ :: _, h, _ => by simp [chkPTs] at h
  | _ :: _, [], h, _ => by simp [chkPTs] at h
  | t :: ts, e :: es, h, hp => by
    simp only [chkPTs, Bool.and_eq_true] at h
    rw [List.all_cons, Bool.and_eq_true] at hp
    rw [stPTs_cons]
    exact ps_cons' r.fx hp.1 (pt_one hxt r t e h.1) (pts_all r ts es h.2 hp.2) fun w sl h => stPT_pl t w sl h
variable (hxs : ∀ {f : Fs} {c : S} {s : Stmt} {E' : XK} {X : L2.Cx}, FrmS Γ LO T I K0 E' f X → xs f c s = true → PS X s (tS Γ LO E' (exS I c)))
include hxs
theorem st_ok (n : Nat) : (∀ c : S, sizeOf c < n → OkS Γ LO T I K0 xt xs c) ∧ ∀ cs : List S, sizeOf cs < n → OkB Γ LO T I K0 xt xs cs := by
  induction n with
  | zero => exact ⟨fun c h => absurd h (Nat.not_lt_zero _), fun c h => absurd h (Nat.not_lt_zero _)⟩
  | succ n ih =>
    obtain ⟨ih1, ih2⟩ := ih
    refine ⟨fun c hn f s E' X r h => ?_, fun cs hn f ss E' X r h => ?_⟩
    · have C := r.fx
      unfold chkS at h
      split at h
      all_goals (try (simp only [Bool.and_eq_true, decide_eq_true_eq, Bool.not_eq_true'] at h))
      · exact (show exS I .pass = _ from by funext σ h; rw [exS] <;> rfl) ▸ s_pass
      · exact (show exS I .brk = _ from by funext σ h; rw [exS] <;> rfl) ▸ s_brk
      · exact (show exS I .cnt = _ from by funext σ h; rw [exS] <;> rfl) ▸ s_cnt
      · -- expr
        rename_i e x pos
        have hM : exS I (.expr e) = fun sl h => Out.of (evE I e sl h) fun (_, h1) => .nx sl h1 := by funext σ h; rw [exS] <;> rfl
        rw [hM]
        exact s_expr C (ev hxt e r.toFrm h.2) h.1
      · have hM : exS I (.ret []) = fun _ h => .rt .non h := by funext σ h; rw [exS] <;> rfl
        rw [hM]
        exact s_retN
      · rename_i e x pos
        have hM : exS I (.ret [e]) = fun sl h => Out.of (evE I e sl h) fun (w, h1) => .rt w h1 := by funext σ h; rw [exS] <;> rfl
        rw [hM]
        exact s_ret C (ev hxt e r.toFrm h)
      · -- asg lc
        rename_i i box own t ik ies c e y py elt tg iter ifs scope pos spos
        obtain ⟨⟨⟨⟨h1, h2⟩, h3⟩, h4⟩, h5⟩ := h
        have P := lc_parts (box := box) (m := false) (pos := pos) (c := c) (e := e) (ifs := ifs) (elt := elt) r.toFrm (fun c' _ => ev_ok hxt _ c' (Nat.lt_succ_self _)) (fun c' _ => ev_ok hxt _ c' (Nat.lt_succ_self _)) (ev_ok hxt _ e (Nat.lt_succ_self _)) h5
        have key := s_setLc1 (box := box) (i := i) (y := y) (py := py) (spos := spos) (pos := pos) C (by rw [r.N_]; exact h1) (by rw [r.sc_]; exact h2) (by rw [r.sc_]; exact r.kind) h3 h4 P.hw P.ok P.hsub P.hg P.ht P.he P.hs
        rw [ownOf_snd] at key
        refine s_lock C key fun sl h => ?_
        have hM : exS I (.asg (.one i) (.lc box own t ik ies c e)) sl h = Out.of (walkK .no .exc unR ik (fun h => evEs I ies sl h) (fun xs h1 => (noX (turns (turnF t own (evIf I c) (evE I e) sl) xs h1)).bind fun (ys, h2) => mkL box ys h2) h) fun (w, h1) => match stTg (.one i) w sl with
            | some sl' => .nx sl' h1
            | none => .no := by rw [exS, ev_lc] <;> rfl
        rw [hM]
        rcases walkK_E (ik := ik) (ev := fun h => evEs I ies sl h) (k := fun xs h1 => (noX (turns (turnF t own (evIf I c) (evE I e) sl) xs h1)).bind fun (ys, h2) => mkL box ys h2) h with z | z | ⟨j, hl, z1, z2⟩
        · exact .inl (by rw [z] <;> rfl)
        · exact .inr (.inl (by rw [z] <;> rfl))
        · exact .inr (.inr ⟨j, hl, z1, by rw [z2]; exact asg_unlock⟩)
      · -- asg
        rename_i t e tg x pos _
        obtain ⟨⟨h1, h2⟩, h3⟩ := h
        obtain ⟨g1, g2, g3⟩ := asgB_ok h1 pos.line X.env
        have hM : exS I (.asg t e) = fun sl h => Out.of (evE I e sl h) fun (w, h1) => match stTg t w sl with
            | some sl' => .nx sl' h1
            | none => .no := by funext σ h; rw [exS] <;> rfl
        rw [hM]
        exact s_asg C (ev hxt e r.toFrm h3) (tgt_ok (f := f) C r.N_ (fun x h => r.loc h) t tg h2) g1 g2 g3
      · -- setSub
        rename_i o i e x y p1 v pos
        obtain ⟨⟨⟨h1, h2⟩, h3⟩, h4⟩ := h
        have hM : exS I (.setSub o i e) = fun sl h => Out.of (evE I e sl h) fun (w, h1) => Out.of (evE I o sl h1) fun (x, h2) => Out.of (evE I i sl h2) fun (y, h3) => nxO sl (setItemW h3 x y w) := by funext σ h; rw [exS] <;> rfl
        rw [hM]
        exact s_setSub C (ev hxt o r.toFrm h2) (ev hxt i r.toFrm h3) (ev hxt e r.toFrm h4) h1 swaps_sub
      · -- setAttr
        rename_i o a e x y p1 v pos
        obtain ⟨⟨h1, h2⟩, h3⟩ := h
        have hM : exS I (.setAttr o a e) = fun sl h => Out.of (evE I e sl h) fun (w, h1) => Out.of (evE I o sl h1) fun (x, h2) => nxO sl (setAttrW I h2 x a w) := by funext σ h; rw [exS] <;> rfl
        rw [hM]
        exact s_setAttr C r.wd.cf (ev hxt o r.toFrm h2) (ev hxt e r.toFrm h3) (by rw [← r.wd.nm]; exact h1) swaps_attr
      · -- par 2
        rename_i i j es x px y py k1 p1 a b k2 p2 pos
        have hM : exS I (.par [.n i, .n j] es) = fun sl h => Out.of (evEs I es sl h) fun (ws, h1) => stPTs I [.n i, .n j] ws sl h1 := by funext σ h; rw [exS] <;> rfl
        split at h
        · simp only [Bool.and_eq_true, decide_eq_true_eq, Bool.not_eq_true'] at h
          rename_i hsw
          obtain ⟨⟨⟨⟨⟨⟨⟨⟨⟨⟨⟨a1, a2⟩, a3⟩, a4⟩, a5⟩, a6⟩, a7⟩, a8⟩, a9⟩, a10⟩, a11⟩, a12⟩ := h
          have sw := sw_some (k := k1) (p := p1) (k2 := k2) (p2 := p2) (vs := [a, b]) (ts := [.Name x px, .Name y py]) r.sc_ r.kind rfl rfl (by simp [a6, a7]) hsw (by rw [a8]; exact a9) a10 a11
          rw [a8] at sw
          have key := s_par2 (pos := pos) C (by rw [r.N_]; exact a1) (by rw [r.N_]; exact a2) a3 (by rw [r.sc_]; exact a4) (by rw [r.sc_]; exact a5) (evs hxt es r.toFrm a12) sw
          exact s_le key fun sl h => by rw [hM]; exact par2_le
        · simp only [Bool.and_eq_true, decide_eq_true_eq] at h
          rename_i hsw
          obtain ⟨⟨⟨⟨a1, a2⟩, a3⟩, a4⟩, a5⟩ := h
          rw [hM]
          have hl := len_es (I := I) es
          rw [chkEs_len a5] at hl
          exact s_parT C (evs hxt es r.toFrm a5) hl (by show 2 ≤ 16777216; decide) rfl rfl (pts_all hxt r.toFrm [.n i, .n j] _ (by simp [chkPTs, chkPT, a1, a2, a3, a4]) rfl) (sw_none r.sc_ (by simpa [bne] using hsw)) fun ws sl h => stPTs_pl _ ws sl h
      · -- par 3
        rename_i i j l es x px y py z pz k1 p1 a b c k2 p2 pos
        have hM : exS I (.par [.n i, .n j, .n l] es) = fun sl h => Out.of (evEs I es sl h) fun (ws, h1) => stPTs I [.n i, .n j, .n l] ws sl h1 := by funext σ h; rw [exS] <;> rfl
        split at h
        · simp only [Bool.and_eq_true, decide_eq_true_eq, Bool.not_eq_true'] at h
          rename_i hsw
          obtain ⟨⟨⟨⟨⟨⟨⟨⟨⟨⟨⟨⟨⟨⟨⟨⟨a1, a2⟩, a3⟩, b1⟩, b2⟩, b3⟩, a4⟩, a5⟩, c1⟩, a6⟩, a7⟩, c2⟩, a8⟩, a9⟩, a10⟩, a11⟩, a12⟩ := h
          have sw := sw_some (k := k1) (p := p1) (k2 := k2) (p2 := p2) (vs := [a, b, c]) (ts := [.Name x px, .Name y py, .Name z pz]) r.sc_ r.kind rfl rfl (by simp [a6, a7, c2]) hsw (by rw [a8]; exact a9) a10 a11
          rw [a8] at sw
          have key := s_par3 (pos := pos) C (by rw [r.N_]; exact a1) (by rw [r.N_]; exact a2) (by rw [r.N_]; exact a3) b1 b2 b3 (by rw [r.sc_]; exact a4) (by rw [r.sc_]; exact a5) (by rw [r.sc_]; exact c1) (evs hxt es r.toFrm a12) sw
          exact s_le key fun sl h => by rw [hM]; exact par3_le
        · simp only [Bool.and_eq_true, decide_eq_true_eq] at h
          rename_i hsw
          obtain ⟨⟨⟨⟨⟨⟨a1, a2⟩, a3⟩, a4⟩, a5⟩, a6⟩, a7⟩ := h
          rw [hM]
          have hl := len_es (I := I) es
          rw [chkEs_len a7] at hl
          exact s_parT C (evs hxt es r.toFrm a7) hl (by show 3 ≤ 16777216; decide) rfl rfl (pts_all hxt r.toFrm [.n i, .n j, .n l] _ (by simp [chkPTs, chkPT, a1, a2, a3, a4, a5, a6]) rfl) (sw_none r.sc_ (by simpa [bne] using hsw)) fun ws sl h => stPTs_pl _ ws sl h
      · -- par
        rename_i ts es tgs k1 p1 vs k2 p2 pos _ _
        obtain ⟨⟨⟨⟨⟨a1, a2⟩, a3⟩, a4⟩, a5⟩, a6⟩ := h
        have hM : exS I (.par ts es) = fun sl h => Out.of (evEs I es sl h) fun (ws, h1) => stPTs I ts ws sl h1 := by funext σ h; rw [exS] <;> rfl
        rw [hM]
        have hl := len_es (I := I) es
        rw [chkEs_len a6] at hl
        exact s_parT C (evs hxt es r.toFrm a6) hl (by show _ ≤ 16777216; omega) a4 a2 (pts_all hxt r.toFrm ts _ a5 a4) (sw_none r.sc_ a1) fun ws sl h => stPTs_pl _ ws sl h
      · -- augN
        rename_i i op e x p1 op' v pos
        obtain ⟨⟨⟨h1, h2⟩, h3⟩, h4⟩ := h
        subst h3
        obtain ⟨g1, g2⟩ := r.loc h2
        have hM : exS I (.augN i op e) = fun sl h => Out.of (sl.var i h) fun (x, h0) => Out.of (evE I e sl h0) fun (y, h1) => Out.of (iop op h1 x y) fun (w, h2) => .nx (sl.set i (.v w)) h2 := by funext σ h; rw [exS] <;> rfl
        rw [hM]
        exact s_augN C (by rw [r.N_]; exact h1) g1 g2 (ev hxt e r.toFrm h4)
      · -- augA
        rename_i o a op e x y p1 op' v pos
        obtain ⟨⟨⟨h1, h2⟩, h3⟩, h4⟩ := h
        subst h2
        have hM : exS I (.augA o a op e) = fun sl h => Out.of (evE I o sl h) fun (x, h1) => match attrW I h1 x a with
            | some z => Out.of (evE I e sl h1) fun (y, h2) => Out.of (iop op h2 z y) fun (w, h3) => if clsW I h1 x = clsW I h3 x then nxO sl (setAttrW I h3 x a w) else .no
            | none => .no := by funext σ h; rw [exS] <;> rfl
        rw [hM]
        exact s_augA C r.wd.cf (ev hxt o r.toFrm h3) (ev hxt e r.toFrm h4) (by rw [← r.wd.nm]; exact h1)
      · -- augS
        rename_i o i op e x y p1 op' v pos
        obtain ⟨⟨⟨⟨h1, h2⟩, h3⟩, h4⟩, h5⟩ := h
        subst h2
        have hM : exS I (.augS o i op e) = fun sl h => Out.of (evE I o sl h) fun (x, h1) => Out.of (evE I i sl h1) fun (k, h2) => match getW h2 x k with
            | some z => Out.of (evE I e sl h2) fun (y, h3) => Out.of (iop op h3 z y) fun (w, h4) => nxO sl (setItemW h4 x k w)
            | none => .no := by funext σ h; rw [exS] <;> rfl
        rw [hM]
        exact s_augS C (ev hxt o r.toFrm h3) (ev hxt i r.toFrm h4) (ev hxt e r.toFrm h5) h1
      · -- del
        rename_i o i x y p1 pos
        have hM : exS I (.del o i) = fun sl h => Out.of (evE I o sl h) fun (x, h1) => Out.of (evE I i sl h1) fun (y, h2) => nxO sl (delItemW h2 x y) := by funext σ h; rw [exS] <;> rfl
        rw [hM]
        exact s_del C (ev hxt o r.toFrm h.1) (ev hxt i r.toFrm h.2)
      · -- ite
        rename_i c a b t x y pos
        have hM : exS I (.ite c a b) = fun sl h => Out.of (tst (evE I c sl h)) fun (k, h1) => if k then exB I a sl h1 else exB I b sl h1 := by funext σ h; rw [exS] <;> rfl
        rw [hM]
        exact s_ite C (evT hxt c r.toFrm h.1.1) (ih2 a (by simp at hn; omega) f x E' X r h.1.2) (ih2 b (by simp at hn; omega) f y E' X r h.2)
      · -- whl
        rename_i c b t x pos
        have hM : exS I (.whl c b) = fun sl h => whlL (fun sl h => tst (evE I c sl h)) (fun sl h => exB I b sl h) I.fuel sl h := by funext σ h; rw [exS] <;> rfl
        rw [hM]
        exact s_whl C r.own (evT hxt c r.toFrm h.1) (ih2 b (by simp at hn; omega) f x E' X r h.2)
      · -- for
        rename_i t ik ies b tg iter x pos
        obtain ⟨⟨⟨h1, h2⟩, h3⟩, h4⟩ := h
        have key := s_for1 (pos := pos) (ik := ik) (t := t) C r.own (walk_ok r.toFrm (fun c _ => ev_ok hxt _ c (Nat.lt_succ_self _)) h3) (tgt_ok (f := f) C r.N_ (fun x h => r.loc h) t tg h2) (ih2 b (by simp at hn; omega) f x E' X r h4) (fun x => setX_ok (by cases iter <;> first | rfl | exact h1) X.env x)
        refine s_lock C key fun sl h => ?_
        have hM : exS I (.for t ik ies b) sl h = walkK .no .exc Out.unlock ik (fun h => evEs I ies sl h) (fun xs h1 => forL (fun x σ h => match stTg t x σ with
          | some σ' => exB I b σ' h
          | none => .no) xs sl h1) h := by rw [exS] <;> rfl
        rw [hM]
        exact walkK_S h
      · -- raise
        rename_i c x p m j p2 p3 pos
        obtain ⟨h1, h2⟩ := h
        obtain ⟨g1, g2⟩ := r.gl h2
        obtain ⟨B, newId, initId, bmB, e1, e2, e3, e4, e5, e6⟩ := r.wd.exc c x h1
        have hM : exS I (.raise c) = fun _ h => .exc c h := by funext σ h; rw [exS] <;> rfl
        rw [hM]
        exact s_raise C r.tk e1 e2 e3 e4 (raises_own e5 e6) g1 g2
      · exact hxs r h
    · cases cs with
      | nil =>
        cases ss with
        | nil => exact (show exB I [] = _ from by funext σ h; rw [exB] <;> rfl) ▸ ss_nil
        | cons => simp [chkB] at h
      | cons c cs =>
        cases ss with
        | nil => simp [chkB] at h
        | cons s ss =>
          simp only [chkB, Bool.and_eq_true] at h
          have hM : exB I (c :: cs) = fun sl h => (exS I c sl h).then fun sl h => exB I cs sl h := by funext σ h; rw [exB] <;> rfl
          rw [hM]
          exact ss_cons (ih1 c (by simp at hn; omega) f s E' X r h.1) (ih2 cs (by simp at hn; omega) f ss E' X r h.2)
end
end PyI

set_option Elab.async false
set_option linter.all false
set_option maxRecDepth 100000
set_option maxHeartbeats 1000000
/-! PyI20: defs: calls to any bound. -/
namespace PyI
open PySem PySem.Spec PyProof.Rows L2
/-- a def, beside its core term -/
structure Dd where
  x : Str
  qual : Str
  params : Arguments
  body : List Stmt
  scope : Scope
  N : List Str
  ps : List Str
  lam : Bool
  gen : Bool := false
  F : Fn
def Dd.fs (D : Dd) : Fs := ⟨D.N, D.scope, fun _ => true, D.lam, D.gen⟩
theorem undoc_ok {X : L2.Cx} {t : TS} : ∀ {ss : List Stmt}, PSs X (undoc ss) t → PSs X ss t
  | [], h => h
  | s :: r, h => by
    unfold undoc at h
    split at h
    · rename_i hd
      have h2 := undoc_ok h
      unfold isDoc at hd
      split at hd
      · exact PSsimp (pss_cons ps_doc h2) fun D σ H q => q
      · cases hd
    · exact h
section
variable {Γ : Gm} {LO : LamT} {T : Tb} {pg : Pg} {P : Program} {w : World} {K : PySem.W.Frag} {mg : Str → Option Value} {base : Heap} {fad : Nat → Addr} {dds : List (Option Dd)} {xt : Fs → Bool → E → Expr → Bool} {xs : Fs → S → Stmt → Bool}
/-- what is told of the program, but for what its defs do -/
structure Ws (Γ : Gm) (T : Tb) (pg : Pg) (K : PySem.W.Frag) (mg : Str → Option Value) (fad : Nat → Addr) (dds : List (Option Dd)) : Prop where
  hK : K = Γ.K
  nm : T.nm = Γ.nm
  nd : Γ.nm.Nodup
  cls : ∀ C, (pg.init[C]?).join.isSome = true → Cls Γ.K (Γ.cls C)
  no : ∀ C f y, (pg.init[C]?).join.isSome = true → Γ.nm[f]? = some y → pg.meth C f = none → NoAttr Γ.K (Γ.cls C) y
  glob : ∀ (g : Nat) (w : W) (x : Str), pg.glob[g]? = some w → T.gn[g]? = some x → ∃ u v, mg x = some u ∧ RelV v u ∧ ∀ β F H, RV Γ.K β F H w v
  call : ∀ (f : Nat) (x : Str), T.fn[f]? = some x → x ≠ Str.empty → mg x = some (.ref (fad f)) ∧ ∃ D, dds[f]? = some (some D)
  new_ : ∀ (C : Nat) (x : Str) (f : Nat), T.cn[C]? = some x → (pg.init[C]?).join = some f → mg x = some (.ref (Γ.cls C)) ∧ Mk K (Γ.cls C) (fad f) ∧ ∃ D, dds[f]? = some (some D)
  meth : ∀ (C m f : Nat) (y : Str), (pg.init[C]?).join.isSome = true → pg.meth C m = some f → Γ.nm[m]? = some y → Meth K (Γ.cls C) y (fad f) ∧ ∃ D, dds[f]? = some (some D)
  bltn : ∀ x ∈ ([("range" : Str), "enumerate", "abs", "len", "max", "min", "sum", "sorted", "any", "all", "int", "list", "dict", "str", "tuple"] : List Str), mg x = none
  exc : ∀ (c : Nat) (x : Str), T.en[c]? = some x → ∃ (B newId initId : String) (bmB : List Value), ExcBaseFacts B newId initId bmB ∧ PySem.W.excIn K (Γ.exc c) bmB newId = true ∧ mg x = some (.ref (Γ.exc c)) ∧ PySem.W.keepIn K (.ref (Γ.exc c)) = true ∧ PySem.W.subIn K (.ref (Γ.exc c)) (.type "BaseException") = some true ∧ PySem.W.typeIn K (.ref (Γ.exc c)) = some (.type "type")
/-- what is told of a def -/
structure DdOk (Γ : Gm) (T : Tb) (xt : Fs → Bool → E → Expr → Bool) (xs : Fs → S → Stmt → Bool) (K : PySem.W.Frag) (base : Heap) (mg : Str → Option Value) (fa : Addr) (D : Dd) : Prop where
  fun_ : ∃ dvs fd, FunD K D.x D.qual D.params D.body D.scope dvs [] fa fd ∧ (∀ β F H, RVs Γ.K β F H D.F.dfl dvs) ∧ ∀ j : Nat, ∃ ds, Vals (dvs.drop j) ds ∧ L2.Binds K fd D.ps ds
  sc : FnScope D.N D.ps D.scope
  np : D.ps.length = D.F.np
  ns : D.N.length = D.F.ns
  dl : D.F.dfl.length ≤ D.F.np
  chk : chkB T xt xs D.F.body D.fs (undoc D.body) = true
  lam : D.lam = true → ∀ oc od dV kV doc pm an cdv ct osl, K.lookup fa = some ⟨oc, od, .func (PySem.W.fnOf D.x D.qual D.params D.body D.scope dV kV doc pm an cdv ct), osl⟩ → ∃ c P, cdv = .ref c ∧ LamX.TabB base mg c P ∧ (P, (D.qual ++ ".<locals>.") ++ "<lambda>") ∈ Γ.T ∧ ∀ p ∈ Γ.T, p.1 = P → p.2 = (D.qual ++ ".<locals>.") ++ "<lambda>"
  gen : D.gen = true → ∀ oc od dV kV doc pm an cdv ct osl, K.lookup fa = some ⟨oc, od, .func (PySem.W.fnOf D.x D.qual D.params D.body D.scope dV kV doc pm an cdv ct), osl⟩ → ∃ c P, cdv = .ref c ∧ LamX.TabB base mg c P ∧ (P, (D.qual ++ ".<locals>.") ++ "<genexpr>") ∈ Γ.T ∧ ∀ p ∈ Γ.T, p.1 = P → p.2 = (D.qual ++ ".<locals>.") ++ "<genexpr>"
theorem Ws.wd (W_ : Ws Γ T pg K mg fad dds) {n K0 : Nat} (ih : ∀ f D, dds[f]? = some (some D) → FnF Γ P w K mg base (callN pg n f) K0 (fad f)) : Wd Γ T (pg.cx (callN pg n)) K0 P w K mg base := by
  refine ⟨W_.hK, W_.nm, ⟨W_.nd, W_.cls, W_.no⟩, W_.glob, fun f x h1 h2 => ?_, fun C x f h1 h2 => ?_, fun C m f y h1 h2 h3 => ?_, W_.bltn, W_.exc⟩
  · obtain ⟨e1, D, e2⟩ := W_.call f x h1 h2
    exact ⟨_, e1, ih f D e2⟩
  · obtain ⟨e1, e3, D, e2⟩ := W_.new_ C x f h1 h2
    exact ⟨_, e1, e3, ih f D e2⟩
  · obtain ⟨e1, D, e2⟩ := W_.meth C m f y h1 h2 h3
    exact ⟨_, e1, ih f D e2⟩
theorem call_succ {n f : Nat} {F : Fn} (hf : pg.fns[f]? = some F) (ws : List W) (h : Hc) : callN pg (n + 1) f ws h = match F.args ws with
    | none => .no
    | some ws => match exB (pg.cx (callN pg n)) F.body (F.start ws) h with
      | .nx _ h' => .ok (.non, h')
      | .rt w h' => .ok (w, h')
      | .exc c h' => .exc c h'
      | _ => .no := by
  conv => lhs; unfold callN
  rw [hf]
  all_goals rfl
theorem args_full {F : Fn} {ws : List W} (hd : F.dfl.length ≤ F.np) (h : ws.length = F.np) : F.args ws = some ws := by
  unfold Fn.args
  rw [if_pos ⟨by omega, by omega⟩]
  rw [List.drop_of_length_le (by omega), List.append_nil]
theorem call_args {n f : Nat} {F : Fn} (hf : pg.fns[f]? = some F) (hd : F.dfl.length ≤ F.np) (ws : List W) (h : Hc) (hn : callN pg n f ws h ≠ .no) : F.np - F.dfl.length ≤ ws.length ∧ ws.length ≤ F.np ∧ callN pg n f ws h = callN pg n f (ws ++ F.dfl.drop (ws.length - (F.np - F.dfl.length))) h := by
  cases n with
  | zero => exact absurd rfl hn
  | succ n =>
    rw [call_succ hf] at hn
    rw [call_succ hf, call_succ hf]
    unfold Fn.args at hn
    split at hn
    · exact absurd rfl hn
    · rename_i ws' e
      split at e
      · rename_i hc
        cases e
        refine ⟨hc.1, hc.2, ?_⟩
        have e1 := args_full (F := F) (ws := ws ++ F.dfl.drop (ws.length - (F.np - F.dfl.length))) hd (by rw [List.length_append, List.length_drop]; omega)
        have e2 : F.args ws = some (ws ++ F.dfl.drop (ws.length - (F.np - F.dfl.length))) := by unfold Fn.args; rw [if_pos hc]
        rw [e2, e1]
      · cases e
theorem rsl_start {K : PySem.W.Frag} {β : List Addr} {F0 : Addr → Prop} {H : Hp} {F : Fn} {N : List Str} (hN : N.length = F.ns) {ws : List W} {vs : List V} (r : RVs K β F0 H ws vs) : RSl K LO β F0 H (F.start ws) (L2.start N vs) := by
  have hl := RVs.length r
  refine ⟨?_, fun i s e => ?_⟩
  · unfold Fn.start L2.start
    simp [hN, hl]
  · unfold Fn.start at e
    unfold L2.start
    by_cases hi : i < ws.length
    · rw [List.getElem?_append_left (by simpa using hi)] at e
      rw [List.getElem?_append_left (by simp; omega)]
      rw [List.getElem?_map] at e ⊢
      obtain ⟨w, e1, e2⟩ := Option.map_eq_some_iff.mp e
      subst e2
      obtain ⟨v, e3, e4⟩ := r.get e1
      exact ⟨some v, by rw [e3]; rfl, v, rfl, e4⟩
    · rw [List.getElem?_append_right (by simp; omega)] at e
      rw [List.getElem?_append_right (by simp; omega)]
      simp only [List.length_map] at e ⊢
      rw [List.getElem?_replicate] at e
      split at e
      · rename_i h2
        cases e
        rw [List.getElem?_replicate, if_pos (by omega)]
        exact ⟨none, rfl, True.intro⟩
      · cases e
variable (W_ : Ws Γ T pg K mg fad dds) (hdd : ∀ f D, dds[f]? = some (some D) → DdOk Γ T xt xs K base mg (fad f) D ∧ pg.fns[f]? = some D.F)
  (hxt : ∀ {LO : LamT} {n K0 : Nat} {m : Bool} {f : Fs} {c : E} {e : Expr} {E' : XK} {X : L2.Cx}, Frm Γ LO T (pg.cx (callN pg n)) K0 E' f X → xt f m c e = true → Rds Γ LO (pg.cx (callN pg n)) E' X m c e)
  (hxs : ∀ {LO : LamT} {n K0 : Nat} {f : Fs} {c : S} {s : Stmt} {E' : XK} {X : L2.Cx}, FrmS Γ LO T (pg.cx (callN pg n)) K0 E' f X → xs f c s = true → PS X s (tS Γ LO E' (exS (pg.cx (callN pg n)) c)))
  (hT : ∀ X : L2.Cx, X.K = K → X.mg = mg → ∀ (t : Nat) (x : Str), T.tn[t]? = some x → TellF Γ X x (pg.told.getD t []))
include W_ hdd hxt hxs hT
theorem fn_step {n : Nat} (ih : ∀ f D, dds[f]? = some (some D) → FnF Γ P w K mg base (callN pg n f) (4 * n + 4) (fad f)) {f : Nat} {D : Dd} (hD : dds[f]? = some (some D)) {dvs : List V} {fd : FuncData} (F : FunD K D.x D.qual D.params D.body D.scope dvs [] (fad f) fd) :
    FnOk P w K mg base (L2.CX P w) (4 * (n + 1) + 4) (fad f) fd D.ps (spI Γ D.F.np (callN pg (n + 1) f)) := by
    obtain ⟨d, hf⟩ := hdd f D hD
    obtain ⟨oc, od, dV, kV, doc, pm, an, cdv, ct, osl, e0, lk, hcd, _, _⟩ := F.ex
    subst e0
    have W2 : Wd Γ T (pg.cx (callN pg n)) (4 * n + 4) P w K mg base := W_.wd ih
    refine fn_of (k := 4 * n + 7) lk hcd d.sc (fun vs H Q E h => h.1.trans d.np.symm) fun A outer s H vs Q E hr ⟨hl, β, F0, h, ws, R, rv, q⟩ => ?_
    have lamP : D.lam = true → LamF Γ (cxOf (L2.CX P w) P w K mg base D.N D.qual D.scope (fad f) cdv A outer s H E) := fun hlam => by
      obtain ⟨c, P', e1, e2, e3, e4⟩ := d.lam hlam _ _ _ _ _ _ _ _ _ _ lk
      have q1 : (cxOf (L2.CX P w) P w K mg base D.N D.qual D.scope (fad f) cdv A outer s H E).env.qual = D.qual ++ ".<locals>." := rfl
      have q2 : (cxOf (L2.CX P w) P w K mg base D.N D.qual D.scope (fad f) cdv A outer s H E).env.code = cdv := rfl
      have q3 : (cxOf (L2.CX P w) P w K mg base D.N D.qual D.scope (fad f) cdv A outer s H E).base = base := rfl
      refine ⟨c, P', e2, q2.trans e1, ?_, ?_⟩
      · rw [q1]; exact e3
      · rw [q1]; exact e4
    have genP : D.gen = true → GenF Γ.T (cxOf (L2.CX P w) P w K mg base D.N D.qual D.scope (fad f) cdv A outer s H E) := fun hgen => by
      obtain ⟨c, P', e1, e2, e3, e4⟩ := d.gen hgen _ _ _ _ _ _ _ _ _ _ lk
      have q1 : (cxOf (L2.CX P w) P w K mg base D.N D.qual D.scope (fad f) cdv A outer s H E).env.qual = D.qual ++ ".<locals>." := rfl
      have q2 : (cxOf (L2.CX P w) P w K mg base D.N D.qual D.scope (fad f) cdv A outer s H E).env.code = cdv := rfl
      refine ⟨c, P', e2, q2.trans e1, ?_, ?_⟩
      · rw [q1]; exact e3
      · rw [q1]; exact e4
    have lo : (lamO (cxOf (L2.CX P w) P w K mg base D.N D.qual D.scope (fad f) cdv A outer s H E).env (lkB T D.fs)).Ok := True.intro
    generalize hLO : lamO (cxOf (L2.CX P w) P w K mg base D.N D.qual D.scope (fad f) cdv A outer s H E).env (lkB T D.fs) = LO at lo
    have fr : FrmS Γ LO T (pg.cx (callN pg n)) (4 * n + 4) E D.fs (cxOf (L2.CX P w) P w K mg base D.N D.qual D.scope (fad f) cdv A outer s H E) :=
      { lo := lo, calm := rfl, nodup := d.sc.nd, tk := takes_of rfl rfl rfl rfl, wd := W2, N_ := rfl, sc_ := rfl, fn_ := fun _ _ => rfl, kind := d.sc.kind, room := hr.mono (by omega), lam := fun hlam => ⟨hr, lamP hlam, fun t x h1 => hT _ rfl rfl t x h1, hLO.symm⟩, gen := fun hgen => ⟨hr, genP hgen⟩, own := passes_of rfl }
    have all : OkB Γ LO T (pg.cx (callN pg n)) (4 * n + 4) xt xs D.F.body := (st_ok (LO := LO) (fun {m f c e E' X} r h => hxt r h) (fun {f c s E' X} r h => hxs r h) (sizeOf D.F.body + 1)).2 D.F.body (Nat.lt_succ_self _)
    refine ⟨_, undoc_ok (all D.fs (undoc D.body) E _ fr d.chk), ?_⟩
    refine ⟨β, F0, h, D.F.start ws, R, rsl_start d.ns rv, ?_⟩
    rw [call_succ hf, args_full d.dl ((RVs.length rv).trans hl)] at q
    revert q
    dsimp only
    generalize exB (pg.cx (callN pg n)) D.F.body (D.F.start ws) h = o
    intro q
    cases o with
    | nx sl' h' => exact fun σ' H1 β1 s1 R1 _ => q .non H1 β1 s1 R1 mk_non
    | rt w h' => exact q
    | exc c h' => exact q
    | bk sl' h' => exact q.elim
    | ct sl' h' => exact q.elim
    | no => exact q
theorem fn_sound (n : Nat) : ∀ f D, dds[f]? = some (some D) → FnF Γ P w K mg base (callN pg n f) (4 * n + 4) (fad f) := by
  induction n with
  | zero =>
    intro f D hD
    obtain ⟨d, hf⟩ := hdd f D hD
    obtain ⟨dvs, fd, F, r, b⟩ := d.fun_
    refine ⟨D.F.np, D.F.dfl, fd, D.ps, dvs, d.np, ?_, F.kp, r, d.dl, b, fun ws h hn => absurd rfl hn⟩
    exact F.ok (k := 3) d.sc (fun vs H Q E h => h.1.trans d.np.symm) fun cdv A outer s H vs Q E hr ⟨_, β, F0, h, ws, _, _, q⟩ => q.elim
  | succ n ih =>
    intro f D hD
    obtain ⟨d, hf⟩ := hdd f D hD
    obtain ⟨dvs, fd, F, r, b⟩ := d.fun_
    exact ⟨D.F.np, D.F.dfl, fd, D.ps, dvs, d.np, fn_step W_ hdd hxt hxs hT ih hD F, F.kp, r, d.dl, b, fun ws h hn => call_args hf d.dl ws h hn⟩
end
end PyI

set_option Elab.async false
set_option linter.all false
set_option maxRecDepth 100000
set_option maxHeartbeats 1000000
/-! PyI21: what the head tells of a program, by names. -/
namespace PyI
open PySem PySem.Spec PyProof.Rows L2
/-- a program beside its core: names by number, where each def stands -/
structure Lw where
  T : Tb
  pg : Pg
  dds : List (Option Dd)
  at_ : List (Str × Option Str)
  dvs : List (List He.Dv)
  /-- the tellers: their exception -/
  tell : List Str
  /-- the defs that make lambdas or generators: the name of the code that they make -/
  tf : List (Str × Option Str × Str) := []
/-- the constants -/
def cwK (K : PySem.W.Frag) : Nat → Value → W → Bool
  | 0, _, _ => false
  | n + 1, u, w => match u, w with
    | .int i _, .int j => decide (i = j)
    | .str x _, .str s => decide (x = ofL s)
    | .bool b, .bl c => b == c
    | .none, .non => true
    | .ref a, .tup ws => match K.lookup a with
      | some o => decide (o.cls = .type "tuple") && (match o.data with
        | .seq its _ => decide (its.size ≤ sizeLine) && cwL (cwK K n) its.toList ws
        | _ => false)
      | none => false
    | _, _ => false
where
  cwL (f : Value → W → Bool) : List Value → List W → Bool
    | [], [] => true
    | u :: us, w :: ws => f u w && cwL f us ws
    | _, _ => false
theorem cwL_ok {K : PySem.W.Frag} {f : Value → W → Bool} (hf : ∀ u w, f u w = true → ∃ v, RelV v u ∧ ∀ β F H, RV K β F H w v) : ∀ (us : List Value) (ws : List W), cwK.cwL f us ws = true → ∃ vs, Vals vs us ∧ ∀ β F H, RVs K β F H ws vs
  | [], [], _ => ⟨[], .nil, fun _ _ _ => RVs.nil.mpr rfl⟩
  | [], _ :: _, h => by simp [cwK.cwL] at h
  | _ :: _, [], h => by simp [cwK.cwL] at h
  | u :: us, w :: ws, h => by
    simp only [cwK.cwL, Bool.and_eq_true] at h
    obtain ⟨v, r1, r2⟩ := hf u w h.1
    obtain ⟨vs, s1, s2⟩ := cwL_ok hf us ws h.2
    exact ⟨v :: vs, .cons r1 s1, fun β F H => RVs.mk (r2 β F H) (s2 β F H)⟩
theorem cwK_ok {K : PySem.W.Frag} : ∀ (n : Nat) (u : Value) (w : W), cwK K n u w = true → ∃ v, RelV v u ∧ ∀ β F H, RV K β F H w v
  | 0, _, _, h => by simp [cwK] at h
  | n + 1, u, w, h => by
    unfold cwK at h
    split at h
    · rename_i i t j
      exact ⟨.int i, ⟨t, rfl⟩, fun β F H => by rw [of_decide_eq_true h]; exact mk_int _⟩
    · rename_i x t s
      exact ⟨.str x, ⟨t, rfl⟩, fun β F H => by rw [of_decide_eq_true h]; exact mk_str _⟩
    · rename_i b c
      exact ⟨.bl b, rfl, fun β F H => by rw [eq_of_beq h]; exact mk_bl _⟩
    · exact ⟨.non, rfl, fun β F H => mk_non⟩
    · rename_i a ws
      split at h
      · rename_i o lk
        simp only [Bool.and_eq_true, decide_eq_true_eq] at h
        obtain ⟨h1, h2⟩ := h
        split at h2
        · rename_i its k hd
          simp only [Bool.and_eq_true, decide_eq_true_eq] at h2
          obtain ⟨vs, v1, v2⟩ := cwL_ok (cwK_ok n) _ _ h2.2
          refine ⟨.ref a, rfl, fun β F H => ?_⟩
          unfold RV
          exact ⟨a, vs, rfl, .inr ⟨o, its, k, lk, h1, hd, h2.1, v1⟩, v2 β F H⟩
        · cases h2
      · cases h
    · cases h
def bltns : List Str := [("range" : Str), "enumerate", "abs", "len", "max", "min", "sum", "sorted", "any", "all", "int", "list", "dict", "str", "tuple"]
def Lw.clsFa (L : Lw) (C : Nat) (x : Str) : List He.Fa := [.glo x, .cls x, .mkr x] ++ (List.range L.T.nm.length).map fun f => match L.pg.meth C f with
  | none => .noat x (L.T.nm.getD f Str.empty)
  | some _ => .meth x (L.T.nm.getD f Str.empty)
/-- the facts that the head must tell -/
def Lw.fa (L : Lw) : List He.Fa := (List.range L.T.cn.length).flatMap (fun C => L.clsFa C (L.T.cn.getD C Str.empty)) ++ (L.T.fn.filter fun x => decide (x ≠ Str.empty)).map .glo ++ bltns.map .free ++ L.T.en.flatMap (fun x => [.glo x, .exc x]) ++ L.tell.map (fun x => .exm x x true) ++ L.T.tn.flatMap fun x => [.glo x, .keep x]
/-- .. of the constants, the defaults -/
def Lw.ex (L : Lw) (K : PySem.W.Frag) : Bool := ((L.T.gn.zip L.pg.glob).all fun p => match PySem.W.nsIn K mainGlobals p.1 with
  | some (some u) => cwK K 20 u p.2
  | _ => false) && decide (L.tf.map fun p => (He.cT K (p.1, p.2.1)).2).Nodup
def Lw.fad (L : Lw) (K : PySem.W.Frag) (f : Nat) : Addr := He.fAd K (L.at_.getD f (Str.empty, none))
def Lw.gm (L : Lw) (K : PySem.W.Frag) (tf : List (Str × Option Str × Str)) : Gm where
  K := K
  nm := L.T.nm
  cls := fun C => He.ga K (L.T.cn.getD C Str.empty)
  exc := fun c => He.ga K (L.T.en.getD c Str.empty)
  T := tf.map fun p => ((He.cT K (p.1, p.2.1)).2, p.2.2)
/-- what must hold of the names -/
structure LwOk (L : Lw) : Prop where
  nd : L.T.nm.Nodup
  il : L.pg.init.length = L.T.cn.length
  call : ∀ (f : Nat) (x : Str), L.T.fn[f]? = some x → x ≠ Str.empty → L.at_[f]? = some (x, none) ∧ ∃ D, L.dds[f]? = some (some D)
  new_ : ∀ (C f : Nat), (L.pg.init[C]?).join = some f → L.at_[f]? = some (L.T.cn.getD C Str.empty, some ("__init__" : Str)) ∧ ∃ D, L.dds[f]? = some (some D)
  meth : ∀ (C m f : Nat), C < L.T.cn.length → m < L.T.nm.length → L.pg.meth C m = some f → L.at_[f]? = some (L.T.cn.getD C Str.empty, some (L.T.nm.getD m Str.empty)) ∧ ∃ D, L.dds[f]? = some (some D)
def Lw.okB (L : Lw) : Bool := decide L.T.nm.Nodup && decide (L.pg.init.length = L.T.cn.length) &&
  ((List.range L.T.fn.length).all fun f => decide (L.T.fn.getD f Str.empty = Str.empty) || (decide (L.at_[f]? = some (L.T.fn.getD f Str.empty, none)) && (match L.dds[f]? with | some (some _) => true | _ => false))) &&
  ((List.range L.pg.init.length).all fun C => match (L.pg.init[C]?).join with
    | some f => decide (L.at_[f]? = some (L.T.cn.getD C Str.empty, some ("__init__" : Str))) && (match L.dds[f]? with | some (some _) => true | _ => false)
    | none => true) &&
  ((List.range L.T.cn.length).all fun C => (List.range L.T.nm.length).all fun m => match L.pg.meth C m with
    | some f => decide (L.at_[f]? = some (L.T.cn.getD C Str.empty, some (L.T.nm.getD m Str.empty))) && (match L.dds[f]? with | some (some _) => true | _ => false)
    | none => true)
theorem dd_some {l : List (Option Dd)} {f : Nat} (h : (match l[f]? with | some (some _) => true | _ => false) = true) : ∃ D, l[f]? = some (some D) := by
  split at h
  · exact ⟨_, ‹_›⟩
  · cases h
theorem getD_of {α : Type} {l : List α} {i : Nat} {x d : α} (h : l[i]? = some x) : l.getD i d = x := by
  rw [List.getD_eq_getElem?_getD, h]
  rfl
theorem Lw.ok_of {L : Lw} (h : L.okB = true) : LwOk L := by
  unfold Lw.okB at h
  simp only [Bool.and_eq_true, decide_eq_true_eq, List.all_eq_true, List.mem_range] at h
  obtain ⟨⟨⟨⟨h1, h2⟩, h3⟩, h4⟩, h5⟩ := h
  refine ⟨h1, h2, fun f x e ne => ?_, fun C f e => ?_, fun C m f hC hm e => ?_⟩
  · have hf := (List.getElem?_eq_some_iff.mp e).1
    have z := h3 f hf
    rw [getD_of e, Bool.or_eq_true, decide_eq_true_eq] at z
    rcases z with z | z
    · exact absurd z ne
    · simp only [Bool.and_eq_true, decide_eq_true_eq] at z
      exact ⟨z.1, dd_some z.2⟩
  · have hC : C < L.pg.init.length := by
      by_cases q : C < L.pg.init.length
      · exact q
      · rw [List.getElem?_eq_none (by omega)] at e
        cases e
    have z := h4 C hC
    rw [e] at z
    simp only [Bool.and_eq_true, decide_eq_true_eq] at z
    exact ⟨z.1, dd_some z.2⟩
  · have z := h5 C hC m hm
    rw [e] at z
    simp only [Bool.and_eq_true, decide_eq_true_eq] at z
    exact ⟨z.1, dd_some z.2⟩
section
variable {L : Lw} {K : PySem.W.Frag} {h : Heap} {mg : Str → Option Value} {tf : List (Str × Option Str × Str)}
theorem isSome_lt (o : LwOk L) {C : Nat} (e : (L.pg.init[C]?).join.isSome = true) : C < L.T.cn.length := by
  rw [← o.il]
  by_cases q : C < L.pg.init.length
  · exact q
  · rw [List.getElem?_eq_none (by omega)] at e
    cases e
theorem cls_mem {C : Nat} (hC : C < L.T.cn.length) {f : He.Fa} (hf : f ∈ L.clsFa C (L.T.cn.getD C Str.empty)) : f ∈ L.fa := by
  unfold Lw.fa
  simp only [List.mem_append]
  exact .inl (.inl (.inl (.inl (.inl (List.mem_flatMap.mpr ⟨C, List.mem_range.mpr hC, hf⟩)))))
/-- the world's facts -/
theorem Ws.of (o : LwOk L) (hfa : ∀ f ∈ L.fa, f.ok K = true) (hex : L.ex K = true) (X : K.In h) (G : h.Ns mainGlobals mg) : Ws (L.gm K tf) L.T L.pg K mg (L.fad K) L.dds := by
  refine ⟨rfl, rfl, o.nd, fun C hC => ?_, fun C f y hC hy hm => ?_, fun g w x e1 e2 => ?_, fun f x e1 ne => ?_, fun C x f e1 e2 => ?_, fun C m f y hC e1 e2 => ?_, fun x hx => ?_, fun c x e => ?_⟩
  · have lt := isSome_lt o hC
    exact He.cls_ok (hfa _ (cls_mem lt (by unfold Lw.clsFa; simp)))
  · have lt := isSome_lt o hC
    have hf : f < L.T.nm.length := (List.getElem?_eq_some_iff.mp hy).1
    refine He.noat_ok (hfa _ (cls_mem lt ?_))
    unfold Lw.clsFa
    refine List.mem_append_right _ (List.mem_map.mpr ⟨f, List.mem_range.mpr hf, ?_⟩)
    rw [hm, getD_of (show L.T.nm[f]? = some y from hy)]
  · unfold Lw.ex at hex
    rw [Bool.and_eq_true, List.all_eq_true] at hex
    obtain ⟨hex, _⟩ := hex
    have hz : (L.T.gn.zip L.pg.glob)[g]? = some (x, w) := by rw [List.getElem?_zip_eq_some]; exact ⟨e2, e1⟩
    have z := hex _ (List.mem_of_getElem? hz)
    split at z
    · rename_i u hu
      obtain ⟨v, r1, r2⟩ := cwK_ok 20 u w z
      exact ⟨u, v, PySem.W.mg_of X G hu, r1, r2⟩
    · cases z
  · obtain ⟨a1, D, a2⟩ := o.call f x e1 ne
    refine ⟨?_, D, a2⟩
    have e : L.fad K f = He.ga K x := by
      unfold Lw.fad
      rw [getD_of a1]
      rfl
    rw [e]
    refine He.glo_ok X G (hfa _ ?_)
    unfold Lw.fa
    simp only [List.mem_append]
    refine .inl (.inl (.inl (.inl (.inr (List.mem_map.mpr ⟨x, List.mem_filter.mpr ⟨List.mem_of_getElem? e1, by simpa using ne⟩, rfl⟩)))))
  · obtain ⟨a1, D, a2⟩ := o.new_ C f e2
    have lt := isSome_lt o (by rw [e2]; rfl)
    have ex := getD_of (d := Str.empty) e1
    rw [ex] at a1
    have e : L.fad K f = He.ma K (He.ga K x) "__init__" := by
      unfold Lw.fad
      rw [getD_of a1]
      rfl
    have ec : (L.gm K tf).cls C = He.ga K x := by
      show He.ga K (L.T.cn.getD C Str.empty) = _
      rw [ex]
    rw [e, ec]
    refine ⟨He.glo_ok X G (hfa _ (cls_mem lt ?_)), He.mkr_ok (hfa _ (cls_mem lt ?_)), D, a2⟩
    · rw [ex]; unfold Lw.clsFa; simp
    · rw [ex]; unfold Lw.clsFa; simp
  · have lt := isSome_lt o hC
    have hf : m < L.T.nm.length := (List.getElem?_eq_some_iff.mp e2).1
    obtain ⟨a1, D, a2⟩ := o.meth C m f lt hf e1
    have ey : L.T.nm.getD m Str.empty = y := getD_of (show L.T.nm[m]? = some y from e2)
    rw [ey] at a1
    refine ⟨?_, D, a2⟩
    have e : L.fad K f = He.ma K (He.ga K (L.T.cn.getD C Str.empty)) y := by
      unfold Lw.fad
      rw [getD_of a1]
      rfl
    rw [e]
    refine He.meth_ok (hfa _ (cls_mem lt ?_))
    unfold Lw.clsFa
    refine List.mem_append_right _ (List.mem_map.mpr ⟨m, List.mem_range.mpr hf, ?_⟩)
    rw [e1, ey]
  · refine He.free_ok X G (hfa _ ?_)
    unfold Lw.fa
    simp only [List.mem_append]
    exact .inl (.inl (.inl (.inr (List.mem_map.mpr ⟨x, hx, rfl⟩))))
  · have m1 : ∀ f ∈ ([.glo x, .exc x] : List He.Fa), f ∈ L.fa := fun f hf => by
      unfold Lw.fa
      simp only [List.mem_append]
      exact .inl (.inl (.inr (List.mem_flatMap.mpr ⟨x, List.mem_of_getElem? e, hf⟩)))
    have ec : (L.gm K tf).exc c = He.ga K x := by
      show He.ga K (L.T.en.getD c Str.empty) = He.ga K x
      rw [getD_of (show L.T.en[c]? = some x from e)]
    rw [ec]
    obtain ⟨k1, k2, k3, k4⟩ := He.exc_ok (x := x) (hfa _ (m1 (.exc x) (by simp)))
    exact ⟨_, _, _, _, PySem.F.excBase_ValueError, k1, He.glo_ok (x := x) X G (hfa _ (m1 (.glo x) (by simp))), k2, k3, k4⟩
end
end PyI

set_option Elab.async false
set_option linter.all false
set_option maxRecDepth 100000
set_option maxHeartbeats 1000000
/-! PyI22: the end of a law. -/
namespace PyI
open PySem PySem.Spec PyProof.Rows L2
theorem rvs_ints {K : PySem.W.Frag} {β : List Addr} {F : Addr → Prop} {H : Hp} : ∀ ns : List Int, RVs K β F H (ns.map W.int) (ns.map V.int)
  | [] => RVs.nil.mpr rfl
  | n :: r => RVs.mk (mk_int n) (rvs_ints r)
/-- the law's call -/
theorem sp_law {Γ : Gm} {φ : List W → Hc → RW} {H : Hp} {a : Addr} {ns : List Int} (hT : LamX.Tabs Γ.T H) (hS : SqL Γ.K H a (ns.map V.int))
    (h1 : ∃ h, φ [.frz (ns.map .int)] [] = .ok (.bl true, h)) (h2 : ∃ h, φ [.lst (ns.map .int)] [] = .ok (.bl true, h)) : spI Γ 1 φ [.ref a] H (fun v _ => v = .bl true) fun _ _ _ => False := by
  have R : Rel Γ [] (fun _ => False) [] H := ⟨.nil, rfl, fun _ z => (nomatch z), fun _ z => False.elim z, fun _ z => (nomatch z), fun _ _ _ z => (nomatch z), hT⟩
  have go : ∀ w : W, RV Γ.K [] (fun _ => False) H w (.ref a) → (∃ h, φ [w] [] = .ok (.bl true, h)) → spI Γ 1 φ [.ref a] H (fun v _ => v = .bl true) fun _ _ _ => False := by
    intro w r ⟨h, e⟩
    refine ⟨rfl, [], fun _ => False, [], [w], R, RVs.mk r (RVs.nil.mpr rfl), ?_⟩
    rw [e]
    exact fun v H1 β1 _ _ q => by unfold AW RV at q; exact q
  rcases hS with hR | ⟨o, its, n, lk, e1, e2, e3, e4, e5⟩
  · rcases hR with e | ⟨o, e⟩
    · exact go (.lst (ns.map .int)) (by unfold RV; exact ⟨a, _, rfl, e, by simp, fun z => z, rvs_ints ns⟩) h2
    · exact go (.frz (ns.map .int)) (by unfold RV; exact ⟨a, _, rfl, .inl ⟨o, e, by simp, fun z => z⟩, rvs_ints ns⟩) h1
  · exact go (.frz (ns.map .int)) (by unfold RV; exact ⟨a, _, rfl, .inr ⟨o, its, n, lk, e1, e2, e3, e4, e5⟩, rvs_ints ns⟩) h1
/-- a def's own checks -/
def scB (N P : List Str) (sc : Scope) : Bool := (match sc.kind with | .function => true | _ => false) && !sc.isCoroutine && !sc.isGenerator && decide N.Nodup && decide (N.take P.length = P) && P.all (fun x => decide (sc.names.lookup x = some .local) || decide (sc.names.lookup x = some .cell)) && sc.names.all fun y => decide (y.2 ≠ .free)
theorem scB_ok {N P : List Str} {sc : Scope} (h : scB N P sc = true) : FnScope N P sc := by
  unfold scB at h
  simp only [Bool.and_eq_true, decide_eq_true_eq, List.all_eq_true, Bool.or_eq_true, Bool.not_eq_true'] at h
  obtain ⟨⟨⟨⟨⟨⟨h1, h2⟩, h3⟩, h4⟩, h5⟩, h6⟩, h7⟩ := h
  refine ⟨?_, h2, h3, h4, h5, h6, h7⟩
  split at h1
  · assumption
  · cases h1
def Dd.okB (T : Tb) (xt : Fs → Bool → E → Expr → Bool) (xs : Fs → S → Stmt → Bool) (D : Dd) : Bool := scB D.N D.ps D.scope && decide (D.ps.length = D.F.np) && decide (D.N.length = D.F.ns) && D.F.dfl.isEmpty && chkB T xt xs D.F.body D.fs (undoc D.body)
theorem nodup_map_inj {α γ : Type} {f : α → γ} : ∀ {l : List α} {a b : α}, (l.map f).Nodup → a ∈ l → b ∈ l → f a = f b → a = b
  | [], _, _, _, h, _, _ => by cases h
  | x :: l, a, b, hn, ha, hb, e => by
    rw [List.map_cons, List.nodup_cons] at hn
    rcases List.mem_cons.mp ha with h1 | h1 <;> rcases List.mem_cons.mp hb with h2 | h2
    · exact h1.trans h2.symm
    · exact absurd (List.mem_map.mpr ⟨b, h2, by rw [← e, h1]⟩) hn.1
    · exact absurd (List.mem_map.mpr ⟨a, h1, by rw [e, h2]⟩) hn.1
    · exact nodup_map_inj hn.2 h1 h2 e
theorem Lw.ex_nd {L : Lw} {K : PySem.W.Frag} (h : L.ex K = true) : (L.tf.map fun p => (He.cT K (p.1, p.2.1)).2).Nodup := by
  unfold Lw.ex at h
  rw [Bool.and_eq_true] at h
  exact of_decide_eq_true h.2
/-- the tables -/
def tf2 (tf : List (Str × Option Str × Str)) : List He.Defn := tf.map fun p => (p.1, p.2.1)
section
variable {L : Lw} {K : PySem.W.Frag} {base : Heap} {mg : Str → Option Value} {tf : List (Str × Option Str × Str)} {fnl : List He.DefD} {xt : Fs → Bool → E → Expr → Bool} {xs : Fs → S → Stmt → Bool}
theorem ddOk_of {D : Dd} {f : Nat} {p : He.Defn} (c : He.SaysD L.fa fnl K) (hat : L.at_[f]? = some p) (hd : (⟨p, D.x, D.qual, D.params, D.body, D.scope, [], []⟩ : He.DefD) ∈ fnl) (hB : D.okB L.T xt xs = true)
    (hl : D.lam = true → (p.1, p.2, (D.qual ++ ".<locals>.") ++ "<lambda>") ∈ tf) (hgn : D.gen = true → (p.1, p.2, (D.qual ++ ".<locals>.") ++ "<genexpr>") ∈ tf) (hnd : (tf.map fun p => (He.cT K (p.1, p.2.1)).2).Nodup) (hTB : ∀ q ∈ tf2 tf, LamX.TabB base mg (He.cT K q).1 (He.cT K q).2)
    (hb : ∀ (kV doc pm : Value) (an : Option Addr) (cdv ct : Value) (us : List Value), us.length = D.ps.length → bindArgs (PySem.W.fnOf D.x D.qual D.params D.body D.scope .none kV doc pm an cdv ct) ⟨us, []⟩ = pure (D.ps.zip us)) :
    DdOk (L.gm K tf) L.T xt xs K base mg (L.fad K f) D := by
  unfold Dd.okB at hB
  simp only [Bool.and_eq_true, decide_eq_true_eq, List.isEmpty_iff] at hB
  obtain ⟨⟨⟨⟨b1, b2⟩, b3⟩, b4⟩, b5⟩ := hB
  obtain ⟨fd, F⟩ := c.defs hd
  have ef : L.fad K f = He.fAd K p := by
    unfold Lw.fad
    rw [getD_of hat]
  rw [ef]
  refine ⟨⟨[], fd, F, fun β F0 H => by rw [b4]; exact RVs.nil.mpr rfl, fun j => ⟨[], by rw [List.drop_nil]; exact .nil, F.bindsN hb⟩⟩, scB_ok b1, b2, b3, by rw [b4]; exact Nat.zero_le _, b5, ?_, ?_⟩
  all_goals
    intro hlam oc od dV kV doc pm an cdv ct osl lk
    first
      | have hm := hl hlam
      | have hm := hgn hlam
    have hm2 : p ∈ tf2 tf := List.mem_map.mpr ⟨_, hm, rfl⟩
    obtain ⟨oc', od', dV', kV', doc', pm', an', cdv', ct', osl', e0, lk', hcd', _, _⟩ := F.ex
    have e := lk.symm.trans lk'
    rw [e0] at e
    injection e with e
    injection e with _ _ e _
    injection e with e
    have ecd : cdv = cdv' := congrArg FuncData.code e
    obtain ⟨cc, ec⟩ := He.codeIn_ref hcd'
    have ecc : He.codeOf K p = cc := He.codeOf_eq lk (by show cdv = _; rw [ecd, ec])
    refine ⟨cc, He.tabOf K cc, by rw [ecd, ec], ?_, ?_, ?_⟩
    · have t := hTB p hm2
      unfold He.cT at t
      rw [ecc] at t
      exact t
    · refine List.mem_map.mpr ⟨_, hm, ?_⟩
      unfold He.cT
      rw [ecc]
    · intro q hq eq
      obtain ⟨r, hr, rfl⟩ := List.mem_map.mp hq
      have e2 : (He.cT K (r.1, r.2.1)).2 = (He.cT K p).2 := by
        rw [show (He.cT K p).2 = He.tabOf K cc from by unfold He.cT; rw [ecc]]
        exact eq
      rw [nodup_map_inj hnd hr hm e2]
/-- told -/
theorem tellF_of {h : Heap} {X : L2.Cx} (hK : X.K = K) (hm : X.mg = mg) (KX : K.In h) (G : h.Ns mainGlobals mg) (c : He.SaysD L.fa fnl K) {x a e ret : Str} {CS : Nat} {rl : List Nat} {Ng : List Str} {pr : Arguments} {B : List Stmt} {sg : Scope} {j : Nat} {p1 p2 p3 p4 p5 p6 p7 p8 : Pos} {hs : List (Nat × List Nat)}
    (hd : (⟨(x, none), x, x, pr, B, sg, [], []⟩ : He.DefD) ∈ fnl) (hB : B = [.Try [.Return (some (.Call (.Name a p1) [] [] p2)) p3] [.ExceptHandler (some (.Name e p4)) none [.Return (some (.Constant (.str ret) j p5)) p6] p7] [] [] p8])
    (hhs : hs = [(CS, rl)]) (hret : ret = ofL rl) (hx : x ∈ L.T.tn) (he : L.T.en[CS]? = some e) (hex : e ∈ L.tell)
    (hxd : (x == ("__debug__" : Str)) = false) (hed : (e == ("__debug__" : Str)) = false) (had : (a == ("__debug__" : Str)) = false) (hac : (a == ("__classdict__" : Str)) = false)
    (hsc : scB Ng [a] sg = true) (hng : Ng.head? = some a) (hva : sg.names.lookup a = some .local) (hse : sg.names.lookup e = some .globalImplicit)
    (hb : ∀ (kV doc pm : Value) (an : Option Addr) (cdv ct : Value) (us : List Value), us.length = ([a] : List Str).length → bindArgs (PySem.W.fnOf x x pr B sg .none kV doc pm an cdv ct) ⟨us, []⟩ = pure (([a] : List Str).zip us)) : TellF (L.gm K tf) X x hs := by
  have m1 : ∀ f ∈ ([.glo x, .keep x] : List He.Fa), f ∈ L.fa := fun f hf => by
    unfold Lw.fa
    simp only [List.mem_append]
    exact .inr (List.mem_flatMap.mpr ⟨x, hx, hf⟩)
  have m2 : He.Fa.glo e ∈ L.fa := by
    unfold Lw.fa
    simp only [List.mem_append]
    exact .inl (.inl (.inr (List.mem_flatMap.mpr ⟨e, List.mem_of_getElem? he, by simp⟩)))
  have m3 : He.Fa.exm e e true ∈ L.fa := by
    unfold Lw.fa
    simp only [List.mem_append]
    exact .inl (.inr (List.mem_map.mpr ⟨e, hex, rfl⟩))
  obtain ⟨fd, F⟩ := c.defs hd
  obtain ⟨oc, od, dV, kV, doc, pm, an, cdv, ct, osl, e0, lk, hcd, _, _⟩ := F.ex
  have bb := F.bindsN hb
  subst e0 hK hm hhs hret hB
  have eX : (L.gm X.K tf).exc CS = He.ga X.K e := by
    show He.ga X.K (L.T.en.getD CS Str.empty) = He.ga X.K e
    rw [getD_of he]
  have n0 : Ng[0]? = some a := by rw [← List.head?_eq_getElem?]; exact hng
  refine ⟨a, He.ga X.K x, pr, _, sg, dV, kV, doc, pm, cdv, ct, oc, an, od, osl, Ng, CS, rl, rfl, hxd, He.glo_ok KX G (c.facts (m1 (.glo x) (by simp))), ?_, lk, hcd, bb, scB_ok hsc, n0, .inl hva, had, hac, ?_, ?_⟩
  · exact He.keep_ok (x := x) (c.facts (m1 (.keep x) (by simp)))
  · rw [eX]
    refine LamX.told_gives (X := X) hse (He.glo_ok (x := e) KX G (c.facts m2)) hed fun f => ?_
    unfold L2.start
    cases Ng with
    | nil => cases n0
    | cons b r => rfl
  · rw [eX]
    exact He.exm_ok (x := e) (y := e) (c.facts m3)

/-- the law's promise -/
theorem law_at {l : PySem.W.OpenLaw} {w : World} {h : Heap} {fa : Addr} {n N lid : Nat} {D : Dd} (c : He.SaysX L.fa fnl [] (tf2 tf) L.ex w h K) (KX : K.In h) (G : h.Ns mainGlobals mg) (ok : L.okB = true)
    (hD : L.dds[lid]? = some (some D)) (hps : D.ps = [("script" : Str)]) (hnp : D.F.np = 1) (hfn : L.T.fn[lid]? = some ("law" : Str)) (hfa : mg ("law" : Str) = some (.ref fa))
    (hbA : ∀ fd, FunD K D.x D.qual D.params D.body D.scope [] [] (L.fad K lid) fd → ∀ (s : Shared) (u : Value), BindsTo s fd ⟨[u], []⟩ [("script", u)])
    (hl : ∃ fd, FunD K D.x D.qual D.params D.body D.scope [] [] (L.fad K lid) fd)
    (hdd : ∀ base, K.In base → base.Ns mainGlobals mg → (∀ q ∈ tf2 tf, LamX.TabB base mg (He.cT K q).1 (He.cT K q).2) → ∀ f D, L.dds[f]? = some (some D) → DdOk (L.gm K tf) L.T xt xs K base mg (L.fad K f) D ∧ L.pg.fns[f]? = some D.F)
    (hxt : ∀ {LO : LamT} {n K0 : Nat} {m : Bool} {f : Fs} {c : E} {e : Expr} {E' : XK} {X : L2.Cx}, Frm (L.gm K tf) LO L.T (L.pg.cx (callN L.pg n)) K0 E' f X → xt f m c e = true → Rds (L.gm K tf) LO (L.pg.cx (callN L.pg n)) E' X m c e)
    (hxs : ∀ {LO : LamT} {n K0 : Nat} {f : Fs} {c : S} {s : Stmt} {E' : XK} {X : L2.Cx}, FrmS (L.gm K tf) LO L.T (L.pg.cx (callN L.pg n)) K0 E' f X → xs f c s = true → PS X s (tS (L.gm K tf) LO E' (exS (L.pg.cx (callN L.pg n)) c)))
    (hT : ∀ X : L2.Cx, X.K = K → X.mg = mg → ∀ (t : Nat) (x : Str), L.T.tn[t]? = some x → TellF (L.gm K tf) X x (L.pg.told.getD t []))
    (hp : ∀ ns : List Int, ns.length ≤ n → (∀ z ∈ ns, Builtin.Int.intBits z ≤ 1048576) → (∃ h, callN L.pg (N + 1) lid [.frz (ns.map .int)] [] = .ok (.bl true, h)) ∧ ∃ h, callN L.pg (N + 1) lid [.lst (ns.map .int)] [] = .ok (.bl true, h)) :
    LamX.LawAtS l w K (L2.CX l.prog w) (4 * (N + 1) + 4) n "script" mg fa h := by
  have o := Lw.ok_of ok
  have W_ : Ws (L.gm K tf) L.T L.pg K mg (L.fad K) L.dds := Ws.of o (fun f hf => c.t.d.facts hf) c.more KX G
  have efa : fa = L.fad K lid := by
    have z := (W_.call lid "law" hfn (by decide +kernel)).1
    rw [hfa] at z
    injection z with z
    injection z
  obtain ⟨fd, F⟩ := hl
  subst efa
  refine ⟨fd, (tf2 tf).map (He.cT K), spI (L.gm K tf) D.F.np (callN L.pg (N + 1) lid), ?_, ?_, ?_, hbA fd F, ?_, ?_⟩
  · intro p hp
    obtain ⟨q, hq, rfl⟩ := List.mem_map.mp hp
    exact c.empty q hq
  · intro p hp
    obtain ⟨q, hq, rfl⟩ := List.mem_map.mp hp
    exact c.out q hq
  · intro p hp
    obtain ⟨q, hq, rfl⟩ := List.mem_map.mp hp
    exact PySem.W.codeHd_of_K KX (c.hd q hq)
  · intro H a ns hn hb hH hS
    rw [hnp]
    refine sp_law (fun p hp => ?_) hS (hp ns hn hb).1 (hp ns hn hb).2
    obtain ⟨q, hq, rfl⟩ := List.mem_map.mp hp
    have z := hH (He.cT K (q.1, q.2.1)) (List.mem_map.mpr ⟨_, List.mem_map.mpr ⟨q, hq, rfl⟩, rfl⟩)
    unfold LamX.TabS
    exact ⟨_, z, by show TriplesOk []; exact trivial, fun pos cv e => by cases e⟩
  · intro base KB GB hTB
    have hTB2 : ∀ q ∈ tf2 tf, LamX.TabB base mg (He.cT K q).1 (He.cT K q).2 := fun q hq => hTB _ (List.mem_map.mpr ⟨q, hq, rfl⟩)
    have hd2 := hdd base KB GB hTB2
    have ih := fn_sound (P := l.prog) (w := w) W_ hd2 hxt hxs hT N
    have z := fn_step (P := l.prog) (w := w) W_ hd2 hxt hxs hT ih hD F
    rw [hps] at z
    exact z
end
theorem cx_none {P : Program} {w : World} {H : Hp} {s : Shared} {e : Value} {s' : Shared} (z : L2.CX P w [] H s (fun _ _ _ => False) e s') : False := by
  obtain ⟨_, _, _, _, _, _, _, _, _, _, _, _, f⟩ := z
  exact f
end PyI

set_option Elab.async false
set_option linter.all false
set_option maxRecDepth 100000
set_option maxHeartbeats 1000000
/-! PyI23: a list comprehension, its block told of the maker's state at its start. -/
namespace PyI
open PySem PySem.Spec PyProof.Rows L2
section
variable {X : L2.Cx} {scope : Scope} {own : List (Str × Nat)} {elt tg iter : Expr} {ifs : List Expr} {pos : Pos} {wi : TI} {g : TG} {tt : L2.St → TT} {te : L2.St → TE}
abbrev bCx (X : L2.Cx) (scope : Scope) (s : Shared) (H : Hp) (C : Addr) (cl : List (Str × Addr)) (fp : List Addr) : L2.Cx := X.blk s H scope (compEnvC scope cl C X.env) fp
theorem pe_lcI (hc : X.calm = true) (hN : X.N.Nodup) (hi : PI X tg iter wi) (ok : BlkOk X.N X.env.scope scope own)
    (hg : ∀ s H C cl fp, PG (bCx X scope s H C cl fp) tg g)
    (ht : ∀ pins s σ H C cl fp, Inv X pins σ H s → (∀ b ∈ fp, FpOk X pins H b) → PTs (bCx X scope s H C cl fp) ifs (tt σ))
    (he : ∀ pins s σ H C cl fp, Inv X pins σ H s → (∀ b ∈ fp, FpOk X pins H b) → PE (bCx X scope s H C cl fp) elt (te σ)) (hs : ∀ x, foldedSetIterable iter X.env x = pure x := by intro _; rfl) :
    PE X (.ListComp elt [⟨tg, iter, ifs, 0⟩] scope pos) (fun σ H Q => tLc wi g (tt σ) (te σ) (own.map (·.2)) σ H Q) := by
  refine ⟨fun pins sA σ HA Q IA rd => ?_⟩
  rw [eval_ListComp]
  have fr : ∀ y ∈ scope.names, y.2 = .free → ∃ c, X.env.cells.lookup y.1 = some c := fun y hy e => (ok.free y hy e).elim (fun k => IA.ok.has _ (.inl k)) fun k => IA.ok.has _ (.inr k)
  refine wpAny_comprehension_free rfl hs (closure_ok fr) ok.kind (fun y hy e => by rw [ok.uniq y hy, e]) (thn (hi.run pins sA σ HA _ IA rd) fun xv sB hx => thn hx fun itv sC hC => ?_)
  obtain ⟨it, fp, tn, J, HC, rfl, IC, T, tC, fC, rq⟩ := hC
  refine wpAny_newObj_type (newEnv_comp ?_) (show 0 ≤ sizeLine by decide)
  obtain ⟨D, eD⟩ : ∃ D, D = sC.heap.objs.size := ⟨_, rfl⟩
  rw [← eD]
  obtain ⟨W, ⟨m0, w0⟩, turn⟩ := rq D (IC.hok.fresh (by rw [eD]; exact Nat.le_refl _))
  obtain ⟨sD, esD⟩ : ∃ sD : Shared, sD = { sC with heap := sC.heap.push { cls := .type "list", data := .seq ([] : List Value).toArray } } := ⟨_, rfl⟩
  rw [← esD]
  have keepCD : ∀ b o, sC.heap.get? b = some o → sD.heap.get? b = some o := fun b o e => by rw [esD]; exact Heap.get?_push_of_some _ e
  have ID : Inv X pins σ (upd HC D (.lst [])) sD := by
    rw [esD]
    exact IC.laid (t' := sC.toks) (fun b o e => Heap.get?_push_of_some _ e) (by rw [eD]; exact Nat.le_refl _) ⟨Nat.zero_le _, [], 0, .nil, by rw [eD]; exact Heap.get?_push_size _ rfl⟩
  have fD : ∀ b ∈ fp, FpOk X pins (upd HC D (.lst [])) b ∧ b < sD.heap.objs.size := fun b hb => by
    obtain ⟨o, e, _⟩ := T.obj _ _ tC b hb
    have l1 := Heap.lt_size e
    have f1 := fC b hb
    refine ⟨⟨?_, f1.2⟩, Heap.lt_size (keepCD b o e)⟩
    rw [upd_ne (fun z => by rw [z, eD] at l1; exact Nat.lt_irrefl _ l1)]
    exact f1.1
  have tD : tn 0 sD.heap := T.keep _ _ _ tC fun b _ o e => keepCD b o e
  generalize upd HC D (.lst []) = HD at ID fD w0
  have IE := block_start ID ok hN fD
  have pg := hg sD HD sD.heap.objs.size (cellsFrom (sD.heap.objs.size + 1) scope.names (cloFrom X.env.cells scope.names [])) fp
  have pt := ht pins sD σ HD sD.heap.objs.size (cellsFrom (sD.heap.objs.size + 1) scope.names (cloFrom X.env.cells scope.names [])) fp ID fun b hb => (fD b hb).1
  have pe := he pins sD σ HD sD.heap.objs.size (cellsFrom (sD.heap.objs.size + 1) scope.names (cloFrom X.env.cells scope.names [])) fp ID fun b hb => (fD b hb).1
  obtain ⟨ce, ece⟩ : ∃ ce, ce = compEnvC scope (cellsFrom (sD.heap.objs.size + 1) scope.names (cloFrom X.env.cells scope.names [])) sD.heap.objs.size X.env := ⟨_, rfl⟩
  have cL : ce.locals = sD.heap.objs.size := by rw [ece]; rfl
  rw [← ece] at IE
  unfold bCx at pg pt pe
  rw [← ece] at pg pt pe
  obtain ⟨sE, esE⟩ : ∃ sE : Shared, sE = { sD with heap := pushCells (sD.heap.push { cls := .type "dict", data := .dict #[] }) scope.names } := ⟨_, rfl⟩
  rw [← esE] at IE
  have tE : tn 0 sE.heap := T.keep _ _ _ tD fun b _ o e => by rw [esE]; exact pushCells_keeps _ _ _ _ (Heap.get?_push_of_some _ e)
  have fb : ∀ {σ' : L2.St} {H' : Hp} {s' : Shared}, Inv (X.blk sD HD scope ce fp) [] σ' H' s' → (∀ b ∈ fp, H' b = none) → ∀ b ∈ fp, FpOk (X.blk sD HD scope ce fp) [] H' b := fun I' hn b hb =>
    ⟨hn b hb, (I'.ok.exf b hb).1, I'.ok.exfs b hb, .inl hb, (I'.ok.exf b hb).2, fun p hp => nomatch hp⟩
  have post : ∀ (s' : Shared) (H' : Hp), Inv X pins σ H' s' → Q (.ref D) H' → (∃ m, s'.heap.Ns sD.heap.objs.size m) → FpOk X pins H' sD.heap.objs.size → compPost (model X.prog X.w) X.A X.xe none (fun v s' => ∃ w' H', Inv X pins σ H' s' ∧ RelV w' v ∧ Q w' H') (.ref D) sD.heap.objs.size (.ok .next) s' := by
    rintro s' H' I' q ⟨m, hn⟩ ⟨f0, f1, f2, f3, f4, f5⟩
    exact ⟨m, hn, fun h'' sb => ⟨.ref D, H', I'.turned (t' := s'.toks) (fun b o hb e => (sb.2 b hb).trans e) f0 f1 f3 f4 f5, rfl, q⟩⟩
  have again : ∀ (n i m' : Nat) (s7 s' : Shared) (σ8 : L2.St) (H' : Hp), m' < n → wipe σ8 (own.map (·.2)) = wipe σ (own.map (·.2)) → σ8.length = (wipe σ (own.map (·.2))).length → tn (i + 1) s7.heap → Inv (X.blk sD HD scope ce fp) ([] ++ pinsAt fp s7.heap) σ8 H' s' → W (i + 1) m' H' →
      (∀ {j : Nat} {v : V}, (wipe σ (own.map (·.2)))[j]? = some (some v) → σ8[j]? = some (some v)) →
      ∃ m, m < n ∧ ∃ i H', Inv (X.blk sD HD scope ce fp) [] (wipe σ (own.map (·.2))) H' s' ∧ tn i s'.heap ∧ (∀ b ∈ fp, H' b = none) ∧ W i m H' := by
    intro n i m' s7 s' σ8 H' lt _ hl t7 I' w' sub
    have pinned : ∀ b ∈ fp, ∀ o, s7.heap.get? b = some o → s'.heap.get? b = some o ∧ H' b = none := fun b hb o e =>
      have z := I'.pin (b, o) (List.mem_append_right _ (List.mem_append_right _ (mem_pinsAt hb e)))
      ⟨z.1, z.2.1⟩
    refine ⟨m', lt, i + 1, H', (I'.unpinned (pins := [])).weak hl.symm fun j v e => sub e, T.keep _ _ _ t7 fun b hb o e => (pinned b hb o e).1, fun b hb => ?_, w'⟩
    obtain ⟨o, e, _⟩ := T.obj _ _ t7 b hb
    exact (pinned b hb o e).2
  have run : codeAny (model X.prog X.w) X.A (.compLoop (.ListComp elt [⟨tg, iter, ifs, 0⟩] scope pos) 0 (.ref it) (.ref D) ce) (compPost (model X.prog X.w) X.A X.xe none (fun v s' => ∃ w' H', Inv X pins σ H' s' ∧ RelV w' v ∧ Q w' H') (.ref D) sD.heap.objs.size) sE := by
    refine compLoop_any (fun n s' => ∃ i H', Inv (X.blk sD HD scope ce fp) [] (wipe σ (own.map (·.2))) H' s' ∧ tn i s'.heap ∧ (∀ b ∈ fp, H' b = none) ∧ W i n H') ?_ m0 ⟨0, HD, IE, tE, fun b hb => (fD b hb).1.1, w0⟩
    rintro n s5 ⟨i, H5, I5, t5, n5, w5⟩
    rcases turn i n H5 w5 with ⟨stop, q⟩ | ⟨go, Nx, hNx, step⟩
    · refine thnF (T.done (X.blk sD HD scope ce fp) rfl rfl rfl hc i [] s5 _ H5 (fun _ _ => False) I5 (fb I5 n5) t5 stop) fun r s6 ⟨hr, I6⟩ => ?_
      cases hr
      have free : H5 sD.heap.objs.size = none := by rw [← cL]; exact I6.free
      obtain ⟨m, hn, _⟩ := I6.loc
      refine post s6 H5 (ID.call' (ch := fp) I6.os I6.base I6.hok I6.bare fun b hb => ?_) q ⟨m, by rw [← cL]; exact hn⟩ (ID.fpOk (Nat.le_refl _) free)
      obtain ⟨_, a1, a2, a3, a4, a5⟩ := (fD b hb).1
      exact ⟨a3, a1, a4, a5⟩
    · refine thnF (T.item (X.blk sD HD scope ce fp) rfl rfl rfl hc i [] s5 _ H5 (fun _ _ => False) I5 (fb I5 n5) t5 go) fun r s6 ⟨u, hr, h6⟩ => ?_
      cases hr
      refine thnF h6 fun _ s7 ⟨x, H7, I7, r7, y7, t7, n7⟩ => ?_
      refine thnF (pg.run _ s7 _ H7 x u _ (I7.pinned (fb I7 n7) (T.obj _ _ t7)) r7 (step x H7 y7)) fun _ s8 ⟨σ8, H8, I8, e8, q8⟩ => ?_
      have l8 : σ8.length = (wipe σ (own.map (·.2))).length := by rw [← wipe_length σ8 (own.map (·.2)), e8, wipe_length]
      have sub8 : ∀ {j : Nat} {v : V}, (wipe σ (own.map (·.2)))[j]? = some (some v) → σ8[j]? = some (some v) := fun {j v} e => by
        rw [← e8] at e
        exact (wipe_some e).1
      refine thnF (pt.run _ s8 σ8 H8 _ I8 q8) fun b s9 ⟨H9, I9, q9⟩ => ?_
      cases b with
      | false =>
        obtain ⟨m', lt, w'⟩ := hNx H9 q9
        exact again n i m' s7 s9 σ8 H9 lt e8 l8 t7 I9 w' sub8
      | true =>
        refine thnF (pe.run _ s9 σ8 H9 _ I9 q9) fun z s10 ⟨yv, H10, I10, r10, acc, a1, a2, nx⟩ => ?_
        refine app_ok (X := X.blk sD HD scope ce fp) I10 a1 a2 r10 fun s11 I11 => ?_
        obtain ⟨m', lt, w'⟩ := hNx _ nx
        exact again n i m' s7 s11 σ8 _ lt e8 l8 t7 I11 w' sub8
  rw [esE] at run tE
  rw [ece] at run
  exact codeAny_compStart_list run (T.self X.A 0 _ _ _ tE run)
end
end PyI

set_option Elab.async false
set_option linter.all false
set_option maxRecDepth 100000
set_option maxHeartbeats 1000000
/-! PyI24: lambdas kept in a list. -/
namespace PyI
open PySem PySem.Spec PyProof.Rows L2
section
variable {X : L2.Cx} {pins : List (Addr × Obj)} {σ : L2.St} {H : Hp} {s : Shared}
/-- one new object, told by what it is -/
theorem inv_push {o : Obj} {φ : Heap → Prop} {tk : Nat} {h' : Heap} (I : Inv X pins σ H { s with heap := h', toks := tk }) (hp : φ (h'.push o)) (hfr : o.isFreed = false) (hst : ∀ h1 h2 : Heap, φ h1 → (∀ u, h1.get? h'.objs.size = some u → h2.get? h'.objs.size = some u) → φ h2) :
    Inv X pins σ (upd H h'.objs.size (.ext φ)) { s with heap := h'.push o, toks := tk } := by
  exact I.laid (t' := tk) (fun b u e => Heap.get?_push_of_some _ e) (Nat.le_refl _) ⟨hp, ⟨o, Heap.get?_push_size _ hfr⟩, fun h1 h2 a st => hst h1 h2 a fun u e => st u e⟩
/-- the reading of a lambda that is kept -/
def tLk (T : List (Addr × Str)) (q : Str) (ob : Addr → Addr → Heap → Prop) : TE := fun _ H Q => LamX.Tabs T H ∧ ∀ (H1 : Hp) (f c : Addr), LamX.ExtN H H1 → LamX.Tabs T (upd H1 f (.ext (ob f c))) → H f = none → H1 f = none → H1 c = some (LamX.CodeO c q) → Q (.ref f) (upd H1 f (.ext (ob f c)))
theorem pe_lamk {T : List (Addr × Str)} {c P : Addr} {params : Arguments} {body : Expr} {scope : Scope} {pos : Pos} {ob : Addr → Addr → Heap → Prop} (TB : LamX.TabB X.base X.mg c P) (hcode : X.env.code = .ref c)
    (hm : (P, X.env.qual ++ "<lambda>") ∈ T) (hu : ∀ p ∈ T, p.1 = P → p.2 = X.env.qual ++ "<lambda>") (hdef : defaultsOf params X.env = ([], [])) (L : LamX.LamS X.env.scope scope)
    (mk : ∀ f c h (pm ctv : Value), h.get? f = some (PySem.W.kla_obj "<lambda>" (X.env.qual ++ "<lambda>") params body scope (cloFrom X.env.cells scope.names []) pm c ctv) → ob f c h)
    (stay : ∀ (f c : Addr) (h1 h2 : Heap), ob f c h1 → (∀ u, h1.get? f = some u → h2.get? f = some u) → ob f c h2) :
    PE X (.Lambda params body scope pos) (tLk T (X.env.qual ++ "<lambda>") ob) := by
  refine ⟨fun pins s σ H Q I rd => ?_⟩
  obtain ⟨hT, go⟩ := rd
  have hfree := L.has I.ok
  obtain ⟨ps, hP, ht, ha⟩ := hT _ hm
  have bP : s.heap.BuiltinsAt X.mg P := TB.bm.keeps I.bk
  have oP : s.heap.get? P = some { cls := .none, data := .fields ps } := I.hok P _ hP
  refine PySem.W.kla_eval hdef ?_
  cases hc : codeAmong pos ps.toList with
  | none =>
    refine PySem.W.kla_makeFunction (mg := X.mg) (c := c) (P := P) (ps := ps) (closure_ok hfree) I.ok.glob (I.mod.glob.keeps I.bk) hcode (TB.code.keeps I.bk) oP ht hc TB.gP bP fun cN ctv h' tk hx hge hlt hrec htb => ?_
    obtain ⟨cM, oc, vs, t, eM, e1, e2, e3⟩ := hrec
    cases eM
    have nC : H cN = none := I.hok.fresh hge
    have J := LamX.inv_table (t' := tk) (more := #[rawInt pos.line, rawInt pos.col, .ref cN]) (h' := h') I hP (fun b o hb e => hx b o hb e) htb hge ⟨oc, vs, t, e1, e2, e3⟩
    have nF := J.hok.fresh (Nat.le_refl _)
    have ext : LamX.ExtN H (upd (upd H P (.tbl (ps ++ #[rawInt pos.line, rawInt pos.col, .ref cN]))) cN (LamX.CodeO cN (X.env.qual ++ "<lambda>"))) := fun b o e nt => by
      rw [upd_ne (ne_of_none e nC), upd_ne (fun z => by rw [z, hP] at e; exact nt ps (Option.some.inj e).symm)]
      exact e
    have tabs : LamX.Tabs T (upd (upd H P (.tbl (ps ++ #[rawInt pos.line, rawInt pos.col, .ref cN]))) cN (LamX.CodeO cN (X.env.qual ++ "<lambda>"))) := fun p hp => by
      by_cases hb : p.1 = P
      · have eL : (ps ++ #[rawInt pos.line, rawInt pos.col, .ref cN]).toList = ps.toList ++ [rawInt pos.line, rawInt pos.col, .ref cN] := by simp
        rw [hu p hp hb, hb]
        refine ⟨_, by rw [upd_ne (ne_of_none hP nC), upd_same], by rw [eL]; exact PySem.TriplesOk_snoc _ _ _ _ ht, fun p2 cv hcv => ?_⟩
        rw [eL] at hcv
        rcases LamX.among_app _ ht hcv with z | z
        · obtain ⟨c0, z1, z2⟩ := ha p2 cv z
          exact ⟨c0, z1, ext _ _ z2 LamX.codeO_ne⟩
        · exact ⟨cN, z, upd_same⟩
      · obtain ⟨ps2, a1, a2, a3⟩ := hT p hp
        refine ⟨ps2, by rw [upd_ne (ne_of_none a1 nC), upd_ne hb]; exact a1, a2, fun p2 cv hcv => ?_⟩
        obtain ⟨c0, z1, z2⟩ := a3 p2 cv hcv
        exact ⟨c0, z1, ext _ _ z2 LamX.codeO_ne⟩
    have J2 := inv_push (o := PySem.W.kla_obj "<lambda>" (X.env.qual ++ "<lambda>") params body scope (cloFrom X.env.cells scope.names []) ((X.mg "__name__").getD .none) cN ctv) J (mk h'.objs.size cN _ _ _ (Heap.get?_push_size _ rfl)) rfl (stay h'.objs.size cN)
    exact ⟨.ref h'.objs.size, _, J2, rfl, go _ _ cN ext (tabs.ext fun b o e => by rw [upd_ne (ne_of_none e nF)]; exact e) (I.hok.fresh (Nat.le_trans hge (Nat.le_of_lt hlt))) nF upd_same⟩
  | some cv =>
    obtain ⟨cN, rfl, hco⟩ := ha pos cv hc
    refine PySem.W.kla_makeFunctionHit (mg := X.mg) (c := c) (P := P) (ps := ps) (closure_ok hfree) I.ok.glob (I.mod.glob.keeps I.bk) hcode (TB.code.keeps I.bk) oP ht hc bP fun ctv h' tk hx hsz => ?_
    have J : Inv X pins σ H { s with heap := h', toks := tk } := I.kept hx
    have nF := J.hok.fresh (Nat.le_refl _)
    have J2 := inv_push (o := PySem.W.kla_obj "<lambda>" (X.env.qual ++ "<lambda>") params body scope (cloFrom X.env.cells scope.names []) ((X.mg "__name__").getD .none) cN ctv) J (mk h'.objs.size cN _ _ _ (Heap.get?_push_size _ rfl)) rfl (stay h'.objs.size cN)
    exact ⟨.ref h'.objs.size, _, J2, rfl, go H _ cN (LamX.ExtN.refl H) (hT.ext fun b o e => by rw [upd_ne (ne_of_none e nF)]; exact e) (I.hok.fresh hsz) nF hco⟩
end
section
variable {Γ : Gm} {LO : LamT} {E : XK} {X : L2.Cx} {pos : Pos} {β β1 : List Addr} {F : Addr → Prop} {h : Hc} {H H1 : Hp}
theorem Rel.ext_nb (R : Rel Γ β F h H) {a : Addr} {φ : Heap → Prop} (e : H a = some (.ext φ)) : a ∉ β := fun ha => by
  obtain ⟨i, hi, e1⟩ := List.mem_iff_getElem.mp ha
  have e2 : h[i]? = some (h[i]'(by rw [← R.len]; exact hi)) := List.getElem?_eq_getElem _
  have z := R.ob i _ a e2 (by rw [List.getElem?_eq_getElem hi, e1])
  generalize (h[i]'(by rw [← R.len]; exact hi)) = o at z
  cases o with
  | lst b xs => cases b <;> (unfold OR at z; simp only [e] at z; obtain ⟨_, z⟩ := z; first | exact nomatch z.1 | (obtain ⟨_, z⟩ := z; exact nomatch z.1))
  | dic b xs => cases b <;> (unfold OR at z; simp only [e] at z; obtain ⟨_, z⟩ := z; first | exact nomatch z.1 | (obtain ⟨_, z⟩ := z; exact nomatch z.1))
  | ins C fs => (unfold OR at z; simp only [e] at z; obtain ⟨_, _, z⟩ := z; exact nomatch z.1)
/-- kept lambdas in a row -/
def LKs (LO : LamT) (β : List Addr) (H : Hp) (ids : List Nat) (fvs : List V) : Prop := Paired (fun k u => ∃ f c, u = V.ref f ∧ (H f = some (.ext (LO.ob k f c)) ∧ f ∉ β) ∧ H c = some (LamX.CodeO c LO.q) ∧ c ∉ β) ids fvs
theorem LKs.step (s : Step β H β1 H1) {ids : List Nat} {fvs : List V} (r : LKs LO β H ids fvs) : LKs LO β1 H1 ids fvs :=
  L2.Paired.mapP r fun k u ⟨f, c, e, ⟨hf, n⟩, hc, nc⟩ => have t := s.tr (K := []) (F := fun _ => False); ⟨f, c, e, t.exts f _ hf n, t.exts c _ hc nc⟩
theorem lk_row {ids : List Nat} {es : List Expr} (hp : Paired (fun k e => PE X e (tLk Γ.T LO.q (LO.ob k)) ∧ plainX e = true) ids es) :
    ∃ ta : TA, PA X es ta ∧ ∀ (β : List Addr) (F : Addr → Prop) (h : Hc) (σ : L2.St) (H : Hp) (Q : List V → Hp → Prop), Rel Γ β F h H → (∀ fvs H', Step β H β H' → Rel Γ β F h H' → LKs LO β H' ids fvs → Q fvs H') → ta σ H Q := by
  induction hp with
  | nil => exact ⟨tNil, pa_nil, fun β F h σ H Q R q => q [] H (Step.refl _ _) R .nil⟩
  | cons hx hr ih =>
    rename_i k0 e0 l1 l2
    obtain ⟨ta, ha, hq⟩ := ih
    refine ⟨tCons (tLk Γ.T LO.q (LO.ob k0)) ta, pa_cons hx.1 ha (star_cons hx.2 _ X.env), fun β F h σ H Q R q => ⟨R.tb, fun H1 f c eN tb hf hf1 hc => ?_⟩⟩
    have eN2 : LamX.ExtN H (upd H1 f (.ext (LO.ob k0 f c))) := fun b o e nt => by
      rw [upd_ne (ne_of_none e hf)]
      exact eN b o e nt
    obtain ⟨st, R1⟩ := quiet_ext R eN2 tb
    have hc2 : upd H1 f (.ext (LO.ob k0 f c)) c = some (LamX.CodeO c LO.q) := by rw [upd_ne (ne_of_none hc hf1)]; exact hc
    have one : LKs LO β (upd H1 f (.ext (LO.ob k0 f c))) [k0] [.ref f] := .cons ⟨f, c, rfl, ⟨upd_same, R1.ext_nb upd_same⟩, hc2, R1.ext_nb hc2⟩ .nil
    refine hq β F h σ _ _ R1 fun fvs H' s2 R2 r2 => q _ H' (st.trans s2) R2 ?_
    cases one.step s2 with
    | cons a _ => exact .cons a r2
theorem paired_len {α γ : Type} {G : α → γ → Prop} {l : List α} {r : List γ} (h : Paired G l r) : l.length = r.length := by
  induction h with
  | nil => rfl
  | cons _ _ ih => simp [ih]
/-- the list of lambdas, new -/
theorem lms_new {ids : List Nat} {fvs : List V} {p : Addr} (R : Rel Γ β F h H) (hp : H p = none) (r : LKs LO β H ids fvs) : Step β H β (upd H p (.lst fvs)) ∧ Rel Γ β F h (upd H p (.lst fvs)) ∧ LMs LO β F (upd H p (.lst fvs)) ids (.ref p) := by
  have st : Step β H β (upd H p (.lst fvs)) := step_alt (Step.refl _ _) hp
  exact ⟨st, R.fresh hp, p, fvs, rfl, upd_same, fun z => (R.th p z).ne hp, fun z => (R.fr p z).ne hp, r.step st⟩
theorem s_bads (C : Fx Γ LO E X) {i : Nat} {y : Str} {py lpos : Pos} {ids : List Nat} {es : List Expr} (hi : X.N[i]? = some y) (hy : Loc X.env.scope y) (hf : X.fn y = true ∨ X.env.scope.names.lookup y = some .local)
    (hp : Paired (fun k e => PE X e (tLk Γ.T LO.q (LO.ob k)) ∧ plainX e = true) ids es) (hl : es.length ≤ LL) :
    PS X (.Assign [.Name y py] (.List es lpos) pos) (tS Γ LO E fun sl h => match sl[i]? with
      | some _ => .nx (sl.set i (.lams ids)) h
      | none => .no) := by
  obtain ⟨ta, ha, hq⟩ := lk_row hp
  refine PSimp (ps_set C.nodup hi hy (pe_lst ha) rfl hf) fun D σ H ⟨β, F, h, sl, R, S, q⟩ => ?_
  refine hq β F h σ H _ R fun fvs H' st R' r => ⟨?_, fun p hp => ?_⟩
  · rw [← paired_len r, paired_len hp]
    exact hl
  · obtain ⟨s2, R2, lm⟩ := lms_new R' hp r
    show D.nx (σ.set i (some (.ref p))) _
    dsimp only at q
    split at q
    · exact q _ _ β (st.trans s2) R2 ((S.step C.lo (st.trans s2)).set (s := .lams ids) ⟨_, rfl, lm⟩)
    · exact q.elim
theorem paired_app {α γ : Type} {G : α → γ → Prop} {l l2 : List α} {r r2 : List γ} (h : Paired G l r) (h2 : Paired G l2 r2) : Paired G (l ++ l2) (r ++ r2) := by
  induction h with
  | nil => exact h2
  | cons a _ ih => exact .cons a ih
/-- bad = bad + [..] -/
theorem s_badsMore (C : Fx Γ LO E X) {i : Nat} {y : Str} {py p2 lpos bpos : Pos} {ids : List Nat} {es : List Expr} (hi : X.N[i]? = some y) (hy : Loc X.env.scope y) (hf : X.fn y = true ∨ X.env.scope.names.lookup y = some .local)
    (hd : (y == ("__debug__" : Str)) = false) (hcd : (y == ("__classdict__" : Str)) = false)
    (hp : Paired (fun k e => PE X e (tLk Γ.T LO.q (LO.ob k)) ∧ plainX e = true) ids es) (hl : es.length ≤ 1000) :
    PS X (.Assign [.Name y py] (.BinOp (.Name y p2) .Add (.List es lpos) bpos) pos) (tS Γ LO E fun sl h => match sl[i]? with
      | some (.lams js) => if js.length ≤ 1000 then .nx (sl.set i (.lams (js ++ ids))) h else .no
      | _ => .no) := by
  obtain ⟨ta, ha, hq⟩ := lk_row hp
  have hv : Vis X.env.scope y := hy.elim .inl fun k => .inr (.inl k)
  refine PSimp (ps_set C.nodup hi hy (pe_op op_cat (pe_var (pos := p2) hi hv hd hcd) (pe_lst ha)) rfl hf) fun D σ H ⟨β, F, h, sl, R, S, q⟩ => ?_
  dsimp only at q
  split at q
  · rename_i js ej
    split at q
    · rename_i hjs
      obtain ⟨o, eo, v, ev, a, gvs, rfl, hA, nA, fA, rj⟩ := S.at_ i _ ej
      subst ev
      refine ⟨.ref a, eo, hq β F h σ H _ R fun fvs H' st R' r => ⟨?_, fun p hp' => ?_⟩⟩
      · rw [← paired_len r, paired_len hp]
        exact Nat.le_trans hl (by decide)
      · obtain ⟨s2, R2, lm⟩ := lms_new R' hp' r
        have s3 := st.trans s2
        have rj3 : LKs LO β (upd H' p (.lst fvs)) js gvs := LKs.step s3 rj
        have hA2 := s3.keep a _ hA nA (fun _ z => by cases z)
        refine ⟨a, p, gvs, fvs, rfl, rfl, hA2, upd_same, ?_, fun p3 hp3 => ?_⟩
        · rw [← paired_len rj, ← paired_len r, paired_len hp]
          exact Nat.le_trans (Nat.add_le_add hjs hl) (by decide)
        · have r4 : LKs LO β (upd H' p (.lst fvs)) (js ++ ids) (gvs ++ fvs) := paired_app rj3 (r.step s2)
          obtain ⟨s5, R5, lm5⟩ := lms_new R2 hp3 r4
          exact q _ _ β (s3.trans s5) R5 ((S.step C.lo (s3.trans s5)).set (s := .lams (js ++ ids)) ⟨_, rfl, lm5⟩)
    · exact q.elim
  · exact q.elim
end
end PyI

set_option Elab.async false
set_option linter.all false
set_option maxRecDepth 100000
set_option maxHeartbeats 1000000
/-! PyI25: a kept lambda called by the def that tells. -/
namespace PyI
open PySem PySem.Spec PyProof.Rows L2 LamX
section
variable {X : L2.Cx} {pins : List (Addr × Obj)} {σ : L2.St} {H HZ : Hp} {s s1 : Shared}
/-- a(), in the def that got the kept lambda -/
theorem pe_actK {CXg : CXT} {Eg : XK} {Ng : List Str} {qg : Str} {sg : Scope} {g f c : Addr} {cdg : Value} {k i : Nat} {a : Str} {pn : List (Addr × Obj)} {xe : Value → Shared → Prop} {W : WX} {E : XK} {tb : TE} {p1 p2 : Pos} {lk : Arguments → Expr → Scope → Bool} {φ : Heap → Prop}
    (I : Inv X pins σ H s) (hφ : ∀ h, φ h → ∃ (pa : Arguments) (bo : Expr) (sc : Scope) (pm ctv : Value), lk pa bo sc = true ∧ h.get? f = some (PySem.W.kla_obj "<lambda>" (X.env.qual ++ "<lambda>") pa bo sc (cloFrom X.env.cells sc.names []) pm c ctv))
    (hall : ∀ pa bo sc, lk pa bo sc = true → LamS X.env.scope sc ∧ (∀ (q : Str) (cl : List (Str × Addr)) (pm cv ctv : Value), bindArgs (PySem.W.kla_fn "<lambda>" q pa bo sc cl pm cv ctv) ⟨[], []⟩ = pure []) ∧
      ∀ (A : Around) (outer : List Env) (s : Shared) (H : Hp), Room k (A.deeper (lamEnv X sc s.heap.objs.size f c)) → PE (lamCx X A outer s H E sc f c) bo tb)
    (tk : Takes ((cxOf CXg X.prog X.w X.K X.mg X.base Ng qg sg g cdg X.A X.stack s H Eg).tr pn xe) W) (hW : ∀ cls d σ' H', E cls d H' → W cls d σ' H') (hr : Room (k + 1) (X.A.deeper (envOfC qg sg s.heap.objs.size g cdg)))
    (hN : Ng[i]? = some a) (hv : Vis sg a) (hd : (a == ("__debug__" : Str)) = false) (hcd : (a == ("__classdict__" : Str)) = false) :
    PE ((cxOf CXg X.prog X.w X.K X.mg X.base Ng qg sg g cdg X.A X.stack s H Eg).tr pn xe) (.Call (.Name a p1) [] [] p2)
      (fun σZ HZ Q => σZ[i]? = some (some (.ref f)) ∧ HZ c = some (CodeO c (X.env.qual ++ "<lambda>")) ∧ HZ f = some (.ext φ) ∧ tb σ HZ Q) := by
  refine ⟨fun pZ sZ σZ HZ Q IZ rd => ?_⟩
  obtain ⟨h1, h2, h3, h4⟩ := rd
  refine wpAny_Call_Name_kw (thn ((pe_var (pos := p1) (i := i) hN hv hd hcd).run pZ sZ σZ HZ (fun v H1 => v = .ref f ∧ H1 = HZ) IZ ⟨.ref f, h1, rfl, rfl⟩) fun u sY ⟨v, HY, IY, rY, qY⟩ => ?_)
  obtain ⟨eV, eH⟩ := qY
  subst eV eH
  obtain rfl : u = Value.ref f := rY
  obtain ⟨pa, bo, sc, pm, ctv, hk, hf⟩ := hφ sY.heap (IY.hok f _ h3).1
  obtain ⟨L, hbind, hbody⟩ := hall pa bo sc hk
  refine PySem.W.callWith_F0 ⟨_, _, _, _, hf⟩ ?_
  obtain ⟨⟨oc, vs, t, c1, c2, c3⟩, _, _⟩ := IY.hok c _ h2
  have out : Passes (L2.CX X.prog X.w) ((cxOf CXg X.prog X.w X.K X.mg X.base Ng qg sg g cdg X.A X.stack s H Eg).tr pn xe) E := passes_call tk hW
  have un : Un (frs X.stack) [] H HY s.heap sY.heap := IY.base
  have rc : codeAny (model X.prog X.w) (X.A.deeper (envOfC qg sg s.heap.objs.size g cdg)) (.call (.ref f) ⟨[], []⟩) (CR (L2.CX X.prog X.w) (envOfC qg sg s.heap.objs.size g cdg :: X.stack) X.prog X.w HY sY Q E) sY := by
    refine PySem.W.kla_callFunE hr.depth hf rfl L.co L.gen rfl ⟨c, oc, vs, t, rfl, c1, c2, c3⟩ ?_
    rw [hbind]
    refine wpAny_pure (wpAny_newFunctionEnv (fun y hy => (L.own y hy).2) (fun y hy => absurd hy (by simp)) (fun hN' hns hsb => ⟨IY.nolimit.fresh _ hsb, ?_⟩) L.kind)
    show codeAny _ _ (.expr bo (lamEnv X sc sY.heap.objs.size f c)) _ _
    have keep : ∀ b o, sY.heap.get? b = some o → hN'.get? b = some o := fun b o e => hsb.extBut b o (Nat.ne_of_lt (Heap.lt_size e)) (Heap.get?_push_of_some _ e)
    have J := lam_start2 (E := E) (f := f) (c' := c) (tk := sY.toks + ([] : List (Str × Value)).length) I L IY.env0 hr.hd un hns keep
    refine PySem.W.kla_codeExpr (wpAny_mono ((hbody _ _ sY HY (hr.deeper _)).run [] _ _ HY Q J h4) (fun v s' hq => ?_) fun e s' hq => hq)
    obtain ⟨wv, H', J', rv, q⟩ := hq
    exact ⟨wv, H', J'.os, J'.bare, J'.base, J'.hok, rv, q⟩
  refine wpAny_call (codeAny_mono rc fun r s' hq => ?_)
  cases r with
  | error e => exact out pZ σZ HY sY e s' IY hq
  | ok fl =>
    cases fl with
    | ret u => exact IY.after hq
    | next => exact hq.elim
    | brk => exact hq.elim
    | cont => exact hq.elim
/-- told(f) in the block -/
theorem pe_toldK {scope : Scope} {sD : Shared} {HD : Hp} {C : Addr} {cl : List (Str × Addr)} {fp : List Addr} {TT : (XK → Hp → VK → Prop) → Hp → VK → Prop} {x a fv : Str} {g : Addr} {k j : Nat} {pg : Arguments} {bg : List Stmt} {sg : Scope} {dV kV doc pm cdv ct oc : Value} {an od : Option Addr}
    {osl : Array (Option Value)} {Ng : List Str} {tb : XK → TE} {p pf pos : Pos} {lk : Arguments → Expr → Scope → Bool} {φ : Addr → Addr → Heap → Prop}
    (ID : Inv X pins σ HD sD) (hfp : ∀ b ∈ fp, FpOk X pins HD b)
    (hφ : ∀ f c h, φ f c h → ∃ (pa : Arguments) (bo : Expr) (sc : Scope) (pm ctv : Value), lk pa bo sc = true ∧ h.get? f = some (PySem.W.kla_obj "<lambda>" (X.env.qual ++ "<lambda>") pa bo sc (cloFrom X.env.cells sc.names []) pm c ctv))
    (hall : ∀ pa bo sc, lk pa bo sc = true → LamS X.env.scope sc ∧ (∀ (q : Str) (cl : List (Str × Addr)) (pm cv ctv : Value), bindArgs (PySem.W.kla_fn "<lambda>" q pa bo sc cl pm cv ctv) ⟨[], []⟩ = pure []) ∧
      ∀ (f c : Addr) (A : Around) (outer : List Env) (s : Shared) (H : Hp) (E : XK), Room k (A.deeper (lamEnv X sc s.heap.objs.size f c)) → PE (lamCx X A outer s H E sc f c) bo (tb E))
    (hg : Gl (bCx X scope sD HD C cl fp) x) (hm : X.mg x = some (.ref g)) (hk : PySem.W.keepIn X.K (.ref g) = true)
    (lkp : X.K.lookup g = some ⟨oc, od, .func (PySem.W.fnOf x x pg bg sg dV kV doc pm an cdv ct), osl⟩) (hcg : PySem.W.codeIn X.K cdv x = true) (hb : L2.Binds X.K (PySem.W.fnOf x x pg bg sg dV kV doc pm an cdv ct) [a] []) (Sg : FnScope Ng [a] sg) (hNg : Ng[0]? = some a) (hva : Vis sg a)
    (hG : GivesTo X Ng x sg g cdv bg a (X.env.qual ++ "<lambda>") TT) (hr : Room (k + 2) X.A) (hj : X.N[j]? = some fv) (hvf : Vis (bCx X scope sD HD C cl fp).env.scope fv)
    (hdb : (x == ("__debug__" : Str)) = false) (hd : (a == ("__debug__" : Str)) = false) (hcd : (a == ("__classdict__" : Str)) = false) (hd2 : (fv == ("__debug__" : Str)) = false) (hcd2 : (fv == ("__classdict__" : Str)) = false) :
    PE (bCx X scope sD HD C cl fp) (.Call (.Name x p) [.Name fv pf] [] pos) (fun σb H Q => ∃ f c, σb[j]? = some (some (.ref f)) ∧ H c = some (CodeO c (X.env.qual ++ "<lambda>")) ∧ TT (fun E HZ Q => HZ f = some (.ext (φ f c)) ∧ tb E σ HZ Q) H Q) := by
  refine ⟨fun pb sb σb H Q IB rd => ?_⟩
  obtain ⟨f, c, h1, h2, h3⟩ := rd
  refine wpAny_Call_Name_kw (ld_glob IB hg hm ?_ hdb)
  refine PySem.W.callWith_K (h₀ := X.base) IB.ok.mod.kin hk ?_ (by rfl) (by rfl)
  show wpAny _ _ (spliced ((false, eval (.Name fv pf) (bCx X scope sD HD C cl fp).env) :: backTo pos (starEach [] (bCx X scope sD HD C cl fp).env))) _ _ sb
  refine Calls.spliced_cons (thn ((pe_var (X := bCx X scope sD HD C cl fp) (pos := pf) (i := j) hj hvf hd2 hcd2).run pb sb σb H (fun v H1 => v = .ref f ∧ H1 = H) IB ⟨.ref f, h1, rfl, rfl⟩) fun u sY ⟨v, HY, IY, rY, qY⟩ => ?_)
  obtain ⟨eV, eH⟩ := qY
  subst eV eH
  obtain rfl : u = Value.ref f := rY
  refine Calls.spliced_nil ⟨IY.kIn, ?_⟩
  have IX : Inv X pins σ HY sY := ID.call' (ch := fp) IY.os IY.base IY.hok IY.bare fun b hb => by
    obtain ⟨_, a1, a2, a3, a4, a5⟩ := hfp b hb
    exact ⟨a3, a1, a4, a5⟩
  have rc : codeAny (model X.prog X.w) X.A (.call (.ref g) ⟨[.ref f], []⟩) (CR C8.CX0 X.stack X.prog X.w HY sY Q C8.E0) sY := by
    refine run_ofS (N := Ng) (ps := [a]) (us := [.ref f]) (vs := [.ref f]) lkp hcg Sg hr IX.env0 (hb sY [.ref f] IX.kIn rfl) (.cons rfl .nil) rfl fun hr' => ?_
    obtain ⟨t', ht', hq'⟩ := hG f c sY HY Q (fun E HZ Q => HZ f = some (.ext (φ f c)) ∧ tb E σ HZ Q) (fun W pn xe E p1 p2 tk hW => pe_actK (i := 0) (lk := lk) IX (hφ f c) (fun pa bo sc h => ⟨(hall pa bo sc h).1, (hall pa bo sc h).2.1, fun A outer s H hr2 => (hall pa bo sc h).2.2 f c A outer s H E hr2⟩) tk hW hr' hNg hva hd hcd) h2 h3
    exact ⟨t', ht'.nox, hq'⟩
  refine wpAny_call (codeAny_mono rc fun r s2 hq => ?_)
  cases r with
  | error e => exact (show False from hq).elim
  | ok fl =>
    cases fl with
    | ret u => exact IY.after hq
    | next => exact hq.elim
    | brk => exact hq.elim
    | cont => exact hq.elim
end
end PyI

set_option Elab.async false
set_option linter.all false
set_option maxRecDepth 100000
set_option maxHeartbeats 1000000
/-! PyI26: a kept lambda's body. -/
namespace PyI
open PySem PySem.Spec PyProof.Rows L2
section
variable {Γ : Gm} {LO : LamT} {T : Tb} {pg : Pg} {call : Nat → List W → Hc → RW} {K0 : Nat} {E : XK} {f : Fs} {X : L2.Cx}
theorem Wd.cx0 {P : Program} {w : World} {K : PySem.W.Frag} {mg : Str → Option Value} {base : Heap} (W_ : Wd Γ T (pg.cx call) K0 P w K mg base) : Wd Γ T (pg.cx0 call) K0 P w K mg base :=
  ⟨W_.hK, W_.nm, ⟨W_.cf.nm, W_.cf.cls, W_.cf.no⟩, W_.glob, W_.call, W_.new_, W_.meth, W_.bltn, W_.exc⟩
theorem lk_body (r : Frm Γ LO T (pg.cx call) K0 E f X) {k : Nat} {pa : Arguments} {bo : Expr} {sc : Scope} {e : PyI.E} (hx : T.lx[k]? = some e) (h : lkB T f k pa bo sc = true) :
    LamX.LamS X.env.scope sc ∧ (∀ (q : Str) (cl : List (Str × Addr)) (pm cv ctv : Value), bindArgs (PySem.W.kla_fn "<lambda>" q pa bo sc cl pm cv ctv) ⟨[], []⟩ = pure []) ∧
      ∀ (f' c : Addr) (A : Around) (outer : List Env) (s : Shared) (H : Hp) (E' : XK), Room (K0 + 1) (A.deeper (LamX.lamEnv X sc s.heap.objs.size f' c)) → PE (LamX.lamCx X A outer s H E' sc f' c) bo (tE Γ LO E' (evE (pg.cx0 call) e)) := by
  unfold lkB at h
  rw [hx] at h
  simp only [Bool.and_eq_true] at h
  obtain ⟨⟨h1, h2⟩, h3⟩ := h
  have L : LamX.LamS X.env.scope sc := by rw [r.sc_]; exact LamX.lamS_by h1
  have hpar := noPar_ok h2
  subst hpar
  refine ⟨L, fun q cl pm cv ctv => rfl, fun f' c A outer s H E' hr => ?_⟩
  have r0 := r.inLam (E' := E') (outer := outer) (H := H) L hr
  have r1 : Frm Γ LO T (pg.cx0 call) K0 E' (f.inLam sc) (LamX.lamCx X A outer s H E' sc f' c) := ⟨r0.lo, r0.calm, r0.nodup, r0.tk, Wd.cx0 r0.wd, r0.N_, r0.sc_, r0.fn_, r0.kind, r0.room, fun z => (by cases z), fun z => (by cases z)⟩
  exact (ev_ok (xt := fun _ _ _ _ => false) (fun _ h => by cases h) (sizeOf e + 1) e (Nat.lt_succ_self _) _ _ _ _ _ r1 h3).e
/-- what told makes of the lambda's reading -/
theorem told_read {β : List Addr} {F : Addr → Prop} {h : Hc} {H : Hp} {sl : Sl} {σ : L2.St} {m : Sl → Hc → RW} {CS : Nat} {ret : List Nat} {g : Addr} {φ : Heap → Prop} {Q : VK} {K : PySem.W.Frag} (hex : PySem.W.exmOne K (.ref (Γ.exc CS)) (.ref (Γ.exc CS)) = some true) (R : Rel Γ β F h H) (S : RSl Γ.K LO β F H sl σ)
    (hf : H g = some (.ext φ)) (q : Aft Γ (fun _ _ _ => False) F (AW Γ F) β H (catchT [(CS, ret)] (m sl h)) Q) : LamX.TTold K (Γ.exc CS) (ofL ret) (fun E HZ Q => HZ g = some (.ext φ) ∧ tE Γ LO E m σ HZ Q) H Q := by
  unfold LamX.TTold
  refine ⟨hf, β, F, h, sl, R, S, ?_⟩
  revert q
  generalize m sl h = r
  intro q
  cases r with
  | ok p => exact q
  | no => exact q
  | exc c h' =>
    intro H2 β2 s2 R2
    have q : Aft Γ (fun _ _ _ => False) F (AW Γ F) β H (match List.lookup c [(CS, ret)] with
      | some s => .ok (.str s, h')
      | none => .no) Q := q
    by_cases ec : c = CS
    · subst ec
      have q : Aft Γ (fun _ _ _ => False) F (AW Γ F) β H (.ok (.str ret, h')) Q := by simpa using q
      exact ⟨true, hex, fun _ => q _ H2 β2 s2 R2 (mk_str _), fun z => by cases z⟩
    · have e0 : List.lookup c [(CS, ret)] = none := by
        rw [List.lookup_cons]
        have : (c == CS) = false := by simpa using ec
        rw [this]
        rfl
      rw [e0] at q
      exact q.elim
end
end PyI

set_option Elab.async false
set_option linter.all false
set_option maxRecDepth 100000
set_option maxHeartbeats 1000000
/-! PyI27: [1 for f in bad if told(f) != "X"]. -/
namespace PyI
open PySem PySem.Spec PyProof.Rows L2
section
variable {Γ : Gm} {LO : LamT} {T : Tb} {pg : Pg} {call : Nat → List W → Hc → RW} {K0 : Nat} {E : XK} {f : Fs} {X : L2.Cx}
/-- the reading of told(f) in the block, for the maker's slots σ -/
def tKept (Γ : Gm) (LO : LamT) (pg : Pg) (call : Nat → List W → Hc → RW) (hs : List (Nat × List Nat)) (j : Nat) (σ : L2.St) : TE := fun σb H Q => ∃ k g c β F h sl, σb[j]? = some (some (.ref g)) ∧ H c = some (LamX.CodeO c LO.q) ∧ H g = some (.ext (LO.ob k g c)) ∧
  Rel Γ β F h H ∧ RSl Γ.K LO β F H sl σ ∧ Aft Γ (fun _ _ _ => False) F (AW Γ F) β H (catchT hs ((pg.cx call).lam k sl h)) Q
theorem pe_kept (r : Frm Γ LO T (pg.cx call) K0 E f X) (hl : f.lam = true) (hlx : T.lx = pg.lams) {pins : List (Addr × Obj)} {σ : L2.St} {s : Shared} {H : Hp} {C : Addr} {cl : List (Str × Addr)} {fp : List Addr} {scope : Scope} {t j : Nat} {x fv : Str} {p pf pos : Pos}
    (ID : Inv X pins σ H s) (hfp : ∀ b ∈ fp, FpOk X pins H b) (ht : T.tn[t]? = some x) (hg : Gl (bCx X scope s H C cl fp) x) (hj : X.N[j]? = some fv) (hvf : Vis (bCx X scope s H C cl fp).env.scope fv) (hd2 : (fv == ("__debug__" : Str)) = false) (hcd2 : (fv == ("__classdict__" : Str)) = false) :
    PE (bCx X scope s H C cl fp) (.Call (.Name x p) [.Name fv pf] [] pos) (tKept Γ LO pg call ((pg.cx call).told t) j σ) := by
  obtain ⟨hr, Lf, tell, hLO⟩ := r.lam hl
  have Tf := tell t x ht
  obtain ⟨a, g, pg', bg, sg, dV, kV, doc, pm, cdv, ct, oc, an, od, osl, Ng, CS, ret, ehs, hdb, hm, hk, lk, hcg, hb, Sg, hNg, hva, hd, hcd, hG, hex⟩ := Tf.ex
  have eq : LO.q = X.env.qual ++ "<lambda>" := by rw [hLO]; rfl
  refine ⟨fun pb sb σb Hb Q IB ⟨k, g', c, β, F, h, sl, h1, h2, h3, R, S, q⟩ => ?_⟩
  obtain ⟨e, he⟩ : ∃ e, pg.lams[k]? = some e := by
    cases z : pg.lams[k]? with
    | some e => exact ⟨e, rfl⟩
    | none =>
      have : (pg.cx call).lam k sl h = .no := by
        show (match pg.lams[k]? with
          | some e => evE (pg.cx0 call) e sl h
          | none => .no) = _
        rw [z]
      rw [this] at q
      exact q.elim
  have hx : T.lx[k]? = some e := by rw [hlx]; exact he
  have hlam : (pg.cx call).lam k = evE (pg.cx0 call) e := by
    show (fun σ h => match pg.lams[k]? with
      | some e => evE (pg.cx0 call) e σ h
      | none => .no) = _
    rw [he]
  rw [hlam] at q
  rw [ehs] at q
  refine (pe_toldK (tb := fun E' => tE Γ LO E' (evE (pg.cx0 call) e)) (φ := LO.ob k) (lk := lkB T f k) ID hfp (fun f' c h z => by rw [hLO] at z; exact z) (fun pa bo sc z => lk_body r hx z) hg hm hk lk hcg hb Sg hNg hva hG (k := K0 + 1) hr hj hvf hdb hd hcd hd2 hcd2).run pb sb σb Hb Q IB ⟨g', c, h1, by rw [← eq]; exact h2, told_read hex R S h3 q⟩
theorem bad_run {hs : List (Nat × List Nat)} {s : List Nat} {fl : Nat → Hc → RW} {k : Nat} {r : List Nat} {h : Hc} {p : List W × Hc} (e : badRun hs s fl (k :: r) h = .ok p) :
    ∃ w h1 b ys, catchT hs (fl k h) = .ok (w, h1) ∧ isEq0 h1 w (.str s) = some b ∧ badRun hs s fl r h1 = .ok (ys, p.2) ∧ p.1 = (if b then ys else .int 1 :: ys) := by
  unfold badRun at e
  cases e1 : catchT hs (fl k h) with
  | no => rw [e1] at e; cases e
  | exc c h' => rw [e1] at e; cases e
  | ok q =>
    obtain ⟨w, h1⟩ := q
    rw [e1] at e
    simp only [Res.bind] at e
    cases e2 : isEq0 h1 w (.str s) with
    | none => rw [e2] at e; cases e
    | some b =>
      rw [e2] at e
      cases e3 : badRun hs s fl r h1 with
      | no => rw [e3] at e; cases e
      | exc c h' => rw [e3] at e; cases e
      | ok q2 =>
        rw [e3] at e
        cases e
        exact ⟨w, h1, b, q2.1, rfl, e2, e3, rfl⟩
theorem bad_ok {hs : List (Nat × List Nat)} {s : List Nat} {fl : Nat → Hc → RW} {ids : List Nat} {h : Hc} {g : List W × Hc → RW} (hg : (badRun hs s fl ids h).bind g ≠ .no) (hx : ∀ c h', catchT hs (fl 0 h) ≠ .exc c h' ∨ True) : badRun hs s fl ids h ≠ .no := by
  intro z
  rw [z] at hg
  exact hg rfl
theorem catch_exc {hs : List (Nat × List Nat)} {r : RW} : ∀ c h', catchT hs r ≠ .exc c h' := by
  intro c h'
  unfold catchT
  split
  · split <;> (intro z; cases z)
  · rename_i z
    exact z c h'
theorem bad_exc {hs : List (Nat × List Nat)} {s : List Nat} {fl : Nat → Hc → RW} : ∀ {ids : List Nat} {h : Hc} c h', badRun hs s fl ids h ≠ .exc c h' := by
  intro ids
  induction ids with
  | nil => intro h c h' z; cases z
  | cons k r ih =>
    intro h c h' z
    unfold badRun at z
    cases e1 : catchT hs (fl k h) with
    | no => rw [e1] at z; cases z
    | exc c h' => exact catch_exc _ _ e1
    | ok q =>
      obtain ⟨w, h1⟩ := q
      rw [e1] at z
      simp only [Res.bind] at z
      cases e2 : isEq0 h1 w (.str s) with
      | none => rw [e2] at z; cases z
      | some b =>
        rw [e2] at z
        cases e3 : badRun hs s fl r h1 with
        | no => rw [e3] at z; cases z
        | exc c h' => exact ih _ _ e3
        | ok q2 => rw [e3] at z; cases z
theorem paired_get {α γ : Type} {G : α → γ → Prop} : ∀ {l : List α} {r : List γ} {i : Nat} {y : γ}, Paired G l r → r[i]? = some y → ∃ x, l[i]? = some x ∧ G x y
  | _, _, _, _, .nil, e => by simp at e
  | _, _, 0, _, .cons a _, e => by simp at e; subst e; exact ⟨_, rfl, a⟩
  | _, _, i + 1, y, .cons _ t, e => by
    obtain ⟨x, h1, h2⟩ := paired_get (i := i) (y := y) t (by simpa using e)
    exact ⟨x, by simpa using h1, h2⟩
theorem bad_nil {Γ : Gm} {E : XK} {F : Addr → Prop} {β : List Addr} {H : Hp} {hs : List (Nat × List Nat)} {s : List Nat} {fl : Nat → Hc → RW} {ids : List Nat} {h : Hc} {Q : VK} (q : Aft Γ E F (AW Γ F) β H ((badRun hs s fl ids h).bind fun (ys, h1) => .ok (.lst ys, h1)) Q) :
    ∃ zs h3, badRun hs s fl ids h = .ok (zs, h3) ∧ Aft Γ E F (AW Γ F) β H (.ok (.lst zs, h3)) Q := by
  cases e : badRun hs s fl ids h with
  | no => rw [e] at q; exact q.elim
  | exc c h' => exact absurd e (bad_exc c h')
  | ok p => rw [e] at q; exact ⟨p.1, p.2, rfl, q⟩
theorem e_bad (r : Frm Γ LO T (pg.cx call) K0 E f X) (hl : f.lam = true) (hlx : T.lx = pg.lams) {i j t : Nat} {x fv y : Str} {ss : List Nat} {a0 : Nat} {b0 : Pos} {k0 : Nat} {scope : Scope} {p1 p2 p3 p4 p5 p6 p7 pos : Pos}
    (ht : T.tn[t]? = some x) (hg : glB (f.blk scope).sc x = true) (hi : X.N[i]? = some y) (hvy : visB f.sc y = true) (hny : nmB y = true)
    (hj : X.N[j]? = some fv) (ok : BlkOk X.N X.env.scope scope [(fv, j)]) (hvf : visB (f.blk scope).sc fv = true) (hlf : locB (f.blk scope) fv = true) (hnf : nmB fv = true) :
    PE X (.ListComp (.Constant (.int 1) a0 b0) [⟨.Name fv p1, .Name y p2, [.Compare (.Call (.Name x p3) [.Name fv p4] [] p5) [.NotEq] [.Constant (.str (ofL ss)) k0 p6] p7], 0⟩] scope pos)
      (tE Γ LO E (evE (pg.cx call) (.bad i t ss))) := by
  have rb := fun (s : Shared) (H : Hp) (C : Addr) (cl : List (Str × Addr)) (fp : List Addr) => r.blk ok s H C cl fp
  refine ⟨fun pins s σ H Q I ⟨β, F, h, sl, R, S, q⟩ => ?_⟩
  have base := pe_lcI (pos := pos) r.calm r.nodup (pi_list (pe_var (pos := p2) hi (r.vis hvy) (nmB_ok hny).1 (nmB_ok hny).2)) ok (tg := .Name fv p1) (g := gName j) (elt := .Constant (.int 1) a0 b0) (ifs := [.Compare (.Call (.Name x p3) [.Name fv p4] [] p5) [.NotEq] [.Constant (.str (ofL ss)) k0 p6] p7])
    (tt := fun σ => tTest (tOp (rC Γ (cmpop .NotEq)) (tKept Γ LO pg call ((pg.cx call).told t) j σ) (tC (.str (ofL ss))))) (te := fun _ => tC (.int 1))
    (fun s H C cl fp => pg_name (rb s H C cl fp).nodup hj ((rb s H C cl fp).loc hlf).1 ((rb s H C cl fp).loc hlf).2)
    (fun pins s σ H C cl fp I hfp => pts_one (pt_cmpR (pos := p7) (op_cmp r.fx.hK (rb s H C cl fp).fx.units) (pe_kept r hl hlx I hfp ht ((rb s H C cl fp).gl hg).1 hj ((rb s H C cl fp).vis hvf) (nmB_ok hnf).1 (nmB_ok hnf).2) pe_str rfl))
    (fun pins s σ H C cl fp I hfp => pe_int (i := 1) (j := a0) (pos := b0))
  refine base.run pins s σ H Q I ?_
  have ev : evE (pg.cx call) (.bad i t ss) sl h = (match sl[i]? with
    | some (.lams ids) => (badRun ((pg.cx call).told t) ss (fun k h => (pg.cx call).lam k sl h) ids h).bind fun (ys, h1) => .ok (.lst ys, h1)
    | _ => .no) := by unfold evE; rfl
  rw [ev] at q
  clear ev
  split at q
  case h_2 => exact q.elim
  rename_i ids ei
  obtain ⟨zs, h3, ez, q⟩ := bad_nil q
  obtain ⟨o, eo, v, ev, a, fvs, rfl, hA, nA, fA, lk⟩ := S.at_ i _ ei
  subst ev
  have lenF : fvs.length ≤ sizeLine := (show ObjOk X.prog X.w H s.heap a (.lst fvs) from I.hok a _ hA).1
  have jlt : j < σ.length := by rw [I.len]; exact (List.getElem?_eq_some_iff.mp hj).1
  refine ⟨.ref a, eo, a, rfl, ⟨fvs, .inl (.inl hA)⟩, fun D hD => ?_⟩
  have nFD : ¬ F D := fun z => (R.fr D z).ne hD
  have npD : D ∉ β := fun z => (R.th D z).ne hD
  let Pv : Nat → Hp → Prop := fun i H2 => ∃ β2 h2 ys acc zs h3, Tr Γ.K β F H β2 (FP F D) H2 ∧ Step β H β2 H2 ∧ Rel Γ β2 (FP F D) h2 H2 ∧ H2 D = some (.lst acc) ∧ RVs Γ.K β2 (FP F D) H2 ys acc ∧ ys.length ≤ i ∧
    badRun ((pg.cx call).told t) ss (fun k h => (pg.cx call).lam k sl h) (ids.drop i) h2 = .ok (zs, h3) ∧ Aft Γ E F (AW Γ F) β H (.ok (.lst (ys ++ zs), h3)) Q
  refine lc_list (K := X.K) (a := a) (xs := fvs) Pv ⟨β, h, [], [], zs, h3, tr_foreign hD, step_new hD, R.foreign hD, upd_same, RVs.nil.mpr rfl, Nat.le_refl _, ez, q⟩ (fun i' H2 _ ⟨β2, h2, ys, acc, zs, h3, tr, _⟩ => ?_) (fun i' x' H2 hx' ⟨β2, h2, ys, acc, zs, h3, tr, st, R2, hacc, ry, hlen, ez, q⟩ => ?_) (fun H2 ⟨β2, h2, ys, acc, zs, h3, tr, st, R2, hacc, ry, hlen, ez, q⟩ => ?_)
  · exact .inl (.inl (tr.keep a _ hA nA fA (fun _ z => by cases z)).1)
  · obtain ⟨k, ek, g, c, rfl, ⟨hg1, ng⟩, hc1, nc⟩ := paired_get lk hx'
    have ilt : i' < ids.length := (List.getElem?_eq_some_iff.mp ek).1
    have ed : ids.drop i' = k :: ids.drop (i' + 1) := by
      rw [List.drop_eq_getElem_cons ilt]
      congr 1
      exact Option.some.inj ((List.getElem?_eq_getElem ilt).symm.trans ek)
    rw [ed] at ez
    obtain ⟨w, h4, b, ys', e1, e2, e3, e4⟩ := bad_run ez
    have SB := S.tr r.lo tr
    have hlen2 : i' < fvs.length := (List.getElem?_eq_some_iff.mp hx').1
    show L2.wipe ((L2.wipe σ [j]).set j (some (V.ref g))) [j] = L2.wipe σ [j] ∧ _
    refine ⟨?_, ?_⟩
    · show ((σ.set j none).set j _).set j none = σ.set j none
      rw [List.set_set, List.set_set]
    · show tKept _ _ _ _ _ _ _ _ _ _
      refine ⟨k, g, c, β2, FP F D, h2, sl, ?_, (tr.exts c _ hc1 nc).1, (tr.exts g _ hg1 ng).1, R2, SB, ?_⟩
      · rw [List.getElem?_set_self (by rw [wipe_length]; exact jlt)]
      · rw [e1]
        intro v4 H4 β4 s4 R4 rv4
        unfold tC rC
        refine ⟨β4, FP F D, h4, w, .str ss, !b, R4, rv4, mk_str ss, ?_, !b, rfl, ?_⟩
        · show (isEq0 h4 w (.str ss)).map (!·) = _
          rw [e2]
          rfl
        · have nD2 : D ∉ β2 := fun z => R2.av D z (.inr rfl)
          have hD4 : H4 D = some (.lst acc) := s4.keep D _ hacc nD2 (fun _ z => by cases z)
          cases b with
          | true =>
            show Pv (i' + 1) H4
            exact ⟨β4, h4, ys, acc, ys', h3, tr.trans s4.tr, st.trans s4, R4, hD4, RVs.step s4 _ _ ry, by omega, e3, by
              simp only [if_true] at e4
              rw [← e4]
              exact q⟩
          | false =>
            show ∃ acc, H4 D = some (HO.lst acc) ∧ acc.length < sizeLine ∧ Pv (i' + 1) (upd H4 D (HO.lst (acc ++ [V.int 1])))
            have nt : ∀ us, HO.lst acc ≠ .tup us := fun _ z => by cases z
            have tr5 := tr_alt (K := Γ.K) (β := β4) (F := F) (o := .lst (acc ++ [V.int 1])) hD4 nt
            have lacc := RVs.length ry
            refine ⟨acc, hD4, ?_, β4, h4, ys ++ [.int 1], acc ++ [V.int 1], ys', h3, (tr.trans s4.tr).trans tr5, step_alt (st.trans s4) hD, R4.alt hD4 nt (fun _ z => by cases z) (fun _ z => by unfold LamX.CodeO at z; cases z), upd_same, ?_, ?_, e3, ?_⟩
            · rw [← lacc]
              omega
            · exact RVs.tr tr5 _ _ (RVs.append (RVs.step s4 _ _ ry) (RVs.mk (mk_int 1) (RVs.nil.mpr rfl)))
            · rw [List.length_append, List.length_singleton]
              omega
            · simp only [Bool.false_eq_true, if_false] at e4
              rw [List.append_assoc]
              show Aft Γ E F (AW Γ F) β H (.ok (.lst (ys ++ (.int 1 :: ys')), h3)) Q
              rw [← e4]
              exact q
  · have el : ids.length = fvs.length := paired_len lk
    rw [← el, List.drop_length] at ez
    unfold badRun at ez
    cases ez
    rw [List.append_nil] at q
    have nD2 : D ∉ β2 := fun z => R2.av D z (.inr rfl)
    refine q (.ref D) H2 β2 st R2.drop ?_
    show RV _ _ _ _ _ _
    unfold RV
    exact ⟨D, acc, rfl, hacc, nD2, nFD, RVs.tr tr_drop _ _ ry⟩
end
end PyI

set_option Elab.async false
set_option linter.all false
set_option maxRecDepth 100000
set_option maxHeartbeats 1000000
/-! PyI28: the checks of lists of lambdas. -/
namespace PyI
open PySem PySem.Spec PyProof.Rows L2
def bdsC (T : Tb) (f : Fs) : List Nat → List Expr → Bool
  | [], [] => true
  | k :: ks, .Lambda pa bo sc _ :: es => lkB T f k pa bo sc && bdsC T f ks es
  | _, _ => false
/-- the statements -/
def xsB (T : Tb) (f : Fs) (c : S) (s : Stmt) : Bool := match c, s with
  | .bads i false ids, .Assign [.Name y _] (.List es _) _ => f.lam && decide (f.N[i]? = some y) && locB f y && decide (es.length ≤ 1000) && bdsC T f ids es
  | .bads i true ids, .Assign [.Name y _] (.BinOp (.Name y' _) .Add (.List es _) _) _ => f.lam && decide (f.N[i]? = some y) && decide (y' = y) && locB f y && nmB y && decide (es.length ≤ 1000) && bdsC T f ids es
  | _, _ => false
/-- the comprehension -/
def xtB (T : Tb) (f : Fs) (m : Bool) (c : E) (e : Expr) : Bool := match c, e with
  | .bad i t ss, .ListComp (.Constant (.int 1) _ _) [⟨.Name fv _, .Name y _, [.Compare (.Call (.Name x _) [.Name fv' _] [] _) [.NotEq] [.Constant (.str sx) _ _] _], 0⟩] scope _ =>
    f.lam && decide (T.tn[t]? = some x) && glB (f.blk scope).sc x && decide (f.N[i]? = some y) && visB f.sc y && nmB y && decide (fv' = fv) && decide (sx = ofL ss) && (match f.N.findIdx? (· == fv) with
      | some j => decide (f.N[j]? = some fv) && blkC f.N f.sc scope [(fv, j)]
      | none => false) && visB (f.blk scope).sc fv && locB (f.blk scope) fv && nmB fv
  | _, _ => false
section
variable {Γ : Gm} {LO : LamT} {T : Tb} {pg : Pg} {call : Nat → List W → Hc → RW} {K0 : Nat} {E : XK} {f : Fs} {X : L2.Cx}
theorem bds_ok (r : Frm Γ LO T (pg.cx call) K0 E f X) (hl : f.lam = true) : ∀ {ids : List Nat} {es : List Expr}, bdsC T f ids es = true → Paired (fun k e => PE X e (tLk Γ.T LO.q (LO.ob k)) ∧ plainX e = true) ids es
  | [], [], _ => .nil
  | [], _ :: _, h => by cases h
  | _ :: _, [], h => by cases h
  | k :: ks, e :: es, h => by
    unfold bdsC at h
    split at h
    case h_1 z1 z2 => cases z1
    case h_3 => cases h
    rename_i k2 ks2 pa bo sc p es2 z1 z2
    cases z1
    cases z2
    rw [Bool.and_eq_true] at h
    obtain ⟨h1, h2⟩ := h
    obtain ⟨_, Lf, _, hLO⟩ := r.lam hl
    obtain ⟨c, P, TB, hcode, hmT, hu⟩ := Lf.ex
    have h1' := h1
    unfold lkB at h1
    simp only [Bool.and_eq_true] at h1
    obtain ⟨⟨a1, a2⟩, _⟩ := h1
    have L : LamX.LamS X.env.scope sc := by rw [r.sc_]; exact LamX.lamS_by a1
    have hpar := noPar_ok a2
    refine .cons ⟨?_, rfl⟩ (bds_ok r hl h2)
    subst hLO
    exact pe_lamk TB hcode hmT hu (by rw [hpar]; rfl) L (fun f' c' h' pm ctv e => ⟨pa, bo, sc, pm, ctv, h1', e⟩) (fun f' c' g1 g2 ⟨pa, bo, sc, pm, ctv, z1, z2⟩ st => ⟨pa, bo, sc, pm, ctv, z1, st _ z2⟩)
theorem xs_ok (r : FrmS Γ LO T (pg.cx call) K0 E f X) {c : S} {s : Stmt} (h : xsB T f c s = true) : PS X s (tS Γ LO E (exS (pg.cx call) c)) := by
  unfold xsB at h
  split at h
  · simp only [Bool.and_eq_true, decide_eq_true_eq] at h
    obtain ⟨⟨⟨⟨h1, h2⟩, h3⟩, h4⟩, h5⟩ := h
    rename_i i ids y p1 es p2 p3
    have l := r.toFrm.loc h3
    have z := s_bads (pos := p3) (lpos := p2) (py := p1) r.toFrm.fx (by rw [r.toFrm.N_]; exact h2) l.1 l.2 (bds_ok r.toFrm h1 h5) (Nat.le_trans h4 (by decide))
    have e : exS (pg.cx call) (.bads i false ids) = fun sl h => match sl[i]? with
      | some _ => .nx (sl.set i (.lams ids)) h
      | none => .no := by
      funext sl h
      unfold exS
      cases sl[i]? with
      | none => rfl
      | some v => cases v <;> rfl
    rw [e]
    exact z
  · simp only [Bool.and_eq_true, decide_eq_true_eq] at h
    obtain ⟨⟨⟨⟨⟨⟨h1, h2⟩, h3⟩, h4⟩, h5⟩, h6⟩, h7⟩ := h
    rename_i i ids y p1 y' p2 es p3 p4 p5
    subst h3
    have l := r.toFrm.loc h4
    have z := s_badsMore (pos := p5) (lpos := p3) (bpos := p4) (py := p1) (p2 := p2) r.toFrm.fx (by rw [r.toFrm.N_]; exact h2) l.1 l.2 (nmB_ok h5).1 (nmB_ok h5).2 (bds_ok r.toFrm h1 h7) h6
    have e : exS (pg.cx call) (.bads i true ids) = fun sl h => match sl[i]? with
      | some (.lams js) => if js.length ≤ 1000 then .nx (sl.set i (.lams (js ++ ids))) h else .no
      | _ => .no := by
      funext sl h
      unfold exS
      cases sl[i]? with
      | none => rfl
      | some v => cases v <;> rfl
    rw [e]
    exact z
  · cases h
theorem xt_ok (r : Frm Γ LO T (pg.cx call) K0 E f X) (hlx : T.lx = pg.lams) {m : Bool} {c : PyI.E} {e : Expr} (h : xtB T f m c e = true) : Rds Γ LO (pg.cx call) E X m c e := by
  unfold xtB at h
  split at h
  · simp only [Bool.and_eq_true, decide_eq_true_eq] at h
    obtain ⟨⟨⟨⟨⟨⟨⟨⟨⟨⟨⟨h1, h2⟩, h4⟩, h5⟩, h6⟩, h7⟩, h8⟩, h9⟩, h10⟩, h11⟩, h12⟩, h13⟩ := h
    split at h10
    · rename_i j ej
      simp only [Bool.and_eq_true, decide_eq_true_eq] at h10
      subst h8 h9
      refine Rds.of r.fx (e_bad r h1 hlx h2 h4 (by rw [r.N_]; exact h5) h6 h7 (by rw [r.N_]; exact h10.1) (by rw [r.N_, r.sc_]; exact blkOk_by h10.2) h11 h12 h13) rfl (fun _ => rfl)
    · cases h10
  · cases h
end
end PyI

set_option Elab.async false
set_option linter.all false
set_option maxRecDepth 100000
set_option maxHeartbeats 1000000
/-! PyI29: generator expressions: their frame, their turns. -/
namespace PyI
open PySem PySem.Spec PyProof.Rows L2 GenW
abbrev gEnv (X : L2.Cx) (scope : Scope) (C : Addr) (code : Value) : Env := genEnv scope (cloFrom X.env.cells scope.names []) C code builtinsNs X.env
/-- the context of a generator's frame, made at s -/
def gCx (X : L2.Cx) (A : Around) (s : Shared) (H : Hp) (scope : Scope) (code : Value) (fp : List Addr) : L2.Cx where
  prog := X.prog
  w := X.w
  K := X.K
  mg := X.mg
  base := X.base
  A := A.deeper (gEnv X scope s.heap.objs.size code)
  N := X.N
  s_0 := s
  H_0 := H
  env := gEnv X scope s.heap.objs.size code
  outer := X.stack
  stack := gEnv X scope s.heap.objs.size code :: X.stack
  ex := fp
  fn := fun _ => false
  calm := true
  pn := []
  xe := fun _ _ => False
section
variable {X : L2.Cx} {pins : List (Addr × Obj)} {σ : L2.St} {H : Hp} {s : Shared}
theorem Inv.regen {g' : Array GenState} (I : L2.Inv X pins σ H s) (hg : AllBare g') : L2.Inv X pins σ H { s with gens := g' } :=
  ⟨I.ok, I.os, hg, I.base, I.loc, I.cell, I.free, I.freeC, I.pin, I.hok, I.len⟩
theorem gen_start {A : Around} {scope : Scope} {own : List (Str × Nat)} {code : Value} {fp : List Addr} {s' : Shared} {m : Str → Option Value} {pc : List (Addr × Obj)} (I : L2.Inv X pins σ H s) (ho : s'.os = s.os) (ok : BlkOk X.N X.env.scope scope own) (hN : X.N.Nodup)
    (hcell : ∀ y ∈ scope.names, y.2 ≠ .cell) (hA : A.handled = none) (hfr : A.frames = some X.stack) (hfp : ∀ b ∈ fp, FpOk X pins H b ∧ b < s.heap.objs.size) (hns : s'.heap.Ns s.heap.objs.size m) (kp : ∀ b o, s.heap.get? b = some o → s'.heap.get? b = some o) (hb : AllBare s'.gens)
    (hpc : ∀ p ∈ pc, s'.heap.get? p.1 = some p.2 ∧ H p.1 = none ∧ p.1 ≠ s.heap.objs.size ∧ p.1 ∉ frs X.stack ∧ ∀ v, p.2.data ≠ .cell v) :
    L2.Inv (gCx X A s H scope code fp) pc (L2.wipe σ (own.map (·.2))) H s' := by
  have hfree : ∀ y ∈ scope.names, y.2 = .free → ∃ c, X.env.cells.lookup y.1 = some c := fun y hy e => by
    rcases ok.free y hy e with k | k
    · exact I.ok.has _ (.inl k)
    · exact I.ok.has _ (.inr k)
  have cm : ∀ {y c}, (cloFrom X.env.cells scope.names []).lookup y = some c → X.env.cells.lookup y = some c := fun {y c} e => by
    rcases cloFrom_mem (PySem.mem_of_lookup e) with hm | ⟨h1, h2⟩
    · cases hm
    · obtain ⟨c1, hc⟩ := hfree _ h1 rfl
      have hc : X.env.cells.lookup y = some c1 := hc
      have e2 : c = c1 := by
        rw [h2, hc] <;> rfl
      rw [e2]
      exact hc
  have look : ∀ {y}, scope.names.lookup y = some .free → ∃ c, (cloFrom X.env.cells scope.names []).lookup y = some c := fun {y} hl => by
    have hy : (y, NameKind.free) ∈ scope.names := PySem.mem_of_lookup hl
    exact mem_lookup (cloFrom_has (cells := X.env.cells) (acc := []) hy)
  have okB : (gCx X A s H scope code fp).Ok := by
    refine ⟨I.ok.mod, ok.kind, I.ok.glob, rfl, Nat.le_refl _, fun y z c e1 e2 => I.ok.inj y z c (cm e1) (cm e2), fun y hy => ?_, fun y c z _ => ?_, fun _ => hA, Around.frames_deeper hfr, .inr ⟨rfl, rfl⟩, fun b hb => ⟨?_, fun y c e z => ?_⟩, I.bs, Nat.le_trans I.ok.bsz I.sz, fun b o e hb => ?_, fun b hb z => ?_, I.stack, I.stkFree⟩
    · have hy : scope.names.lookup y = some .cell ∨ scope.names.lookup y = some .free := hy
      rcases hy with hy | hy
      · exact absurd rfl (hcell _ (PySem.mem_of_lookup hy))
      · exact look hy
    · have z : false = true := z
      cases z
    · show b ≠ s.heap.objs.size
      exact Nat.ne_of_lt (hfp b hb).2
    · exact (hfp b hb).1.2.2.2.2.1 y c (cm e) z
    · rcases (hfp b hb).1.2.2.2.1 with z | z
      · exact I.ok.noex b o e z
      · exact absurd (Nat.lt_of_lt_of_le (Heap.lt_size e) (Nat.le_trans I.ok.bsz z)) (Nat.lt_irrefl _)
    · rcases List.mem_cons.mp (I.stkSub b z) with z | z
      · exact (hfp b hb).1.2.1 z
      · exact (hfp b hb).1.2.2.1 z
  refine ⟨okB, ho, hb, Un.kept kp, ⟨m, hns, fun i y av e1 e2 e3 => ?_⟩, fun y c e => ?_, I.hok.fresh (Nat.le_refl _), fun y c e => I.freeC y c (cm e), fun p hp => ?_, I.hok.kept kp, by rw [wipe_length]; exact I.len⟩
  · obtain ⟨e2, hne⟩ := wipe_some e2
    have hfree1 : scope.names.lookup y = some .free := by
      have no : ∀ k, scope.names.lookup y = some k → (k = .local ∨ k = .cell) → False := fun k e hh => by
        rcases ok.own _ (PySem.mem_of_lookup e) hh with e' | e'
        · obtain ⟨p, hp, hpy⟩ := List.mem_map.mp e'
          have e3 := ok.ix p hp
          have : p.1 = y := hpy
          rw [this] at e3
          exact hne (List.mem_map.mpr ⟨p, hp, nodup_ix hN e3 e1⟩)
        · exact e' (List.mem_of_getElem? e1)
      have e3 : Vis scope y := e3
      rcases e3 with e3 | e3 | e3
      · exact (no _ e3 (.inl rfl)).elim
      · exact (no _ e3 (.inr rfl)).elim
      · exact e3
    obtain ⟨m, hn, hl⟩ := I.loc
    have hvis : Vis X.env.scope y := (ok.free _ (PySem.mem_of_lookup hfree1) rfl).elim (fun k => .inr (.inl k)) (fun k => .inr (.inr k))
    obtain ⟨w, r, q⟩ := hl i y av e1 e2 hvis
    obtain ⟨c2, h2⟩ := look hfree1
    refine ⟨w, r, .inr ⟨.inr hfree1, c2, h2, ?_⟩⟩
    have c1 := cm h2
    rcases q with ⟨k, _⟩ | ⟨_, c', e', z⟩
    · have k : X.env.scope.names.lookup y = some .local := k
      rcases ok.free _ (PySem.mem_of_lookup hfree1) rfl with k' | k' <;> rw [show X.env.scope.names.lookup y = _ from k'] at k <;> cases k
    · rw [c1] at e'; cases e'
      exact z.keeps kp
  · obtain ⟨w, z⟩ := I.cell y c (cm e)
    exact ⟨w, z.keeps kp⟩
  · exact hpc p (by simpa [gCx] using hp)
end
section
variable {α : Type} {Z : L2.Cx} {A : Around} {elt tg iter : Expr} {ifs : List Expr} {scope : Scope} {pos : Pos} {it : Addr} {fp : List Addr} {tn : Nat → Heap → Prop} {J : It} {g : TG} {tt : TT} {te : TE} {own : List Nat} {σw : L2.St}
/-- what a consumer is handed -/
def gY (Z : L2.Cx) (fp : List Addr) (pc : α → List (Addr × Obj)) (CN : α → V → Hp → (α → Prop) → Prop) : Protocol := fun n s₀ v s kap =>
  ∃ (a : α) (y : V) (σ8 : L2.St) (H : Hp) (k : α → Prop), RelV y v ∧ L2.Inv Z (pc a) σ8 H s ∧ CN a y H k ∧
    ∀ a' s'', k a' → L2.Inv Z (pc a') σ8 H s'' → (∀ b ∈ fp, ∀ o, s.heap.get? b = some o → s''.heap.get? b = some o) → kap (.send .none) s''
def gR (Z : L2.Cx) (pc : α → List (Addr × Obj)) (EN : α → Hp → Prop) : GenEnd := fun n s₀ r s => r = .ok .next ∧ ∃ (a : α) (σ8 : L2.St) (H : Hp), L2.Inv Z (pc a) σ8 H s ∧ EN a H
/-- the turns of a generator, for what a consumer wants -/
def GTurn (J : It) (g : TG) (tt : TT) (te : TE) (own : List Nat) (σw : L2.St) (CN : α → V → Hp → (α → Prop) → Prop) (EN : α → Hp → Prop) (W : Nat → Nat → α → Hp → Prop) : Prop :=
  ∀ i m a H, W i m a H → (J.stop i H ∧ EN a H) ∨ (J.go i H ∧ 0 < m ∧ ∃ Nx : α → Hp → Prop, (∀ a' H', Nx a' H' → ∃ m', m' < m ∧ W (i + 1) m' a' H') ∧
    ∀ x H', J.yld i H x H' → g x σw H' fun σ2 H2 => L2.wipe σ2 own = σw ∧ tt σ2 H2 fun b H3 => if b = true then te σ2 H3 fun y H4 => CN a y H4 (fun a' => Nx a' H4) else Nx a H3)
theorem seg_gen {pc : α → List (Addr × Obj)} {CN : α → V → Hp → (α → Prop) → Prop} {EN : α → Hp → Prop} {W : Nat → Nat → α → Hp → Prop} (hZA : A.over (.compLoop (.GeneratorExp elt [⟨tg, iter, ifs, 0⟩] scope pos) 0 (.ref it) .none Z.env) [] = Z.A) (hc : Z.calm = true) (hco : Z.env.scope.isCoroutine = false)
    (T : Turn Z.prog Z.w Z.K tg J fp it tn) (hg : PG Z tg g) (pt : PTs Z ifs tt) (pe : PE Z elt te) (hxe : Z.xe = fun _ _ => False) (hpn : Z.pn = []) (hex : Z.ex = fp) (hpcf : ∀ a, ∀ p ∈ pc a, p.1 ∉ fp)
    (hw : ∀ {j : Nat} {v : V}, σw[j]? = some (some v) → j ∉ own) (turn : GTurn J g tt te own σw CN EN W) :
    ∀ (m n i : Nat) (a : α) (s₀ s : Shared) (H : Hp), m ≤ n → W i m a H → L2.Inv Z (pc a) σw H s → tn i s.heap → (∀ b ∈ fp, H b = none) →
      Seg (model Z.prog Z.w) A (gR Z pc EN) (gY Z fp pc CN) n s₀ (.compLoop (.GeneratorExp elt [⟨tg, iter, ifs, 0⟩] scope pos) 0 (.ref it) .none Z.env)
        ((model Z.prog Z.w).den (.compLoop (.GeneratorExp elt [⟨tg, iter, ifs, 0⟩] scope pos) 0 (.ref it) .none Z.env)) [] s := by
  have fpOk : ∀ {a : α} {σ' : L2.St} {H' : Hp} {s' : Shared}, L2.Inv Z (pc a) σ' H' s' → (∀ b ∈ fp, H' b = none) → ∀ b ∈ fp, FpOk Z (pc a) H' b := fun {a σ' H' s'} I' hn b hb => by
    have hb' : b ∈ Z.ex := by rw [hex]; exact hb
    refine ⟨hn b hb, (I'.ok.exf b hb').1, I'.ok.exfs b hb', .inl hb', (I'.ok.exf b hb').2, fun p hp z => ?_⟩
    rw [hpn] at hp
    exact hpcf a p (by simpa using hp) (by rw [z]; exact hb)
  intro m
  induction m using Nat.strongRecOn with
  | ind m ih =>
    intro n i a s₀ s H hmn w I t nf
    show Seg _ A _ _ _ s₀ _ ((compTurn (.GeneratorExp elt [⟨tg, iter, ifs, 0⟩] scope pos) 0 (.ref it) .none Z.env).onRaise (leaving Z.env)) [] s
    rw [compTurn_gen, Sem.onRaise_eq_wrap]
    refine seg_bind_wrap (wpAny_standAt ?_)
    rcases turn i m a H w with ⟨stop, q⟩ | ⟨go, hm0, Nx, hNx, step⟩
    · refine seg_bind_wrap ?_
      rw [hZA]
      refine thnF (T.done Z rfl rfl rfl hc i (pc a) s σw H (fun _ _ => False) I (fpOk I nf) t stop) fun r s6 ⟨hr, I6⟩ => ?_
      cases hr
      exact seg_end (.ok .next) ⟨rfl, a, σw, H, I6, q⟩
    · refine seg_bind_wrap ?_
      rw [hZA]
      refine thnF (T.item Z rfl rfl rfl hc i (pc a) s σw H (fun _ _ => False) I (fpOk I nf) t go) fun r s6 ⟨u, hr, h6⟩ => ?_
      cases hr
      refine seg_bind_wrap ?_
      rw [hZA]
      refine thnF h6 fun _ s7 ⟨x, H7, I7, r7, y7, t7, n7⟩ => ?_
      refine seg_bind_wrap ?_
      rw [hZA]
      have hgr := hg.run (pc a ++ pinsAt fp s7.heap) s7 σw H7 x u _ (I7.pinned (fpOk I7 n7) (T.obj _ _ t7)) r7 (step x H7 y7)
      rw [hxe] at hgr
      refine thnF hgr fun _ s8 ⟨σ8, H8, I8, e8, q8⟩ => ?_
      have l8 : σ8.length = σw.length := by rw [← wipe_length σ8 own, e8]
      have sub8 : ∀ {j : Nat} {v : V}, σw[j]? = some (some v) → σ8[j]? = some (some v) := fun {j v} e => by
        rw [← e8] at e
        exact (wipe_some e).1
      -- the next turn
      have again : ∀ (a' : α) (m' n' : Nat) (s₀' s' : Shared) (H' : Hp), m' < m → m' ≤ n' → W (i + 1) m' a' H' → L2.Inv Z (pc a') σ8 H' s' → tn (i + 1) s'.heap → (∀ b ∈ fp, H' b = none) →
          Seg (model Z.prog Z.w) A (gR Z pc EN) (gY Z fp pc CN) n' s₀' (.compLoop (.GeneratorExp elt [⟨tg, iter, ifs, 0⟩] scope pos) 0 (.ref it) .none Z.env)
            ((model Z.prog Z.w).den (.compLoop (.GeneratorExp elt [⟨tg, iter, ifs, 0⟩] scope pos) 0 (.ref it) .none Z.env)) [] s' := fun a' m' n' s₀' s' H' lt le w' I' t' n0 =>
        ih m' lt n' (i + 1) a' s₀' s' H' le w' (I'.weak l8.symm fun j v e => sub8 e) t' n0
      have unp : ∀ {H' : Hp} {s' : Shared}, L2.Inv Z (pc a ++ pinsAt fp s7.heap) σ8 H' s' → L2.Inv Z (pc a) σ8 H' s' ∧ tn (i + 1) s'.heap ∧ ∀ b ∈ fp, H' b = none := fun {H' s'} I' => by
        have pinned : ∀ b ∈ fp, ∀ o, s7.heap.get? b = some o → s'.heap.get? b = some o ∧ H' b = none := fun b hb o e =>
          have z := I'.pin (b, o) (List.mem_append_right _ (List.mem_append_right _ (mem_pinsAt hb e)))
          ⟨z.1, z.2.1⟩
        refine ⟨I'.unpinned, T.keep _ _ _ t7 fun b hb o e => (pinned b hb o e).1, fun b hb => ?_⟩
        obtain ⟨o, e, _⟩ := T.obj _ _ t7 b hb
        exact (pinned b hb o e).2
      refine seg_bind_wrap ?_
      rw [hZA]
      have ptr := pt.run _ s8 σ8 H8 _ I8 q8
      rw [hxe] at ptr
      refine thnF ptr fun b s9 ⟨H9, I9, q9⟩ => ?_
      cases b with
      | false =>
        simp only [Bool.false_eq_true, if_false]
        obtain ⟨m', lt, w'⟩ := hNx a H9 q9
        obtain ⟨J1, J2, J3⟩ := unp I9
        exact seg_again rfl (again a m' n s₀ s9 H9 lt (by omega) w' J1 J2 J3)
      | true =>
        simp only [if_true]
        have hy : ∀ v, yieldOut Z.env v = yieldValue v := fun v => by simp only [yieldOut, hco, Bool.false_eq_true, if_false]
        simp only [hy]
        rw [Sem.bind_eq_wrap', Sem.bind_eq_wrap', Sem.wrap_wrap, Sem.wrap_wrap]
        refine seg_wrap ?_
        rw [hZA]
        have per := pe.run _ s9 σ8 H9 _ I9 q9
        rw [hxe] at per
        refine thnF per fun z s10 ⟨yv, H10, I10, r10, cn⟩ => ?_
        obtain ⟨J1, J2, J3⟩ := unp I10
        obtain ⟨n, rfl⟩ : ∃ k, n = k + 1 := ⟨n - 1, by omega⟩
        refine seg_at (seg_yield rfl rfl rfl ⟨a, yv, σ8, H10, fun a' => Nx a' H10, r10, J1, cn, fun a' s'' ha I'' hk => ?_⟩)
        obtain ⟨m', lt, w'⟩ := hNx a' H10 ha
        exact seg_again rfl (again a' m' n s'' s'' H10 lt (by omega) w' I'' (T.keep _ _ _ J2 hk) J3)
end
end PyI

set_option Elab.async false
set_option linter.all false
set_option maxRecDepth 100000
set_option maxHeartbeats 1000000
/-! PyI30: generator expressions made, and asked for what is next. -/
namespace PyI
open PySem PySem.Spec PyProof.Rows L2 GenW
section
variable {α : Type} {Z : L2.Cx} {A : Around} {fp : List Addr} {pc : α → List (Addr × Obj)} {CN : α → V → Hp → (α → Prop) → Prop} {EN : α → Hp → Prop} {a : Addr} {g : Nat}
/-- a generator that sleeps -/
structure Alive (Z : L2.Cx) (A : Around) (fp : List Addr) (pc : α → List (Addr × Obj)) (CN : α → V → Hp → (α → Prop) → Prop) (EN : α → Hp → Prop) (a : Addr) (g n : Nat) (s : Shared) : Prop where
  gen : s.heap.IsGen a g
  lim : s.heap.NoLimit
  go : ∃ gs, s.gens[g]? = some gs ∧ gs.Goes (model Z.prog Z.w) A.in1 (gR Z pc EN) (gY Z fp pc CN) n (.send .none) (s.setGen g .running)
theorem bare_set {s : Shared} {gs : GenState} (h : AllBare s.gens) (hb : gs.bare = true) : AllBare (s.setGen g gs).gens := by
  intro x hx
  simp only [Shared.setGen] at hx
  rcases Array.mem_or_eq_of_mem_setIfInBounds hx with h1 | h1
  · exact h x h1
  · rw [h1]; exact hb
theorem inv_set {pins : List (Addr × Obj)} {σ : L2.St} {H : Hp} {s : Shared} {gs : GenState} (I : L2.Inv Z pins σ H s) (hb : gs.bare = true) : L2.Inv Z pins σ H (s.setGen g gs) := Inv.regen (s := s) I (bare_set I.bare hb)
/-- what is next -/
theorem next_gen {go : Obj} {n : Nat} {s : Shared} {E : Value → Shared → Prop} (hh : A.handled = none) (hroom : A.depth < recursionLimit) (hgo : ∀ h : Heap, h.get? a = some go → h.IsGen a g) (hpc : ∀ x, (a, go) ∈ pc x) (L : Alive Z A fp pc CN EN a g n s) :
    wpAny (model Z.prog Z.w) A (pyNext (.ref a)) (fun r s' => (∃ v y x σ8 H k, r = some v ∧ RelV y v ∧ L2.Inv Z (pc x) σ8 H s' ∧ CN x y H k ∧ ∀ x' s'', k x' → L2.Inv Z (pc x') σ8 H s'' → (∀ b ∈ fp, ∀ o, s'.heap.get? b = some o → s''.heap.get? b = some o) → s''.gens = s'.gens → ∃ m, m < n ∧ Alive Z A fp pc CN EN a g m s'') ∨
      (r = none ∧ ∃ x σ8 H, L2.Inv Z (pc x) σ8 H s' ∧ EN x H)) E s := by
  obtain ⟨gs, hgs, hg⟩ := L.go
  have hlt : g < s.gens.size := by
    rcases Nat.lt_or_ge g s.gens.size with h' | h'
    · exact h'
    · rw [Array.getElem?_eq_none h'] at hgs; cases hgs
  refine wpAny_gsz (n := g + 1) hlt ?_
  refine wpAny_pyNext_genexpQ (P := fun n s₀ s₁ => ∃ (a : α) (σ8 : L2.St) (H : Hp), L2.Inv Z (pc a) σ8 H s₁ ∧ EN a H) hh L.lim hroom L.gen hgs hg (fun v s₁ gs' hb hv hsz => ?_) (fun s₁ hp h' hk hsz => ?_)
  · obtain ⟨x, y, σ8, H, k, r, I, cn, kap⟩ := hv
    refine .inl ⟨v, y, x, σ8, H, k, rfl, r, inv_set I hb, cn, fun x' s'' hk I2 hf hgn => ?_⟩
    have z := kap x' (s''.setGen g .running) hk (inv_set I2 rfl) hf
    cases n with
    | zero => exact z.elim
    | succ m =>
      have hpin := (I2.pin (a, go) (List.mem_append_right _ (hpc x'))).1
      refine ⟨m, Nat.lt_succ_self m, hgo _ hpin, I2.nolimit, gs', ?_, z⟩
      rw [hgn]
      have hsz : g < (s₁.setGen g gs').gens.size := hsz
      rw [Array.getElem?_eq_getElem hsz]
      simp [Shared.setGen]
  · obtain ⟨x, σ8, H, I, en⟩ := hp
    refine .inr ⟨rfl, x, σ8, H, ?_, en⟩
    exact L2.Inv.kept (t' := s₁.toks) (inv_set (gs := .finished) I rfl) hk
end
section
variable {X : L2.Cx} {elt tg iter : Expr} {ifs : List Expr} {scope : Scope} {pos : Pos} {own : List (Str × Nat)}
/-- a generator has been made: at s4 all was ready, at s5 it stands at a -/
structure GMk (X : L2.Cx) (pins : List (Addr × Obj)) (σ : L2.St) (elt tg iter : Expr) (ifs : List Expr) (scope : Scope) (pos : Pos) (s4 s5 : Shared) (H : Hp) (J : It) (it a : Addr) (fp : List Addr) (tn : Nat → Heap → Prop) (code : Value) : Prop where
  I : L2.Inv X pins σ H s4
  T : Turn X.prog X.w X.K tg J fp it tn
  t : tn 0 s4.heap
  f : ∀ b ∈ fp, FpOk X pins H b ∧ b < s4.heap.objs.size
  os : s5.os = s4.os
  keep : ∀ b o, s4.heap.get? b = some o → s5.heap.get? b = some o
  ns : ∃ m, s5.heap.Ns s4.heap.objs.size m
  gens : s5.gens = s4.gens.push (.fresh (.compStart (.GeneratorExp elt [⟨tg, iter, ifs, 0⟩] scope pos) 0 (.ref it) .none (gEnv X scope s4.heap.objs.size code)))
  above : s4.heap.objs.size < a
  gen : s5.heap.IsGen a s4.gens.size
theorem gen_make {pins : List (Addr × Obj)} {σ : L2.St} {H : Hp} {s : Shared} {Tt : List (Addr × Str)} {c P : Addr} {wi : TI} {Kc : It → Hp → Prop} {Q : Value → Shared → Prop} {k : Nat} (hr : Room k X.A) (TB : LamX.TabB X.base X.mg c P) (hcode : X.env.code = .ref c)
    (hm : (P, X.env.qual ++ "<genexpr>") ∈ Tt) (hu : ∀ p ∈ Tt, p.1 = P → p.2 = X.env.qual ++ "<genexpr>") (hi : PI X tg iter wi) (ok : BlkOk X.N X.env.scope scope own) (hcell : ∀ y ∈ scope.names, y.2 ≠ .cell) (hco : scope.isCoroutine = false) (hdot : scope.names.lookup (".0" : Str) = some NameKind.local)
    (hs : ∀ x, genFold iter X.env x = pure x) (I : L2.Inv X pins σ H s) (rd : wi σ H fun J H1 => LamX.Tabs Tt H1 ∧ ∀ H2, LamX.ExtN H1 H2 → LamX.Tabs Tt H2 → Kc J H2)
    (hQ : ∀ s4 s5 H2 J it a fp tn code, GMk X pins σ elt tg iter ifs scope pos s4 s5 H2 J it a fp tn code → Kc J H2 → Q (.ref a) s5) :
    wpAny (model X.prog X.w) X.A (eval (.GeneratorExp elt [⟨tg, iter, ifs, 0⟩] scope pos) X.env) Q X.xe s := by
  have hfree : ∀ y ∈ scope.names, y.2 = .free → ∃ c, X.env.cells.lookup y.1 = some c := fun y hy e => by
    rcases ok.free y hy e with k | k
    · exact I.ok.has _ (.inl k)
    · exact I.ok.has _ (.inr k)
  refine wpAny_GeneratorExp_make hco (closure_ok hfree) hcell hdot ok.kind (by have := hr.dp; omega) (wpAny_mono (hi.run pins s σ H _ I rd) (fun xv s1 h1 => wpAny_mono h1 (fun itv s2 h2 => ?_) fun _ _ e => e) fun _ _ e => e) hs
  obtain ⟨it, fp, tn, J, H2, rfl, I2, T, t2, f2, hT, hK⟩ := h2
  refine ⟨I2.nolimit, ?_⟩
  obtain ⟨ps, hP, ht, ha⟩ := hT _ hm
  have oP : s2.heap.get? P = some { cls := .none, data := .fields ps } := I2.hok P _ hP
  have f2' : ∀ b ∈ fp, b < s2.heap.objs.size := fun b hb => by
    obtain ⟨o, e, _⟩ := T.obj _ _ t2 b hb
    exact Heap.lt_size e
  have fin : ∀ (code : Value) (s4 : Shared) (H4 : Hp), L2.Inv X pins σ H4 s4 → (∀ b ∈ fp, FpOk X pins H4 b ∧ b < s4.heap.objs.size) → tn 0 s4.heap → Kc J H4 → s4.heap.BuiltinsAt X.mg P → s4.heap.Ns X.env.globals X.mg →
      wpAny (model X.prog X.w) X.A (builtinsFor X.env.globals X.env.builtins) (fun bi s₄ => ∀ h', h'.Ns s₄.heap.objs.size (fun y => if y = ".0" then some (.ref it) else none) → Heap.SameBut s₄.heap.objs.size (s₄.heap.push { cls := .type "frame", data := .dict #[] }) h' →
          Q (.ref h'.objs.size) { s₄ with
            gens := s₄.gens.push (.fresh (.compStart (.GeneratorExp elt [⟨tg, iter, ifs, 0⟩] scope pos) 0 (.ref it) .none (genEnv scope (cloFrom X.env.cells scope.names []) s₄.heap.objs.size code bi X.env))),
            toks := s₄.toks + 1 + 1 + 1,
            heap := h'.push { cls := .type "generator", data := .fields #[.int s₄.gens.size 0, .str "<genexpr>" (s₄.toks + 1), .str (X.env.qual ++ "<genexpr>") (s₄.toks + 1 + 1)] } }) X.xe s4 := by
    intro code s4 H4 I4 f4 t4 K4 bm gl
    obtain ⟨b1, ob, e1, e2, e3, e4, e5, e6, e7, e8⟩ := bm
    refine wpAny_builtinsFor (m := X.mg) gl e1 e2 e5 e6 e7 e8 fun h' hn hsb => ?_
    have hsz : h'.objs.size = s4.heap.objs.size + 1 := by rw [hsb.1, Heap.size_push]
    have keep' : ∀ b o, s4.heap.get? b = some o → h'.get? b = some o := fun b o e => hsb.extBut b o (Nat.ne_of_lt (Heap.lt_size e)) (Heap.get?_push_of_some _ e)
    exact hQ s4 _ H4 J it _ fp tn code ⟨I4, T, t4, f4, rfl, fun b o e => Heap.get?_push_of_some _ (keep' b o e), ⟨_, hn.push _⟩, rfl, by omega, ⟨_, _, _, Heap.get?_push_size _ rfl, rfl, rfl, rfl⟩⟩ K4
  cases hc : codeAmong pos ps.toList with
  | some cv =>
    refine wpAny_genexprCode_hit hcode ((TB.code.keeps I2.bk).code oP ht) hc ?_
    exact fin cv s2 H2 I2 (fun b hb => ⟨f2 b hb, f2' b hb⟩) t2 (hK H2 (LamX.ExtN.refl H2) hT) (TB.bm.keeps I2.bk) (by rw [I2.ok.glob]; exact I2.mod.glob.keeps I2.bk)
  | none =>
    refine wpAny_genexprCodeX hcode ((TB.code.keeps I2.bk).code oP ht) ((TB.code.keeps I2.bk).tab oP) hc fun cN h' tk hx hge hlt hco' hrec htab' _ => ?_
    obtain ⟨cM, oc, vs, t, eM, e1, e2, e3⟩ := hrec
    cases eM
    have nC : H2 cN = none := I2.hok.fresh hge
    have J2 := LamX.inv_table (t' := tk) (more := #[rawInt pos.line, rawInt pos.col, .ref cN]) (h' := h') I2 hP (fun b o hb e => hx b o hb e) htab'.2 hge ⟨oc, vs, t, e1, e2, e3⟩
    have ext : LamX.ExtN H2 (upd (upd H2 P (.tbl (ps ++ #[rawInt pos.line, rawInt pos.col, .ref cN]))) cN (LamX.CodeO cN (X.env.qual ++ "<genexpr>"))) := fun b o e nt => by
      rw [upd_ne (ne_of_none e nC), upd_ne (fun z => by rw [z, hP] at e; exact nt ps (Option.some.inj e).symm)]
      exact e
    have tabs : LamX.Tabs Tt (upd (upd H2 P (.tbl (ps ++ #[rawInt pos.line, rawInt pos.col, .ref cN]))) cN (LamX.CodeO cN (X.env.qual ++ "<genexpr>"))) := fun p hp => by
      by_cases hb : p.1 = P
      · have eL : (ps ++ #[rawInt pos.line, rawInt pos.col, .ref cN]).toList = ps.toList ++ [rawInt pos.line, rawInt pos.col, .ref cN] := by simp
        rw [hu p hp hb, hb]
        refine ⟨_, by rw [upd_ne (ne_of_none hP nC), upd_same], by rw [eL]; exact PySem.TriplesOk_snoc _ _ _ _ ht, fun p2 cv hcv => ?_⟩
        rw [eL] at hcv
        rcases LamX.among_app _ ht hcv with z | z
        · obtain ⟨c0, z1, z2⟩ := ha p2 cv z
          exact ⟨c0, z1, ext _ _ z2 LamX.codeO_ne⟩
        · exact ⟨cN, z, upd_same⟩
      · obtain ⟨ps', a1, a2, a3⟩ := hT p hp
        refine ⟨ps', by rw [upd_ne (ne_of_none a1 nC), upd_ne hb]; exact a1, a2, fun p' cv hcv => ?_⟩
        obtain ⟨c0, e1, e2⟩ := a3 p' cv hcv
        exact ⟨c0, e1, ext _ _ e2 LamX.codeO_ne⟩
    have nPf : ∀ b ∈ fp, b ≠ P := fun b hb z => by
      have := (f2 b hb).1
      rw [z, hP] at this
      cases this
    have sz2 : s2.heap.objs.size ≤ h'.objs.size := Nat.le_trans hge (Nat.le_of_lt hlt)
    refine fin (.ref cN) _ _ J2 (fun b hb => ⟨⟨?_, (f2 b hb).2⟩, Nat.lt_of_lt_of_le (f2' b hb) sz2⟩) (T.keep _ _ _ t2 fun b hb o e => hx b o (nPf b hb) e) (hK _ ext tabs) ?_ ?_
    · rw [upd_ne (fun z => by have := f2' b hb; rw [z] at this; exact Nat.lt_irrefl _ (Nat.lt_of_lt_of_le this hge)), upd_ne (nPf b hb)]
      exact (f2 b hb).1
    · exact TB.bm.keeps J2.bk
    · rw [I2.ok.glob]
      exact I2.mod.glob.keeps J2.bk
/-- it can be asked, from s6 on -/
theorem gen_alive {α : Type} {pins : List (Addr × Obj)} {σ : L2.St} {H : Hp} {A : Around} {J : It} {it a : Addr} {fp : List Addr} {tn : Nat → Heap → Prop} {code : Value} {s4 s5 s6 : Shared} {pc : α → List (Addr × Obj)} {CN : α → V → Hp → (α → Prop) → Prop} {EN : α → Hp → Prop} {W : Nat → Nat → α → Hp → Prop} {g : TG} {tt : TT} {te : TE} {m : Nat} {x0 : α}
    (M : GMk X pins σ elt tg iter ifs scope pos s4 s5 H J it a fp tn code) (hN : X.N.Nodup) (ok : BlkOk X.N X.env.scope scope own) (hcell : ∀ y ∈ scope.names, y.2 ≠ .cell) (hco : scope.isCoroutine = false) (hA : A.handled = none) (hfr : A.frames = some X.stack)
    (k6 : ∀ b o, s5.heap.get? b = some o → s6.heap.get? b = some o) (g6 : s6.gens = s5.gens) (o6 : s6.os = s5.os)
    (hp6 : ∀ p ∈ pc x0, s6.heap.get? p.1 = some p.2 ∧ H p.1 = none ∧ p.1 ≠ s4.heap.objs.size ∧ p.1 ∉ frs X.stack ∧ ∀ v, p.2.data ≠ .cell v) (hpcf : ∀ x, ∀ p ∈ pc x, p.1 ∉ fp)
    (hg : PG (gCx X A.in1 s4 H scope code fp) tg g) (pt : PTs (gCx X A.in1 s4 H scope code fp) ifs tt) (pe : PE (gCx X A.in1 s4 H scope code fp) elt te)
    (turn : GTurn J g tt te (own.map (·.2)) (L2.wipe σ (own.map (·.2))) CN EN W) (w0 : W 0 m x0 H) : Alive (gCx X A.in1 s4 H scope code fp) A fp pc CN EN a s4.gens.size m s6 := by
  have hb6 : AllBare s6.gens := by
    rw [g6, M.gens]
    exact M.I.bare.push rfl
  obtain ⟨m0, hn⟩ := M.ns
  have I6 : L2.Inv (gCx X A.in1 s4 H scope code fp) (pc x0) (L2.wipe σ (own.map (·.2))) H s6 := gen_start (A := A.in1) (code := code) M.I (o6.trans M.os) ok hN hcell hA hfr M.f (m := m0) (hn.keeps k6) (fun b o e => k6 b o (M.keep b o e)) hb6 hp6
  have t6 : tn 0 s6.heap := M.T.keep _ _ _ M.t fun b hb o e => k6 b o (M.keep b o e)
  refine ⟨M.gen.keeps k6, I6.nolimit, _, by rw [g6, M.gens]; exact Array.getElem?_push_size .., ?_⟩
  refine ⟨rfl, ?_⟩
  have I7 := inv_set (g := s4.gens.size) (gs := .running) I6 rfl
  have loop := fun s₀ => seg_gen (Z := gCx X A.in1 s4 H scope code fp) (A := A.in1) (elt := elt) (tg := tg) (iter := iter) (ifs := ifs) (scope := scope) (pos := pos) (it := it) (tn := tn) (J := J) (g := g) (tt := tt) (te := te) (own := own.map (·.2)) (σw := L2.wipe σ (own.map (·.2))) (W := W)
    ?hZ rfl hco M.T hg pt pe rfl rfl rfl hpcf (fun e => (wipe_some e).2) turn m m 0 x0 s₀ (s6.setGen s4.gens.size .running) H (Nat.le_refl _) w0 I7 t6 fun b hb => (M.f b hb).1.1
  case hZ => rfl
  show Seg _ A.in1 _ _ _ _ _ ((compStart (.GeneratorExp elt [⟨tg, iter, ifs, 0⟩] scope pos) 0 (.ref it) .none (gEnv X scope s4.heap.objs.size code)).onRaise (leaving (gEnv X scope s4.heap.objs.size code))) [] _
  unfold compStart
  rw [Sem.onRaise_eq_wrap]
  show Seg _ A.in1 _ _ _ _ _ ((ask >>= _).wrap _ _ _ _) [] _
  refine seg_bind_wrap (wpAny_askSetting ?_)
  split
  · exact seg_again rfl (loop _)
  · first
      | exact seg_bind_wrap (wpAny_rule (seg_bind_wrap (wpAny_standAt (seg_bind_wrap (M.T.self _ 0 _ _ _ t6 (seg_again rfl (loop _)))))))
      | (refine seg_bind_wrap (wpAny_rule ?_); show Seg _ A.in1 _ _ _ _ _ ((standAt iter.pos >>= _).wrap _ _ _ _) [] _; exact seg_bind_wrap (wpAny_standAt (seg_bind_wrap (M.T.self _ 0 _ _ _ t6 (seg_again rfl (loop _))))))
end
end PyI

set_option Elab.async false
set_option linter.all false
set_option maxRecDepth 100000
set_option maxHeartbeats 1000000
/-! PyI31: any, all of a generator expression. -/
namespace PyI
open PySem PySem.Spec PyProof.Rows L2 GenW
def trV : V → Option Bool
  | .bl b => some b
  | .int i => some (i != 0)
  | _ => none
section
variable {Z : L2.Cx} {A : Around} {fp : List Addr} {a : Addr} {g : Nat} {go : Obj} {Q : VK}
abbrev pcA (a : Addr) (go : Obj) : Unit → List (Addr × Obj) := fun _ => [(a, go)]
def cnA (stop : Bool) (Q : VK) : Unit → V → Hp → (Unit → Prop) → Prop := fun _ y H k => ∃ b, trV y = some b ∧ (b = stop → Q (.bl stop) H) ∧ (b = !stop → k ())
def enA (stop : Bool) (Q : VK) : Unit → Hp → Prop := fun _ H => Q (.bl (!stop)) H
def RRA (Z : L2.Cx) (pins : List (Addr × Obj)) (Q : VK) : Result → Shared → Prop := fun r s' => ∃ b σ8 H, r = .ok (.ret (.bool b)) ∧ L2.Inv Z pins σ8 H s' ∧ Q (.bl b) H
theorem truthy_tr {y : V} {v : Value} {b : Bool} {s : Shared} {E : Value → Shared → Prop} {P : Program} {w : World} {R : Bool → Shared → Prop} (hb : trV y = some b) (r : RelV y v) (h : R b s) : wpAny (model P w) A (truthy v) R E s := by
  cases y with
  | bl c =>
    cases hb
    cases r
    exact wpAny_truthy_bool h
  | int i =>
    cases hb
    obtain ⟨t, rfl⟩ := r
    exact truthy_int h
  | _ => cases hb
theorem any_loop (hh : A.in1.handled = none) (hroom : A.in1.depth < recursionLimit) (hgo : ∀ h : Heap, h.get? a = some go → h.IsGen a g) : ∀ (n : Nat) (s : Shared), Alive Z A.in1 fp (pcA a go) (cnA true Q) (enA true Q) a g n s →
    codeAny (model Z.prog Z.w) A (.builtin "any.loop" ⟨[.ref a], []⟩) (RRA Z [(a, go)] Q) s := by
  intro n
  induction n using Nat.strongRecOn with
  | ind n ih =>
    intro s L
    refine codeAny_builtin F.entry_any_loop ?_
    rw [Around.under_plainId F.plain_any_loop _]
    show wpAny _ A.in1 (pyNext (.ref a) >>= _) _ _ s
    refine wpAny_bind (wpAny_mono (next_gen hh hroom hgo (fun _ => List.mem_cons_self) L) (fun r s' hr => ?_) fun _ _ e => e)
    rcases hr with ⟨v, y, x, σ8, H, k, rfl, rv, I, ⟨b, hb, h1, h2⟩, kap⟩ | ⟨rfl, x, σ8, H, I, en⟩
    · refine wpAny_bind (wpAny_holding (truthy_tr hb rv ?_))
      refine wpAny_bind (wpAny_letGo ?_)
      cases b with
      | false =>
        simp only [Bool.false_eq_true, if_false]
        obtain ⟨m, hm, L'⟩ := kap () s' (h2 rfl) I (fun _ _ _ e => e) rfl
        exact wpAny_pure ⟨plainId_quiet F.plain_any_loop _, ih m hm s' L'⟩
      | true =>
        simp only [if_true]
        exact wpAny_bind (wpAny_rule (wpAny_pure ⟨true, σ8, H, rfl, I, h1 rfl⟩))
    · exact wpAny_bind (wpAny_rule (wpAny_pure ⟨false, σ8, H, rfl, I, en⟩))
theorem all_loop (hh : A.in1.handled = none) (hroom : A.in1.depth < recursionLimit) (hgo : ∀ h : Heap, h.get? a = some go → h.IsGen a g) : ∀ (n : Nat) (s : Shared), Alive Z A.in1 fp (pcA a go) (cnA false Q) (enA false Q) a g n s →
    codeAny (model Z.prog Z.w) A (.builtin "all.loop" ⟨[.ref a], []⟩) (RRA Z [(a, go)] Q) s := by
  intro n
  induction n using Nat.strongRecOn with
  | ind n ih =>
    intro s L
    refine codeAny_builtin F.entry_all_loop ?_
    rw [Around.under_plainId F.plain_all_loop _]
    show wpAny _ A.in1 (pyNext (.ref a) >>= _) _ _ s
    refine wpAny_bind (wpAny_mono (next_gen hh hroom hgo (fun _ => List.mem_cons_self) L) (fun r s' hr => ?_) fun _ _ e => e)
    rcases hr with ⟨v, y, x, σ8, H, k, rfl, rv, I, ⟨b, hb, h1, h2⟩, kap⟩ | ⟨rfl, x, σ8, H, I, en⟩
    · refine wpAny_bind (wpAny_holding (truthy_tr hb rv ?_))
      refine wpAny_bind (wpAny_letGo ?_)
      cases b with
      | true =>
        simp only [if_true]
        obtain ⟨m, hm, L'⟩ := kap () s' (h2 rfl) I (fun _ _ _ e => e) rfl
        exact wpAny_pure ⟨plainId_quiet F.plain_all_loop _, ih m hm s' L'⟩
      | false =>
        simp only [Bool.false_eq_true, if_false]
        exact wpAny_bind (wpAny_rule (wpAny_pure ⟨false, σ8, H, rfl, I, h1 rfl⟩))
    · exact wpAny_bind (wpAny_rule (wpAny_pure ⟨true, σ8, H, rfl, I, en⟩))
end
/-- the scope of a generator expression -/
structure GScope (X : L2.Cx) (scope : Scope) (own : List (Str × Nat)) : Prop where
  ok : BlkOk X.N X.env.scope scope own
  cell : ∀ y ∈ scope.names, y.2 ≠ .cell
  co : scope.isCoroutine = false
  dot : scope.names.lookup (".0" : Str) = some NameKind.local
section
variable {X : L2.Cx} {elt tg iter : Expr} {ifs : List Expr} {scope : Scope} {own : List (Str × Nat)} {wi : TI} {g : TG} {tt : TT} {te : TE} {Tt : List (Addr × Str)} {k : Nat}
def tGenA (stop : Bool) (Tt : List (Addr × Str)) (wi : TI) (g : TG) (tt : TT) (te : TE) (own : List Nat) : TE := fun σ H Q => wi σ H fun J H1 => LamX.Tabs Tt H1 ∧ ∀ H2, LamX.ExtN H1 H2 → LamX.Tabs Tt H2 →
  ∃ (W : Nat → Nat → Unit → Hp → Prop) (m : Nat), W 0 m () H2 ∧ GTurn J g tt te own (L2.wipe σ own) (cnA stop Q) (enA stop Q) W
theorem frs_big {pins : List (Addr × Obj)} {σ : L2.St} {H : Hp} {s : Shared} (I : L2.Inv X pins σ H s) {b : Addr} (hb : s.heap.objs.size ≤ b) : b ∉ frs X.stack := fun z => by
  rcases List.mem_cons.mp (I.stkSub _ z) with e | e
  · have h1 := I.lt
    rw [← e] at h1
    exact Nat.lt_irrefl _ (Nat.lt_of_lt_of_le h1 hb)
  · exact I.nofs hb e
/-- back in the maker's frame -/
theorem gen_back {pins pc : List (Addr × Obj)} {σ σ8 : L2.St} {H H' : Hp} {pos : Pos} {J : It} {it a : Addr} {fp : List Addr} {tn : Nat → Heap → Prop} {code : Value} {s4 s5 s' : Shared} {A : Around} (M : GMk X pins σ elt tg iter ifs scope pos s4 s5 H J it a fp tn code) (I : L2.Inv (gCx X A s4 H scope code fp) pc σ8 H' s') : L2.Inv X pins σ H' s' :=
  M.I.call' (ch := fp) I.os I.base I.hok I.bare fun b hb => by
    obtain ⟨_, a1, a2, a3, a4, a5⟩ := (M.f b hb).1
    exact ⟨a3, a1, a4, a5⟩
theorem pe_genA {stop : Bool} {nm : String} {p gpos pos : Pos} (hnm : (nm = "any" ∧ stop = true) ∨ (nm = "all" ∧ stop = false)) (hr : Room (k + 2) X.A) (hg : Gl X nm) (hm : X.mg nm = none) (G : GenF Tt X) (S : GScope X scope own) (hN : X.N.Nodup) (hi : PI X tg iter wi) (hs : ∀ x, genFold iter X.env x = pure x)
    (pg : ∀ s H code fp, PG (gCx X X.A.in1.in1 s H scope code fp) tg g) (pt : ∀ s H code fp, PTs (gCx X X.A.in1.in1 s H scope code fp) ifs tt) (pe : ∀ s H code fp, PE (gCx X X.A.in1.in1 s H scope code fp) elt te)
    (he : starEach [.GeneratorExp elt [⟨tg, iter, ifs, 0⟩] scope gpos] X.env = (false, eval (.GeneratorExp elt [⟨tg, iter, ifs, 0⟩] scope gpos) X.env) :: starEach [] X.env := by rfl) :
    PE X (.Call (.Name nm p) [.GeneratorExp elt [⟨tg, iter, ifs, 0⟩] scope gpos] [] pos) (tGenA stop Tt wi g tt te (own.map (·.2))) := by
  refine ⟨fun pins s σ H Q I rd => ?_⟩
  obtain ⟨c, P, TB, hcode, hmT, hu⟩ := G.ex
  have done : ∀ (Q' : VK), Q' = Q → wpAny (model X.prog X.w) X.A (spliced (backTo pos (starEach [.GeneratorExp elt [⟨tg, iter, ifs, 0⟩] scope gpos] X.env))) (fun vs s₁ => wpAny (model X.prog X.w) X.A (call (.builtin nm) vs) (EP X pins σ Q) X.xe s₁) X.xe s := by
    intro Q' _
    rw [he]
    show wpAny _ _ (spliced ((false, eval (.GeneratorExp elt [⟨tg, iter, ifs, 0⟩] scope gpos) X.env) :: backTo pos (starEach [] X.env))) _ _ s
    refine Calls.spliced_cons (gen_make hr TB hcode hmT hu hi S.ok S.cell S.co S.dot hs I rd fun s4 s5 H2 J it a fp tn code M ⟨W, m, w0, turn⟩ => Calls.spliced_nil ?_)
    obtain ⟨go, _, _, hgo, r1, r2, r3⟩ := id M.gen
    have isg : ∀ h : Heap, h.get? a = some go → h.IsGen a s4.gens.size := fun h e => ⟨go, _, _, e, r1, r2, r3⟩
    have L := gen_alive (A := X.A.in1) (s6 := s5) (pc := pcA a go) (x0 := ()) M hN S.ok S.cell S.co hr.hd M.I.ok.frames (fun _ _ e => e) rfl rfl (fun p hp => by
        rw [List.mem_singleton.mp hp]
        exact ⟨hgo, M.I.hok.fresh (Nat.le_of_lt M.above), Nat.ne_of_gt M.above, frs_big M.I (Nat.le_of_lt M.above), fun v z => by rw [r2] at z; cases z⟩) (fun x p hp hf => by
        rw [List.mem_singleton.mp hp] at hf
        exact Nat.lt_irrefl _ (Nat.lt_trans (M.f a hf).2 M.above)) (pg _ _ _ _) (pt _ _ _ _) (pe _ _ _ _) turn w0
    have dp : X.A.in1.depth < recursionLimit := by have := hr.dp; show X.A.depth < _; omega
    rcases hnm with ⟨rfl, rfl⟩ | ⟨rfl, rfl⟩
    · refine call_function_tree F.kind_any F.plain_any F.entry_any (F.args_any1 _) ?_
      unfold Builtin.«any»
      refine wpAny_bind (m := oneArg "any" _) (wpAny_pure ?_)
      refine wpAny_bind (wpAny_pyIter_gen M.gen ?_)
      refine wpAny_pure ⟨plainId_quiet F.plain_any_loop _, codeAny_mono (any_loop (Z := gCx X X.A.in1.in1 s4 H2 scope code fp) (A := X.A) hr.hd dp isg m s5 L) fun r s' hq => ?_⟩
      obtain ⟨b, σ8, H8, rfl, I8, q⟩ := hq
      exact ⟨.bl b, H8, gen_back M I8, rfl, q⟩
    · refine call_function_tree F.kind_all F.plain_all F.entry_all (F.args_all1 _) ?_
      unfold Builtin.«all»
      refine wpAny_bind (m := oneArg "all" _) (wpAny_pure ?_)
      refine wpAny_bind (wpAny_pyIter_gen M.gen ?_)
      refine wpAny_pure ⟨plainId_quiet F.plain_all_loop _, codeAny_mono (all_loop (Z := gCx X X.A.in1.in1 s4 H2 scope code fp) (A := X.A) hr.hd dp isg m s5 L) fun r s' hq => ?_⟩
      obtain ⟨b, σ8, H8, rfl, I8, q⟩ := hq
      exact ⟨.bl b, H8, gen_back M I8, rfl, q⟩
  rcases hnm with ⟨e, _⟩ | ⟨e, _⟩
  · subst e
    refine wpAny_Call_Name_kw (ld_blt I hg hm boot_any ?_)
    exact PyProof.Rows.callWith_builtin1 (done Q rfl) he (by rfl)
  · subst e
    refine wpAny_Call_Name_kw (ld_blt I hg hm boot_all ?_)
    exact PyProof.Rows.callWith_builtin1 (done Q rfl) he (by rfl)
end
end PyI

set_option Elab.async false
set_option linter.all false
set_option maxRecDepth 100000
set_option maxHeartbeats 1000000
/-! PyI32: any, all of a generator expression, by the interpreter. -/
namespace PyI
open PySem PySem.Spec PyProof.Rows L2 GenW
section
variable {Γ : Gm} {LO : LamT} {E : XK} {X : L2.Cx} {pos : Pos}
/-- one turn, by the interpreter -/
theorem turn1_ok {t : Tg} {own : List Nat} {mc : Sl → Hc → Res (Bool × Hc)} {me : Sl → Hc → RW} {sl : Sl} {w : W} {h : Hc} {α : Type} {k : Option W × Hc → Res α} {p : α} (e : (turnF t own mc me sl w h).bind k = .ok p) :
    ∃ sl' b h1, stTg t w (wipeS sl own) = some sl' ∧ mc sl' h = .ok (b, h1) ∧ ((b = false ∧ k (none, h1) = .ok p) ∨ (b = true ∧ ∃ z h2, me sl' h1 = .ok (z, h2) ∧ k (some z, h2) = .ok p)) := by
  unfold turnF at e
  split at e
  · rename_i sl' es
    cases e2 : mc sl' h with
    | exc c h' => rw [e2] at e; cases e
    | no => rw [e2] at e; cases e
    | ok q2 =>
      obtain ⟨b, h2⟩ := q2
      rw [e2] at e
      refine ⟨sl', b, h2, es, e2, ?_⟩
      cases b with
      | false => exact .inl ⟨rfl, e⟩
      | true =>
        replace e : ((me sl' h2).bind fun (w, h'') => Res.ok (some w, h'')).bind k = .ok p := e
        cases e3 : me sl' h2 with
        | exc c h' => rw [e3] at e; cases e
        | no => rw [e3] at e; cases e
        | ok q3 =>
          rw [e3] at e
          exact .inr ⟨rfl, q3.1, q3.2, rfl, e⟩
  · cases e
theorem anyG_ok {stop : Bool} {f : W → Hc → Res (Option W × Hc)} {w : W} {r : List W} {h : Hc} {p : W × Hc} (e : anyG stop f (w :: r) h = .ok p) :
    (f w h).bind (fun (o, h1) => match o with
      | none => anyG stop f r h1
      | some w => match tr1 w with
        | some b => if b == stop then .ok (.bl stop, h1) else anyG stop f r h1
        | none => .no) = .ok p := by
  unfold anyG at e
  exact e
theorem tr1_V {K : PySem.W.Frag} {β : List Addr} {F : Addr → Prop} {H : Hp} {w : W} {v : V} {b : Bool} (h : tr1 w = some b) (r : RV K β F H w v) : trV v = some b := by
  cases w with
  | bl c => unfold RV at r; subst r; exact h
  | int i => unfold RV at r; subst r; exact h
  | _ => cases h
theorem genA_imp (C : Fx Γ LO E X) {stop : Bool} {own : List Nat} {ik : IK} {t : Tg} {m : Sl → Hc → RWs} {mc : Sl → Hc → Res (Bool × Hc)} {me : Sl → Hc → RW} (hsub : tgS t ⊆ own) (σ : L2.St) (H : Hp) (Q : VK)
    (q : tE Γ LO E (fun sl h => wk1 .no .exc ik (m sl h) fun xs h1 => noX (anyG stop (turnF t own mc me sl) xs h1)) σ H Q) : tGenA stop Γ.T (tW Γ LO E ik m) (tG Γ LO t) (tT Γ LO Eno mc) (tE Γ LO Eno me) own σ H Q := by
  obtain ⟨β, F, h, sl, R, S, q⟩ := q
  refine ⟨β, F, h, sl, R, S, ?_⟩
  revert q
  unfold wk1
  dsimp only
  generalize m sl h = r
  cases r with
  | exc c h' => exact fun q => q
  | no => exact fun q => q.elim
  | ok p =>
    obtain ⟨ws, h1⟩ := p
    intro q
    dsimp only at q
    split at q
    · rename_i xs ew
      refine ⟨xs, ew, fun J H1 β1 s1 R1 wk small => ⟨R1.tb, fun H2 eN T2 => ?_⟩⟩
      obtain ⟨st2, R2⟩ := quiet_ext R1 eN T2
      obtain ⟨p, ep, q⟩ : ∃ p, anyG stop (turnF t own mc me sl) xs h1 = .ok p ∧ Aft Γ E F (AW Γ F) β H (.ok p) Q := by
        cases e : anyG stop (turnF t own mc me sl) xs h1 with
        | ok p => rw [e] at q; exact ⟨p, rfl, q⟩
        | exc c h' => rw [e] at q; exact q.elim
        | no => rw [e] at q; exact q.elim
      have S1 := S.step C.lo s1
      let Pv : Nat → Hp → Prop := fun i H' => ∃ β2 h2 p, On Γ β1 F H1 β2 F H' ∧ Step β1 H1 β2 H' ∧ Rel Γ β2 F h2 H' ∧ anyG stop (turnF t own mc me sl) (xs.drop i) h2 = .ok p ∧ Aft Γ E F (AW Γ F) β H (.ok p) Q
      refine ⟨fun i m' _ H' => m' = xs.length - i ∧ i ≤ xs.length ∧ Pv i H', xs.length, ⟨by simp, Nat.zero_le _, β1, h1, p, ⟨st2.tr, fun a o u e => st2.frzs a o u e⟩, st2, R2, ep, q⟩, ?_⟩
      rintro i m' x0 H' ⟨rfl, hi, β2, h2, p, on, st, R2, ep, q⟩
      by_cases hlt : i < xs.length
      · refine .inr ⟨wk.go i β2 _ H' on hlt, by omega, fun _ H5 => Pv (i + 1) H5, fun a' H5 p' => ⟨xs.length - (i + 1), by omega, rfl, hlt, p'⟩, fun x H3 y => ?_⟩
        obtain ⟨w, ewi, st', R3, rw3⟩ := wk.yld i β2 _ H' h2 x H3 on R2 hlt y
        have ed : xs.drop i = w :: xs.drop (i + 1) := by
          rw [List.drop_eq_getElem_cons hlt]
          congr 1
          exact Option.some.inj ((List.getElem?_eq_getElem hlt).symm.trans ewi)
        rw [ed] at ep
        obtain ⟨sl', b, h4, es, em, rest⟩ := turn1_ok (anyG_ok ep)
        have SB := (((S1.tr C.lo on.tr).step C.lo st').wipe own)
        refine ⟨β2, F, h2, wipeS sl own, w, sl', R3, SB, rw3, es, fun σ' S' hw => ⟨?_, β2, F, h2, sl', R3, S', ?_⟩⟩
        · rw [hw _ hsub]
          exact lc_imp.wipe_idem σ _
        · rw [em]
          intro c H4 β4 s4 R4 ec
          cases ec
          have s5 := st'.trans s4
          have on5 : On Γ β1 F H1 β4 F H4 := ⟨on.tr.trans s5.tr, fun a o u e => s5.frzs a o u (on.frz a o u e)⟩
          rcases rest with ⟨rfl, rest⟩ | ⟨rfl, z, h5, eme, rest⟩
          · rw [if_neg Bool.false_ne_true]
            exact ⟨β4, h4, p, on5, st.trans s5, R4, rest, q⟩
          · rw [if_pos rfl]
            refine ⟨β4, F, h4, sl', R4, S'.step C.lo s4, ?_⟩
            rw [eme]
            intro y5 H5 β5 s6 R5 ry5
            dsimp only at rest
            cases ez : tr1 z with
            | none => rw [ez] at rest; cases rest
            | some b =>
              rw [ez] at rest
              refine ⟨b, tr1_V ez ry5, fun hb => ?_, fun hb => ?_⟩
              · subst hb
                simp only [beq_self_eq_true, if_true] at rest
                cases rest
                have s7 := s5.trans s6
                exact q (.bl b) H5 β5 (s1.trans (st.trans s7)) R5 (by unfold AW RV; rfl)
              · have hn : (b == stop) = false := by rw [hb]; cases stop <;> rfl
                simp only [hn, Bool.false_eq_true, if_false] at rest
                exact ⟨β5, h5, p, ⟨on5.tr.trans s6.tr, fun a o u e => s6.frzs a o u (on5.frz a o u e)⟩, (st.trans s5).trans s6, R5, rest, q⟩
      · have ei : i = xs.length := by omega
        subst ei
        rw [List.drop_length] at ep
        unfold anyG at ep
        cases ep
        exact .inl ⟨wk.stop β2 _ H' on, q (.bl (!stop)) H' β2 (s1.trans st) R2 (by unfold AW RV; rfl)⟩
    · exact q.elim
end
end PyI

set_option Elab.async false
set_option linter.all false
set_option maxRecDepth 100000
set_option maxHeartbeats 1000000
/-! PyI33: the check of generator expressions. -/
namespace PyI
open PySem PySem.Spec PyProof.Rows L2 GenW
def Fs.gblk (f : Fs) (scope : Scope) : Fs := { N := f.N, sc := scope, fn := fun _ => false, lam := false, gen := false }
def noX0 : Fs → Bool → E → Expr → Bool := fun _ _ _ _ => false
def noLst : Expr → Bool
  | .List _ _ => false
  | _ => true
def gscB (f : Fs) (scope : Scope) (own : List Nat) : Bool := blkC f.N f.sc scope (ownOf f.N own) && (scope.names.all fun y => decide (y.2 ≠ .cell)) && !scope.isCoroutine && decide (scope.names.lookup (".0" : Str) = some NameKind.local)
def gpartB (T : Tb) (f : Fs) (own : List Nat) (t : Tg) (ik : IK) (ies c : List E) (e : E) (elt tg iter : Expr) (ifs : List Expr) (scope : Scope) : Bool :=
  f.gen && gscB f scope own && decide (tgS t ⊆ own) && setB iter && noLst iter && chkG (f.gblk scope) t tg && chkW T noX0 f ik ies tg iter && (match c, ifs with
      | [], [] => true
      | [c], [i] => chkE T noX0 c true (f.gblk scope) i
      | _, _ => false) && chkE T noX0 e false (f.gblk scope) elt
def gnmA : GC → Option (Str × Bool)
  | .any => some ("any", true)
  | .all => some ("all", false)
  | _ => none
def xtGA (T : Tb) (f : Fs) (m : Bool) (c : E) (e : Expr) : Bool := match c, e with
  | .gen g _ own t ik ies c e, .Call (.Name x _) [.GeneratorExp elt [⟨tg, iter, ifs, 0⟩] scope _] [] _ => (match gnmA g with
    | some (y, _) => decide (x = y) && glB f.sc x && gpartB T f own t ik ies c e elt tg iter ifs scope
    | none => false)
  | _, _ => false
section
variable {Γ : Gm} {LO : LamT} {T : Tb} {I : Ix} {K0 : Nat} {E : XK} {f : Fs} {X : L2.Cx}
theorem Frm.gblk (r : Frm Γ LO T I K0 E f X) (hg : f.gen = true) {scope : Scope} {own : List (Str × Nat)} (S : GScope X scope own) {A : Around} (s : Shared) (H : Hp) (code : Value) (fp : List Addr) (hr : Room (K0 + 1) (A.deeper (gEnv X scope s.heap.objs.size code))) :
    Frm Γ LO T I K0 Eno (f.gblk scope) (gCx X A s H scope code fp) :=
  ⟨r.lo, rfl, r.nodup, L2.takes0, r.wd, r.N_, rfl, fun x h => (by cases h), S.ok.kind, hr, fun h => (by cases h), fun h => (by cases h)⟩
theorem room_in {A : Around} {k : Nat} (hr : Room (k + 3) A) (env : Env) : Room (k + 1) (A.in1.in1.deeper env) ∧ Room (k + 1) (A.in1.in1.in1.deeper env) ∧ Room (k + 1) (A.in1.in1.in1.in1.deeper env) :=
  ⟨⟨hr.hd, by have := hr.dp; show A.depth + 1 + 3 * (k + 1) + 5 < _; omega, by have := hr.un; show A.units + 1 + 1 + 3 + 16 * (k + 1) + 200 < _; omega⟩,
   ⟨hr.hd, by have := hr.dp; show A.depth + 1 + 3 * (k + 1) + 5 < _; omega, by have := hr.un; show A.units + 1 + 1 + 1 + 3 + 16 * (k + 1) + 200 < _; omega⟩,
   ⟨hr.hd, by have := hr.dp; show A.depth + 1 + 3 * (k + 1) + 5 < _; omega, by have := hr.un; show A.units + 1 + 1 + 1 + 1 + 3 + 16 * (k + 1) + 200 < _; omega⟩⟩
/-- what the check tells -/
structure GParts (Γ : Gm) (LO : LamT) (T : Tb) (I : Ix) (K0 : Nat) (E : XK) (f : Fs) (X : L2.Cx) (own : List Nat) (t : Tg) (ik : IK) (ies c : List PyI.E) (e : PyI.E) (elt tg iter : Expr) (ifs : List Expr) (scope : Scope) : Prop where
  gf : GenF Γ.T X
  room : Room (K0 + 3) X.A
  sc : GScope X scope (ownOf f.N own)
  sub : tgS t ⊆ own
  fold : ∀ x, genFold iter X.env x = pure x
  pi : PI X tg iter (tW Γ LO E ik (evEs I ies))
  pg : ∀ (A : Around) s H code fp, Room (K0 + 1) (A.deeper (gEnv X scope s.heap.objs.size code)) → PG (gCx X A s H scope code fp) tg (tG Γ LO t)
  pt : ∀ (A : Around) s H code fp, Room (K0 + 1) (A.deeper (gEnv X scope s.heap.objs.size code)) → PTs (gCx X A s H scope code fp) ifs (tT Γ LO Eno (evIf I c))
  pe : ∀ (A : Around) s H code fp, Room (K0 + 1) (A.deeper (gEnv X scope s.heap.objs.size code)) → PE (gCx X A s H scope code fp) elt (tE Γ LO Eno (evE I e))
theorem ev0 {e : PyI.E} {m : Bool} {f : Fs} {x : Expr} {E' : XK} {X : L2.Cx} (r : Frm Γ LO T I K0 E' f X) (h : chkE T noX0 e m f x = true) : Rds Γ LO I E' X m e x := ev_ok (xt := noX0) (fun _ h => by cases h) (sizeOf e + 1) e (Nat.lt_succ_self _) _ _ _ _ _ r h
theorem gparts (r : Frm Γ LO T I K0 E f X) {own : List Nat} {t : Tg} {ik : IK} {ies c : List PyI.E} {e : PyI.E} {elt tg iter : Expr} {ifs : List Expr} {scope : Scope} (h : gpartB T f own t ik ies c e elt tg iter ifs scope = true) : GParts Γ LO T I K0 E f X own t ik ies c e elt tg iter ifs scope := by
  unfold gpartB gscB at h
  simp only [Bool.and_eq_true, decide_eq_true_eq, Bool.not_eq_true', List.all_eq_true] at h
  obtain ⟨⟨⟨⟨⟨⟨⟨⟨h1, ⟨⟨h2, h3⟩, h4⟩, h5⟩, h6⟩, h7⟩, h8⟩, h9⟩, h10⟩, h11⟩, h12⟩ := h
  have ok : BlkOk X.N X.env.scope scope (ownOf f.N own) := by rw [r.N_, r.sc_]; exact blkC_ok h2
  have S : GScope X scope (ownOf f.N own) := ⟨ok, h3, h4, h5⟩
  have fr := fun (A : Around) (s : Shared) (H : Hp) (code : Value) (fp : List Addr) (hr : Room (K0 + 1) (A.deeper (gEnv X scope s.heap.objs.size code))) => r.gblk h1 S s H code fp hr
  refine ⟨(r.gen h1).2, (r.gen h1).1, S, h6, ?_, walk_ok (xt := noX0) r (fun c _ => ev_ok (xt := noX0) (fun _ h => by cases h) _ c (Nat.lt_succ_self _)) h10, fun A s H code fp hr => tgt_ok (f := f.gblk scope) (fr A s H code fp hr).fx (fr A s H code fp hr).N_ (fun x h => (fr A s H code fp hr).loc h) t tg h9, fun A s H code fp hr => ?_, fun A s H code fp hr => (ev0 (fr A s H code fp hr) h12).e⟩
  · intro x
    have z := setX_ok h7 X.env x
    cases iter <;> first | exact z | (cases h8; done)
  · split at h11
    · have e1 : evIf I [] = fun _ h => .ok (true, h) := by funext σ h; rw [evIf]
      rw [e1]
      exact ts_nil
    · rename_i c0 i0
      have e1 : evIf I [c0] = fun σ h => tst (evE I c0 σ h) := by funext σ h; rw [evIf]
      rw [e1]
      exact pts_one (ev0 (fr A s H code fp hr) h11).t
    · cases h11
theorem ev_gen {g : GC} {box : Bool} {own : List Nat} {t : Tg} {ik : IK} {ies c : List PyI.E} {e : PyI.E} (sl : Sl) (h : Hc) : evE I (.gen g box own t ik ies c e) sl h = walkK .no .exc unR ik (fun h => evEs I ies sl h) (fun xs h1 => noX (genRun g box (turnF t own (evIf I c) (evE I e) sl) xs h1)) h := by rw [evE]; rfl
theorem xtGA_ok (r : Frm Γ LO T I K0 E f X) {m : Bool} {c : PyI.E} {e : Expr} (h : xtGA T f m c e = true) : Rds Γ LO I E X m c e := by
  unfold xtGA at h
  split at h
  · rename_i g box own t ik ies c e x p1 elt tg iter ifs scope gp pos
    split at h
    · rename_i y stop hg
      simp only [Bool.and_eq_true, decide_eq_true_eq] at h
      obtain ⟨⟨h1, h2⟩, h3⟩ := h
      have P := gparts r h3
      have hb : (∃ nm : String, y = (nm : Str) ∧ ((nm = "any" ∧ stop = true) ∨ (nm = "all" ∧ stop = false))) ∧ ∀ (f : W → Hc → Res (Option W × Hc)) xs h, genRun g box f xs h = anyG stop f xs h := by
        cases g with
        | any => cases hg; exact ⟨⟨"any", rfl, .inl ⟨rfl, rfl⟩⟩, fun _ _ _ => rfl⟩
        | all => cases hg; exact ⟨⟨"all", rfl, .inr ⟨rfl, rfl⟩⟩, fun _ _ _ => rfl⟩
        | _ => cases hg
      obtain ⟨⟨nm, rfl, hnm⟩, hrun⟩ := hb
      subst h1
      have hmg : X.mg (nm : Str) = none := r.wd.bltn _ (by rcases hnm with ⟨rfl, _⟩ | ⟨rfl, _⟩ <;> simp)
      have ownS : (ownOf f.N own).map (·.2) = own := ownOf_snd f.N own
      have key := pe_genA (p := p1) (gpos := gp) (pos := pos) (k := K0 + 1) hnm P.room (r.gl h2).1 hmg P.gf P.sc r.nodup P.pi P.fold (fun s H code fp => P.pg _ s H code fp (room_in P.room _).1) (fun s H code fp => P.pt _ s H code fp (room_in P.room _).1) (fun s H code fp => P.pe _ s H code fp (room_in P.room _).1)
      rw [ownS] at key
      have key2 := PEimp key fun σ H Q q => genA_imp r.fx (stop := stop) (m := evEs I ies) (mc := evIf I c) (me := evE I e) (ik := ik) P.sub σ H Q q
      refine Rds.of r.fx (e_lock (M' := evE I (.gen g box own t ik ies c e)) r.fx key2 fun sl h => ?_) rfl (fun _ => rfl)
      rw [ev_gen]
      have e1 : (fun xs h1 => noX (genRun g box (turnF t own (evIf I c) (evE I e) sl) xs h1)) = fun xs h1 => noX (anyG stop (turnF t own (evIf I c) (evE I e) sl) xs h1) := by
        funext xs h1
        rw [hrun]
      rw [e1]
      exact walkK_E h
    · cases h
  · cases h
/-- all forms -/
def xtG (T : Tb) (f : Fs) (m : Bool) (c : PyI.E) (e : Expr) : Bool := xtGA T f m c e
theorem xtG_ok (r : Frm Γ LO T I K0 E f X) {m : Bool} {c : PyI.E} {e : Expr} (h : xtG T f m c e = true) : Rds Γ LO I E X m c e := xtGA_ok r h
end
end PyI

set_option linter.all false
set_option maxRecDepth 100000
set_option maxHeartbeats 1000000
/-! PL0: plain facts of the interpreter. -/
namespace PyI
open PySem
section
variable {P : Pg} {c : Nat → List W → Hc → RW}
theorem cx_call (f : Nat) : (P.cx c).call f = c f := rfl
theorem cx_glob : (P.cx c).glob = P.glob := rfl
theorem cx_init (C : Nat) : (P.cx c).init C = (P.init[C]?).join := rfl
theorem cx_meth (C m : Nat) : (P.cx c).meth C m = P.meth C m := rfl
theorem cx_told (t : Nat) : (P.cx c).told t = P.told.getD t [] := rfl
theorem cx_fuel : (P.cx c).fuel = P.fuel := rfl
end
/-- a call, opened -/
def outR : Out → RW
  | .nx _ h' => .ok (.non, h')
  | .rt w h' => .ok (w, h')
  | .exc c h' => .exc c h'
  | _ => .no
def runF (P : Pg) (n : Nat) (F : Fn) (ws : List W) (h : Hc) : RW := match F.args ws with
    | none => .no
    | some ws => outR (exB (P.cx (callN P n)) F.body (F.start ws) h)
theorem callN_s {P : Pg} {n f : Nat} {F : Fn} (hf : P.fns[f]? = some F) (ws : List W) (h : Hc) : callN P (n + 1) f ws h = runF P n F ws h := by
  conv => lhs; unfold callN
  rw [hf]
  dsimp only
  unfold runF
  cases F.args ws with
  | none => rfl
  | some ws =>
    dsimp only
    generalize exB (P.cx (callN P n)) F.body (F.start ws) h = o
    cases o <;> rfl
theorem runF_of {P : Pg} {n : Nat} {F : Fn} {ws us : List W} {h : Hc} {o : Out} (ha : F.args ws = some us) (ho : exB (P.cx (callN P n)) F.body (F.start us) h = o) : runF P n F ws h = outR o := by
  unfold runF
  rw [ha]
  dsimp only
  rw [ho]
theorem exB_cons {X : Ix} {s : S} {r : List S} {σ : Sl} {h : Hc} : exB X (s :: r) σ h = (exS X s σ h).then fun σ h => exB X r σ h := by rw [exB]
theorem exB_nx {X : Ix} {s : S} {r : List S} {σ σ1 : Sl} {h h1 : Hc} (e : exS X s σ h = .nx σ1 h1) : exB X (s :: r) σ h = exB X r σ1 h1 := by rw [exB, e]; rfl
theorem exB_rt {X : Ix} {s : S} {r : List S} {σ : Sl} {h h1 : Hc} {w : W} (e : exS X s σ h = .rt w h1) : exB X (s :: r) σ h = .rt w h1 := by rw [exB, e]; rfl
theorem exS_ite {X : Ix} {c : E} {x y : List S} {σ : Sl} {h h1 : Hc} {b : Bool} (e : tst (evE X c σ h) = .ok (b, h1)) : exS X (.ite c x y) σ h = if b then exB X x σ h1 else exB X y σ h1 := by
  rw [exS, e]
  rfl
/-! ### loops -/
theorem forL_inv {f : W → Sl → Hc → Out} (I : List W → Sl → Hc → Prop) (st : ∀ x r σ h, I (x :: r) σ h → ∃ σ' h', f x σ h = .nx σ' h' ∧ I r σ' h') : ∀ (xs : List W) (σ : Sl) (h : Hc), I xs σ h → ∃ σ' h', forL f xs σ h = .nx σ' h' ∧ I [] σ' h'
  | [], σ, h, i => ⟨σ, h, rfl, i⟩
  | x :: r, σ, h, i => by
    obtain ⟨σ1, h1, e, i1⟩ := st x r σ h i
    obtain ⟨σ2, h2, e2, i2⟩ := forL_inv I st r σ1 h1 i1
    refine ⟨σ2, h2, ?_, i2⟩
    show (match f x σ h with
      | .nx σ' h' => forL f r σ' h'
      | .ct σ' h' => forL f r σ' h'
      | .bk σ' h' => .nx σ' h'
      | o => o) = _
    rw [e]
    exact e2
theorem turns_inv {f : W → Hc → Res (Option W × Hc)} (I : List W → List W → Hc → Prop) (st : ∀ x r ys h, I (x :: r) ys h → ∃ y h', f x h = .ok (some y, h') ∧ I r (ys ++ [y]) h') : ∀ (xs ys : List W) (h : Hc), I xs ys h → ∃ zs h', turns f xs h = .ok (zs, h') ∧ I [] (ys ++ zs) h'
  | [], ys, h, i => ⟨[], h, rfl, by rw [List.append_nil]; exact i⟩
  | x :: r, ys, h, i => by
    obtain ⟨y, h1, e, i1⟩ := st x r ys h i
    obtain ⟨zs, h2, e2, i2⟩ := turns_inv I st r (ys ++ [y]) h1 i1
    refine ⟨y :: zs, h2, ?_, by rw [List.append_assoc] at i2; exact i2⟩
    unfold turns
    rw [e]
    show (turns f r h1).bind _ = _
    rw [e2]
    rfl
/-- a comprehension whose turns are pure -/
theorem turns_pure {f : W → Hc → Res (Option W × Hc)} {g : W → Option W} {h : Hc} : ∀ {xs : List W}, (∀ x ∈ xs, f x h = .ok (g x, h)) → turns f xs h = .ok (xs.filterMap g, h)
  | [], _ => rfl
  | x :: r, hx => by
    unfold turns
    rw [hx x (by simp)]
    show (turns f r h).bind _ = _
    rw [turns_pure fun y hy => hx y (by simp [hy])]
    simp only [Res.bind, List.filterMap_cons]
    cases g x <;> rfl
/-! ### data -/
abbrev sts (ks : List (List Nat)) : List W := ks.map W.str
theorem rd_str (n : Nat) (h : Hc) (s : List Nat) : rd (n + 1) h (.str s) = some (.str s) := by rw [rd]
theorem rd_int (n : Nat) (h : Hc) (s : Int) : rd (n + 1) h (.int s) = some (.int s) := by rw [rd]
theorem rd_bl (n : Nat) (h : Hc) (s : Bool) : rd (n + 1) h (.bl s) = some (.bl s) := by rw [rd]
theorem rd_non (n : Nat) (h : Hc) : rd (n + 1) h .non = some .non := by rw [rd]
theorem rd_tup (n : Nat) (h : Hc) (xs : List W) : rd (n + 1) h (.tup xs) = (optAll (rd n h) xs).map .tup := by rw [rd]
theorem rd_lst (n : Nat) (h : Hc) (xs : List W) : rd (n + 1) h (.lst xs) = (optAll (rd n h) xs).map .lst := by rw [rd]
theorem optAll_id {f : W → Option W} : ∀ {xs : List W}, (∀ x ∈ xs, f x = some x) → optAll f xs = some xs
  | [], _ => rfl
  | x :: r, hx => by
    unfold optAll
    rw [hx x (by simp), optAll_id fun y hy => hx y (by simp [hy])]
theorem rd_sts (n : Nat) (h : Hc) (ks : List (List Nat)) : optAll (rd (n + 1) h) (sts ks) = some (sts ks) := optAll_id fun x hx => by
  obtain ⟨k, _, rfl⟩ := List.mem_map.mp hx
  exact rd_str n h k
theorem rd_ints (n : Nat) (h : Hc) (ks : List Int) : optAll (rd (n + 1) h) (ks.map W.int) = some (ks.map W.int) := optAll_id fun x hx => by
  obtain ⟨k, _, rfl⟩ := List.mem_map.mp hx
  exact rd_int n h k
mutual
theorem eqv_refl : ∀ w : W, W.nref w = true → (∀ n h, rd n h w = some w → W.eqv w w = true)
  | .non, _, _, _, _ => by simp [W.eqv]
  | .bl b, _, _, _, _ => by simp [W.eqv]
  | .int b, _, _, _, _ => by simp [W.eqv]
  | .str b, _, _, _, _ => by simp [W.eqv]
  | .tup xs, hn, n, h, e => by
    simp only [W.eqv]
    unfold W.nref at hn
    cases n with
    | zero => cases e
    | succ n =>
      rw [rd_tup] at e
      cases e1 : optAll (rd n h) xs with
      | none => rw [e1] at e; cases e
      | some ys =>
        rw [e1] at e
        cases e
        exact eqvs_refl xs hn n h e1
  | .lst xs, hn, n, h, e => by
    simp only [W.eqv]
    unfold W.nref at hn
    cases n with
    | zero => cases e
    | succ n =>
      rw [rd_lst] at e
      cases e1 : optAll (rd n h) xs with
      | none => rw [e1] at e; cases e
      | some ys =>
        rw [e1] at e
        cases e
        exact eqvs_refl xs hn n h e1
  | .frz xs, hn, n, h, e => by
    cases n with
    | zero => cases e
    | succ n =>
      rw [rd] at e
      cases e1 : optAll (rd n h) xs with
      | none => rw [e1] at e; cases e
      | some ys => rw [e1] at e; cases e
  | .ref a, hn, _, _, _ => by unfold W.nref at hn; cases hn
theorem eqvs_refl : ∀ ws : List W, W.nrefs ws = true → ∀ n h, optAll (rd n h) ws = some ws → W.eqvs ws ws = true
  | [], _, _, _, _ => by simp [W.eqvs]
  | w :: ws, hn, n, h, e => by
    unfold W.nrefs at hn
    rw [Bool.and_eq_true] at hn
    unfold optAll at e
    cases e1 : rd n h w with
    | none => rw [e1] at e; cases e
    | some v =>
      rw [e1] at e
      dsimp only at e
      cases e2 : optAll (rd n h) ws with
      | none => rw [e2] at e; cases e
      | some vs =>
        rw [e2] at e
        cases e
        simp only [W.eqvs, Bool.and_eq_true]
        exact ⟨eqv_refl w hn.1 n h e1, eqvs_refl ws hn.2 n h e2⟩
end
theorem nrefs_sts : ∀ ks : List (List Nat), W.nrefs (sts ks) = true
  | [] => by simp [W.nrefs]
  | k :: ks => by simp [W.nrefs, W.nref, nrefs_sts ks]
theorem dicAt_of {h : Hc} {w : W} (hw : W.nref w = true) : dicAt h w = none := by
  cases w <;> first | rfl | (unfold W.nref at hw; cases hw)
/-- == of a tree with itself -/
theorem isEq0_refl {h : Hc} {w : W} (hn : W.nref w = true) (hr : rd 60 h w = some w) : isEq0 h w w = some true := by
  unfold isEq0
  rw [dicAt_of hn]
  dsimp only
  rw [hr]
  dsimp only
  rw [eqv_refl w hn 60 h hr]
theorem isEq_refl {h : Hc} {w : W} (hn : W.nref w = true) (hr : rd 60 h w = some w) : isEq h w w = some true := by
  unfold isEq
  rw [isEq0_refl hn hr]
/-- == of two trees -/
theorem isEq0_tree {h : Hc} {x y x' y' : W} (hx : W.nref x = true) (hy : W.nref y = true) (ex : rd 60 h x = some x') (ey : rd 60 h y = some y') : isEq0 h x y = some (W.eqv x' y') := by
  unfold isEq0
  rw [dicAt_of hx]
  dsimp only
  rw [ex, ey]
theorem eqv_str (a b : List Nat) : W.eqv (.str a) (.str b) = (a == b) := by simp [W.eqv]
theorem any_str (ks : List (List Nat)) (k : List Nat) : (sts ks).any (fun u => W.eqv u (.str k)) = decide (k ∈ ks) := by
  induction ks with
  | nil => rfl
  | cons x r ih =>
    simp only [List.map_cons, List.any_cons, eqv_str, ih, List.mem_cons]
    by_cases e : x = k
    · subst e; simp
    · have : ¬ k = x := fun z => e z.symm
      simp [e, this]
theorem isIn_lst (h : Hc) (ks : List (List Nat)) (k : List Nat) : isIn h (.str k) (.lst (sts ks)) = some (decide (k ∈ ks)) := by
  simp only [isIn, rd_str, rd_sts, any_str]
/-! dicts: each key tells itself -/
def kk (k : List Nat) : W × W := (.str k, .str k)
abbrev kks (ks : List (List Nat)) : List (W × W) := ks.map kk
theorem keq_str (a b : List Nat) : W.keq (.str a) (.str b) = (a == b) := by simp [W.keq]
theorem dget_kks (ks : List (List Nat)) (k : List Nat) : dget (kks ks) (.str k) = if k ∈ ks then some (.str k) else none := by
  induction ks with
  | nil => rfl
  | cons x r ih =>
    simp only [List.map_cons, kk, dget, keq_str, List.mem_cons]
    by_cases e : x = k
    · subst e; simp
    · have : ¬ k = x := fun z => e z.symm
      simp only [beq_iff_eq, e, if_false, this, false_or]
      exact ih
theorem dput_kks {ks : List (List Nat)} {k : List Nat} (h : k ∉ ks) : dput (kks ks) (.str k) (.str k) = kks (ks ++ [k]) := by
  unfold dput
  have : (kks ks).any (fun p => W.keq p.1 (.str k)) = false := by
    rw [List.any_eq_false]
    intro p hp
    obtain ⟨x, hx, rfl⟩ := List.mem_map.mp hp
    simp only [kk, keq_str, beq_iff_eq]
    intro z
    exact h (by rw [← z]; exact hx)
  rw [this]
  simp [kk]
theorem dput_same {ks : List (List Nat)} {k : List Nat} (h : k ∈ ks) : dput (kks ks) (.str k) (.str k) = kks ks := by
  unfold dput
  have : (kks ks).any (fun p => W.keq p.1 (.str k)) = true := by
    rw [List.any_eq_true]
    exact ⟨kk k, List.mem_map.mpr ⟨k, h, rfl⟩, by simp [kk, keq_str]⟩
  rw [this]
  simp only [if_true, List.map_map]
  refine List.map_congr_left fun x _ => ?_
  simp only [Function.comp, kk, keq_str, beq_iff_eq]
  split
  · rename_i e; rw [e]
  · rfl
theorem ddel_kks (ks : List (List Nat)) (k : List Nat) : ddel (kks ks) (.str k) = kks (ks.filter (· != k)) := by
  unfold ddel
  rw [List.filter_map]
  congr 1
theorem keys_kks (ks : List (List Nat)) : (kks ks).map (·.1) = sts ks := by
  simp [List.map_map, Function.comp, kk]
theorem isIn_dic {h : Hc} {a : Nat} {lk : Bool} {ks : List (List Nat)} (k : List Nat) (e : h[a]? = some (.dic lk (kks ks))) : isIn h (.str k) (.ref a) = some (decide (k ∈ ks)) := by
  simp only [isIn, e, W.isKey, if_true, dget_kks]
  by_cases z : k ∈ ks <;> simp [z]
/-- [x for x in xs if x != k] -/
theorem ev_ne {X : Ix} {e : E} {i j : Nat} {σ : Sl} {h h1 : Hc} {ks : List (List Nat)} {k : List Nat} {box : Bool} (he : evE X e σ h = .ok (.lst (sts ks), h1)) (hi : i < σ.length) (hij : i ≠ j) (hj : σ[j]? = some (.v (.str k))) :
    evE X (.lc box [i] (.one i) .val [e] [.cmp .NotEq (.var i) (.var j)] (.var i)) σ h = mkL box (sts (ks.filter (· != k))) h1 := by
  rw [evE]
  unfold walkK
  have e1 : evEs X [e] σ h = .ok ([.lst (sts ks)], h1) := by simp [evEs, he, Res.bind]
  dsimp only
  rw [e1]
  dsimp only [walkOf, walkOne, walkVal]
  have t : ∀ x ∈ sts ks, (fun x h => match stTg (.one i) x (wipeS σ [i]) with
      | some σ' => (evIf X [.cmp .NotEq (.var i) (.var j)] σ' h).bind fun (k, h') => if k then (evE X (.var i) σ' h').bind fun (w, h'') => .ok (some w, h'') else .ok (none, h')
      | none => .no) x h1 = .ok (if x.keq (.str k) then none else some x, h1) := by
    intro x hx
    obtain ⟨y, hy, rfl⟩ := List.mem_map.mp hx
    have l1 : i < (wipeS σ [i]).length := by simp [wipeS, hi]
    have g1 : ((wipeS σ [i]).set i (.v (.str y)))[i]? = some (.v (.str y)) := List.getElem?_set_self l1
    have g2 : ((wipeS σ [i]).set i (.v (.str y)))[j]? = some (.v (.str k)) := by
      rw [List.getElem?_set_ne hij]
      simp only [wipeS]
      rw [List.getElem?_set_ne hij]
      exact hj
    simp only [stTg, l1, if_true, evIf, evE, Sl.var, g1, g2, Res.bind, cmpop]
    rw [isEq0_tree (x := .str y) (y := .str k) rfl rfl (rd_str _ _ _) (rd_str _ _ _)]
    simp only [Option.map, tst, Res.bind, truth, eqv_str, keq_str]
    cases (y == k) <;> rfl
  rw [turns_pure t]
  simp only [noX, Res.bind]
  have fm : (sts ks).filterMap (fun x => if x.keq (.str k) then none else some x) = sts (ks.filter (· != k)) := by
    clear he e1 t
    induction ks with
    | nil => rfl
    | cons x r ih =>
      simp only [List.map_cons, List.filterMap_cons, keq_str, List.filter_cons]
      cases hx : (x == k)
      · simp only [bne, hx, Bool.not_false, if_true, Bool.false_eq_true, if_false, List.map_cons]
        exact congrArg _ ih
      · simp only [bne, hx, Bool.not_true, if_true, Bool.false_eq_true, if_false]
        exact ih
  rw [fm]
theorem isIn_hl {h : Hc} {b : Nat} {lk : Bool} {ks : List (List Nat)} (k : List Nat) (e : h[b]? = some (.lst lk (sts ks))) : isIn h (.str k) (.ref b) = some (decide (k ∈ ks)) := by
  simp only [isIn, e, rd_str, rd_sts, any_str]
theorem set_same {h : Hc} {a : Nat} {o : CO} (e : h[a]? = some o) : h.set a o = h := by
  apply List.ext_getElem?
  intro i
  by_cases hi : a = i
  · subst hi
    rw [List.getElem?_set_self (List.getElem?_eq_some_iff.mp e).1, e]
  · rw [List.getElem?_set_ne hi]
/-- the same over a list of the heap, the new one in the heap -/
theorem ev_neH {X : Ix} {e : E} {i j b : Nat} {σ : Sl} {h : Hc} {ks : List (List Nat)} {k : List Nat} (hb : h[b]? = some (.lst false (sts ks))) (he : ∀ lk, evE X e σ (h.set b (.lst lk (sts ks))) = .ok (.ref b, h.set b (.lst lk (sts ks)))) (hi : i < σ.length) (hij : i ≠ j) (hj : σ[j]? = some (.v (.str k))) :
    evE X (.lc true [i] (.one i) .val [e] [.cmp .NotEq (.var i) (.var j)] (.var i)) σ h = .ok (.ref h.length, h ++ [.lst false (sts (ks.filter (· != k)))]) := by
  have he0 : evE X e σ h = .ok (.ref b, h) := by
    have := he false
    rw [set_same hb] at this
    exact this
  have hlt := (List.getElem?_eq_some_iff.mp hb).1
  have hs : (h.set b (.lst true (sts ks)))[b]? = some (.lst true (sts ks)) := List.getElem?_set_self hlt
  rw [evE]
  unfold walkK
  have e1 : evEs X [e] σ h = .ok ([.ref b], h) := by simp [evEs, he0, Res.bind]
  have e2 : evEs X [e] σ (h.set b (.lst true (sts ks))) = .ok ([.ref b], h.set b (.lst true (sts ks))) := by simp [evEs, he true, Res.bind]
  have w1 : walkOf .val [.ref b] h = some (sts ks, some b) := by simp [walkOf, walkOne, walkVal, hb]
  have w2 : walkOf .val [.ref b] (h.set b (.lst true (sts ks))) = some (sts ks, none) := by simp only [walkOf, walkOne, walkVal, hs]; rfl
  have lk : lockH b h = some (h.set b (.lst true (sts ks))) := by simp only [lockH, hb]
  dsimp only
  rw [e1]
  dsimp only
  rw [w1]
  dsimp only
  rw [lk]
  dsimp only
  rw [e2]
  dsimp only
  rw [w2]
  dsimp only
  generalize hl : h.set b (.lst true (sts ks)) = h2 at *
  have t : ∀ x ∈ sts ks, (fun x h => match stTg (.one i) x (wipeS σ [i]) with
      | some σ' => (evIf X [.cmp .NotEq (.var i) (.var j)] σ' h).bind fun (k, h') => if k then (evE X (.var i) σ' h').bind fun (w, h'') => .ok (some w, h'') else .ok (none, h')
      | none => .no) x h2 = .ok (if x.keq (.str k) then none else some x, h2) := by
    intro x hx
    obtain ⟨y, hy, rfl⟩ := List.mem_map.mp hx
    have l1 : i < (wipeS σ [i]).length := by simp [wipeS, hi]
    have g1 : ((wipeS σ [i]).set i (.v (.str y)))[i]? = some (.v (.str y)) := List.getElem?_set_self l1
    have g2 : ((wipeS σ [i]).set i (.v (.str y)))[j]? = some (.v (.str k)) := by
      rw [List.getElem?_set_ne hij]
      simp only [wipeS]
      rw [List.getElem?_set_ne hij]
      exact hj
    simp only [stTg, l1, if_true, evIf, evE, Sl.var, g1, g2, Res.bind, cmpop]
    rw [isEq0_tree (x := .str y) (y := .str k) rfl rfl (rd_str _ _ _) (rd_str _ _ _)]
    simp only [Option.map, tst, Res.bind, truth, eqv_str, keq_str]
    cases (y == k) <;> rfl
  rw [turns_pure t]
  have fm : (sts ks).filterMap (fun x => if x.keq (.str k) then none else some x) = sts (ks.filter (· != k)) := by
    clear he he0 e1 e2 w1 w2 lk t hs hb hl
    induction ks with
    | nil => rfl
    | cons x r ih =>
      simp only [List.map_cons, List.filterMap_cons, keq_str, List.filter_cons]
      cases hx : (x == k)
      · simp only [bne, hx, Bool.not_false, if_true, Bool.false_eq_true, if_false, List.map_cons]
        exact congrArg _ ih
      · simp only [bne, hx, Bool.not_true, if_true, Bool.false_eq_true, if_false]
        exact ih
  rw [fm]
  have l2 : h2.length = h.length := by rw [← hl, List.length_set]
  have u : unlockH b (h2 ++ [.lst false (sts (ks.filter (· != k)))]) = h ++ [.lst false (sts (ks.filter (· != k)))] := by
    have e3 : (h2 ++ [CO.lst false (sts (ks.filter (· != k)))])[b]? = some (.lst true (sts ks)) := by
      rw [List.getElem?_append_left (by omega)]
      exact hs
    simp only [unlockH, e3]
    rw [List.set_append_left _ _ (by omega), ← hl, List.set_set, set_same hb]
  simp only [noX, Res.bind, mkL, if_true, unR, u, l2]
end PyI

set_option linter.all false
set_option maxRecDepth 100000
set_option maxHeartbeats 2000000
/-! PL1: the dice of the laws. -/
namespace PyI
open PySem
def fDice : Fn := { np := 1, ns := 1, dfl := [], body := [.ite (.cmp2 .Lt .Lt (.bin false .Sub (.lit (.int 0)) (.lit (.int 10))) (.var 0) (.lit (.int 10))) [.ret [(.lst true [(.bi .abs false [(.var 0)]), (.lit (.int 0)), (.lit (.int 2))])]] [], .ret [(.lst true [(.var 0), (.bin false .Add (.lit (.int 1)) (.bin false .Mod (.bi .int false [(.var 0)]) (.lit (.int 1009)))), (.bi .int false [(.cmp .GtE (.var 0) (.bin false .Pow (.lit (.int 10)) (.lit (.int 18))))])])]] }
def fRoll (id : Nat) : Fn := { np := 2, ns := 3, dfl := [], body := [.ite (.orT [(.cmp .Eq (.idx (.var 0) (.lit (.int 2))) (.lit (.int 2))), (.andT [(.cmp .Eq (.idx (.var 0) (.lit (.int 2))) (.lit (.int 1))), (.cmp .Gt (.idx (.var 0) (.lit (.int 0))) (.lit (.int 0)))])]) [.asg (.one 2) (.bin false .Mod (.bi .int false [(.idx (.var 0) (.lit (.int 0)))]) (.var 1)), .setSub (.var 0) (.lit (.int 0)) (.bin false .FloorDiv (.idx (.var 0) (.lit (.int 0))) (.var 1)), .ret [(.var 2)]] [], .setSub (.var 0) (.lit (.int 2)) (.lit (.int 0)), .ite (.cmp .Gt (.var 1) (.lit (.int 100000000))) [.ret [(.bin false .Mod (.bi .int false [(.bin false .Add (.bin false .Mult (.call false id [(.var 0), (.bin false .Add (.bin false .FloorDiv (.var 1) (.lit (.int 100000000))) (.lit (.int 1)))]) (.lit (.int 100000000))) (.call false id [(.var 0), (.lit (.int 100000000))]))]) (.var 1))]] [], .setSub (.var 0) (.lit (.int 0)) (.bin false .Mod (.bi .int false [(.bin false .Add (.bin false .Add (.bin false .Mult (.idx (.var 0) (.lit (.int 0))) (.lit (.int 48271))) (.bin false .Mult (.idx (.var 0) (.lit (.int 1))) (.lit (.int 69621)))) (.lit (.int 11)))]) (.lit (.int 2147483647))), .setSub (.var 0) (.lit (.int 1)) (.bin false .Add (.idx (.var 0) (.lit (.int 1))) (.lit (.int 1))), .ret [(.bin false .Mod (.bi .int false [(.bin false .FloorDiv (.idx (.var 0) (.lit (.int 0))) (.lit (.int 7)))]) (.var 1))]] }
def fRounds (id : Nat) : Fn := { np := 2, ns := 4, dfl := [], body := [.asg (.one 2) (.slice false (.var 0) (.lit .non) (.var 1)), .ite (.cmp .Eq (.var 2) (.lst false [])) [.asg (.one 2) (.lst false [(.lit (.int 0))])] [], .ret [(.lc false [3] (.one 3) .val [(.var 2)] [] (.call false id [(.var 3)]))]] }
/-- dice that may be rolled b times -/
def V (b : Nat) (o : CO) : Prop := ∃ d0 d1 d2 : Int, o = .lst false [.int d0, .int d1, .int d2] ∧ d0.natAbs.log2 ≤ 2000000 ∧ d1.natAbs + b ≤ 2 ^ 60
theorem V.mono {b b' : Nat} {o : CO} (v : V b o) (h : b' ≤ b) : V b' o := by
  obtain ⟨d0, d1, d2, e, h1, h2⟩ := v
  exact ⟨d0, d1, d2, e, h1, by omega⟩
theorem log2_mono {a b : Nat} (h : a ≤ b) : a.log2 ≤ b.log2 := by
  rcases Nat.eq_zero_or_pos a with z | z
  · subst z; simp
  · rw [Nat.le_log2 (by omega)]
    exact Nat.le_trans (Nat.log2_self_le (by omega)) h
theorem log2_small {a n : Nat} (h : a < 2 ^ n) : a.log2 ≤ n := by
  rcases Nat.eq_zero_or_pos a with z | z
  · subst z; simp
  · exact Nat.le_of_lt ((Nat.log2_lt (by omega)).mpr h)
theorem isEq_int (h : Hc) (a b : Int) : isEq h (.int a) (.int b) = some (a == b) := by
  unfold isEq
  rw [isEq0_tree (x := .int a) (y := .int b) rfl rfl (rd_int _ _ _) (rd_int _ _ _)]
  simp [W.eqv]
theorem isEq0_int (h : Hc) (a b : Int) : isEq0 h (.int a) (.int b) = some (a == b) := by
  rw [isEq0_tree (x := .int a) (y := .int b) rfl rfl (rd_int _ _ _) (rd_int _ _ _)]
  simp [W.eqv]
theorem roll_ok {P : Pg} {n id : Nat} (hf : P.fns[id]? = some (fRoll id)) {h : Hc} {a b : Nat} {o : CO} (ha : h[a]? = some o) (hv : V (b + 1) o) {many : Int} (hm : 0 < many) (hm2 : many ≤ 100000000) :
    ∃ r o', callN P (n + 1) id [.ref a, .int many] h = .ok (.int r, h.set a o') ∧ V b o' ∧ 0 ≤ r ∧ r < many := by
  obtain ⟨d0, d1, d2, rfl, b0, b1⟩ := hv
  have hlt : a < h.length := (List.getElem?_eq_some_iff.mp ha).1
  have hml : many.natAbs.log2 < 9000 := by
    have : many.natAbs < 2 ^ 100 := by
      have : many.natAbs ≤ 100000000 := by omega
      exact Nat.lt_of_le_of_lt this (by decide)
    have := log2_small this
    omega
  rw [callN_s hf]
  by_cases c : d2 = 2 ∨ (d2 = 1 ∧ 0 < d0)
  · refine ⟨d0 % many, .lst false [.int (d0 / many), .int d1, .int d2], ?_, ⟨_, _, _, rfl, ?_, by omega⟩, Int.emod_nonneg _ (by omega), Int.emod_lt_of_pos _ hm⟩
    · have e : exB (P.cx (callN P n)) (fRoll id).body ((fRoll id).start [.ref a, .int many]) h = .rt (.int (d0 % many)) (h.set a (.lst false [.int (d0 / many), .int d1, .int d2])) := by
        rcases c with c | ⟨c1, c2⟩
        · subst c
          simp [fRoll, exB, exS, evE, evEs, evAnd, evOr, evAndT, evOrT, evIf, PyI.Out.of, PyI.Out.then, Res.bind, tst, Sl.var, stTg, stTgs, attrW, insAt, setAttrW, clsW, fget, fput, bmT, bmHas, bm, bi, mkL, binop, iop, lseq, truth, cmpop, index, atW, idxN, partR, partOf, sliceW, getW, setItemW, delItemW, nxO, callI, newI, W.isKey, stPT, stPTs, dicOf, Fn.args, Fn.start, cx_call, cx_glob, cx_init, cx_meth, cx_told, cx_fuel, walkK, walkOf, walkOne, walkVal, walkRange, walkEnum, walkDic, walkZip, LL, ha, isEq_int, hm, hml]
        · subst c1
          simp [fRoll, exB, exS, evE, evEs, evAnd, evOr, evAndT, evOrT, evIf, PyI.Out.of, PyI.Out.then, Res.bind, tst, Sl.var, stTg, stTgs, attrW, insAt, setAttrW, clsW, fget, fput, bmT, bmHas, bm, bi, mkL, binop, iop, lseq, truth, cmpop, index, atW, idxN, partR, partOf, sliceW, getW, setItemW, delItemW, nxO, callI, newI, W.isKey, stPT, stPTs, dicOf, Fn.args, Fn.start, cx_call, cx_glob, cx_init, cx_meth, cx_told, cx_fuel, walkK, walkOf, walkOne, walkVal, walkRange, walkEnum, walkDic, walkZip, LL, ha, isEq_int, hm, hml, c2]
      exact runF_of rfl e
    · refine Nat.le_trans (log2_mono ?_) b0
      exact Int.natAbs_ediv_le_natAbs _ _
  · have hm3 : ¬ (100000000 < many) := by omega
    have b2 : bitsOk d0 48271 = true := by
      unfold bitsOk
      have : (48271 : Int).natAbs.log2 = 15 := by decide
      rw [this]
      simp
      omega
    have b3 : bitsOk d1 69621 = true := by
      unfold bitsOk
      have : (69621 : Int).natAbs.log2 = 16 := by decide
      rw [this]
      have := log2_small (n := 61) (a := d1.natAbs) (by omega)
      simp
      omega
    have c' : ¬ (d2 = 2) ∧ ¬ (d2 = 1 ∧ 0 < d0) := by
      constructor
      · exact fun z => c (.inl z)
      · exact fun z => c (.inr z)
    refine ⟨((d0 * 48271 + d1 * 69621 + 11) % 2147483647) / 7 % many, .lst false [.int ((d0 * 48271 + d1 * 69621 + 11) % 2147483647), .int (d1 + 1), .int 0], ?_, ⟨_, _, _, rfl, ?_, by omega⟩, Int.emod_nonneg _ (by omega), Int.emod_lt_of_pos _ hm⟩
    · have e : exB (P.cx (callN P n)) (fRoll id).body ((fRoll id).start [.ref a, .int many]) h = .rt (.int (((d0 * 48271 + d1 * 69621 + 11) % 2147483647) / 7 % many)) (h.set a (.lst false [.int ((d0 * 48271 + d1 * 69621 + 11) % 2147483647), .int (d1 + 1), .int 0])) := by
        have hs : ∀ o, (h.set a o)[a]? = some o := fun o => List.getElem?_set_self hlt
        have l7 : Nat.log2 7 < 9000 := by decide
        by_cases z : d2 = 1
        · subst z
          have z2 : ¬ (0 < d0) := fun q => c (.inr ⟨rfl, q⟩)
          simp [fRoll, exB, exS, evE, evEs, evAnd, evOr, evAndT, evOrT, evIf, PyI.Out.of, PyI.Out.then, Res.bind, tst, Sl.var, stTg, stTgs, attrW, insAt, setAttrW, clsW, fget, fput, bmT, bmHas, bm, bi, mkL, binop, iop, lseq, truth, cmpop, index, atW, idxN, partR, partOf, sliceW, getW, setItemW, delItemW, nxO, callI, newI, W.isKey, stPT, stPTs, dicOf, Fn.args, Fn.start, cx_call, cx_glob, cx_init, cx_meth, cx_told, cx_fuel, walkK, walkOf, walkOne, walkVal, walkRange, walkEnum, walkDic, walkZip, LL, ha, isEq_int, hm, hml, z2, hm3, b2, b3, hs, l7]
        · simp [fRoll, exB, exS, evE, evEs, evAnd, evOr, evAndT, evOrT, evIf, PyI.Out.of, PyI.Out.then, Res.bind, tst, Sl.var, stTg, stTgs, attrW, insAt, setAttrW, clsW, fget, fput, bmT, bmHas, bm, bi, mkL, binop, iop, lseq, truth, cmpop, index, atW, idxN, partR, partOf, sliceW, getW, setItemW, delItemW, nxO, callI, newI, W.isKey, stPT, stPTs, dicOf, Fn.args, Fn.start, cx_call, cx_glob, cx_init, cx_meth, cx_told, cx_fuel, walkK, walkOf, walkOne, walkVal, walkRange, walkEnum, walkDic, walkZip, LL, ha, isEq_int, hm, hml, c'.1, z, hm3, b2, b3, hs, l7]
      exact runF_of rfl e
    · have : ((d0 * 48271 + d1 * 69621 + 11) % 2147483647).natAbs < 2 ^ 31 := by omega
      have := log2_small this
      omega
theorem dice_ok {P : Pg} {n id : Nat} (hf : P.fns[id]? = some fDice) (h : Hc) {z : Int} (hz : z.natAbs.log2 ≤ 1100000) : ∃ o, callN P (n + 1) id [.int z] h = .ok (.ref h.length, h ++ [o]) ∧ V (2 ^ 59) o := by
  rw [callN_s hf]
  by_cases c : (-10 < z ∧ z < 10)
  · obtain ⟨c1, c2⟩ := c
    refine ⟨.lst false [.int (if z < 0 then -z else z), .int 0, .int 2], ?_, ⟨_, _, _, rfl, ?_, by decide⟩⟩
    · have e : exB (P.cx (callN P n)) fDice.body (fDice.start [.int z]) h = .rt (.ref h.length) (h ++ [.lst false [.int (if z < 0 then -z else z), .int 0, .int 2]]) := by
        simp [fDice, exB, exS, evE, evEs, evAnd, evOr, evAndT, evOrT, evIf, PyI.Out.of, PyI.Out.then, Res.bind, tst, Sl.var, stTg, stTgs, attrW, insAt, setAttrW, clsW, fget, fput, bmT, bmHas, bm, bi, mkL, binop, iop, lseq, truth, cmpop, index, atW, idxN, partR, partOf, sliceW, getW, setItemW, delItemW, nxO, callI, newI, W.isKey, stPT, stPTs, dicOf, Fn.args, Fn.start, cx_call, cx_glob, cx_init, cx_meth, cx_told, cx_fuel, walkK, walkOf, walkOne, walkVal, walkRange, walkEnum, walkDic, walkZip, LL, c1, c2]
      exact runF_of rfl e
    · have : (if z < 0 then -z else z).natAbs < 2 ^ 10 := by split <;> omega
      have := log2_small this
      omega
  · have l1 : Nat.log2 10 < 9000 := by decide
    refine ⟨.lst false [.int z, .int (1 + z % 1009), .int (if 10 ^ 18 ≤ z then 1 else 0)], ?_, ⟨_, _, _, rfl, by omega, by omega⟩⟩
    have e : exB (P.cx (callN P n)) fDice.body (fDice.start [.int z]) h = .rt (.ref h.length) (h ++ [.lst false [.int z, .int (1 + z % 1009), .int (if 10 ^ 18 ≤ z then 1 else 0)]]) := by
      by_cases c1 : -10 < z
      · have c2 : ¬ (z < 10) := fun q => c ⟨c1, q⟩
        simp [fDice, exB, exS, evE, evEs, evAnd, evOr, evAndT, evOrT, evIf, PyI.Out.of, PyI.Out.then, Res.bind, tst, Sl.var, stTg, stTgs, attrW, insAt, setAttrW, clsW, fget, fput, bmT, bmHas, bm, bi, mkL, binop, iop, lseq, truth, cmpop, index, atW, idxN, partR, partOf, sliceW, getW, setItemW, delItemW, nxO, callI, newI, W.isKey, stPT, stPTs, dicOf, Fn.args, Fn.start, cx_call, cx_glob, cx_init, cx_meth, cx_told, cx_fuel, walkK, walkOf, walkOne, walkVal, walkRange, walkEnum, walkDic, walkZip, LL, c1, c2]
      · simp [fDice, exB, exS, evE, evEs, evAnd, evOr, evAndT, evOrT, evIf, PyI.Out.of, PyI.Out.then, Res.bind, tst, Sl.var, stTg, stTgs, attrW, insAt, setAttrW, clsW, fget, fput, bmT, bmHas, bm, bi, mkL, binop, iop, lseq, truth, cmpop, index, atW, idxN, partR, partOf, sliceW, getW, setItemW, delItemW, nxO, callI, newI, W.isKey, stPT, stPTs, dicOf, Fn.args, Fn.start, cx_call, cx_glob, cx_init, cx_meth, cx_told, cx_fuel, walkK, walkOf, walkOne, walkVal, walkRange, walkEnum, walkDic, walkZip, LL, c1]
    exact runF_of rfl e
theorem wipe1 {σ : Sl} {i : Nat} {x : Sv} : (wipeS σ [i]).set i x = σ.set i x := by
  simp only [wipeS, List.set_set]
/-- one die, of the first cell -/
theorem rounds_ok {P : Pg} {n id idd : Nat} (hf : P.fns[id]? = some (fRounds idd)) (hd : P.fns[idd]? = some fDice) {ns : List Int} (hz : ∀ z ∈ ns, z.natAbs.log2 ≤ 1100000) {w : W} (hw : w = .frz (ns.map .int) ∨ w = .lst (ns.map .int)) :
    ∃ o, callN P (n + 2) id [w, .int 1] [] = .ok (.lst [.ref 0], [o]) ∧ V (2 ^ 59) o := by
  have key : ∀ z : Int, z.natAbs.log2 ≤ 1100000 → ∃ o, evE (P.cx (callN P (n + 1))) (.lc false [3] (.one 3) .val [(.var 2)] [] (.call false idd [(.var 3)])) [.v w, .v (.int 1), .v (.lst [.int z]), .un] [] = .ok (.lst [.ref 0], [o]) ∧ V (2 ^ 59) o := by
    intro z hz
    obtain ⟨o, e, v⟩ := dice_ok (n := n) hd [] hz
    refine ⟨o, ?_, v⟩
    simp [evE, evEs, exB, exS, evE, evEs, evAnd, evOr, evAndT, evOrT, evIf, PyI.Out.of, PyI.Out.then, Res.bind, tst, Sl.var, stTg, stTgs, attrW, insAt, setAttrW, clsW, fget, fput, bmT, bmHas, bm, bi, mkL, binop, iop, lseq, truth, cmpop, index, atW, idxN, partR, partOf, sliceW, getW, setItemW, delItemW, nxO, callI, newI, W.isKey, stPT, stPTs, dicOf, Fn.args, Fn.start, cx_call, cx_glob, cx_init, cx_meth, cx_told, cx_fuel, walkK, walkOf, walkOne, walkVal, walkRange, walkEnum, walkDic, walkZip, LL, wipeS, turns, noX, e]
  rw [callN_s hf]
  have hsl : sliceW false [] w none (some 1) = .ok (.lst ((ns.take 1).map .int), []) := by
    have c1 : cut (ns.map W.int) none (some 1) = (ns.take 1).map .int := by
      cases ns <;> simp [cut, sIdx]
    rcases hw with rfl | rfl <;> simp [sliceW, mkL, lseq, c1]
  have s1 : exS (P.cx (callN P (n + 1))) (.asg (.one 2) (.slice false (.var 0) (.lit .non) (.var 1))) [.v w, .v (.int 1), .un, .un] [] = .nx [.v w, .v (.int 1), .v (.lst ((ns.take 1).map .int)), .un] [] := by
    simp [exS, evE, Res.bind, Sl.var, partR, partOf, Out.of, stTg, hsl]
  cases ns with
  | nil =>
    obtain ⟨o, e, v⟩ := key 0 (by decide)
    refine ⟨o, ?_, v⟩
    have e2 : exB (P.cx (callN P (n + 1))) (fRounds idd).body ((fRounds idd).start [w, .int 1]) [] = .rt (.lst [.ref 0]) [o] := by
      simp only [fRounds]
      rw [show Fn.start _ [w, .int 1] = [.v w, .v (.int 1), .un, .un] from rfl, exB_nx s1]
      rw [exB_nx (σ1 := [.v w, .v (.int 1), .v (.lst [.int 0]), .un]) (h1 := []) (by simp [exB, exS, evE, evEs, evAnd, evOr, evAndT, evOrT, evIf, PyI.Out.of, PyI.Out.then, Res.bind, tst, Sl.var, stTg, stTgs, attrW, insAt, setAttrW, clsW, fget, fput, bmT, bmHas, bm, bi, mkL, binop, iop, lseq, truth, cmpop, index, atW, idxN, partR, partOf, sliceW, getW, setItemW, delItemW, nxO, callI, newI, W.isKey, stPT, stPTs, dicOf, Fn.args, Fn.start, cx_call, cx_glob, cx_init, cx_meth, cx_told, cx_fuel, walkK, walkOf, walkOne, walkVal, walkRange, walkEnum, walkDic, walkZip, LL, isEq, isEq0, dicAt, rd, optAll, W.eqv, W.eqvs])]
      exact exB_rt (by simp only [exS, Out.of]; rw [e])
    exact runF_of rfl e2
  | cons z r =>
    obtain ⟨o, e, v⟩ := key z (hz z (by simp))
    refine ⟨o, ?_, v⟩
    have e2 : exB (P.cx (callN P (n + 1))) (fRounds idd).body ((fRounds idd).start [w, .int 1]) [] = .rt (.lst [.ref 0]) [o] := by
      simp only [fRounds]
      rw [show Fn.start _ [w, .int 1] = [.v w, .v (.int 1), .un, .un] from rfl, exB_nx s1]
      rw [exB_nx (σ1 := [.v w, .v (.int 1), .v (.lst [.int z]), .un]) (h1 := []) (by simp [exB, exS, evE, evEs, evAnd, evOr, evAndT, evOrT, evIf, PyI.Out.of, PyI.Out.then, Res.bind, tst, Sl.var, stTg, stTgs, attrW, insAt, setAttrW, clsW, fget, fput, bmT, bmHas, bm, bi, mkL, binop, iop, lseq, truth, cmpop, index, atW, idxN, partR, partOf, sliceW, getW, setItemW, delItemW, nxO, callI, newI, W.isKey, stPT, stPTs, dicOf, Fn.args, Fn.start, cx_call, cx_glob, cx_init, cx_meth, cx_told, cx_fuel, walkK, walkOf, walkOne, walkVal, walkRange, walkEnum, walkDic, walkZip, LL, isEq, isEq0, dicAt, rd, optAll, W.eqv, W.eqvs])]
      exact exB_rt (by simp only [exS, Out.of]; rw [e])
    exact runF_of rfl e2
end PyI

set_option maxRecDepth 100000
namespace K05
open PySem PyI
/-- 0 Fifo.__init__: 0 self 1 most -/
def b0 : List S := [.ite (.not (.cmp2 .LtE .LtE (.lit (.int 1)) (.var 1) (.glob 0))) [.raise 1] [], .setAttr (.var 0) 0 (.var 1), .setAttr (.var 0) 1 (.dic [])]
def f0 : Fn := { np := 2, ns := 2, dfl := [], body := b0 }
/-- 1 Fifo.get: 0 self 1 key -/
def b1 : List S := [.ret [(.bm .get false (.attr (.var 0) 1) [(.var 1)])]]
def f1 : Fn := { np := 2, ns := 2, dfl := [], body := b1 }
/-- 2 Fifo.put: 0 self 1 key 2 value 3 gone -/
def b2 : List S := [.ite (.cmp .In (.var 1) (.attr (.var 0) 1)) [.setSub (.attr (.var 0) 1) (.var 1) (.var 2), .ret [(.lit (.non))]] [], .asg (.one 3) (.lit (.non)), .ite (.cmp .GtE (.bi .len false [(.attr (.var 0) 1)]) (.attr (.var 0) 0)) [.asg (.one 3) (.idx (.bi .list false [(.attr (.var 0) 1)]) (.lit (.int 0))), .del (.attr (.var 0) 1) (.var 3)] [], .setSub (.attr (.var 0) 1) (.var 1) (.var 2), .ret [(.var 3)]]
def f2 : Fn := { np := 3, ns := 4, dfl := [], body := b2 }
/-- 3 Fifo.order: 0 self -/
def b3 : List S := [.ret [(.bi .tuple false [(.attr (.var 0) 1)])]]
def f3 : Fn := { np := 1, ns := 1, dfl := [], body := b3 }
/-- 4 TwoQueues.__init__: 0 self 1 inner 2 ghosts 3 main 4 most -/
def b4 : List S := [.ite (.gen .any false [4] (.one 4) .val [(.tup [(.var 1), (.var 2), (.var 3)])] [] (.not (.cmp2 .LtE .LtE (.lit (.int 1)) (.var 4) (.glob 0)))) [.raise 1] [], .setAttr (.var 0) 2 (.tup [(.var 1), (.var 2), (.var 3)]), .setAttr (.var 0) 3 (.dic []), .setAttr (.var 0) 4 (.lst false []), .setAttr (.var 0) 5 (.dic [])]
def f4 : Fn := { np := 4, ns := 5, dfl := [], body := b4 }
/-- 5 TwoQueues.get: 0 self 1 key 2 value -/
def b5 : List S := [.ite (.cmp .In (.var 1) (.attr (.var 0) 5)) [.asg (.one 2) (.bm .pop false (.attr (.var 0) 5) [(.var 1)]), .setSub (.attr (.var 0) 5) (.var 1) (.var 2), .ret [(.var 2)]] [], .ret [(.bm .get false (.attr (.var 0) 3) [(.var 1)])]]
def f5 : Fn := { np := 2, ns := 3, dfl := [], body := b5 }
/-- 6 TwoQueues.put: 0 self 1 key 2 value 3 gone 4 part 5 one -/
def b6 : List S := [.ite (.orT [(.cmp .In (.var 1) (.attr (.var 0) 5)), (.cmp .In (.var 1) (.attr (.var 0) 3))]) [.asg (.one 4) (.ifx (.cmp .In (.var 1) (.attr (.var 0) 5)) (.attr (.var 0) 5) (.attr (.var 0) 3)), .setSub (.var 4) (.var 1) (.var 2), .ret [(.lit (.non))]] [], .ite (.cmp .In (.var 1) (.attr (.var 0) 4)) [.setAttr (.var 0) 4 (.lc false [5] (.one 5) .val [(.attr (.var 0) 4)] [(.cmp .NotEq (.var 5) (.var 1))] (.var 5)), .setSub (.attr (.var 0) 5) (.var 1) (.var 2), .ret [(.meth (.var 0) 6 [(.attr (.var 0) 5), (.idx (.attr (.var 0) 2) (.lit (.int 2)))])]] [], .setSub (.attr (.var 0) 3) (.var 1) (.var 2), .asg (.one 3) (.meth (.var 0) 6 [(.attr (.var 0) 3), (.idx (.attr (.var 0) 2) (.lit (.int 0)))]), .ite (.cmp .IsNot (.var 3) (.lit (.non))) [.setAttr (.var 0) 4 (.slice false (.bin false .Add (.attr (.var 0) 4) (.lst false [(.var 3)])) (.bin false .Sub (.lit (.int 0)) (.idx (.attr (.var 0) 2) (.lit (.int 1)))) (.lit .non))] [], .ret [(.var 3)]]
def f6 : Fn := { np := 3, ns := 6, dfl := [], body := b6 }
/-- 7 TwoQueues.let_go: 0 self 1 part 2 most 3 gone -/
def b7 : List S := [.ite (.cmp .LtE (.bi .len false [(.var 1)]) (.var 2)) [.ret [(.lit (.non))]] [], .asg (.one 3) (.idx (.bi .list false [(.var 1)]) (.lit (.int 0))), .del (.var 1) (.var 3), .ret [(.var 3)]]
def f7 : Fn := { np := 3, ns := 4, dfl := [], body := b7 }
/-- 8 TwoQueues.parts: 0 self -/
def b8 : List S := [.ret [(.tup [(.bi .tuple false [(.attr (.var 0) 3)]), (.bi .tuple false [(.attr (.var 0) 4)]), (.bi .tuple false [(.attr (.var 0) 5)])])]]
def f8 : Fn := { np := 1, ns := 1, dfl := [], body := b8 }
/-- 9 Adapting.__init__: 0 self 1 most -/
def b9 : List S := [.ite (.not (.cmp2 .LtE .LtE (.lit (.int 1)) (.var 1) (.glob 0))) [.raise 1] [], .setAttr (.var 0) 0 (.var 1), .setAttr (.var 0) 7 (.lit (.int 0)), .setAttr (.var 0) 8 (.dic []), .setAttr (.var 0) 9 (.dic []), .setAttr (.var 0) 10 (.lst true []), .setAttr (.var 0) 11 (.lst true [])]
def f9 : Fn := { np := 2, ns := 2, dfl := [], body := b9 }
/-- 10 Adapting.get: 0 self 1 key 2 value -/
def b10 : List S := [.ite (.cmp .In (.var 1) (.attr (.var 0) 8)) [.setSub (.attr (.var 0) 9) (.var 1) (.bm .pop false (.attr (.var 0) 8) [(.var 1)])] [.ite (.cmp .In (.var 1) (.attr (.var 0) 9)) [.asg (.one 2) (.bm .pop false (.attr (.var 0) 9) [(.var 1)]), .setSub (.attr (.var 0) 9) (.var 1) (.var 2)] []], .ret [(.bm .get false (.attr (.var 0) 9) [(.var 1)])]]
def f10 : Fn := { np := 2, ns := 3, dfl := [], body := b10 }
/-- 11 Adapting.put: 0 self 1 key 2 value 3 gone 4 whole 5 part -/
def b11 : List S := [.ite (.orT [(.cmp .In (.var 1) (.attr (.var 0) 8)), (.cmp .In (.var 1) (.attr (.var 0) 9))]) [.asg (.one 5) (.ifx (.cmp .In (.var 1) (.attr (.var 0) 8)) (.attr (.var 0) 8) (.attr (.var 0) 9)), .setSub (.var 5) (.var 1) (.var 2), .expr (.meth (.var 0) 12 [(.var 1)]), .ret [(.lit (.non))]] [], .asg (.one 3) (.lit (.non)), .ite (.orT [(.cmp .In (.var 1) (.attr (.var 0) 10)), (.cmp .In (.var 1) (.attr (.var 0) 11))]) [.asg (.one 3) (.meth (.var 0) 13 [(.var 1)]), .setSub (.attr (.var 0) 9) (.var 1) (.var 2), .ret [(.var 3)]] [], .asg (.one 4) (.bin false .Add (.bi .len false [(.attr (.var 0) 8)]) (.bi .len false [(.attr (.var 0) 10)])), .ite (.cmp .GtE (.var 4) (.attr (.var 0) 0)) [.ite (.cmp .Lt (.bi .len false [(.attr (.var 0) 8)]) (.attr (.var 0) 0)) [.setAttr (.var 0) 10 (.slice true (.attr (.var 0) 10) (.lit (.int 1)) (.lit .non)), .asg (.one 3) (.meth (.var 0) 14 [(.lit (.bl false))])] [.asg (.one 3) (.idx (.bi .list false [(.attr (.var 0) 8)]) (.lit (.int 0))), .del (.attr (.var 0) 8) (.var 3)]] [.ite (.cmp .GtE (.bin false .Add (.bin false .Add (.var 4) (.bi .len false [(.attr (.var 0) 9)])) (.bi .len false [(.attr (.var 0) 11)])) (.attr (.var 0) 0)) [.ite (.cmp .GtE (.bin false .Add (.bin false .Add (.var 4) (.bi .len false [(.attr (.var 0) 9)])) (.bi .len false [(.attr (.var 0) 11)])) (.bin false .Mult (.lit (.int 2)) (.attr (.var 0) 0))) [.setAttr (.var 0) 11 (.slice true (.attr (.var 0) 11) (.lit (.int 1)) (.lit .non))] [], .asg (.one 3) (.meth (.var 0) 14 [(.lit (.bl false))])] []], .setSub (.attr (.var 0) 8) (.var 1) (.var 2), .ret [(.var 3)]]
def f11 : Fn := { np := 3, ns := 6, dfl := [], body := b11 }
/-- 12 Adapting.ghost: 0 self 1 key 2 once 3 again 4 is_again 5 gone 6 one -/
def b12 : List S := [.par [.n 2, .n 3] [(.bi .len false [(.attr (.var 0) 10)]), (.bi .len false [(.attr (.var 0) 11)])], .asg (.one 4) (.cmp .In (.var 1) (.attr (.var 0) 11)), .ite (.var 4) [.setAttr (.var 0) 7 (.bi .max false [(.lit (.int 0)), (.bin false .Sub (.attr (.var 0) 7) (.bi .max false [(.lit (.int 1)), (.bin false .FloorDiv (.var 2) (.var 3))]))]), .asg (.one 5) (.meth (.var 0) 14 [(.lit (.bl true))]), .setAttr (.var 0) 11 (.lc true [6] (.one 6) .val [(.attr (.var 0) 11)] [(.cmp .NotEq (.var 6) (.var 1))] (.var 6))] [.setAttr (.var 0) 7 (.bi .min false [(.attr (.var 0) 0), (.bin false .Add (.attr (.var 0) 7) (.bi .max false [(.lit (.int 1)), (.bin false .FloorDiv (.var 3) (.var 2))]))]), .asg (.one 5) (.meth (.var 0) 14 [(.lit (.bl false))]), .setAttr (.var 0) 10 (.lc true [6] (.one 6) .val [(.attr (.var 0) 10)] [(.cmp .NotEq (.var 6) (.var 1))] (.var 6))], .ret [(.var 5)]]
def f12 : Fn := { np := 2, ns := 7, dfl := [], body := b12 }
/-- 13 Adapting.replace: 0 self 1 is_again 2 many 3 gone -/
def b13 : List S := [.ite (.cmp .Lt (.bin false .Add (.bi .len false [(.attr (.var 0) 8)]) (.bi .len false [(.attr (.var 0) 9)])) (.attr (.var 0) 0)) [.ret [(.lit (.non))]] [], .asg (.one 2) (.bi .len false [(.attr (.var 0) 8)]), .ite (.orT [(.andT [(.cmp .Gt (.var 2) (.lit (.int 0))), (.orT [(.cmp .Gt (.var 2) (.attr (.var 0) 7)), (.andT [(.var 1), (.cmp .Eq (.var 2) (.attr (.var 0) 7))])])]), (.cmp .Eq (.attr (.var 0) 9) (.dic []))]) [.asg (.one 3) (.idx (.bi .list false [(.attr (.var 0) 8)]) (.lit (.int 0))), .del (.attr (.var 0) 8) (.var 3), .expr (.bm .append false (.attr (.var 0) 10) [(.var 3)])] [.asg (.one 3) (.idx (.bi .list false [(.attr (.var 0) 9)]) (.lit (.int 0))), .del (.attr (.var 0) 9) (.var 3), .expr (.bm .append false (.attr (.var 0) 11) [(.var 3)])], .ret [(.var 3)]]
def f13 : Fn := { np := 2, ns := 4, dfl := [], body := b13 }
/-- 14 Adapting.parts: 0 self -/
def b14 : List S := [.ret [(.tup [(.bi .tuple false [(.attr (.var 0) 8)]), (.bi .tuple false [(.attr (.var 0) 9)]), (.bi .tuple false [(.attr (.var 0) 10)]), (.bi .tuple false [(.attr (.var 0) 11)])])]]
def f14 : Fn := { np := 1, ns := 1, dfl := [], body := b14 }
/-- 15 queue_hits: 0 keys 1 most 2 plain 3 clever 4 hits 5 key 6 place 7 cache -/
def b15 : List S := [.par [.n 2, .n 3, .n 4] [(.new 0 [(.var 1)]), (.new 2 [(.var 1)]), (.lst true [(.lit (.int 0)), (.lit (.int 0))])], .for (.one 5) .val [(.var 0)] [.for (.many [.one 6, .one 7]) .enum [(.tup [(.var 2), (.var 3)])] [.ite (.cmp .IsNot (.meth (.var 7) 12 [(.var 5)]) (.lit (.non))) [.augS (.var 4) (.var 6) .Add (.lit (.int 1))] [.expr (.meth (.var 7) 15 [(.var 5), (.var 5)])]]], .ret [(.bi .tuple false [(.var 4)])]]
def f15 : Fn := { np := 2, ns := 8, dfl := [], body := b15 }
/-- 16 _law_dice: 0 cell -/
def b16 : List S := [.ite (.cmp2 .Lt .Lt (.bin false .Sub (.lit (.int 0)) (.lit (.int 10))) (.var 0) (.lit (.int 10))) [.ret [(.lst true [(.bi .abs false [(.var 0)]), (.lit (.int 0)), (.lit (.int 2))])]] [], .ret [(.lst true [(.var 0), (.bin false .Add (.lit (.int 1)) (.bin false .Mod (.bi .int false [(.var 0)]) (.lit (.int 1009)))), (.bi .int false [(.cmp .GtE (.var 0) (.bin false .Pow (.lit (.int 10)) (.lit (.int 18))))])])]]
def f16 : Fn := { np := 1, ns := 1, dfl := [], body := b16 }
/-- 17 _law_roll: 0 dice 1 many 2 found -/
def b17 : List S := [.ite (.orT [(.cmp .Eq (.idx (.var 0) (.lit (.int 2))) (.lit (.int 2))), (.andT [(.cmp .Eq (.idx (.var 0) (.lit (.int 2))) (.lit (.int 1))), (.cmp .Gt (.idx (.var 0) (.lit (.int 0))) (.lit (.int 0)))])]) [.asg (.one 2) (.bin false .Mod (.bi .int false [(.idx (.var 0) (.lit (.int 0)))]) (.var 1)), .setSub (.var 0) (.lit (.int 0)) (.bin false .FloorDiv (.idx (.var 0) (.lit (.int 0))) (.var 1)), .ret [(.var 2)]] [], .setSub (.var 0) (.lit (.int 2)) (.lit (.int 0)), .ite (.cmp .Gt (.var 1) (.lit (.int 100000000))) [.ret [(.bin false .Mod (.bi .int false [(.bin false .Add (.bin false .Mult (.call false 17 [(.var 0), (.bin false .Add (.bin false .FloorDiv (.var 1) (.lit (.int 100000000))) (.lit (.int 1)))]) (.lit (.int 100000000))) (.call false 17 [(.var 0), (.lit (.int 100000000))]))]) (.var 1))]] [], .setSub (.var 0) (.lit (.int 0)) (.bin false .Mod (.bi .int false [(.bin false .Add (.bin false .Add (.bin false .Mult (.idx (.var 0) (.lit (.int 0))) (.lit (.int 48271))) (.bin false .Mult (.idx (.var 0) (.lit (.int 1))) (.lit (.int 69621)))) (.lit (.int 11)))]) (.lit (.int 2147483647))), .setSub (.var 0) (.lit (.int 1)) (.bin false .Add (.idx (.var 0) (.lit (.int 1))) (.lit (.int 1))), .ret [(.bin false .Mod (.bi .int false [(.bin false .FloorDiv (.idx (.var 0) (.lit (.int 0))) (.lit (.int 7)))]) (.var 1))]]
def f17 : Fn := { np := 2, ns := 3, dfl := [], body := b17 }
/-- 18 _law_rounds: 0 script 1 most 2 cells 3 cell -/
def b18 : List S := [.asg (.one 2) (.slice false (.var 0) (.lit .non) (.var 1)), .ite (.cmp .Eq (.var 2) (.lst false [])) [.asg (.one 2) (.lst false [(.lit (.int 0))])] [], .ret [(.lc false [3] (.one 3) .val [(.var 2)] [] (.call false 16 [(.var 3)]))]]
def f18 : Fn := { np := 2, ns := 4, dfl := [], body := b18 }
/-- 19 _law_told: 0 what -/
def b19 : List S := []
def f19 : Fn := { np := 1, ns := 1, dfl := [], body := b19 }
/-- 20 _law_two: 0 own 1 key 2 part 3 most 4 gone 5 one -/
def b20 : List S := [.ite (.cmp .In (.var 1) (.idx (.var 0) (.lit (.str [109, 97, 105, 110])))) [.setSub (.var 0) (.lit (.str [109, 97, 105, 110])) (.bin false .Add (.lc false [5] (.one 5) .val [(.idx (.var 0) (.lit (.str [109, 97, 105, 110])))] [(.cmp .NotEq (.var 5) (.var 1))] (.var 5)) (.lst false [(.var 1)])), .ret [(.lit (.str [104, 105, 116]))]] [], .ite (.cmp .In (.var 1) (.idx (.var 0) (.lit (.str [105, 110])))) [.ret [(.lit (.str [104, 105, 116]))]] [], .asg (.many [.one 2, .one 3]) (.ifx (.cmp .In (.var 1) (.idx (.var 0) (.lit (.str [111, 117, 116])))) (.tup [(.lit (.str [109, 97, 105, 110])), (.idx (.idx (.var 0) (.lit (.str [109, 111, 115, 116, 115]))) (.lit (.int 2)))]) (.tup [(.lit (.str [105, 110])), (.idx (.idx (.var 0) (.lit (.str [109, 111, 115, 116, 115]))) (.lit (.int 0)))])), .setSub (.var 0) (.lit (.str [111, 117, 116])) (.lc false [5] (.one 5) .val [(.idx (.var 0) (.lit (.str [111, 117, 116])))] [(.cmp .NotEq (.var 5) (.var 1))] (.var 5)), .setSub (.var 0) (.var 2) (.bin false .Add (.idx (.var 0) (.var 2)) (.lst false [(.var 1)])), .ite (.cmp .LtE (.bi .len false [(.idx (.var 0) (.var 2))]) (.var 3)) [.ret [(.lit (.non))]] [], .asg (.one 4) (.idx (.idx (.var 0) (.var 2)) (.lit (.int 0))), .setSub (.var 0) (.var 2) (.slice false (.idx (.var 0) (.var 2)) (.lit (.int 1)) (.lit .non)), .setSub (.var 0) (.lit (.str [111, 117, 116])) (.ifx (.cmp .Eq (.var 2) (.lit (.str [105, 110]))) (.slice false (.bin false .Add (.idx (.var 0) (.lit (.str [111, 117, 116]))) (.lst false [(.var 4)])) (.neg (.idx (.idx (.var 0) (.lit (.str [109, 111, 115, 116, 115]))) (.lit (.int 1)))) (.lit .non)) (.idx (.var 0) (.lit (.str [111, 117, 116])))), .ret [(.var 4)]]
def f20 : Fn := { np := 2, ns := 6, dfl := [], body := b20 }
/-- 21 _law_replace: 0 own 1 again 2 first 3 part 4 ghosts 5 gone -/
def b21 : List S := [.ite (.cmp .Lt (.bin false .Add (.bi .len false [(.idx (.var 0) (.lit (.str [116, 49])))]) (.bi .len false [(.idx (.var 0) (.lit (.str [116, 50])))])) (.idx (.var 0) (.lit (.str [109, 111, 115, 116])))) [.ret [(.lit (.non))]] [], .asg (.one 2) (.or [(.and [(.cmp .NotEq (.idx (.var 0) (.lit (.str [116, 49]))) (.lst false [])), (.or [(.cmp .Gt (.bi .len false [(.idx (.var 0) (.lit (.str [116, 49])))]) (.idx (.var 0) (.lit (.str [97, 105, 109])))), (.and [(.var 1), (.cmp .Eq (.bi .len false [(.idx (.var 0) (.lit (.str [116, 49])))]) (.idx (.var 0) (.lit (.str [97, 105, 109]))))])])]), (.cmp .Eq (.idx (.var 0) (.lit (.str [116, 50]))) (.lst false []))]), .asg (.many [.one 3, .one 4]) (.ifx (.var 2) (.tup [(.lit (.str [116, 49])), (.lit (.str [98, 49]))]) (.tup [(.lit (.str [116, 50])), (.lit (.str [98, 50]))])), .asg (.one 5) (.idx (.idx (.var 0) (.var 3)) (.lit (.int 0))), .par [.s (.var 0) (.var 3), .s (.var 0) (.var 4)] [(.slice false (.idx (.var 0) (.var 3)) (.lit (.int 1)) (.lit .non)), (.bin false .Add (.idx (.var 0) (.var 4)) (.lst false [(.var 5)]))], .ret [(.var 5)]]
def f21 : Fn := { np := 2, ns := 6, dfl := [], body := b21 }
/-- 22 _law_learn: 0 own 1 key 2 one 3 two 4 gone 5 first 6 every 7 mine -/
def b22 : List S := [.ite (.cmp .In (.var 1) (.bin false .Add (.idx (.var 0) (.lit (.str [116, 49]))) (.idx (.var 0) (.lit (.str [116, 50]))))) [.par [.s (.var 0) (.lit (.str [116, 49])), .s (.var 0) (.lit (.str [116, 50]))] [(.lc false [2] (.one 2) .val [(.idx (.var 0) (.lit (.str [116, 49])))] [(.cmp .NotEq (.var 2) (.var 1))] (.var 2)), (.bin false .Add (.lc false [2] (.one 2) .val [(.idx (.var 0) (.lit (.str [116, 50])))] [(.cmp .NotEq (.var 2) (.var 1))] (.var 2)) (.lst false [(.var 1)]))], .ret [(.lit (.str [104, 105, 116]))]] [], .par [.n 2, .n 3, .n 4] [(.bi .len false [(.idx (.var 0) (.lit (.str [98, 49])))]), (.bi .len false [(.idx (.var 0) (.lit (.str [98, 50])))]), (.lit (.non))], .ite (.cmp .In (.var 1) (.idx (.var 0) (.lit (.str [98, 49])))) [.setSub (.var 0) (.lit (.str [97, 105, 109])) (.bi .min false [(.idx (.var 0) (.lit (.str [109, 111, 115, 116]))), (.bin false .Add (.idx (.var 0) (.lit (.str [97, 105, 109]))) (.bi .max false [(.lit (.int 1)), (.bin false .FloorDiv (.var 3) (.var 2))]))]), .asg (.one 4) (.call false 21 [(.var 0), (.lit (.bl false))]), .par [.s (.var 0) (.lit (.str [98, 49])), .s (.var 0) (.lit (.str [116, 50]))] [(.lc false [7] (.one 7) .val [(.idx (.var 0) (.lit (.str [98, 49])))] [(.cmp .NotEq (.var 7) (.var 1))] (.var 7)), (.bin false .Add (.idx (.var 0) (.lit (.str [116, 50]))) (.lst false [(.var 1)]))], .ret [(.var 4)]] [], .ite (.cmp .In (.var 1) (.idx (.var 0) (.lit (.str [98, 50])))) [.setSub (.var 0) (.lit (.str [97, 105, 109])) (.bi .max false [(.lit (.int 0)), (.bin false .Sub (.idx (.var 0) (.lit (.str [97, 105, 109]))) (.bi .max false [(.lit (.int 1)), (.bin false .FloorDiv (.var 2) (.var 3))]))]), .asg (.one 4) (.call false 21 [(.var 0), (.lit (.bl true))]), .par [.s (.var 0) (.lit (.str [98, 50])), .s (.var 0) (.lit (.str [116, 50]))] [(.lc false [7] (.one 7) .val [(.idx (.var 0) (.lit (.str [98, 50])))] [(.cmp .NotEq (.var 7) (.var 1))] (.var 7)), (.bin false .Add (.idx (.var 0) (.lit (.str [116, 50]))) (.lst false [(.var 1)]))], .ret [(.var 4)]] [], .par [.n 5, .n 6] [(.bin false .Add (.bi .len false [(.idx (.var 0) (.lit (.str [116, 49])))]) (.var 2)), (.bin false .Add (.bin false .Add (.bin false .Add (.bi .len false [(.idx (.var 0) (.lit (.str [116, 49])))]) (.bi .len false [(.idx (.var 0) (.lit (.str [116, 50])))])) (.var 2)) (.var 3))], .ite (.andT [(.cmp .GtE (.var 5) (.idx (.var 0) (.lit (.str [109, 111, 115, 116])))), (.cmp .Lt (.bi .len false [(.idx (.var 0) (.lit (.str [116, 49])))]) (.idx (.var 0) (.lit (.str [109, 111, 115, 116]))))]) [.setSub (.var 0) (.lit (.str [98, 49])) (.slice false (.idx (.var 0) (.lit (.str [98, 49]))) (.lit (.int 1)) (.lit .non)), .asg (.one 4) (.call false 21 [(.var 0), (.lit (.bl false))])] [.ite (.cmp .GtE (.var 5) (.idx (.var 0) (.lit (.str [109, 111, 115, 116])))) [.par [.n 4, .s (.var 0) (.lit (.str [116, 49]))] [(.idx (.idx (.var 0) (.lit (.str [116, 49]))) (.lit (.int 0))), (.slice false (.idx (.var 0) (.lit (.str [116, 49]))) (.lit (.int 1)) (.lit .non))]] [.ite (.cmp .GtE (.var 6) (.idx (.var 0) (.lit (.str [109, 111, 115, 116])))) [.setSub (.var 0) (.lit (.str [98, 50])) (.ifx (.cmp .GtE (.var 6) (.bin false .Mult (.lit (.int 2)) (.idx (.var 0) (.lit (.str [109, 111, 115, 116]))))) (.slice false (.idx (.var 0) (.lit (.str [98, 50]))) (.lit (.int 1)) (.lit .non)) (.idx (.var 0) (.lit (.str [98, 50])))), .asg (.one 4) (.call false 21 [(.var 0), (.lit (.bl false))])] []]], .setSub (.var 0) (.lit (.str [116, 49])) (.bin false .Add (.idx (.var 0) (.lit (.str [116, 49]))) (.lst false [(.var 1)])), .ret [(.var 4)]]
def f22 : Fn := { np := 2, ns := 8, dfl := [], body := b22 }
/-- 23 _law_plain: 0 plain 1 three 2 clever 3 key 4 told 5 bad 6 f -/
def b23 : List S := [.par [.n 0, .n 1, .n 2] [(.new 0 [(.lit (.int 2))]), (.new 1 [(.lit (.int 2)), (.lit (.int 2)), (.lit (.int 2))]), (.new 2 [(.lit (.int 2))])], .for (.one 3) .val [(.lit (.str [97, 98, 99, 97, 98]))] [.ite (.cmp .Is (.meth (.var 1) 12 [(.var 3)]) (.lit (.non))) [.expr (.meth (.var 1) 15 [(.var 3), (.var 3)])] []], .for (.one 3) .val [(.lit (.str [97, 98, 97, 99, 98, 100]))] [.ite (.cmp .Is (.meth (.var 2) 12 [(.var 3)]) (.lit (.non))) [.expr (.meth (.var 2) 15 [(.var 3), (.var 3)])] []], .asg (.one 4) (.lst false [(.meth (.var 0) 15 [(.lit (.str [97])), (.lit (.int 1))]), (.meth (.var 0) 15 [(.lit (.str [98])), (.lit (.int 1))]), (.meth (.var 0) 15 [(.lit (.str [97])), (.lit (.int 2))]), (.meth (.var 0) 15 [(.lit (.str [99])), (.lit (.int 1))]), (.meth (.var 0) 16 []), (.meth (.var 1) 17 []), (.meth (.var 1) 15 [(.lit (.str [97])), (.lit (.str [120]))]), (.meth (.var 1) 12 [(.lit (.str [97]))])]), .asg (.one 4) (.bin false .Add (.var 4) (.lst false [(.meth (.var 1) 15 [(.lit (.str [99])), (.lit (.str [121]))]), (.meth (.var 1) 12 [(.lit (.str [99]))]), (.meth (.var 2) 17 []), (.attr (.var 2) 7), (.meth (.var 2) 15 [(.lit (.str [99])), (.lit (.str [122]))]), (.meth (.var 2) 12 [(.lit (.str [99]))]), (.call true 15 [(.lit (.str [97, 98, 99, 97, 98, 99, 97, 98])), (.lit (.int 2))])])), .asg (.one 4) (.bin false .Add (.var 4) (.lst false [(.call true 15 [(.lit (.str [97, 97, 98, 98])), (.lit (.int 1))])])), .bads 5 false [0, 1, 2, 3, 4, 5], .bads 5 true [6, 7], .ite (.orT [(.cmp .NotEq (.bad 5 0 [81, 117, 101, 117, 101, 69, 114, 114, 111, 114]) (.lst false [])), (.cmp .NotEq (.glob 0) (.lit (.int 400)))]) [.ret [(.lit (.bl false))]] [], .ret [(.cmp .Eq (.var 4) (.lst false [(.lit (.non)), (.lit (.non)), (.lit (.non)), (.lit (.str [97])), (.tup [(.lit (.str [98])), (.lit (.str [99]))]), (.tup [(.tup [(.lit (.str [98])), (.lit (.str [99]))]), (.tup []), (.tup [(.lit (.str [97]))])]), (.lit (.non)), (.lit (.str [120])), (.lit (.non)), (.lit (.str [121])), (.tup [(.tup [(.lit (.str [99])), (.lit (.str [100]))]), (.tup []), (.tup []), (.tup [(.lit (.str [97])), (.lit (.str [98]))])]), (.lit (.int 1)), (.lit (.non)), (.lit (.str [122])), (.tup [(.lit (.int 0)), (.lit (.int 0))]), (.tup [(.lit (.int 2)), (.lit (.int 2))])]))]]
def f23 : Fn := { np := 0, ns := 7, dfl := [], body := b23 }
/-- 24 law: 0 script 1 dice 2 most 3 mosts 4 plain 5 three 6 clever 7 kept 8 own 9 learnt 10 hits 11 keys 12 key 13 there 14 gone 15 due 16 k 17 one -/
def b24 : List S := [.for (.one 1) .val [(.call false 18 [(.var 0), (.lit (.int 1))])] [.par [.n 2, .n 3] [(.bin false .Add (.lit (.int 1)) (.call false 17 [(.var 1), (.lit (.int 4))])), (.lc false [16] (.one 16) .range [(.lit (.int 3))] [] (.bin false .Add (.lit (.int 1)) (.call false 17 [(.var 1), (.lit (.int 3))])))], .par [.n 4, .n 5, .n 6] [(.new 0 [(.var 2)]), (.new 1 [(.idx (.var 3) (.lit (.int 0))), (.idx (.var 3) (.lit (.int 1))), (.idx (.var 3) (.lit (.int 2)))]), (.new 2 [(.var 2)])], .par [.n 7, .n 8, .n 9, .n 10] [(.lst false []), (.dic [(.lit (.str [109, 111, 115, 116, 115])), (.var 3), (.lit (.str [105, 110])), (.lst false []), (.lit (.str [111, 117, 116])), (.lst false []), (.lit (.str [109, 97, 105, 110])), (.lst false [])]), (.dic [(.lit (.str [109, 111, 115, 116])), (.var 2), (.lit (.str [116, 49])), (.lst false []), (.lit (.str [116, 50])), (.lst false []), (.lit (.str [98, 49])), (.lst false []), (.lit (.str [98, 50])), (.lst false []), (.lit (.str [97, 105, 109])), (.lit (.int 0))]), (.lst true [(.lit (.int 0)), (.lit (.int 0))])], .asg (.one 11) (.lc false [16] (.one 16) .range [(.call false 17 [(.var 1), (.lit (.int 40))])] [] (.idx (.lit (.str [97, 98, 99, 100, 101, 102, 103, 104])) (.call false 17 [(.var 1), (.bin false .Add (.lit (.int 1)) (.call false 17 [(.var 1), (.lit (.int 8))]))]))), .for (.one 12) .val [(.var 11)] [.par [.n 13, .n 14] [(.cmp .In (.var 12) (.var 7)), (.lit (.non))], .setSub (.var 10) (.lit (.int 0)) (.bin false .Add (.idx (.var 10) (.lit (.int 0))) (.bi .int false [(.var 13)])), .ite (.not (.var 13)) [.asg (.one 7) (.bin false .Add (.var 7) (.lst false [(.var 12)])), .asg (.many [.one 14, .one 7]) (.ifx (.cmp .Gt (.bi .len false [(.var 7)]) (.var 2)) (.tup [(.idx (.var 7) (.lit (.int 0))), (.slice false (.var 7) (.lit (.int 1)) (.lit .non))]) (.tup [(.lit (.non)), (.var 7)]))] [], .ite (.orT [(.cmp .NotEq (.meth (.var 4) 12 [(.var 12)]) (.ifx (.var 13) (.var 12) (.lit (.non)))), (.andT [(.not (.var 13)), (.cmp .NotEq (.meth (.var 4) 15 [(.var 12), (.var 12)]) (.var 14))])]) [.ret [(.lit (.bl false))]] [], .ite (.cmp .NotEq (.bi .list false [(.meth (.var 4) 16 [])]) (.var 7)) [.ret [(.lit (.bl false))]] [], .asg (.one 15) (.call false 20 [(.var 8), (.var 12)]), .ite (.orT [(.cmp .NotEq (.meth (.var 5) 12 [(.var 12)]) (.ifx (.cmp .Eq (.var 15) (.lit (.str [104, 105, 116]))) (.var 12) (.lit (.non)))), (.andT [(.cmp .NotEq (.var 15) (.lit (.str [104, 105, 116]))), (.cmp .NotEq (.meth (.var 5) 15 [(.var 12), (.var 12)]) (.var 15))])]) [.ret [(.lit (.bl false))]] [], .ite (.cmp .NotEq (.meth (.var 5) 17 []) (.tup [(.bi .tuple false [(.idx (.var 8) (.lit (.str [105, 110])))]), (.bi .tuple false [(.idx (.var 8) (.lit (.str [111, 117, 116])))]), (.bi .tuple false [(.idx (.var 8) (.lit (.str [109, 97, 105, 110])))])])) [.ret [(.lit (.bl false))]] [], .asg (.one 15) (.call false 22 [(.var 9), (.var 12)]), .setSub (.var 10) (.lit (.int 1)) (.bin false .Add (.idx (.var 10) (.lit (.int 1))) (.bi .int false [(.cmp .Eq (.var 15) (.lit (.str [104, 105, 116])))])), .ite (.orT [(.cmp .NotEq (.meth (.var 6) 12 [(.var 12)]) (.ifx (.cmp .Eq (.var 15) (.lit (.str [104, 105, 116]))) (.var 12) (.lit (.non)))), (.andT [(.cmp .NotEq (.var 15) (.lit (.str [104, 105, 116]))), (.cmp .NotEq (.meth (.var 6) 15 [(.var 12), (.var 12)]) (.var 15))]), (.cmp .NotEq (.meth (.var 6) 17 []) (.tup [(.bi .tuple false [(.idx (.var 9) (.lit (.str [116, 49])))]), (.bi .tuple false [(.idx (.var 9) (.lit (.str [116, 50])))]), (.bi .tuple false [(.idx (.var 9) (.lit (.str [98, 49])))]), (.bi .tuple false [(.idx (.var 9) (.lit (.str [98, 50])))])])), (.cmp .NotEq (.attr (.var 6) 7) (.idx (.var 9) (.lit (.str [97, 105, 109]))))]) [.ret [(.lit (.bl false))]] [], .ite (.orT [(.cmp .Gt (.bin false .Add (.bi .len false [(.idx (.var 9) (.lit (.str [116, 49])))]) (.bi .len false [(.idx (.var 9) (.lit (.str [116, 50])))])) (.var 2)), (.not (.cmp2 .LtE .LtE (.lit (.int 0)) (.attr (.var 6) 7) (.var 2)))]) [.ret [(.lit (.bl false))]] [], .ite (.cmp .NotEq (.lc false [17] (.one 17) .val [(.idx (.var 8) (.lit (.str [111, 117, 116])))] [(.cmp .IsNot (.meth (.var 5) 12 [(.var 17)]) (.lit (.non)))] (.var 17)) (.lst false [])) [.ret [(.lit (.bl false))]] []], .ite (.cmp .NotEq (.bi .list false [(.call true 15 [(.var 11), (.var 2)])]) (.var 10)) [.ret [(.lit (.bl false))]] []], .ret [(.call true 23 [])]]
def f24 : Fn := { np := 1, ns := 18, dfl := [], body := b24 }
def lams : List E := [(.new 0 [(.lit (.int 0))]), (.new 0 [(.lit (.int 401))]), (.new 1 [(.lit (.int 0)), (.lit (.int 1)), (.lit (.int 1))]), (.new 1 [(.lit (.int 1)), (.lit (.int 401)), (.lit (.int 1))]), (.new 1 [(.lit (.int 1)), (.lit (.int 1)), (.lit (.int 0))]), (.new 2 [(.lit (.int 0))]), (.new 2 [(.lit (.int 401))]), (.call true 15 [(.lit (.str [97])), (.lit (.int 0))])]
def meths (C m : Nat) : Option Nat := match C, m with
  | 0, 18 => some 0
  | 0, 12 => some 1
  | 0, 15 => some 2
  | 0, 16 => some 3
  | 1, 18 => some 4
  | 1, 12 => some 5
  | 1, 15 => some 6
  | 1, 6 => some 7
  | 1, 17 => some 8
  | 2, 18 => some 9
  | 2, 12 => some 10
  | 2, 15 => some 11
  | 2, 13 => some 12
  | 2, 14 => some 13
  | 2, 17 => some 14
  | _, _ => none
def pg : Pg := { fns := [f0, f1, f2, f3, f4, f5, f6, f7, f8, f9, f10, f11, f12, f13, f14, f15, f16, f17, f18, f19, f20, f21, f22, f23, f24], glob := [.int 400], init := [some 0, some 4, some 9], meth := meths, told := [[(1, [81, 117, 101, 117, 101, 69, 114, 114, 111, 114])]], lams := lams, fuel := 100000 }
end K05

set_option linter.all false
set_option maxRecDepth 100000
set_option maxHeartbeats 4000000
/-! K05a: what the defs of k05 compute. -/
namespace K05
open PySem PyI
theorem pg_meth : pg.meth = meths := rfl
theorem pg_glob : pg.glob = [.int 400] := rfl
theorem pg_init : pg.init = [some 0, some 4, some 9] := rfl
abbrev Ks := List (List Nat)
def oW : Option (List Nat) → W
  | none => .non
  | some x => .str x
/-- the first goes where there are more than most -/
def cutQ (most : Int) (ks : Ks) : Option (List Nat) × Ks := if (ks.length : Int) ≤ most then (none, ks) else match ks with
  | [] => (none, [])
  | x :: r => (some x, r)
theorem filt_head {x : List Nat} {r : Ks} (h : x ∉ r) : (x :: r).filter (· != x) = r := by
  simp only [List.filter_cons, bne_self_eq_false, Bool.false_eq_true, if_false]
  rw [List.filter_eq_self]
  intro y hy
  simp only [bne_iff_ne, ne_eq]
  intro z
  rw [z] at hy
  exact h hy
theorem let_go {n : Nat} {h : Hc} {a p : Nat} {ks : Ks} {most : Int} (hp : h[p]? = some (.dic false (kks ks))) (hn : ks.Nodup) (h0 : 0 ≤ most) :
    callN pg (n + 1) 7 [.ref a, .ref p, .int most] h = .ok (oW (cutQ most ks).1, h.set p (.dic false (kks (cutQ most ks).2))) := by
  rw [callN_s (F := f7) rfl]
  unfold cutQ
  by_cases c : (ks.length : Int) ≤ most
  · rw [if_pos c, set_same hp]
    exact runF_of (o := .rt .non h) rfl (by simp [f7, b7, exB, exS, evE, evEs, evAnd, evOr, evAndT, evOrT, evIf, PyI.Out.of, PyI.Out.then, Res.bind, tst, Sl.var, stTg, stTgs, attrW, insAt, setAttrW, clsW, fget, fput, bmT, bmHas, bm, bi, mkL, binop, iop, lseq, truth, cmpop, index, atW, idxN, partR, partOf, sliceW, getW, setItemW, delItemW, nxO, callI, newI, W.isKey, stPT, stPTs, dicOf, Fn.args, Fn.start, cx_call, cx_glob, cx_init, cx_meth, cx_told, cx_fuel, walkK, walkOf, walkOne, walkVal, walkRange, walkEnum, walkDic, walkZip, LL, hp, c])
  · rw [if_neg c]
    cases ks with
    | nil => simp at c; omega
    | cons x r =>
      have nx : x ∉ r := (List.nodup_cons.mp hn).1
      have c2 : ¬ ((r.length : Int) + 1 ≤ most) := by simpa using c
      have dd := ddel_kks (x :: r) x
      rw [filt_head nx] at dd
      have dg := dget_kks (x :: r) x
      simp only [List.mem_cons, true_or, if_true] at dg
      exact runF_of (o := .rt (.str x) (h.set p (.dic false (kks r)))) rfl (by
        simp only [List.map_cons] at dd dg hp
        simp [f7, b7, exB, exS, evE, evEs, evAnd, evOr, evAndT, evOrT, evIf, PyI.Out.of, PyI.Out.then, Res.bind, tst, Sl.var, stTg, stTgs, attrW, insAt, setAttrW, clsW, fget, fput, bmT, bmHas, bm, bi, mkL, binop, iop, lseq, truth, cmpop, index, atW, idxN, partR, partOf, sliceW, getW, setItemW, delItemW, nxO, callI, newI, W.isKey, stPT, stPTs, dicOf, Fn.args, Fn.start, cx_call, cx_glob, cx_init, cx_meth, cx_told, cx_fuel, walkK, walkOf, walkOne, walkVal, walkRange, walkEnum, walkDic, walkZip, LL, hp, c2, keys_kks, kk] 
        simp only [kk] at dd dg
        simp [dd, dg])
theorem cut_tail {α : Type} (xs : List α) : cut xs (some 1) none = xs.tail := by
  cases xs with
  | nil => rfl
  | cons x r => simp [cut, sIdx]
theorem cut1 {α : Type} (x : α) (xs : List α) : cut (x :: xs) (some 1) none = xs := by simp [cut, sIdx]
/-- all but S stays -/
structure Frame (S : List Nat) (h h' : Hc) : Prop where
  len : h.length ≤ h'.length
  at_ : ∀ b, b < h.length → b ∉ S → h'[b]? = h[b]?
theorem Frame.refl (S : List Nat) (h : Hc) : Frame S h h := ⟨Nat.le_refl _, fun _ _ _ => rfl⟩
theorem Frame.set {S : List Nat} {h h' : Hc} (F : Frame S h h') {a : Nat} (ha : a ∈ S ∨ h.length ≤ a) (o : CO) : Frame S h (h'.set a o) := ⟨by rw [List.length_set]; exact F.len, fun b hb hn => by
  rw [List.getElem?_set_ne (fun z => ha.elim (fun q => hn (by rw [← z]; exact q)) (fun q => by omega))]
  exact F.at_ b hb hn⟩
theorem Frame.app {S : List Nat} {h h' : Hc} (F : Frame S h h') (t : Hc) : Frame S h (h' ++ t) := ⟨by rw [List.length_append]; have := F.len; omega, fun b hb hn => by
  rw [List.getElem?_append_left (by have := F.len; omega)]
  exact F.at_ b hb hn⟩
theorem Frame.trans {S : List Nat} {h h' h'' : Hc} (F : Frame S h h') (G : Frame S h' h'') : Frame S h h'' := ⟨Nat.le_trans F.len G.len, fun b hb hn => by
  rw [G.at_ b (Nat.lt_of_lt_of_le hb F.len) hn]
  exact F.at_ b hb hn⟩
theorem Frame.to {S S' : List Nat} {h h' : Hc} (F : Frame S h h') (hs : ∀ b ∈ S, b ∈ S' ∨ h.length ≤ b) : Frame S' h h' := ⟨F.len, fun b hb hn => F.at_ b hb fun z => (hs b z).elim hn (fun q => by omega)⟩
theorem Frame.trans2 {S S' : List Nat} {h h' h'' : Hc} (F : Frame S h h') (G : Frame S' h' h'') (hs : ∀ b ∈ S', b ∈ S ∨ h.length ≤ b) : Frame S h h'' := ⟨Nat.le_trans F.len G.len, fun b hb hn => by
  rw [G.at_ b (Nat.lt_of_lt_of_le hb F.len) (fun z => (hs b z).elim hn (fun q => by omega))]
  exact F.at_ b hb hn⟩
theorem Frame.keep {S : List Nat} {h h' : Hc} (F : Frame S h h') {b : Nat} {o : CO} (e : h[b]? = some o) (hn : b ∉ S) : h'[b]? = some o := by
  rw [F.at_ b (List.getElem?_eq_some_iff.mp e).1 hn]
  exact e
theorem set_at {h : Hc} {a : Nat} {o : CO} (e : h[a]? = some o) (u : CO) : (h.set a u)[a]? = some u := List.getElem?_set_self (List.getElem?_eq_some_iff.mp e).1
theorem set_ne {h : Hc} {a b : Nat} (u : CO) (n : a ≠ b) : (h.set a u)[b]? = h[b]? := List.getElem?_set_ne n
theorem app_at {h : Hc} {a : Nat} {o : CO} (e : h[a]? = some o) (t : Hc) : (h ++ t)[a]? = some o := by
  rw [List.getElem?_append_left (List.getElem?_eq_some_iff.mp e).1]
  exact e
theorem app_new (h : Hc) (o : CO) : (h ++ [o])[h.length]? = some o := by simp
end K05

set_option linter.all false
set_option maxRecDepth 100000
set_option maxHeartbeats 4000000
/-! K05b: the first two caches. -/
namespace K05
open PySem PyI
/-! ### the plain one -/
def FifAt (h : Hc) (a d : Nat) (most : Int) (ks : Ks) : Prop := h[a]? = some (.ins 0 [(0, .int most), (1, .ref d)]) ∧ h[d]? = some (.dic false (kks ks))
section
variable {n : Nat} {h : Hc} {a d i m w : Nat} {most m0 m1 m2 : Int} {ks In Gh Main : Ks} {k : List Nat}
theorem fif_get (A : FifAt h a d most ks) : callN pg (n + 1) 1 [.ref a, .str k] h = .ok (if k ∈ ks then .str k else .non, h) := by
  obtain ⟨h1, h2⟩ := A
  rw [callN_s (F := f1) rfl]
  exact runF_of (o := .rt (if k ∈ ks then .str k else .non) h) rfl (by
    simp [f1, b1, exB, exS, evE, evEs, evAnd, evOr, evAndT, evOrT, evIf, PyI.Out.of, PyI.Out.then, Res.bind, tst, Sl.var, stTg, stTgs, attrW, insAt, setAttrW, clsW, fget, fput, bmT, bmHas, bm, bi, mkL, binop, iop, lseq, truth, cmpop, index, atW, idxN, partR, partOf, sliceW, getW, setItemW, delItemW, nxO, callI, newI, W.isKey, stPT, stPTs, dicOf, Fn.args, Fn.start, cx_call, cx_glob, cx_init, cx_meth, cx_told, cx_fuel, walkK, walkOf, walkOne, walkVal, walkRange, walkEnum, walkDic, walkZip, LL, h1, h2, pg_init, pg_meth, meths, dget_kks]
    by_cases c : k ∈ ks <;> simp [c])
/-- what goes, what stays -/
def fifPut (most : Int) (ks : Ks) (k : List Nat) : Option (List Nat) × Ks := if (ks.length : Int) ≥ most then match ks with
  | [] => (none, [k])
  | x :: r => (some x, r ++ [k])
  else (none, ks ++ [k])
theorem fif_put (A : FifAt h a d most ks) (hk : k ∉ ks) (hn : ks.Nodup) (h0 : 1 ≤ most) (hl : ks.length < 1000) :
    callN pg (n + 1) 2 [.ref a, .str k, .str k] h = .ok (oW (fifPut most ks k).1, h.set d (.dic false (kks (fifPut most ks k).2))) := by
  obtain ⟨h1, h2⟩ := A
  have hlt : d < h.length := (List.getElem?_eq_some_iff.mp h2).1
  have hs : ∀ o, (h.set d o)[d]? = some o := fun o => List.getElem?_set_self hlt
  have nad : d ≠ a := fun z => by rw [z, h1] at h2; cases h2
  have hsa : ∀ o, (h.set d o)[a]? = some (.ins 0 [(0, .int most), (1, .ref d)]) := fun o => by rw [List.getElem?_set_ne nad]; exact h1
  have hi := isIn_dic k h2
  rw [callN_s (F := f2) rfl]
  unfold fifPut
  by_cases c : (ks.length : Int) ≥ most
  · rw [if_pos c]
    cases ks with
    | nil => simp at c; omega
    | cons x r =>
      have nx : x ∉ r := (List.nodup_cons.mp hn).1
      have c2 : most ≤ (r.length : Int) + 1 := by simpa using c
      have dd := ddel_kks (x :: r) x
      rw [filt_head nx] at dd
      have dg := dget_kks (x :: r) x
      simp only [List.mem_cons, true_or, if_true] at dg
      have dp := dput_kks (ks := r) (k := k) (fun z => hk (List.mem_cons_of_mem _ z))
      have hl2 : r.length < LL := by simp at hl; show r.length < 16777216; omega
      exact runF_of (o := .rt (.str x) (h.set d (.dic false (kks (r ++ [k]))))) rfl (by
        simp only [List.map_cons, kk] at dd dg h2 hi
        simp only [List.map_append, kk] at dp
        simp [f2, b2, exB, exS, evE, evEs, evAnd, evOr, evAndT, evOrT, evIf, PyI.Out.of, PyI.Out.then, Res.bind, tst, Sl.var, stTg, stTgs, attrW, insAt, setAttrW, clsW, fget, fput, bmT, bmHas, bm, bi, mkL, binop, iop, lseq, truth, cmpop, index, atW, idxN, partR, partOf, sliceW, getW, setItemW, delItemW, nxO, callI, newI, W.isKey, stPT, stPTs, dicOf, Fn.args, Fn.start, cx_call, cx_glob, cx_init, cx_meth, cx_told, cx_fuel, walkK, walkOf, walkOne, walkVal, walkRange, walkEnum, walkDic, walkZip, LL, h1, h2, c2, hi, kk, hk, hs, hsa, dd, dg, pg_init, pg_meth, meths, dp, hl2])
  · rw [if_neg c]
    have c2 : ¬ most ≤ (ks.length : Int) := c
    have dp := dput_kks hk
    have hl2 : ks.length < LL := by show ks.length < 16777216; omega
    exact runF_of (o := .rt .non (h.set d (.dic false (kks (ks ++ [k]))))) rfl (by
      simp only [List.map_append] at dp
      simp [f2, b2, exB, exS, evE, evEs, evAnd, evOr, evAndT, evOrT, evIf, PyI.Out.of, PyI.Out.then, Res.bind, tst, Sl.var, stTg, stTgs, attrW, insAt, setAttrW, clsW, fget, fput, bmT, bmHas, bm, bi, mkL, binop, iop, lseq, truth, cmpop, index, atW, idxN, partR, partOf, sliceW, getW, setItemW, delItemW, nxO, callI, newI, W.isKey, stPT, stPTs, dicOf, Fn.args, Fn.start, cx_call, cx_glob, cx_init, cx_meth, cx_told, cx_fuel, walkK, walkOf, walkOne, walkVal, walkRange, walkEnum, walkDic, walkZip, LL, h1, h2, c2, hi, hk, hs, hsa, pg_init, pg_meth, meths, dp, hl2])
theorem fif_order (A : FifAt h a d most ks) : callN pg (n + 1) 3 [.ref a] h = .ok (.tup (sts ks), h) := by
  obtain ⟨h1, h2⟩ := A
  rw [callN_s (F := f3) rfl]
  exact runF_of (o := .rt (.tup (sts ks)) h) rfl (by
    have e := keys_kks ks
    simp only [List.map_map] at e
    simp [f3, b3, exB, exS, evE, evEs, evAnd, evOr, evAndT, evOrT, evIf, PyI.Out.of, PyI.Out.then, Res.bind, tst, Sl.var, stTg, stTgs, attrW, insAt, setAttrW, clsW, fget, fput, bmT, bmHas, bm, bi, mkL, binop, iop, lseq, truth, cmpop, index, atW, idxN, partR, partOf, sliceW, getW, setItemW, delItemW, nxO, callI, newI, W.isKey, stPT, stPTs, dicOf, Fn.args, Fn.start, cx_call, cx_glob, cx_init, cx_meth, cx_told, cx_fuel, walkK, walkOf, walkOne, walkVal, walkRange, walkEnum, walkDic, walkZip, LL, h1, h2, pg_init, pg_meth, meths, e])
/-! ### the one of three queues -/
structure TwoAt (h : Hc) (a i m : Nat) (m0 m1 m2 : Int) (In Gh Main : Ks) : Prop where
  fa : h[a]? = some (.ins 1 [(2, .tup [.int m0, .int m1, .int m2]), (3, .ref i), (4, .lst (sts Gh)), (5, .ref m)])
  fi : h[i]? = some (.dic false (kks In))
  fm : h[m]? = some (.dic false (kks Main))
  ne : i ≠ m
theorem filt_not (k : List Nat) (ks : Ks) : k ∉ ks.filter (· != k) := by simp
theorem two_get (A : TwoAt h a i m m0 m1 m2 In Gh Main) (hl : Main.length < 1000) : callN pg (n + 1) 5 [.ref a, .str k] h =
    if k ∈ Main then .ok (.str k, h.set m (.dic false (kks (Main.filter (· != k) ++ [k])))) else .ok (if k ∈ In then .str k else .non, h) := by
  obtain ⟨h1, h2, h3, ne⟩ := A
  have hlt : m < h.length := (List.getElem?_eq_some_iff.mp h3).1
  have hs : ∀ o, (h.set m o)[m]? = some o := fun o => List.getElem?_set_self hlt
  have nam : m ≠ a := fun z => by rw [z, h1] at h3; cases h3
  have hsa : ∀ o, (h.set m o)[a]? = h[a]? := fun o => by rw [List.getElem?_set_ne nam]
  have hi := isIn_dic k h3
  rw [callN_s (F := f5) rfl]
  by_cases c : k ∈ Main
  · rw [if_pos c]
    have dg := dget_kks Main k
    rw [if_pos c] at dg
    have dd := ddel_kks Main k
    have dp := dput_kks (filt_not k Main)
    simp only [List.map_append] at dp
    have hl2 : (Main.filter (· != k)).length < LL := Nat.lt_of_le_of_lt (List.length_filter_le _ _) (by show Main.length < 16777216; omega)
    exact runF_of (o := .rt (.str k) _) rfl (by
      simp [f5, b5, exB, exS, evE, evEs, evAnd, evOr, evAndT, evOrT, evIf, PyI.Out.of, PyI.Out.then, Res.bind, tst, Sl.var, stTg, stTgs, attrW, insAt, setAttrW, clsW, fget, fput, bmT, bmHas, bm, bi, mkL, binop, iop, lseq, truth, cmpop, index, atW, idxN, partR, partOf, sliceW, getW, setItemW, delItemW, nxO, callI, newI, W.isKey, stPT, stPTs, dicOf, Fn.args, Fn.start, cx_call, cx_glob, cx_init, cx_meth, cx_told, cx_fuel, walkK, walkOf, walkOne, walkVal, walkRange, walkEnum, walkDic, walkZip, LL, h1, h2, h3, hi, c, hs, hsa, pg_init, pg_meth, meths, dg, dd, dp, hl2])
  · rw [if_neg c]
    exact runF_of (o := .rt (if k ∈ In then .str k else .non) h) rfl (by
      simp [f5, b5, exB, exS, evE, evEs, evAnd, evOr, evAndT, evOrT, evIf, PyI.Out.of, PyI.Out.then, Res.bind, tst, Sl.var, stTg, stTgs, attrW, insAt, setAttrW, clsW, fget, fput, bmT, bmHas, bm, bi, mkL, binop, iop, lseq, truth, cmpop, index, atW, idxN, partR, partOf, sliceW, getW, setItemW, delItemW, nxO, callI, newI, W.isKey, stPT, stPTs, dicOf, Fn.args, Fn.start, cx_call, cx_glob, cx_init, cx_meth, cx_told, cx_fuel, walkK, walkOf, walkOne, walkVal, walkRange, walkEnum, walkDic, walkZip, LL, h1, h2, h3, hi, c, pg_init, pg_meth, meths, dget_kks]
      by_cases c : k ∈ In <;> simp [c])
abbrev lastQ (m1 : Int) (ks : Ks) : Ks := cut ks (some (-m1)) none
/-- what goes; in, ghosts, main -/
def twoPut (m0 m1 m2 : Int) (In Gh Main : Ks) (k : List Nat) : Option (List Nat) × Ks × Ks × Ks := if k ∈ Gh then ((cutQ m2 (Main ++ [k])).1, In, Gh.filter (· != k), (cutQ m2 (Main ++ [k])).2)
  else ((cutQ m0 (In ++ [k])).1, (cutQ m0 (In ++ [k])).2, (match (cutQ m0 (In ++ [k])).1 with
    | none => Gh
    | some x => lastQ m1 (Gh ++ [x])), Main)
theorem cut_map {α γ : Type} (f : α → γ) (xs : List α) (lo hi : Option Int) : cut (xs.map f) lo hi = (cut xs lo hi).map f := by
  unfold cut
  rw [List.length_map, List.map_take, List.map_drop]
theorem two_put (A : TwoAt h a i m m0 m1 m2 In Gh Main) (c1 : k ∉ Main) (c2 : k ∉ In) (nI : In.Nodup) (nM : Main.Nodup) (h0 : 0 ≤ m0) (h2' : 0 ≤ m2) (l1 : In.length < 1000) (l2 : Gh.length < 1000) (l3 : Main.length < 1000) :
    ∃ h', callN pg (n + 2) 6 [.ref a, .str k, .str k] h = .ok (oW (twoPut m0 m1 m2 In Gh Main k).1, h') ∧ TwoAt h' a i m m0 m1 m2 (twoPut m0 m1 m2 In Gh Main k).2.1 (twoPut m0 m1 m2 In Gh Main k).2.2.1 (twoPut m0 m1 m2 In Gh Main k).2.2.2 ∧ Frame [a, i, m] h h' ∧ h'.length = h.length := by
  obtain ⟨h1, h2, h3, ne⟩ := A
  have la : a < h.length := (List.getElem?_eq_some_iff.mp h1).1
  have nam : a ≠ m := fun z => by rw [z, h3] at h1; cases h1
  have nai : a ≠ i := fun z => by rw [z, h2] at h1; cases h1
  have hi1 := isIn_dic k h2
  have hi3 := isIn_dic k h3
  have hi2 := isIn_lst h Gh k
  have lo : Gh.length + 1 < LL := by show Gh.length + 1 < 16777216; omega
  rw [callN_s (F := f6) rfl]
  unfold twoPut
  by_cases c : k ∈ Gh
  · simp only [if_pos c]
    have e1 := ev_ne (X := pg.cx (callN pg (n + 1))) (e := .attr (.var 0) 4) (i := 5) (j := 1) (σ := [.v (.ref a), .v (.str k), .v (.str k), .un, .un, .un]) (h := h) (h1 := h) (ks := Gh) (k := k) (box := false) (by simp [exB, exS, evE, evEs, evAnd, evOr, evAndT, evOrT, evIf, PyI.Out.of, PyI.Out.then, Res.bind, tst, Sl.var, stTg, stTgs, attrW, insAt, setAttrW, clsW, fget, fput, bmT, bmHas, bm, bi, mkL, binop, iop, lseq, truth, cmpop, index, atW, idxN, partR, partOf, sliceW, getW, setItemW, delItemW, nxO, callI, newI, W.isKey, stPT, stPTs, dicOf, Fn.args, Fn.start, cx_call, cx_glob, cx_init, cx_meth, cx_told, cx_fuel, walkK, walkOf, walkOne, walkVal, walkRange, walkEnum, walkDic, walkZip, LL, h1, pg_init, pg_meth, meths]) (by simp) (by decide) rfl
    have hm : (h.set a (.ins 1 [(2, .tup [.int m0, .int m1, .int m2]), (3, .ref i), (4, .lst (sts (Gh.filter (· != k)))), (5, .ref m)]))[m]? = some (.dic false (kks Main)) := by rw [set_ne _ nam]; exact h3
    have dp := dput_kks c1
    have lg := let_go (n := n) (h := (h.set a (.ins 1 [(2, .tup [.int m0, .int m1, .int m2]), (3, .ref i), (4, .lst (sts (Gh.filter (· != k)))), (5, .ref m)])).set m (.dic false (kks (Main ++ [k])))) (a := a) (p := m) (ks := Main ++ [k]) (most := m2) (set_at hm _) (by
      rw [List.nodup_append]
      exact ⟨nM, by simp, fun x hx y hy => by rw [List.mem_singleton.mp hy]; exact fun z => c1 (z ▸ hx)⟩) h2'
    rw [List.set_set] at lg
    have ha2 : ∀ A M, ((h.set a A).set m M)[a]? = some A := fun A M => by rw [set_ne _ nam.symm]; exact set_at h1 _
    have ha1 : ∀ A, (h.set a A)[a]? = some A := set_at h1
    have hl3 : Main.length < LL := by show Main.length < 16777216; omega
    refine ⟨(h.set a (.ins 1 [(2, .tup [.int m0, .int m1, .int m2]), (3, .ref i), (4, .lst (sts (Gh.filter (· != k)))), (5, .ref m)])).set m (.dic false (kks (cutQ m2 (Main ++ [k])).2)), ?_, ⟨?_, ?_, ?_, ne⟩, ((Frame.refl _ h).set (.inl (by simp)) _).set (.inl (by simp)) _, by simp⟩
    · refine runF_of (o := .rt (oW (cutQ m2 (Main ++ [k])).1) _) rfl ?_
      simp only [f6, b6]
      generalize E.lc false [5] (.one 5) .val [(.attr (.var 0) 4)] [(.cmp .NotEq (.var 5) (.var 1))] (.var 5) = L at e1 ⊢
      simp only [List.map_append, List.map_cons, List.map_nil] at lg dp
      simp [exB, exS, evE, evEs, evAnd, evOr, evAndT, evOrT, evIf, PyI.Out.of, PyI.Out.then, Res.bind, tst, Sl.var, stTg, stTgs, attrW, insAt, setAttrW, clsW, fget, fput, bmT, bmHas, bm, bi, mkL, binop, iop, lseq, truth, cmpop, index, atW, idxN, partR, partOf, sliceW, getW, setItemW, delItemW, nxO, callI, newI, W.isKey, stPT, stPTs, dicOf, Fn.args, Fn.start, cx_call, cx_glob, cx_init, cx_meth, cx_told, cx_fuel, walkK, walkOf, walkOne, walkVal, walkRange, walkEnum, walkDic, walkZip, LL, h1, h3, hi1, hi2, hi3, c, c1, c2, pg_init, pg_meth, meths, e1, ha1, ha2, hm, hl3, dp] 
      rw [lg]
    · rw [set_ne _ nam.symm]; exact set_at h1 _
    · rw [set_ne _ ne.symm, set_ne _ nai]; exact h2
    · exact set_at hm _
  · simp only [if_neg c]
    have dp := dput_kks c2
    have hl1 : In.length < LL := by show In.length < 16777216; omega
    have lg := let_go (n := n) (h := h.set i (.dic false (kks (In ++ [k])))) (a := a) (p := i) (ks := In ++ [k]) (most := m0) (set_at h2 _) (by
      rw [List.nodup_append]
      exact ⟨nI, by simp, fun x hx y hy => by rw [List.mem_singleton.mp hy]; exact fun z => c2 (z ▸ hx)⟩) h0
    rw [List.set_set] at lg
    have ha1 : ∀ A, (h.set i A)[a]? = h[a]? := fun A => set_ne _ nai.symm
    have hs1 : ∀ A, (h.set i A)[i]? = some A := set_at h2
    obtain ⟨g, In', eq⟩ : ∃ g In', cutQ m0 (In ++ [k]) = (g, In') := ⟨_, _, rfl⟩
    simp only [eq] at lg ⊢
    have ha3 : (h.set i (.dic false (kks In')))[a]? = some _ := (ha1 _).trans h1
    have fr : Frame [a, i, m] h (h.set i (.dic false (kks In'))) := (Frame.refl _ h).set (.inl (by simp)) _
    have hm1 : ∀ A, (h.set i A)[m]? = some (.dic false (kks Main)) := fun A => by rw [set_ne _ ne]; exact h3
    simp only [List.map_append, List.map_cons, List.map_nil] at lg dp
    cases g with
    | none =>
      refine ⟨h.set i (.dic false (kks In')), ?_, ⟨ha3, hs1 _, hm1 _, ne⟩, fr, by simp⟩
      refine runF_of (o := .rt .non _) rfl ?_
      simp only [f6, b6]
      generalize E.lc false [5] (.one 5) .val [(.attr (.var 0) 4)] [(.cmp .NotEq (.var 5) (.var 1))] (.var 5) = L
      simp [exB, exS, evE, evEs, evAnd, evOr, evAndT, evOrT, evIf, PyI.Out.of, PyI.Out.then, Res.bind, tst, Sl.var, stTg, stTgs, attrW, insAt, setAttrW, clsW, fget, fput, bmT, bmHas, bm, bi, mkL, binop, iop, lseq, truth, cmpop, index, atW, idxN, partR, partOf, sliceW, getW, setItemW, delItemW, nxO, callI, newI, W.isKey, stPT, stPTs, dicOf, Fn.args, Fn.start, cx_call, cx_glob, cx_init, cx_meth, cx_told, cx_fuel, walkK, walkOf, walkOne, walkVal, walkRange, walkEnum, walkDic, walkZip, LL, h1, h2, h3, hi1, hi2, hi3, c, c1, c2, pg_init, pg_meth, meths, ha1, hs1, hl1, dp]
      rw [lg]
      simp [oW]
    | some x =>
      have hx : (h.set i (.dic false (kks In')))[a]? = some (.ins 1 [(2, .tup [.int m0, .int m1, .int m2]), (3, .ref i), (4, .lst (sts Gh)), (5, .ref m)]) := ha3
      have cm : cut (sts Gh ++ [W.str x]) (some (-m1)) none = sts (lastQ m1 (Gh ++ [x])) := by
        have := cut_map W.str (Gh ++ [x]) (some (-m1)) none
        rw [List.map_append] at this
        exact this
      have lo' : (sts Gh).length + 1 ≤ LL := by simp; exact Nat.le_of_lt lo
      refine ⟨(h.set i (.dic false (kks In'))).set a (.ins 1 [(2, .tup [.int m0, .int m1, .int m2]), (3, .ref i), (4, .lst (sts (lastQ m1 (Gh ++ [x])))), (5, .ref m)]), ?_, ⟨set_at ha3 _, by rw [set_ne _ nai]; exact hs1 _, by rw [set_ne _ nam]; exact hm1 _, ne⟩, fr.set (.inl (by simp)) _, by simp⟩
      refine runF_of (o := .rt (.str x) _) rfl ?_
      simp only [f6, b6]
      generalize E.lc false [5] (.one 5) .val [(.attr (.var 0) 4)] [(.cmp .NotEq (.var 5) (.var 1))] (.var 5) = L
      simp only [oW] at lg
      have lo2 : Gh.length + 1 ≤ LL := Nat.le_of_lt lo
      simp [exB, exS, evE, evEs, evAnd, evOr, evAndT, evOrT, evIf, PyI.Out.of, PyI.Out.then, Res.bind, tst, Sl.var, stTg, stTgs, attrW, insAt, setAttrW, clsW, fget, fput, bmT, bmHas, bm, bi, mkL, binop, iop, lseq, truth, cmpop, index, atW, idxN, partR, partOf, sliceW, getW, setItemW, delItemW, nxO, callI, newI, W.isKey, stPT, stPTs, dicOf, Fn.args, Fn.start, cx_call, cx_glob, cx_init, cx_meth, cx_told, cx_fuel, walkK, walkOf, walkOne, walkVal, walkRange, walkEnum, walkDic, walkZip, LL, h1, h2, h3, hi1, hi2, hi3, c, c1, c2, pg_init, pg_meth, meths, ha1, hs1, hl1, dp]
      rw [lg]
      simp [exB, exS, evE, evEs, evAnd, evOr, evAndT, evOrT, evIf, PyI.Out.of, PyI.Out.then, Res.bind, tst, Sl.var, stTg, stTgs, attrW, insAt, setAttrW, clsW, fget, fput, bmT, bmHas, bm, bi, mkL, binop, iop, lseq, truth, cmpop, index, atW, idxN, partR, partOf, sliceW, getW, setItemW, delItemW, nxO, callI, newI, W.isKey, stPT, stPTs, dicOf, Fn.args, Fn.start, cx_call, cx_glob, cx_init, cx_meth, cx_told, cx_fuel, walkK, walkOf, walkOne, walkVal, walkRange, walkEnum, walkDic, walkZip, LL, h1, hx, ha1, lo2, cm, pg_init, pg_meth, meths]
theorem two_parts (A : TwoAt h a i m m0 m1 m2 In Gh Main) : callN pg (n + 1) 8 [.ref a] h = .ok (.tup [.tup (sts In), .tup (sts Gh), .tup (sts Main)], h) := by
  obtain ⟨h1, h2, h3, ne⟩ := A
  rw [callN_s (F := f8) rfl]
  exact runF_of (o := .rt _ h) rfl (by
    have e := keys_kks In
    have e' := keys_kks Main
    simp only [List.map_map] at e e'
    simp [f8, b8, exB, exS, evE, evEs, evAnd, evOr, evAndT, evOrT, evIf, PyI.Out.of, PyI.Out.then, Res.bind, tst, Sl.var, stTg, stTgs, attrW, insAt, setAttrW, clsW, fget, fput, bmT, bmHas, bm, bi, mkL, binop, iop, lseq, truth, cmpop, index, atW, idxN, partR, partOf, sliceW, getW, setItemW, delItemW, nxO, callI, newI, W.isKey, stPT, stPTs, dicOf, Fn.args, Fn.start, cx_call, cx_glob, cx_init, cx_meth, cx_told, cx_fuel, walkK, walkOf, walkOne, walkVal, walkRange, walkEnum, walkDic, walkZip, LL, h1, h2, h3, pg_init, pg_meth, meths, e, e'])
/-! ### the law's account of it -/
def OwnT (m0 m1 m2 : Int) (In Gh Main : Ks) : List (W × W) := [(.str [109, 111, 115, 116, 115], .lst [.int m0, .int m1, .int m2]), (.str [105, 110], .lst (sts In)), (.str [111, 117, 116], .lst (sts Gh)), (.str [109, 97, 105, 110], .lst (sts Main))]
theorem law_two_main (hw : h[w]? = some (.dic false (OwnT m0 m1 m2 In Gh Main))) (c : k ∈ Main) (l3 : Main.length < 1000) :
    callN pg (n + 1) 20 [.ref w, .str k] h = .ok (.str [104, 105, 116], h.set w (.dic false (OwnT m0 m1 m2 In Gh (Main.filter (· != k) ++ [k])))) := by
  rw [callN_s (F := f20) rfl]
  have e1 := ev_ne (X := pg.cx (callN pg n)) (e := .idx (.var 0) (.lit (.str [109, 97, 105, 110]))) (i := 5) (j := 1) (σ := [.v (.ref w), .v (.str k), .un, .un, .un, .un]) (h := h) (h1 := h) (ks := Main) (k := k) (box := false) (by simp [exB, exS, evE, evEs, evAnd, evOr, evAndT, evOrT, evIf, PyI.Out.of, PyI.Out.then, Res.bind, tst, Sl.var, stTg, stTgs, attrW, insAt, setAttrW, clsW, fget, fput, bmT, bmHas, bm, bi, mkL, binop, iop, lseq, truth, cmpop, index, atW, idxN, partR, partOf, sliceW, getW, setItemW, delItemW, nxO, callI, newI, W.isKey, stPT, stPTs, dicOf, Fn.args, Fn.start, cx_call, cx_glob, cx_init, cx_meth, cx_told, cx_fuel, walkK, walkOf, walkOne, walkVal, walkRange, walkEnum, walkDic, walkZip, LL, hw, OwnT, dget, W.keq]) (by simp) (by decide) rfl
  have hi2 := isIn_lst h Main k
  refine runF_of (o := .rt _ _) rfl ?_
  simp only [f20, b20]
  generalize E.lc false [5] (.one 5) .val [(.idx (.var 0) (.lit (.str [109, 97, 105, 110])))] [(.cmp .NotEq (.var 5) (.var 1))] (.var 5) = L at e1 ⊢
  have hl2 : (Main.filter (· != k)).length + 1 ≤ LL := by
    have := List.length_filter_le (· != k) Main
    show _ ≤ 16777216
    omega
  simp [exB, exS, evE, evEs, evAnd, evOr, evAndT, evOrT, evIf, PyI.Out.of, PyI.Out.then, Res.bind, tst, Sl.var, stTg, stTgs, attrW, insAt, setAttrW, clsW, fget, fput, bmT, bmHas, bm, bi, mkL, binop, iop, lseq, truth, cmpop, index, atW, idxN, partR, partOf, sliceW, getW, setItemW, delItemW, nxO, callI, newI, W.isKey, stPT, stPTs, dicOf, Fn.args, Fn.start, cx_call, cx_glob, cx_init, cx_meth, cx_told, cx_fuel, walkK, walkOf, walkOne, walkVal, walkRange, walkEnum, walkDic, walkZip, LL, hw, OwnT, dget, W.keq, hi2, c, e1, hl2, dput]
theorem law_two_in (hw : h[w]? = some (.dic false (OwnT m0 m1 m2 In Gh Main))) (c : k ∉ Main) (c2 : k ∈ In) :
    callN pg (n + 1) 20 [.ref w, .str k] h = .ok (.str [104, 105, 116], h) := by
  rw [callN_s (F := f20) rfl]
  have hi1 := isIn_lst h In k
  have hi2 := isIn_lst h Main k
  refine runF_of (o := .rt _ _) rfl ?_
  simp only [f20, b20]
  simp [exB, exS, evE, evEs, evAnd, evOr, evAndT, evOrT, evIf, PyI.Out.of, PyI.Out.then, Res.bind, tst, Sl.var, stTg, stTgs, attrW, insAt, setAttrW, clsW, fget, fput, bmT, bmHas, bm, bi, mkL, binop, iop, lseq, truth, cmpop, index, atW, idxN, partR, partOf, sliceW, getW, setItemW, delItemW, nxO, callI, newI, W.isKey, stPT, stPTs, dicOf, Fn.args, Fn.start, cx_call, cx_glob, cx_init, cx_meth, cx_told, cx_fuel, walkK, walkOf, walkOne, walkVal, walkRange, walkEnum, walkDic, walkZip, LL, hw, OwnT, dget, W.keq, hi2, hi1, c, c2]
theorem filt_id {k : List Nat} {ks : Ks} (h : k ∉ ks) : ks.filter (· != k) = ks := by
  rw [List.filter_eq_self]
  intro y hy
  simp only [bne_iff_ne, ne_eq]
  exact fun z => h (by rw [← z]; exact hy)
theorem law_two_new (hw : h[w]? = some (.dic false (OwnT m0 m1 m2 In Gh Main))) (c1 : k ∉ Main) (c2 : k ∉ In) (h0 : 0 ≤ m0) (h2' : 0 ≤ m2) (l1 : In.length < 1000) (l2 : Gh.length < 1000) (l3 : Main.length < 1000) :
    callN pg (n + 1) 20 [.ref w, .str k] h = .ok (oW (twoPut m0 m1 m2 In Gh Main k).1, h.set w (.dic false (OwnT m0 m1 m2 (twoPut m0 m1 m2 In Gh Main k).2.1 (twoPut m0 m1 m2 In Gh Main k).2.2.1 (twoPut m0 m1 m2 In Gh Main k).2.2.2))) := by
  rw [callN_s (F := f20) rfl]
  have hi1 := isIn_lst h In k
  have hi2 := isIn_lst h Main k
  have hi3 := isIn_lst h Gh k
  have lG : Gh.length + 1 ≤ LL := by show Gh.length + 1 ≤ 16777216; omega
  have lI : In.length + 1 ≤ LL := by show In.length + 1 ≤ 16777216; omega
  have lM : Main.length + 1 ≤ LL := by show Main.length + 1 ≤ 16777216; omega
  have hs : ∀ o, (h.set w o)[w]? = some o := set_at hw
  have q1 : ∀ a b : List Nat, isEq h (.str a) (.str b) = some (a == b) := fun a b => by
    unfold isEq
    rw [isEq0_tree (x := .str a) (y := .str b) rfl rfl (rd_str _ _ _) (rd_str _ _ _), eqv_str]
  have q2 : ∀ (o : CO) (a b : List Nat), isEq (h.set w o) (.str a) (.str b) = some (a == b) := fun o a b => by
    unfold isEq
    rw [isEq0_tree (x := .str a) (y := .str b) rfl rfl (rd_str _ _ _) (rd_str _ _ _), eqv_str]
  unfold twoPut
  by_cases c : k ∈ Gh
  · simp only [if_pos c]
    have e1 := ev_ne (X := pg.cx (callN pg n)) (e := .idx (.var 0) (.lit (.str [111, 117, 116]))) (i := 5) (j := 1) (σ := [.v (.ref w), .v (.str k), .v (.str [109, 97, 105, 110]), .v (.int m2), .un, .un]) (h := h) (h1 := h) (ks := Gh) (k := k) (box := false) (by simp [exB, exS, evE, evEs, evAnd, evOr, evAndT, evOrT, evIf, PyI.Out.of, PyI.Out.then, Res.bind, tst, Sl.var, stTg, stTgs, attrW, insAt, setAttrW, clsW, fget, fput, bmT, bmHas, bm, bi, mkL, binop, iop, lseq, truth, cmpop, index, atW, idxN, partR, partOf, sliceW, getW, setItemW, delItemW, nxO, callI, newI, W.isKey, stPT, stPTs, dicOf, Fn.args, Fn.start, cx_call, cx_glob, cx_init, cx_meth, cx_told, cx_fuel, walkK, walkOf, walkOne, walkVal, walkRange, walkEnum, walkDic, walkZip, LL, hw, OwnT, dget, W.keq]) (by simp) (by decide) rfl
    simp only [f20, b20]
    generalize E.lc false [5] (.one 5) .val [(.idx (.var 0) (.lit (.str [111, 117, 116])))] [(.cmp .NotEq (.var 5) (.var 1))] (.var 5) = L at e1 ⊢
    obtain ⟨x, r, hx⟩ : ∃ x r, Main ++ [k] = x :: r := by
      cases Main with
      | nil => exact ⟨_, _, rfl⟩
      | cons a b => exact ⟨_, _, rfl⟩
    have hx2 : sts Main ++ [W.str k] = W.str x :: sts r := by
      have := congrArg sts hx
      simpa using this
    have hlen : (Main.length : Int) + 1 = r.length + 1 := by
      have := congrArg List.length hx
      simp at this
      omega
    rw [hx]
    unfold cutQ
    by_cases c3 : ((x :: r).length : Int) ≤ m2
    · rw [if_pos c3]
      have c4 : (r.length : Int) + 1 ≤ m2 := by simpa using c3
      refine runF_of (o := .rt .non _) rfl ?_
      simp [exB, exS, evE, evEs, evAnd, evOr, evAndT, evOrT, evIf, PyI.Out.of, PyI.Out.then, Res.bind, tst, Sl.var, stTg, stTgs, attrW, insAt, setAttrW, clsW, fget, fput, bmT, bmHas, bm, bi, mkL, binop, iop, lseq, truth, cmpop, index, atW, idxN, partR, partOf, sliceW, getW, setItemW, delItemW, nxO, callI, newI, W.isKey, stPT, stPTs, dicOf, Fn.args, Fn.start, cx_call, cx_glob, cx_init, cx_meth, cx_told, cx_fuel, walkK, walkOf, walkOne, walkVal, walkRange, walkEnum, walkDic, walkZip, LL, hw, OwnT, dget, W.keq, hi1, hi2, hi3, c, c1, c2, e1, lM, dput, hs, hx2, c4]
    · rw [if_neg c3]
      have c4 : ¬ (r.length : Int) + 1 ≤ m2 := by simpa using c3
      refine runF_of (o := .rt (.str x) _) rfl ?_
      simp [exB, exS, evE, evEs, evAnd, evOr, evAndT, evOrT, evIf, PyI.Out.of, PyI.Out.then, Res.bind, tst, Sl.var, stTg, stTgs, attrW, insAt, setAttrW, clsW, fget, fput, bmT, bmHas, bm, bi, mkL, binop, iop, lseq, truth, cmpop, index, atW, idxN, partR, partOf, sliceW, getW, setItemW, delItemW, nxO, callI, newI, W.isKey, stPT, stPTs, dicOf, Fn.args, Fn.start, cx_call, cx_glob, cx_init, cx_meth, cx_told, cx_fuel, walkK, walkOf, walkOne, walkVal, walkRange, walkEnum, walkDic, walkZip, LL, hw, OwnT, dget, W.keq, hi1, hi2, hi3, c, c1, c2, e1, lM, dput, hs, hx2, c4, cut1, q2]
  · simp only [if_neg c]
    have e1 := ev_ne (X := pg.cx (callN pg n)) (e := .idx (.var 0) (.lit (.str [111, 117, 116]))) (i := 5) (j := 1) (σ := [.v (.ref w), .v (.str k), .v (.str [105, 110]), .v (.int m0), .un, .un]) (h := h) (h1 := h) (ks := Gh) (k := k) (box := false) (by simp [exB, exS, evE, evEs, evAnd, evOr, evAndT, evOrT, evIf, PyI.Out.of, PyI.Out.then, Res.bind, tst, Sl.var, stTg, stTgs, attrW, insAt, setAttrW, clsW, fget, fput, bmT, bmHas, bm, bi, mkL, binop, iop, lseq, truth, cmpop, index, atW, idxN, partR, partOf, sliceW, getW, setItemW, delItemW, nxO, callI, newI, W.isKey, stPT, stPTs, dicOf, Fn.args, Fn.start, cx_call, cx_glob, cx_init, cx_meth, cx_told, cx_fuel, walkK, walkOf, walkOne, walkVal, walkRange, walkEnum, walkDic, walkZip, LL, hw, OwnT, dget, W.keq]) (by simp) (by decide) rfl
    rw [filt_id c] at e1
    simp only [f20, b20]
    generalize E.lc false [5] (.one 5) .val [(.idx (.var 0) (.lit (.str [111, 117, 116])))] [(.cmp .NotEq (.var 5) (.var 1))] (.var 5) = L at e1 ⊢
    obtain ⟨x, r, hx⟩ : ∃ x r, In ++ [k] = x :: r := by
      cases In with
      | nil => exact ⟨_, _, rfl⟩
      | cons a b => exact ⟨_, _, rfl⟩
    have hx2 : sts In ++ [W.str k] = W.str x :: sts r := by
      have := congrArg sts hx
      simpa using this
    have hlen : (In.length : Int) + 1 = r.length + 1 := by
      have := congrArg List.length hx
      simp at this
      omega
    rw [hx]
    unfold cutQ
    by_cases c3 : ((x :: r).length : Int) ≤ m0
    · rw [if_pos c3]
      have c4 : (r.length : Int) + 1 ≤ m0 := by simpa using c3
      refine runF_of (o := .rt .non _) rfl ?_
      simp [exB, exS, evE, evEs, evAnd, evOr, evAndT, evOrT, evIf, PyI.Out.of, PyI.Out.then, Res.bind, tst, Sl.var, stTg, stTgs, attrW, insAt, setAttrW, clsW, fget, fput, bmT, bmHas, bm, bi, mkL, binop, iop, lseq, truth, cmpop, index, atW, idxN, partR, partOf, sliceW, getW, setItemW, delItemW, nxO, callI, newI, W.isKey, stPT, stPTs, dicOf, Fn.args, Fn.start, cx_call, cx_glob, cx_init, cx_meth, cx_told, cx_fuel, walkK, walkOf, walkOne, walkVal, walkRange, walkEnum, walkDic, walkZip, LL, hw, OwnT, dget, W.keq, hi1, hi2, hi3, c, c1, c2, e1, lI, dput, hs, hx2, c4]
    · rw [if_neg c3]
      have c4 : ¬ (r.length : Int) + 1 ≤ m0 := by simpa using c3
      have cm : cut (sts Gh ++ [W.str x]) (some (-m1)) none = sts (lastQ m1 (Gh ++ [x])) := by
        have := cut_map W.str (Gh ++ [x]) (some (-m1)) none
        rw [List.map_append] at this
        exact this
      have c1' := cut1 (W.str x) (sts r)
      refine runF_of (o := .rt (.str x) _) rfl ?_
      simp [exB, exS, evE, evEs, evAnd, evOr, evAndT, evOrT, evIf, PyI.Out.of, PyI.Out.then, Res.bind, tst, Sl.var, stTg, stTgs, attrW, insAt, setAttrW, clsW, fget, fput, bmT, bmHas, bm, bi, mkL, binop, iop, lseq, truth, cmpop, index, atW, idxN, partR, partOf, sliceW, getW, setItemW, delItemW, nxO, callI, newI, W.isKey, stPT, stPTs, dicOf, Fn.args, Fn.start, cx_call, cx_glob, cx_init, cx_meth, cx_told, cx_fuel, walkK, walkOf, walkOne, walkVal, walkRange, walkEnum, walkDic, walkZip, LL, hw, OwnT, dget, W.keq, hi1, hi2, hi3, c, c1, c2, e1, lI, dput, hs, hx2, c4, c1', q2, lG, cm]
end
end K05

set_option linter.all false
set_option maxRecDepth 100000
set_option maxHeartbeats 4000000
/-! K05d: the one that learns. -/
namespace K05
open PySem PyI
structure AdAt (h : Hc) (a d1 d2 g1 g2 : Nat) (most aim : Int) (T1 T2 B1 B2 : Ks) : Prop where
  fa : h[a]? = some (.ins 2 [(0, .int most), (7, .int aim), (8, .ref d1), (9, .ref d2), (10, .ref g1), (11, .ref g2)])
  f1 : h[d1]? = some (.dic false (kks T1))
  f2 : h[d2]? = some (.dic false (kks T2))
  b1 : h[g1]? = some (.lst false (sts B1))
  b2 : h[g2]? = some (.lst false (sts B2))
  nd : d1 ≠ d2
  ng : g1 ≠ g2
structure AdNe (a d1 d2 g1 g2 : Nat) : Prop where
  n1 : a ≠ d1
  n2 : a ≠ d2
  n3 : a ≠ g1
  n4 : a ≠ g2
  n5 : d1 ≠ g1
  n6 : d1 ≠ g2
  n7 : d2 ≠ g1
  n8 : d2 ≠ g2
section
variable {n : Nat} {h : Hc} {a d1 d2 g1 g2 w : Nat} {most aim : Int} {T1 T2 B1 B2 : Ks} {k : List Nat}
theorem AdAt.ne (A : AdAt h a d1 d2 g1 g2 most aim T1 T2 B1 B2) : AdNe a d1 d2 g1 g2 := by
  obtain ⟨fa, f1, f2, b1, b2, _, _⟩ := A
  refine ⟨?_, ?_, ?_, ?_, ?_, ?_, ?_, ?_⟩ <;> (intro z; subst z; simp_all)
theorem AdAt.app (A : AdAt h a d1 d2 g1 g2 most aim T1 T2 B1 B2) (t : Hc) : AdAt (h ++ t) a d1 d2 g1 g2 most aim T1 T2 B1 B2 :=
  ⟨app_at A.fa t, app_at A.f1 t, app_at A.f2 t, app_at A.b1 t, app_at A.b2 t, A.nd, A.ng⟩
/-- each part written -/
theorem AdAt.wa (A : AdAt h a d1 d2 g1 g2 most aim T1 T2 B1 B2) (aim' : Int) : AdAt (h.set a (.ins 2 [(0, .int most), (7, .int aim'), (8, .ref d1), (9, .ref d2), (10, .ref g1), (11, .ref g2)])) a d1 d2 g1 g2 most aim' T1 T2 B1 B2 := by
  have N := A.ne
  exact ⟨set_at A.fa _, by rw [set_ne _ N.n1]; exact A.f1, by rw [set_ne _ N.n2]; exact A.f2, by rw [set_ne _ N.n3]; exact A.b1, by rw [set_ne _ N.n4]; exact A.b2, A.nd, A.ng⟩
theorem AdAt.w1 (A : AdAt h a d1 d2 g1 g2 most aim T1 T2 B1 B2) (T1' : Ks) : AdAt (h.set d1 (.dic false (kks T1'))) a d1 d2 g1 g2 most aim T1' T2 B1 B2 := by
  have N := A.ne
  exact ⟨by rw [set_ne _ N.n1.symm]; exact A.fa, set_at A.f1 _, by rw [set_ne _ A.nd]; exact A.f2, by rw [set_ne _ N.n5]; exact A.b1, by rw [set_ne _ N.n6]; exact A.b2, A.nd, A.ng⟩
theorem AdAt.w2 (A : AdAt h a d1 d2 g1 g2 most aim T1 T2 B1 B2) (T2' : Ks) : AdAt (h.set d2 (.dic false (kks T2'))) a d1 d2 g1 g2 most aim T1 T2' B1 B2 := by
  have N := A.ne
  exact ⟨by rw [set_ne _ N.n2.symm]; exact A.fa, by rw [set_ne _ A.nd.symm]; exact A.f1, set_at A.f2 _, by rw [set_ne _ N.n7]; exact A.b1, by rw [set_ne _ N.n8]; exact A.b2, A.nd, A.ng⟩
theorem AdAt.w3 (A : AdAt h a d1 d2 g1 g2 most aim T1 T2 B1 B2) (B1' : Ks) : AdAt (h.set g1 (.lst false (sts B1'))) a d1 d2 g1 g2 most aim T1 T2 B1' B2 := by
  have N := A.ne
  exact ⟨by rw [set_ne _ N.n3.symm]; exact A.fa, by rw [set_ne _ N.n5.symm]; exact A.f1, by rw [set_ne _ N.n7.symm]; exact A.f2, set_at A.b1 _, by rw [set_ne _ A.ng]; exact A.b2, A.nd, A.ng⟩
theorem AdAt.w4 (A : AdAt h a d1 d2 g1 g2 most aim T1 T2 B1 B2) (B2' : Ks) : AdAt (h.set g2 (.lst false (sts B2'))) a d1 d2 g1 g2 most aim T1 T2 B1 B2' := by
  have N := A.ne
  exact ⟨by rw [set_ne _ N.n4.symm]; exact A.fa, by rw [set_ne _ N.n6.symm]; exact A.f1, by rw [set_ne _ N.n8.symm]; exact A.f2, by rw [set_ne _ A.ng.symm]; exact A.b1, set_at A.b2 _, A.nd, A.ng⟩
/-- a list made anew -/
theorem AdAt.n1 (A : AdAt h a d1 d2 g1 g2 most aim T1 T2 B1 B2) (B1' : Ks) : AdAt ((h ++ [CO.lst false (sts B1')]).set a (.ins 2 [(0, .int most), (7, .int aim), (8, .ref d1), (9, .ref d2), (10, .ref h.length), (11, .ref g2)])) a d1 d2 h.length g2 most aim T1 T2 B1' B2 := by
  have N := A.ne
  have la := (List.getElem?_eq_some_iff.mp A.fa).1
  have lg := (List.getElem?_eq_some_iff.mp A.b2).1
  have A' := A.app [.lst false (sts B1')]
  exact ⟨set_at A'.fa _, by rw [set_ne _ N.n1]; exact A'.f1, by rw [set_ne _ N.n2]; exact A'.f2, by rw [set_ne _ (by omega)]; exact app_new _ _, by rw [set_ne _ N.n4]; exact A'.b2, A.nd, by omega⟩
theorem AdAt.n2 (A : AdAt h a d1 d2 g1 g2 most aim T1 T2 B1 B2) (B2' : Ks) : AdAt ((h ++ [CO.lst false (sts B2')]).set a (.ins 2 [(0, .int most), (7, .int aim), (8, .ref d1), (9, .ref d2), (10, .ref g1), (11, .ref h.length)])) a d1 d2 g1 h.length most aim T1 T2 B1 B2' := by
  have N := A.ne
  have la := (List.getElem?_eq_some_iff.mp A.fa).1
  have lg := (List.getElem?_eq_some_iff.mp A.b1).1
  have A' := A.app [.lst false (sts B2')]
  exact ⟨set_at A'.fa _, by rw [set_ne _ N.n1]; exact A'.f1, by rw [set_ne _ N.n2]; exact A'.f2, by rw [set_ne _ N.n3]; exact A'.b1, by rw [set_ne _ (by omega)]; exact app_new _ _, A.nd, by omega⟩
/-! ### get -/
theorem ad_get1 (A : AdAt h a d1 d2 g1 g2 most aim T1 T2 B1 B2) (c : k ∈ T1) (c2 : k ∉ T2) (l : T2.length < 1000) : callN pg (n + 1) 10 [.ref a, .str k] h =
    .ok (.str k, (h.set d1 (.dic false (kks (T1.filter (· != k))))).set d2 (.dic false (kks (T2 ++ [k])))) := by
  have h1 := A.fa
  have h2 := A.f1
  have h3 := A.f2
  have hi := isIn_dic k A.f1
  have A1 := A.w1 (T1.filter (· != k))
  have A2 := A1.w2 (T2 ++ [k])
  have e1 := A1.fa
  have e2 := A1.f2
  have e3 := A2.fa
  have e4 := A2.f2
  have dg := dget_kks T1 k
  rw [if_pos c] at dg
  have dd := ddel_kks T1 k
  have dp := dput_kks c2
  have dg2 := dget_kks (T2 ++ [k]) k
  rw [if_pos (by simp)] at dg2
  simp only [List.map_append, List.map_cons, List.map_nil] at dp dg2 e3 e4
  have hl : T2.length < LL := by show T2.length < 16777216; omega
  rw [callN_s (F := f10) rfl]
  refine runF_of (o := .rt (.str k) _) rfl ?_
  simp [f10, b10, exB, exS, evE, evEs, evAnd, evOr, evAndT, evOrT, evIf, PyI.Out.of, PyI.Out.then, Res.bind, tst, Sl.var, stTg, stTgs, attrW, insAt, setAttrW, clsW, fget, fput, bmT, bmHas, bm, bi, mkL, binop, iop, lseq, truth, cmpop, index, atW, idxN, partR, partOf, sliceW, getW, setItemW, delItemW, nxO, callI, newI, W.isKey, stPT, stPTs, dicOf, Fn.args, Fn.start, cx_call, cx_glob, cx_init, cx_meth, cx_told, cx_fuel, walkK, walkOf, walkOne, walkVal, walkRange, walkEnum, walkDic, walkZip, LL, h1, h2, h3, hi, c, pg_init, pg_meth, meths, dg, dd, e1, e2, e3, e4, dp, dg2, hl]
theorem ad_get2 (A : AdAt h a d1 d2 g1 g2 most aim T1 T2 B1 B2) (c : k ∉ T1) (c2 : k ∈ T2) (l : T2.length < 1000) : callN pg (n + 1) 10 [.ref a, .str k] h =
    .ok (.str k, h.set d2 (.dic false (kks (T2.filter (· != k) ++ [k])))) := by
  have h1 := A.fa
  have h2 := A.f1
  have h3 := A.f2
  have hi := isIn_dic k A.f1
  have hi2 := isIn_dic k A.f2
  have A1 := fun T => A.w2 T
  have e1 := fun T => (A1 T).fa
  have e2 := fun T => (A1 T).f2
  have dg := dget_kks T2 k
  rw [if_pos c2] at dg
  have dd := ddel_kks T2 k
  have dp := dput_kks (filt_not k T2)
  have dg2 := dget_kks (T2.filter (· != k) ++ [k]) k
  rw [if_pos (by simp)] at dg2
  have e3 := e1 (T2.filter (· != k))
  have e4 := e2 (T2.filter (· != k))
  have e5 := e1 (T2.filter (· != k) ++ [k])
  have e6 := e2 (T2.filter (· != k) ++ [k])
  simp only [List.map_append, List.map_cons, List.map_nil] at dp dg2 e5 e6
  have hl : (T2.filter (· != k)).length < LL := Nat.lt_of_le_of_lt (List.length_filter_le _ _) (by show T2.length < 16777216; omega)
  rw [callN_s (F := f10) rfl]
  refine runF_of (o := .rt (.str k) _) rfl ?_
  simp [f10, b10, exB, exS, evE, evEs, evAnd, evOr, evAndT, evOrT, evIf, PyI.Out.of, PyI.Out.then, Res.bind, tst, Sl.var, stTg, stTgs, attrW, insAt, setAttrW, clsW, fget, fput, bmT, bmHas, bm, bi, mkL, binop, iop, lseq, truth, cmpop, index, atW, idxN, partR, partOf, sliceW, getW, setItemW, delItemW, nxO, callI, newI, W.isKey, stPT, stPTs, dicOf, Fn.args, Fn.start, cx_call, cx_glob, cx_init, cx_meth, cx_told, cx_fuel, walkK, walkOf, walkOne, walkVal, walkRange, walkEnum, walkDic, walkZip, LL, h1, h2, h3, hi, hi2, c, c2, pg_init, pg_meth, meths, dg, dd, e3, e4, e5, e6, dp, dg2, hl]
theorem ad_get3 (A : AdAt h a d1 d2 g1 g2 most aim T1 T2 B1 B2) (c : k ∉ T1) (c2 : k ∉ T2) : callN pg (n + 1) 10 [.ref a, .str k] h = .ok (.non, h) := by
  have h1 := A.fa
  have h2 := A.f1
  have h3 := A.f2
  have hi := isIn_dic k A.f1
  have hi2 := isIn_dic k A.f2
  have dg := dget_kks T2 k
  rw [if_neg c2] at dg
  rw [callN_s (F := f10) rfl]
  refine runF_of (o := .rt .non _) rfl ?_
  simp [f10, b10, exB, exS, evE, evEs, evAnd, evOr, evAndT, evOrT, evIf, PyI.Out.of, PyI.Out.then, Res.bind, tst, Sl.var, stTg, stTgs, attrW, insAt, setAttrW, clsW, fget, fput, bmT, bmHas, bm, bi, mkL, binop, iop, lseq, truth, cmpop, index, atW, idxN, partR, partOf, sliceW, getW, setItemW, delItemW, nxO, callI, newI, W.isKey, stPT, stPTs, dicOf, Fn.args, Fn.start, cx_call, cx_glob, cx_init, cx_meth, cx_told, cx_fuel, walkK, walkOf, walkOne, walkVal, walkRange, walkEnum, walkDic, walkZip, LL, h1, h2, h3, hi, hi2, c, c2, pg_init, pg_meth, meths, dg]
theorem ad_parts (A : AdAt h a d1 d2 g1 g2 most aim T1 T2 B1 B2) : callN pg (n + 1) 14 [.ref a] h = .ok (.tup [.tup (sts T1), .tup (sts T2), .tup (sts B1), .tup (sts B2)], h) := by
  have h1 := A.fa
  have h2 := A.f1
  have h3 := A.f2
  have h4 := A.b1
  have h5 := A.b2
  have e := keys_kks T1
  have e' := keys_kks T2
  simp only [List.map_map] at e e'
  rw [callN_s (F := f14) rfl]
  refine runF_of (o := .rt _ h) rfl ?_
  simp [f14, b14, exB, exS, evE, evEs, evAnd, evOr, evAndT, evOrT, evIf, PyI.Out.of, PyI.Out.then, Res.bind, tst, Sl.var, stTg, stTgs, attrW, insAt, setAttrW, clsW, fget, fput, bmT, bmHas, bm, bi, mkL, binop, iop, lseq, truth, cmpop, index, atW, idxN, partR, partOf, sliceW, getW, setItemW, delItemW, nxO, callI, newI, W.isKey, stPT, stPTs, dicOf, Fn.args, Fn.start, cx_call, cx_glob, cx_init, cx_meth, cx_told, cx_fuel, walkK, walkOf, walkOne, walkVal, walkRange, walkEnum, walkDic, walkZip, LL, h1, h2, h3, h4, h5, pg_init, pg_meth, meths, e, e']
/-! ### replace -/
abbrev isFirst (aim : Int) (ag : Bool) (T1 T2 : Ks) : Prop := (0 < T1.length ∧ ((T1.length : Int) > aim ∨ (ag = true ∧ (T1.length : Int) = aim))) ∨ T2 = []
/-- what goes; once, again, ghosts of both -/
def repl (most aim : Int) (ag : Bool) (T1 T2 B1 B2 : Ks) : Option (List Nat) × Ks × Ks × Ks × Ks := if (T1.length : Int) + T2.length < most then (none, T1, T2, B1, B2)
  else if isFirst aim ag T1 T2 then match T1 with
    | [] => (none, T1, T2, B1, B2)
    | x :: r => (some x, r, T2, B1 ++ [x], B2)
  else match T2 with
    | [] => (none, T1, T2, B1, B2)
    | x :: r => (some x, T1, r, B1, B2 ++ [x])
theorem eq_emp (A : h[d2]? = some (.dic false (kks T2))) : isEq (h ++ [.dic false []]) (.ref d2) (.ref h.length) = some (decide (T2 = [])) := by
  have l := (List.getElem?_eq_some_iff.mp A).1
  have a1 : dicAt (h ++ [.dic false []]) (.ref d2) = some (kks T2) := by simp only [dicAt, app_at A]
  have a2 : dicAt (h ++ [.dic false []]) (.ref h.length) = some [] := by simp only [dicAt, app_new]
  have a3 : PyI.sameRef (.ref d2) (.ref h.length) = false := by simp [PyI.sameRef]; omega
  have a4 : ∀ T : Ks, rdKV (h ++ [.dic false []]) (kks T) = some (kks T) := fun T => by
    induction T with
    | nil => rfl
    | cons x r ih => simp only [List.map_cons, kk, rdKV, rd_str] at ih ⊢; rw [ih]
  unfold isEq isEq0
  rw [a1, a2]
  dsimp only
  rw [a3]
  simp only [Bool.false_eq_true, if_false]
  rw [a4 T2, show rdKV (h ++ [.dic false []]) [] = some [] from rfl]
  dsimp only
  unfold eqKV
  cases T2 with
  | nil => simp
  | cons x r => simp
theorem sts_len (ks : Ks) : (sts ks).length = ks.length := List.length_map _
theorem repl_ok (A : AdAt h a d1 d2 g1 g2 most aim T1 T2 B1 B2) (ag : Bool) (hm : 1 ≤ most) (n1 : T1.Nodup) (n2 : T2.Nodup) (l3 : B1.length < 1000) (l4 : B2.length < 1000) :
    ∃ h', callN pg (n + 1) 13 [.ref a, .bl ag] h = .ok (oW (repl most aim ag T1 T2 B1 B2).1, h') ∧ AdAt h' a d1 d2 g1 g2 most aim (repl most aim ag T1 T2 B1 B2).2.1 (repl most aim ag T1 T2 B1 B2).2.2.1 (repl most aim ag T1 T2 B1 B2).2.2.2.1 (repl most aim ag T1 T2 B1 B2).2.2.2.2 ∧ Frame [d1, d2, g1, g2] h h' := by
  rw [callN_s (F := f13) rfl]
  have h1 := A.fa
  have h2 := A.f1
  have h3 := A.f2
  unfold repl
  by_cases c : (T1.length : Int) + T2.length < most
  · simp only [if_pos c]
    refine ⟨h, ?_, A, Frame.refl _ _⟩
    refine runF_of (o := .rt .non h) rfl ?_
    simp [f13, b13, exB, exS, evE, evEs, evAnd, evOr, evAndT, evOrT, evIf, PyI.Out.of, PyI.Out.then, Res.bind, tst, Sl.var, stTg, stTgs, attrW, insAt, setAttrW, clsW, fget, fput, bmT, bmHas, bm, bi, mkL, binop, iop, lseq, truth, cmpop, index, atW, idxN, partR, partOf, sliceW, getW, setItemW, delItemW, nxO, callI, newI, W.isKey, stPT, stPTs, dicOf, Fn.args, Fn.start, cx_call, cx_glob, cx_init, cx_meth, cx_told, cx_fuel, walkK, walkOf, walkOne, walkVal, walkRange, walkEnum, walkDic, walkZip, LL, h1, h2, h3, c, pg_init, pg_meth, meths]
  · simp only [if_neg c]
    obtain ⟨t, ht⟩ : ∃ t, tst (evE (pg.cx (callN pg n)) (.orT [(.andT [(.cmp .Gt (.var 2) (.lit (.int 0))), (.orT [(.cmp .Gt (.var 2) (.attr (.var 0) 7)), (.andT [(.var 1), (.cmp .Eq (.var 2) (.attr (.var 0) 7))])])]), (.cmp .Eq (.attr (.var 0) 9) (.dic []))]) [.v (.ref a), .v (.bl ag), .v (.int T1.length), .un] h) = .ok (decide (isFirst aim ag T1 T2), h ++ t) := by
      by_cases c1 : 0 < T1.length ∧ ((T1.length : Int) > aim ∨ (ag = true ∧ (T1.length : Int) = aim))
      · refine ⟨[], ?_⟩
        have : decide (isFirst aim ag T1 T2) = true := decide_eq_true (.inl c1)
        rw [this, List.append_nil]
        obtain ⟨p1, p2⟩ := c1
        rcases p2 with p2 | ⟨p2, p3⟩
        · simp [exB, exS, evE, evEs, evAnd, evOr, evAndT, evOrT, evIf, PyI.Out.of, PyI.Out.then, Res.bind, tst, Sl.var, stTg, stTgs, attrW, insAt, setAttrW, clsW, fget, fput, bmT, bmHas, bm, bi, mkL, binop, iop, lseq, truth, cmpop, index, atW, idxN, partR, partOf, sliceW, getW, setItemW, delItemW, nxO, callI, newI, W.isKey, stPT, stPTs, dicOf, Fn.args, Fn.start, cx_call, cx_glob, cx_init, cx_meth, cx_told, cx_fuel, walkK, walkOf, walkOne, walkVal, walkRange, walkEnum, walkDic, walkZip, LL, h1, pg_init, pg_meth, meths, p1, p2]
        · subst p2
          have p4 : 0 < aim := by omega
          simp [exB, exS, evE, evEs, evAnd, evOr, evAndT, evOrT, evIf, PyI.Out.of, PyI.Out.then, Res.bind, tst, Sl.var, stTg, stTgs, attrW, insAt, setAttrW, clsW, fget, fput, bmT, bmHas, bm, bi, mkL, binop, iop, lseq, truth, cmpop, index, atW, idxN, partR, partOf, sliceW, getW, setItemW, delItemW, nxO, callI, newI, W.isKey, stPT, stPTs, dicOf, Fn.args, Fn.start, cx_call, cx_glob, cx_init, cx_meth, cx_told, cx_fuel, walkK, walkOf, walkOne, walkVal, walkRange, walkEnum, walkDic, walkZip, LL, h1, pg_init, pg_meth, meths, p1, p3, p4, isEq_int]
      · refine ⟨[.dic false []], ?_⟩
        have : decide (isFirst aim ag T1 T2) = decide (T2 = []) := by
          unfold isFirst
          simp only [c1, false_or]
        rw [this]
        have ee := eq_emp h3
        by_cases p1 : 0 < T1.length
        · by_cases p2 : (T1.length : Int) > aim
          · exact absurd ⟨p1, .inl p2⟩ c1
          · by_cases p3 : ag = true
            · subst p3
              have p4 : ¬ (T1.length : Int) = aim := fun z => c1 ⟨p1, .inr ⟨rfl, z⟩⟩
              have p5 : ¬ aim < (T1.length : Int) := p2
              by_cases z : T2 = [] <;> simp [exB, exS, evE, evEs, evAnd, evOr, evAndT, evOrT, evIf, PyI.Out.of, PyI.Out.then, Res.bind, tst, Sl.var, stTg, stTgs, attrW, insAt, setAttrW, clsW, fget, fput, bmT, bmHas, bm, bi, mkL, binop, iop, lseq, truth, cmpop, index, atW, idxN, partR, partOf, sliceW, getW, setItemW, delItemW, nxO, callI, newI, W.isKey, stPT, stPTs, dicOf, Fn.args, Fn.start, cx_call, cx_glob, cx_init, cx_meth, cx_told, cx_fuel, walkK, walkOf, walkOne, walkVal, walkRange, walkEnum, walkDic, walkZip, LL, h1, pg_init, pg_meth, meths, p1, p5, p4, isEq_int, ee, z]
            · have p3 : ag = false := by simpa using p3
              subst p3
              have p5 : ¬ aim < (T1.length : Int) := p2
              by_cases z : T2 = [] <;> simp [exB, exS, evE, evEs, evAnd, evOr, evAndT, evOrT, evIf, PyI.Out.of, PyI.Out.then, Res.bind, tst, Sl.var, stTg, stTgs, attrW, insAt, setAttrW, clsW, fget, fput, bmT, bmHas, bm, bi, mkL, binop, iop, lseq, truth, cmpop, index, atW, idxN, partR, partOf, sliceW, getW, setItemW, delItemW, nxO, callI, newI, W.isKey, stPT, stPTs, dicOf, Fn.args, Fn.start, cx_call, cx_glob, cx_init, cx_meth, cx_told, cx_fuel, walkK, walkOf, walkOne, walkVal, walkRange, walkEnum, walkDic, walkZip, LL, h1, pg_init, pg_meth, meths, p1, p5, isEq_int, ee, z]
        · have p0 : T1.length = 0 := by omega
          by_cases z : T2 = [] <;> simp [exB, exS, evE, evEs, evAnd, evOr, evAndT, evOrT, evIf, PyI.Out.of, PyI.Out.then, Res.bind, tst, Sl.var, stTg, stTgs, attrW, insAt, setAttrW, clsW, fget, fput, bmT, bmHas, bm, bi, mkL, binop, iop, lseq, truth, cmpop, index, atW, idxN, partR, partOf, sliceW, getW, setItemW, delItemW, nxO, callI, newI, W.isKey, stPT, stPTs, dicOf, Fn.args, Fn.start, cx_call, cx_glob, cx_init, cx_meth, cx_told, cx_fuel, walkK, walkOf, walkOne, walkVal, walkRange, walkEnum, walkDic, walkZip, LL, h1, pg_init, pg_meth, meths, p0, ee, z]
    have A' := A.app t
    have fr : Frame [d1, d2, g1, g2] h (h ++ t) := (Frame.refl _ h).app t
    simp only [f13, b13]
    generalize E.orT [(.andT [(.cmp .Gt (.var 2) (.lit (.int 0))), (.orT [(.cmp .Gt (.var 2) (.attr (.var 0) 7)), (.andT [(.var 1), (.cmp .Eq (.var 2) (.attr (.var 0) 7))])])]), (.cmp .Eq (.attr (.var 0) 9) (.dic []))] = CE at ht ⊢
    generalize h ++ t = hh at ht A' fr
    have s1 : exS (pg.cx (callN pg n)) (.ite (.cmp .Lt (.bin false .Add (.bi .len false [(.attr (.var 0) 8)]) (.bi .len false [(.attr (.var 0) 9)])) (.attr (.var 0) 0)) [.ret [(.lit (.non))]] []) [.v (.ref a), .v (.bl ag), .un, .un] h = .nx [.v (.ref a), .v (.bl ag), .un, .un] h := by
      simp [exB, exS, evE, evEs, evAnd, evOr, evAndT, evOrT, evIf, PyI.Out.of, PyI.Out.then, Res.bind, tst, Sl.var, stTg, stTgs, attrW, insAt, setAttrW, clsW, fget, fput, bmT, bmHas, bm, bi, mkL, binop, iop, lseq, truth, cmpop, index, atW, idxN, partR, partOf, sliceW, getW, setItemW, delItemW, nxO, callI, newI, W.isKey, stPT, stPTs, dicOf, Fn.args, Fn.start, cx_call, cx_glob, cx_init, cx_meth, cx_told, cx_fuel, walkK, walkOf, walkOne, walkVal, walkRange, walkEnum, walkDic, walkZip, LL, h1, h2, h3, pg_init, pg_meth, meths, c]
    have s2 : exS (pg.cx (callN pg n)) (.asg (.one 2) (.bi .len false [(.attr (.var 0) 8)])) [.v (.ref a), .v (.bl ag), .un, .un] h = .nx [.v (.ref a), .v (.bl ag), .v (.int T1.length), .un] h := by
      simp [exB, exS, evE, evEs, evAnd, evOr, evAndT, evOrT, evIf, PyI.Out.of, PyI.Out.then, Res.bind, tst, Sl.var, stTg, stTgs, attrW, insAt, setAttrW, clsW, fget, fput, bmT, bmHas, bm, bi, mkL, binop, iop, lseq, truth, cmpop, index, atW, idxN, partR, partOf, sliceW, getW, setItemW, delItemW, nxO, callI, newI, W.isKey, stPT, stPTs, dicOf, Fn.args, Fn.start, cx_call, cx_glob, cx_init, cx_meth, cx_told, cx_fuel, walkK, walkOf, walkOne, walkVal, walkRange, walkEnum, walkDic, walkZip, LL, h1, h2, h3, pg_init, pg_meth, meths]
    have k1 := A'.fa
    have k2 := A'.f1
    have k3 := A'.f2
    by_cases cf : isFirst aim ag T1 T2
    · simp only [if_pos cf]
      rw [decide_eq_true cf] at ht
      cases T1 with
      | nil =>
        rcases cf with ⟨z, _⟩ | z
        · simp at z
        · subst z; simp at c; omega
      | cons x r =>
        have nx : x ∉ r := (List.nodup_cons.mp n1).1
        have dd := ddel_kks (x :: r) x
        rw [filt_head nx] at dd
        have dg := dget_kks (x :: r) x
        simp only [List.mem_cons, true_or, if_true] at dg
        have A1 := A'.w1 r
        have A2 := A1.w3 (B1 ++ [x])
        have q1 := A1.fa
        have q2 := A1.b1
        refine ⟨_, ?_, A2, (fr.set (.inl (by simp)) _).set (.inl (by simp)) _⟩
        refine runF_of (o := .rt (.str x) _) rfl ?_
        show exB _ (_ :: _ :: _) [.v (.ref a), .v (.bl ag), .un, .un] h = _
        rw [exB_nx s1, exB_nx s2, exB_cons, exS_ite ht]
        have lb : B1.length < LL := by show B1.length < 16777216; omega
        simp only [List.map_cons, kk] at dd dg k2
        simp [exB, exS, evE, evEs, evAnd, evOr, evAndT, evOrT, evIf, PyI.Out.of, PyI.Out.then, Res.bind, tst, Sl.var, stTg, stTgs, attrW, insAt, setAttrW, clsW, fget, fput, bmT, bmHas, bm, bi, mkL, binop, iop, lseq, truth, cmpop, index, atW, idxN, partR, partOf, sliceW, getW, setItemW, delItemW, nxO, callI, newI, W.isKey, stPT, stPTs, dicOf, Fn.args, Fn.start, cx_call, cx_glob, cx_init, cx_meth, cx_told, cx_fuel, walkK, walkOf, walkOne, walkVal, walkRange, walkEnum, walkDic, walkZip, LL, k1, k2, k3, pg_init, pg_meth, meths, kk, dd, dg, q1, q2, lb]
    · simp only [if_neg cf]
      rw [decide_eq_false cf] at ht
      cases T2 with
      | nil => exact absurd (.inr rfl) cf
      | cons x r =>
        have nx : x ∉ r := (List.nodup_cons.mp n2).1
        have dd := ddel_kks (x :: r) x
        rw [filt_head nx] at dd
        have dg := dget_kks (x :: r) x
        simp only [List.mem_cons, true_or, if_true] at dg
        have A1 := A'.w2 r
        have A2 := A1.w4 (B2 ++ [x])
        have q1 := A1.fa
        have q2 := A1.b2
        refine ⟨_, ?_, A2, (fr.set (.inl (by simp)) _).set (.inl (by simp)) _⟩
        refine runF_of (o := .rt (.str x) _) rfl ?_
        show exB _ (_ :: _ :: _) [.v (.ref a), .v (.bl ag), .un, .un] h = _
        rw [exB_nx s1, exB_nx s2, exB_cons, exS_ite ht]
        have lb : B2.length < LL := by show B2.length < 16777216; omega
        simp only [List.map_cons, kk] at dd dg k3
        simp [exB, exS, evE, evEs, evAnd, evOr, evAndT, evOrT, evIf, PyI.Out.of, PyI.Out.then, Res.bind, tst, Sl.var, stTg, stTgs, attrW, insAt, setAttrW, clsW, fget, fput, bmT, bmHas, bm, bi, mkL, binop, iop, lseq, truth, cmpop, index, atW, idxN, partR, partOf, sliceW, getW, setItemW, delItemW, nxO, callI, newI, W.isKey, stPT, stPTs, dicOf, Fn.args, Fn.start, cx_call, cx_glob, cx_init, cx_meth, cx_told, cx_fuel, walkK, walkOf, walkOne, walkVal, walkRange, walkEnum, walkDic, walkZip, LL, k1, k2, k3, pg_init, pg_meth, meths, kk, dd, dg, q1, q2, lb]
end
end K05

set_option linter.all false
set_option maxRecDepth 100000
set_option maxHeartbeats 4000000
/-! K05f: put of the one that learns. -/
namespace K05
open PySem PyI
def aimUp (most aim : Int) (B1 B2 : Ks) : Int := minI most (aim + maxI 1 ((B2.length : Int) / B1.length))
def aimDn (aim : Int) (B1 B2 : Ks) : Int := maxI 0 (aim - maxI 1 ((B1.length : Int) / B2.length))
/-- what goes, and what then stands -/
structure AS where
  g : Option (List Nat)
  aim : Int
  t1 : Ks
  t2 : Ks
  b1 : Ks
  b2 : Ks
def reS (most aim : Int) (ag : Bool) (T1 T2 B1 B2 : Ks) : AS := ⟨(repl most aim ag T1 T2 B1 B2).1, aim, (repl most aim ag T1 T2 B1 B2).2.1, (repl most aim ag T1 T2 B1 B2).2.2.1, (repl most aim ag T1 T2 B1 B2).2.2.2.1, (repl most aim ag T1 T2 B1 B2).2.2.2.2⟩
def adPut (most aim : Int) (T1 T2 B1 B2 : Ks) (k : List Nat) : AS :=
  if k ∈ B1 then { reS most (aimUp most aim B1 B2) false T1 T2 B1 B2 with t2 := (reS most (aimUp most aim B1 B2) false T1 T2 B1 B2).t2 ++ [k], b1 := (reS most (aimUp most aim B1 B2) false T1 T2 B1 B2).b1.filter (· != k) }
  else if k ∈ B2 then { reS most (aimDn aim B1 B2) true T1 T2 B1 B2 with t2 := (reS most (aimDn aim B1 B2) true T1 T2 B1 B2).t2 ++ [k], b2 := (reS most (aimDn aim B1 B2) true T1 T2 B1 B2).b2.filter (· != k) }
  else if (T1.length : Int) + B1.length ≥ most then
    if (T1.length : Int) < most then { reS most aim false T1 T2 B1.tail B2 with t1 := (reS most aim false T1 T2 B1.tail B2).t1 ++ [k] }
    else match T1 with
      | [] => ⟨none, aim, [k], T2, B1, B2⟩
      | x :: r => ⟨some x, aim, r ++ [k], T2, B1, B2⟩
  else if (T1.length : Int) + B1.length + T2.length + B2.length ≥ most then
    if (T1.length : Int) + B1.length + T2.length + B2.length ≥ 2 * most then { reS most aim false T1 T2 B1 B2.tail with t1 := (reS most aim false T1 T2 B1 B2.tail).t1 ++ [k] }
    else { reS most aim false T1 T2 B1 B2 with t1 := (reS most aim false T1 T2 B1 B2).t1 ++ [k] }
  else ⟨none, aim, T1 ++ [k], T2, B1, B2⟩
section
variable {n : Nat} {h : Hc} {a d1 d2 g1 g2 w : Nat} {most aim : Int} {T1 T2 B1 B2 : Ks} {k : List Nat}
theorem reS_ok (A : AdAt h a d1 d2 g1 g2 most aim T1 T2 B1 B2) (ag : Bool) (hm : 1 ≤ most) (n1 : T1.Nodup) (n2 : T2.Nodup) (l3 : B1.length < 1000) (l4 : B2.length < 1000) :
    ∃ h', callN pg (n + 1) 13 [.ref a, .bl ag] h = .ok (oW (reS most aim ag T1 T2 B1 B2).g, h') ∧ AdAt h' a d1 d2 g1 g2 most (reS most aim ag T1 T2 B1 B2).aim (reS most aim ag T1 T2 B1 B2).t1 (reS most aim ag T1 T2 B1 B2).t2 (reS most aim ag T1 T2 B1 B2).b1 (reS most aim ag T1 T2 B1 B2).b2 ∧ Frame [d1, d2, g1, g2] h h' := repl_ok A ag hm n1 n2 l3 l4
theorem small_log {n : Nat} (h : n < 1000) : Nat.log2 n < 9000 := by
  have := log2_small (a := n) (n := 10) (by omega)
  omega
theorem ad_ghost2 (A : AdAt h a d1 d2 g1 g2 most aim T1 T2 B1 B2) (hm : 1 ≤ most) (n1 : T1.Nodup) (n2 : T2.Nodup) (l3 : B1.length < 1000) (l4 : B2.length < 1000) (c : k ∈ B2) :
    ∃ h' g2', callN pg (n + 2) 12 [.ref a, .str k] h = .ok (oW (reS most (aimDn aim B1 B2) true T1 T2 B1 B2).g, h') ∧ AdAt h' a d1 d2 g1 g2' most (aimDn aim B1 B2) (reS most (aimDn aim B1 B2) true T1 T2 B1 B2).t1 (reS most (aimDn aim B1 B2) true T1 T2 B1 B2).t2 (reS most (aimDn aim B1 B2) true T1 T2 B1 B2).b1 ((reS most (aimDn aim B1 B2) true T1 T2 B1 B2).b2.filter (· != k)) ∧ Frame [a, d1, d2, g1, g2] h h' ∧ h.length ≤ g2' := by
  rw [callN_s (F := f12) rfl]
  have h1 := A.fa
  have h2 := A.b1
  have h3 := A.b2
  have hi := isIn_hl k A.b2
  have p0 : 0 < B2.length := by cases B2 with | nil => cases c | cons x r => simp
  have p1 : (0 : Int) < B2.length := by omega
  have lg := small_log l4
  have A1 := A.wa (aimDn aim B1 B2)
  obtain ⟨h', e, A2, fr⟩ := reS_ok (n := n) A1 true hm n1 n2 l3 l4
  generalize hS : reS most (aimDn aim B1 B2) true T1 T2 B1 B2 = S at e A2 ⊢
  have ea : S.aim = aimDn aim B1 B2 := by rw [← hS]; rfl
  rw [ea] at A2
  have fr2 : Frame [a, d1, d2, g1, g2] h h' := ((Frame.refl _ h).set (.inl (by simp)) _).trans ((fr.to fun b hb => .inl (List.mem_cons_of_mem _ hb)))
  have A3 := A2.n2 (S.b2.filter (· != k))
  have e1 := ev_neH (X := pg.cx (callN pg (n + 1))) (e := .attr (.var 0) 11) (i := 6) (j := 1) (b := g2) (σ := [.v (.ref a), .v (.str k), .v (.int B1.length), .v (.int B2.length), .v (.bl true), .v (oW S.g), .un]) (h := h') (ks := S.b2) (k := k) A2.b2 (fun lk => by
    have z := (set_ne (CO.lst lk (sts S.b2)) A2.ne.n4.symm).trans A2.fa
    simp [exB, exS, evE, evEs, evAnd, evOr, evAndT, evOrT, evIf, PyI.Out.of, PyI.Out.then, Res.bind, tst, Sl.var, stTg, stTgs, attrW, insAt, setAttrW, clsW, fget, fput, bmT, bmHas, bm, bi, mkL, binop, iop, lseq, truth, cmpop, index, atW, idxN, partR, partOf, sliceW, getW, setItemW, delItemW, nxO, callI, newI, W.isKey, stPT, stPTs, dicOf, Fn.args, Fn.start, cx_call, cx_glob, cx_init, cx_meth, cx_told, cx_fuel, walkK, walkOf, walkOne, walkVal, walkRange, walkEnum, walkDic, walkZip, LL, z, pg_init, pg_meth, meths]) (by simp) (by decide) rfl
  refine ⟨_, _, ?_, A3, (fr2.app _).set (.inl (by simp)) _, fr2.len⟩
  refine runF_of (o := .rt (oW S.g) _) rfl ?_
  simp only [f12, b12]
  generalize E.lc true [6] (.one 6) .val [(.attr (.var 0) 11)] [(.cmp .NotEq (.var 6) (.var 1))] (.var 6) = L at e1 ⊢
  generalize E.lc true [6] (.one 6) .val [(.attr (.var 0) 10)] [(.cmp .NotEq (.var 6) (.var 1))] (.var 6) = L2
  have e0 := app_at A2.fa [CO.lst false (sts (S.b2.filter (· != k)))]
  simp [exB, exS, evE, evEs, evAnd, evOr, evAndT, evOrT, evIf, PyI.Out.of, PyI.Out.then, Res.bind, tst, Sl.var, stTg, stTgs, attrW, insAt, setAttrW, clsW, fget, fput, bmT, bmHas, bm, bi, mkL, binop, iop, lseq, truth, cmpop, index, atW, idxN, partR, partOf, sliceW, getW, setItemW, delItemW, nxO, callI, newI, W.isKey, stPT, stPTs, dicOf, Fn.args, Fn.start, cx_call, cx_glob, cx_init, cx_meth, cx_told, cx_fuel, walkK, walkOf, walkOne, walkVal, walkRange, walkEnum, walkDic, walkZip, LL, h1, h2, h3, hi, c, p0, p1, lg, pg_init, pg_meth, meths]
  unfold aimDn at e
  rw [set_at h1]
  simp [e, e1, e0, pg_init, pg_meth, meths, exB, exS, evE, evEs, evAnd, evOr, evAndT, evOrT, evIf, PyI.Out.of, PyI.Out.then, Res.bind, tst, Sl.var, stTg, stTgs, attrW, insAt, setAttrW, clsW, fget, fput, bmT, bmHas, bm, bi, mkL, binop, iop, lseq, truth, cmpop, index, atW, idxN, partR, partOf, sliceW, getW, setItemW, delItemW, nxO, callI, newI, W.isKey, stPT, stPTs, dicOf, Fn.args, Fn.start, cx_call, cx_glob, cx_init, cx_meth, cx_told, cx_fuel, walkK, walkOf, walkOne, walkVal, walkRange, walkEnum, walkDic, walkZip, LL]
theorem ad_ghost1 (A : AdAt h a d1 d2 g1 g2 most aim T1 T2 B1 B2) (hm : 1 ≤ most) (n1 : T1.Nodup) (n2 : T2.Nodup) (l3 : B1.length < 1000) (l4 : B2.length < 1000) (c : k ∈ B1) (c2 : k ∉ B2) :
    ∃ h' g1', callN pg (n + 2) 12 [.ref a, .str k] h = .ok (oW (reS most (aimUp most aim B1 B2) false T1 T2 B1 B2).g, h') ∧ AdAt h' a d1 d2 g1' g2 most (aimUp most aim B1 B2) (reS most (aimUp most aim B1 B2) false T1 T2 B1 B2).t1 (reS most (aimUp most aim B1 B2) false T1 T2 B1 B2).t2 ((reS most (aimUp most aim B1 B2) false T1 T2 B1 B2).b1.filter (· != k)) (reS most (aimUp most aim B1 B2) false T1 T2 B1 B2).b2 ∧ Frame [a, d1, d2, g1, g2] h h' ∧ h.length ≤ g1' := by
  rw [callN_s (F := f12) rfl]
  have h1 := A.fa
  have h2 := A.b1
  have h3 := A.b2
  have hi := isIn_hl k A.b2
  have p0 : 0 < B1.length := by cases B1 with | nil => cases c | cons x r => simp
  have p1 : (0 : Int) < B1.length := by omega
  have lg := small_log l3
  have A1 := A.wa (aimUp most aim B1 B2)
  obtain ⟨h', e, A2, fr⟩ := reS_ok (n := n) A1 false hm n1 n2 l3 l4
  generalize hS : reS most (aimUp most aim B1 B2) false T1 T2 B1 B2 = S at e A2 ⊢
  have ea : S.aim = aimUp most aim B1 B2 := by rw [← hS]; rfl
  rw [ea] at A2
  have fr2 : Frame [a, d1, d2, g1, g2] h h' := ((Frame.refl _ h).set (.inl (by simp)) _).trans ((fr.to fun b hb => .inl (List.mem_cons_of_mem _ hb)))
  have A3 := A2.n1 (S.b1.filter (· != k))
  have e1 := ev_neH (X := pg.cx (callN pg (n + 1))) (e := .attr (.var 0) 10) (i := 6) (j := 1) (b := g1) (σ := [.v (.ref a), .v (.str k), .v (.int B1.length), .v (.int B2.length), .v (.bl false), .v (oW S.g), .un]) (h := h') (ks := S.b1) (k := k) A2.b1 (fun lk => by
    have z := (set_ne (CO.lst lk (sts S.b1)) A2.ne.n3.symm).trans A2.fa
    simp [exB, exS, evE, evEs, evAnd, evOr, evAndT, evOrT, evIf, PyI.Out.of, PyI.Out.then, Res.bind, tst, Sl.var, stTg, stTgs, attrW, insAt, setAttrW, clsW, fget, fput, bmT, bmHas, bm, bi, mkL, binop, iop, lseq, truth, cmpop, index, atW, idxN, partR, partOf, sliceW, getW, setItemW, delItemW, nxO, callI, newI, W.isKey, stPT, stPTs, dicOf, Fn.args, Fn.start, cx_call, cx_glob, cx_init, cx_meth, cx_told, cx_fuel, walkK, walkOf, walkOne, walkVal, walkRange, walkEnum, walkDic, walkZip, LL, z, pg_init, pg_meth, meths]) (by simp) (by decide) rfl
  refine ⟨_, _, ?_, A3, (fr2.app _).set (.inl (by simp)) _, fr2.len⟩
  refine runF_of (o := .rt (oW S.g) _) rfl ?_
  simp only [f12, b12]
  generalize E.lc true [6] (.one 6) .val [(.attr (.var 0) 10)] [(.cmp .NotEq (.var 6) (.var 1))] (.var 6) = L at e1 ⊢
  generalize E.lc true [6] (.one 6) .val [(.attr (.var 0) 11)] [(.cmp .NotEq (.var 6) (.var 1))] (.var 6) = L2
  have e0 := app_at A2.fa [CO.lst false (sts (S.b1.filter (· != k)))]
  simp [exB, exS, evE, evEs, evAnd, evOr, evAndT, evOrT, evIf, PyI.Out.of, PyI.Out.then, Res.bind, tst, Sl.var, stTg, stTgs, attrW, insAt, setAttrW, clsW, fget, fput, bmT, bmHas, bm, bi, mkL, binop, iop, lseq, truth, cmpop, index, atW, idxN, partR, partOf, sliceW, getW, setItemW, delItemW, nxO, callI, newI, W.isKey, stPT, stPTs, dicOf, Fn.args, Fn.start, cx_call, cx_glob, cx_init, cx_meth, cx_told, cx_fuel, walkK, walkOf, walkOne, walkVal, walkRange, walkEnum, walkDic, walkZip, LL, h1, h2, h3, hi, c2, p0, p1, lg, pg_init, pg_meth, meths]
  unfold aimUp at e
  rw [set_at h1]
  simp [e, e1, e0, pg_init, pg_meth, meths, exB, exS, evE, evEs, evAnd, evOr, evAndT, evOrT, evIf, PyI.Out.of, PyI.Out.then, Res.bind, tst, Sl.var, stTg, stTgs, attrW, insAt, setAttrW, clsW, fget, fput, bmT, bmHas, bm, bi, mkL, binop, iop, lseq, truth, cmpop, index, atW, idxN, partR, partOf, sliceW, getW, setItemW, delItemW, nxO, callI, newI, W.isKey, stPT, stPTs, dicOf, Fn.args, Fn.start, cx_call, cx_glob, cx_init, cx_meth, cx_told, cx_fuel, walkK, walkOf, walkOne, walkVal, walkRange, walkEnum, walkDic, walkZip, LL]
theorem reS_sub {ag : Bool} : (∀ x ∈ (reS most aim ag T1 T2 B1 B2).t1, x ∈ T1) ∧ (∀ x ∈ (reS most aim ag T1 T2 B1 B2).t2, x ∈ T2) ∧ (reS most aim ag T1 T2 B1 B2).t1.length ≤ T1.length ∧ (reS most aim ag T1 T2 B1 B2).t2.length ≤ T2.length := by
  unfold reS repl
  dsimp only
  split
  · exact ⟨fun _ h => h, fun _ h => h, Nat.le_refl _, Nat.le_refl _⟩
  · split
    · cases T1 with
      | nil => exact ⟨fun _ h => h, fun _ h => h, Nat.le_refl _, Nat.le_refl _⟩
      | cons x r => exact ⟨fun _ h => List.mem_cons_of_mem _ h, fun _ h => h, Nat.le_succ _, Nat.le_refl _⟩
    · cases T2 with
      | nil => exact ⟨fun _ h => h, fun _ h => h, Nat.le_refl _, Nat.le_refl _⟩
      | cons x r => exact ⟨fun _ h => h, fun _ h => List.mem_cons_of_mem _ h, Nat.le_refl _, Nat.le_succ _⟩
theorem tail_len (ks : Ks) : ks.tail.length ≤ ks.length := by simp
theorem ct (ks : Ks) : cut (sts ks) (some 1) none = sts ks.tail := by rw [cut_tail]; exact (List.map_tail).symm
/-- a new key: put -/
theorem ad_put (A : AdAt h a d1 d2 g1 g2 most aim T1 T2 B1 B2) (hm : 1 ≤ most) (n1 : T1.Nodup) (n2 : T2.Nodup) (l1 : T1.length < 900) (l2 : T2.length < 900) (l3 : B1.length < 900) (l4 : B2.length < 900) (c1 : k ∉ T1) (c2 : k ∉ T2) (dj : k ∈ B1 → k ∉ B2) :
    ∃ h' g1' g2', callN pg (n + 3) 11 [.ref a, .str k, .str k] h = .ok (oW (adPut most aim T1 T2 B1 B2 k).g, h') ∧ AdAt h' a d1 d2 g1' g2' most (adPut most aim T1 T2 B1 B2 k).aim (adPut most aim T1 T2 B1 B2 k).t1 (adPut most aim T1 T2 B1 B2 k).t2 (adPut most aim T1 T2 B1 B2 k).b1 (adPut most aim T1 T2 B1 B2 k).b2 ∧
      Frame [a, d1, d2, g1, g2] h h' ∧ (g1' = g1 ∨ h.length ≤ g1') ∧ (g2' = g2 ∨ h.length ≤ g2') := by
  rw [callN_s (F := f11) rfl]
  have h1 := A.fa
  have h2 := A.f1
  have h3 := A.f2
  have h4 := A.b1
  have h5 := A.b2
  have i1 := isIn_dic k A.f1
  have i2 := isIn_dic k A.f2
  have i3 := isIn_hl k A.b1
  have i4 := isIn_hl k A.b2
  have s0 : exS (pg.cx (callN pg (n + 2))) (.ite (.orT [(.cmp .In (.var 1) (.attr (.var 0) 8)), (.cmp .In (.var 1) (.attr (.var 0) 9))]) [.asg (.one 5) (.ifx (.cmp .In (.var 1) (.attr (.var 0) 8)) (.attr (.var 0) 8) (.attr (.var 0) 9)), .setSub (.var 5) (.var 1) (.var 2), .expr (.meth (.var 0) 12 [(.var 1)]), .ret [(.lit (.non))]] []) [.v (.ref a), .v (.str k), .v (.str k), .un, .un, .un] h = .nx [.v (.ref a), .v (.str k), .v (.str k), .un, .un, .un] h := by
    simp [exB, exS, evE, evEs, evAnd, evOr, evAndT, evOrT, evIf, PyI.Out.of, PyI.Out.then, Res.bind, tst, Sl.var, stTg, stTgs, attrW, insAt, setAttrW, clsW, fget, fput, bmT, bmHas, bm, bi, mkL, binop, iop, lseq, truth, cmpop, index, atW, idxN, partR, partOf, sliceW, getW, setItemW, delItemW, nxO, callI, newI, W.isKey, stPT, stPTs, dicOf, Fn.args, Fn.start, cx_call, cx_glob, cx_init, cx_meth, cx_told, cx_fuel, walkK, walkOf, walkOne, walkVal, walkRange, walkEnum, walkDic, walkZip, LL, h1, i1, i2, c1, c2, pg_init, pg_meth, meths]
  have s1 : exS (pg.cx (callN pg (n + 2))) (.asg (.one 3) (.lit (.non))) [.v (.ref a), .v (.str k), .v (.str k), .un, .un, .un] h = .nx [.v (.ref a), .v (.str k), .v (.str k), .v .non, .un, .un] h := by
    simp [exB, exS, evE, evEs, evAnd, evOr, evAndT, evOrT, evIf, PyI.Out.of, PyI.Out.then, Res.bind, tst, Sl.var, stTg, stTgs, attrW, insAt, setAttrW, clsW, fget, fput, bmT, bmHas, bm, bi, mkL, binop, iop, lseq, truth, cmpop, index, atW, idxN, partR, partOf, sliceW, getW, setItemW, delItemW, nxO, callI, newI, W.isKey, stPT, stPTs, dicOf, Fn.args, Fn.start, cx_call, cx_glob, cx_init, cx_meth, cx_told, cx_fuel, walkK, walkOf, walkOne, walkVal, walkRange, walkEnum, walkDic, walkZip, LL]
  unfold adPut
  by_cases cb1 : k ∈ B1
  · simp only [if_pos cb1]
    obtain ⟨h', g1', e, A2, fr, lg⟩ := ad_ghost1 (n := n) A hm n1 n2 (by omega) (by omega) cb1 (dj cb1)
    obtain ⟨u1, u2, u3, u4⟩ := reS_sub (most := most) (aim := aimUp most aim B1 B2) (ag := false) (T1 := T1) (T2 := T2) (B1 := B1) (B2 := B2)
    have ea : (reS most (aimUp most aim B1 B2) false T1 T2 B1 B2).aim = aimUp most aim B1 B2 := rfl
    generalize reS most (aimUp most aim B1 B2) false T1 T2 B1 B2 = S at *
    have A3 := A2.w2 (S.t2 ++ [k])
    rw [← ea] at A3
    have dp := dput_kks (ks := S.t2) (k := k) (fun z => c2 (u2 k z))
    simp only [List.map_append, List.map_cons, List.map_nil] at dp
    have k1 := A2.fa
    have k2 := A2.f2
    have hl : S.t2.length < LL := by show S.t2.length < 16777216; omega
    refine ⟨_, g1', g2, ?_, A3, fr.set (.inl (by simp)) _, .inr lg, .inl rfl⟩
    refine runF_of (o := .rt (oW S.g) _) rfl ?_
    show exB _ (_ :: _ :: _) [.v (.ref a), .v (.str k), .v (.str k), .un, .un, .un] h = _
    rw [exB_nx s0, exB_nx s1]
    simp [exB, exS, evE, evEs, evAnd, evOr, evAndT, evOrT, evIf, PyI.Out.of, PyI.Out.then, Res.bind, tst, Sl.var, stTg, stTgs, attrW, insAt, setAttrW, clsW, fget, fput, bmT, bmHas, bm, bi, mkL, binop, iop, lseq, truth, cmpop, index, atW, idxN, partR, partOf, sliceW, getW, setItemW, delItemW, nxO, callI, newI, W.isKey, stPT, stPTs, dicOf, Fn.args, Fn.start, cx_call, cx_glob, cx_init, cx_meth, cx_told, cx_fuel, walkK, walkOf, walkOne, walkVal, walkRange, walkEnum, walkDic, walkZip, LL, h1, i3, cb1, pg_init, pg_meth, meths, e, k1, k2, dp, hl]
  · simp only [if_neg cb1]
    by_cases cb2 : k ∈ B2
    · simp only [if_pos cb2]
      obtain ⟨h', g2', e, A2, fr, lg⟩ := ad_ghost2 (n := n) A hm n1 n2 (by omega) (by omega) cb2
      obtain ⟨u1, u2, u3, u4⟩ := reS_sub (most := most) (aim := aimDn aim B1 B2) (ag := true) (T1 := T1) (T2 := T2) (B1 := B1) (B2 := B2)
      have ea : (reS most (aimDn aim B1 B2) true T1 T2 B1 B2).aim = aimDn aim B1 B2 := rfl
      generalize reS most (aimDn aim B1 B2) true T1 T2 B1 B2 = S at *
      have A3 := A2.w2 (S.t2 ++ [k])
      rw [← ea] at A3
      have dp := dput_kks (ks := S.t2) (k := k) (fun z => c2 (u2 k z))
      simp only [List.map_append, List.map_cons, List.map_nil] at dp
      have k1 := A2.fa
      have k2 := A2.f2
      have hl : S.t2.length < LL := by show S.t2.length < 16777216; omega
      refine ⟨_, g1, g2', ?_, A3, fr.set (.inl (by simp)) _, .inl rfl, .inr lg⟩
      refine runF_of (o := .rt (oW S.g) _) rfl ?_
      show exB _ (_ :: _ :: _) [.v (.ref a), .v (.str k), .v (.str k), .un, .un, .un] h = _
      rw [exB_nx s0, exB_nx s1]
      simp [exB, exS, evE, evEs, evAnd, evOr, evAndT, evOrT, evIf, PyI.Out.of, PyI.Out.then, Res.bind, tst, Sl.var, stTg, stTgs, attrW, insAt, setAttrW, clsW, fget, fput, bmT, bmHas, bm, bi, mkL, binop, iop, lseq, truth, cmpop, index, atW, idxN, partR, partOf, sliceW, getW, setItemW, delItemW, nxO, callI, newI, W.isKey, stPT, stPTs, dicOf, Fn.args, Fn.start, cx_call, cx_glob, cx_init, cx_meth, cx_told, cx_fuel, walkK, walkOf, walkOne, walkVal, walkRange, walkEnum, walkDic, walkZip, LL, h1, i3, i4, cb1, cb2, pg_init, pg_meth, meths, e, k1, k2, dp, hl]
    · simp only [if_neg cb2]
      have s2 : exS (pg.cx (callN pg (n + 2))) (.ite (.orT [(.cmp .In (.var 1) (.attr (.var 0) 10)), (.cmp .In (.var 1) (.attr (.var 0) 11))]) [.asg (.one 3) (.meth (.var 0) 13 [(.var 1)]), .setSub (.attr (.var 0) 9) (.var 1) (.var 2), .ret [(.var 3)]] []) [.v (.ref a), .v (.str k), .v (.str k), .v .non, .un, .un] h = .nx [.v (.ref a), .v (.str k), .v (.str k), .v .non, .un, .un] h := by
        simp [exB, exS, evE, evEs, evAnd, evOr, evAndT, evOrT, evIf, PyI.Out.of, PyI.Out.then, Res.bind, tst, Sl.var, stTg, stTgs, attrW, insAt, setAttrW, clsW, fget, fput, bmT, bmHas, bm, bi, mkL, binop, iop, lseq, truth, cmpop, index, atW, idxN, partR, partOf, sliceW, getW, setItemW, delItemW, nxO, callI, newI, W.isKey, stPT, stPTs, dicOf, Fn.args, Fn.start, cx_call, cx_glob, cx_init, cx_meth, cx_told, cx_fuel, walkK, walkOf, walkOne, walkVal, walkRange, walkEnum, walkDic, walkZip, LL, h1, i3, i4, cb1, cb2, pg_init, pg_meth, meths]
      have s3 : exS (pg.cx (callN pg (n + 2))) (.asg (.one 4) (.bin false .Add (.bi .len false [(.attr (.var 0) 8)]) (.bi .len false [(.attr (.var 0) 10)]))) [.v (.ref a), .v (.str k), .v (.str k), .v .non, .un, .un] h = .nx [.v (.ref a), .v (.str k), .v (.str k), .v .non, .v (.int ((T1.length : Int) + B1.length)), .un] h := by
        simp [exB, exS, evE, evEs, evAnd, evOr, evAndT, evOrT, evIf, PyI.Out.of, PyI.Out.then, Res.bind, tst, Sl.var, stTg, stTgs, attrW, insAt, setAttrW, clsW, fget, fput, bmT, bmHas, bm, bi, mkL, binop, iop, lseq, truth, cmpop, index, atW, idxN, partR, partOf, sliceW, getW, setItemW, delItemW, nxO, callI, newI, W.isKey, stPT, stPTs, dicOf, Fn.args, Fn.start, cx_call, cx_glob, cx_init, cx_meth, cx_told, cx_fuel, walkK, walkOf, walkOne, walkVal, walkRange, walkEnum, walkDic, walkZip, LL, h1, h2, h4, pg_init, pg_meth, meths]
      have fin : ∀ (S : AS) (h' : Hc) (g1' g2' : Nat), AdAt h' a d1 d2 g1' g2' most S.aim S.t1 S.t2 S.b1 S.b2 → k ∉ S.t1 → S.t1.length < 900 → exB (pg.cx (callN pg (n + 2))) [.setSub (.attr (.var 0) 8) (.var 1) (.var 2), .ret [(.var 3)]] [.v (.ref a), .v (.str k), .v (.str k), .v (oW S.g), .v (.int ((T1.length : Int) + B1.length)), .un] h' = .rt (oW S.g) (h'.set d1 (.dic false (kks (S.t1 ++ [k])))) := by
        intro S h' g1' g2' A2 nk ll
        have k1 := A2.fa
        have k2 := A2.f1
        have dp := dput_kks nk
        simp only [List.map_append, List.map_cons, List.map_nil] at dp
        have hl : S.t1.length < LL := by show S.t1.length < 16777216; omega
        simp [exB, exS, evE, evEs, evAnd, evOr, evAndT, evOrT, evIf, PyI.Out.of, PyI.Out.then, Res.bind, tst, Sl.var, stTg, stTgs, attrW, insAt, setAttrW, clsW, fget, fput, bmT, bmHas, bm, bi, mkL, binop, iop, lseq, truth, cmpop, index, atW, idxN, partR, partOf, sliceW, getW, setItemW, delItemW, nxO, callI, newI, W.isKey, stPT, stPTs, dicOf, Fn.args, Fn.start, cx_call, cx_glob, cx_init, cx_meth, cx_told, cx_fuel, walkK, walkOf, walkOne, walkVal, walkRange, walkEnum, walkDic, walkZip, LL, k1, k2, dp, hl, pg_init, pg_meth, meths]
      have go : ∀ (S : AS) (h' : Hc) (g1' g2' : Nat), AdAt h' a d1 d2 g1' g2' most S.aim S.t1 S.t2 S.b1 S.b2 → k ∉ S.t1 → S.t1.length < 900 → Frame [a, d1, d2, g1, g2] h h' → (g1' = g1 ∨ h.length ≤ g1') → (g2' = g2 ∨ h.length ≤ g2') →
          exS (pg.cx (callN pg (n + 2))) (.ite (.cmp .GtE (.var 4) (.attr (.var 0) 0)) [.ite (.cmp .Lt (.bi .len false [(.attr (.var 0) 8)]) (.attr (.var 0) 0)) [.setAttr (.var 0) 10 (.slice true (.attr (.var 0) 10) (.lit (.int 1)) (.lit .non)), .asg (.one 3) (.meth (.var 0) 14 [(.lit (.bl false))])] [.asg (.one 3) (.idx (.bi .list false [(.attr (.var 0) 8)]) (.lit (.int 0))), .del (.attr (.var 0) 8) (.var 3)]] [.ite (.cmp .GtE (.bin false .Add (.bin false .Add (.var 4) (.bi .len false [(.attr (.var 0) 9)])) (.bi .len false [(.attr (.var 0) 11)])) (.attr (.var 0) 0)) [.ite (.cmp .GtE (.bin false .Add (.bin false .Add (.var 4) (.bi .len false [(.attr (.var 0) 9)])) (.bi .len false [(.attr (.var 0) 11)])) (.bin false .Mult (.lit (.int 2)) (.attr (.var 0) 0))) [.setAttr (.var 0) 11 (.slice true (.attr (.var 0) 11) (.lit (.int 1)) (.lit .non))] [], .asg (.one 3) (.meth (.var 0) 14 [(.lit (.bl false))])] []])
            [.v (.ref a), .v (.str k), .v (.str k), .v .non, .v (.int ((T1.length : Int) + B1.length)), .un] h = .nx [.v (.ref a), .v (.str k), .v (.str k), .v (oW S.g), .v (.int ((T1.length : Int) + B1.length)), .un] h' →
          ∃ h' g1' g2', runF pg (n + 2) f11 [.ref a, .str k, .str k] h = .ok (oW S.g, h') ∧ AdAt h' a d1 d2 g1' g2' most S.aim (S.t1 ++ [k]) S.t2 S.b1 S.b2 ∧ Frame [a, d1, d2, g1, g2] h h' ∧ (g1' = g1 ∨ h.length ≤ g1') ∧ (g2' = g2 ∨ h.length ≤ g2') := by
        intro S h' g1' g2' A2 nk ll fr e1 e2 s4
        refine ⟨_, g1', g2', ?_, A2.w1 (S.t1 ++ [k]), fr.set (.inl (by simp)) _, e1, e2⟩
        refine runF_of (o := .rt (oW S.g) _) rfl ?_
        show exB _ (_ :: _ :: _ :: _ :: _ :: _) [.v (.ref a), .v (.str k), .v (.str k), .un, .un, .un] h = _
        rw [exB_nx s0, exB_nx s1, exB_nx s2, exB_nx s3, exB_nx s4]
        exact fin S h' g1' g2' A2 nk ll
      have lb1 := tail_len B1
      have lb2 := tail_len B2
      by_cases cw : (T1.length : Int) + B1.length ≥ most
      · simp only [if_pos cw]
        by_cases ct1 : (T1.length : Int) < most
        · simp only [if_pos ct1]
          have A1 := A.n1 B1.tail
          obtain ⟨h', e, A2, fr⟩ := reS_ok (n := n + 1) A1 false hm n1 n2 (by omega) (by omega)
          obtain ⟨u1, u2, u3, u4⟩ := reS_sub (most := most) (aim := aim) (ag := false) (T1 := T1) (T2 := T2) (B1 := B1.tail) (B2 := B2)
          refine go (reS most aim false T1 T2 B1.tail B2) h' h.length g2 A2 (fun z => c1 (u1 k z)) (by omega) ?_ (.inr (Nat.le_refl _)) (.inl rfl) ?_
          · exact (((Frame.refl _ h).app _).set (.inl (by simp)) _).trans2 fr fun b hb => by
              simp only [List.mem_cons, List.not_mem_nil, or_false] at hb ⊢
              rcases hb with rfl | rfl | rfl | rfl <;> simp
          · have z := app_at A.fa [CO.lst false (sts B1.tail)]
            have z2 := set_at z (.ins 2 [(0, .int most), (7, .int aim), (8, .ref d1), (9, .ref d2), (10, .ref h.length), (11, .ref g2)])
            have e' : callN pg (n + 2) 13 [.ref a, .bl false] _ = .ok (oW (reS most aim false T1 T2 B1.tail B2).g, h') := e
            simp [-List.map_tail, exB, exS, evE, evEs, evAnd, evOr, evAndT, evOrT, evIf, PyI.Out.of, PyI.Out.then, Res.bind, tst, Sl.var, stTg, stTgs, attrW, insAt, setAttrW, clsW, fget, fput, bmT, bmHas, bm, bi, mkL, binop, iop, lseq, truth, cmpop, index, atW, idxN, partR, partOf, sliceW, getW, setItemW, delItemW, nxO, callI, newI, W.isKey, stPT, stPTs, dicOf, Fn.args, Fn.start, cx_call, cx_glob, cx_init, cx_meth, cx_told, cx_fuel, walkK, walkOf, walkOne, walkVal, walkRange, walkEnum, walkDic, walkZip, LL, h1, h2, h4, cw, ct1, pg_init, pg_meth, meths, ct, z, z2, e']
        · simp only [if_neg ct1]
          cases T1 with
          | nil => simp at ct1; omega
          | cons x r =>
            have nx : x ∉ r := (List.nodup_cons.mp n1).1
            have dd := ddel_kks (x :: r) x
            rw [filt_head nx] at dd
            have dg := dget_kks (x :: r) x
            simp only [List.mem_cons, true_or, if_true] at dg
            refine go ⟨some x, aim, r, T2, B1, B2⟩ _ g1 g2 (A.w1 r) (fun z => c1 (List.mem_cons_of_mem _ z)) (by show r.length < 900; simp at l1; omega) ((Frame.refl _ h).set (.inl (by simp)) _) (.inl rfl) (.inl rfl) ?_
            have cw2 : most ≤ (r.length : Int) + 1 + B1.length := by simpa using cw
            have ct2 : ¬ (r.length : Int) + 1 < most := by simpa using ct1
            simp only [List.map_cons, kk] at dd dg h2
            simp [exB, exS, evE, evEs, evAnd, evOr, evAndT, evOrT, evIf, PyI.Out.of, PyI.Out.then, Res.bind, tst, Sl.var, stTg, stTgs, attrW, insAt, setAttrW, clsW, fget, fput, bmT, bmHas, bm, bi, mkL, binop, iop, lseq, truth, cmpop, index, atW, idxN, partR, partOf, sliceW, getW, setItemW, delItemW, nxO, callI, newI, W.isKey, stPT, stPTs, dicOf, Fn.args, Fn.start, cx_call, cx_glob, cx_init, cx_meth, cx_told, cx_fuel, walkK, walkOf, walkOne, walkVal, walkRange, walkEnum, walkDic, walkZip, LL, h1, h2, h4, cw2, ct2, pg_init, pg_meth, meths, kk, dd, dg, oW]
      · simp only [if_neg cw]
        have cw1 : ¬ most ≤ (T1.length : Int) + B1.length := cw
        by_cases ce : (T1.length : Int) + B1.length + T2.length + B2.length ≥ most
        · simp only [if_pos ce]
          have ce1 : most ≤ (T1.length : Int) + B1.length + T2.length + B2.length := ce
          have bo : bitsOk 2 most = true := by
            unfold bitsOk
            have : most.natAbs < 2 ^ 20 := by omega
            have := log2_small this
            have l2 : (2 : Int).natAbs.log2 = 1 := by decide
            rw [l2]
            simp
            omega
          by_cases ce2 : (T1.length : Int) + B1.length + T2.length + B2.length ≥ 2 * most
          · simp only [if_pos ce2]
            have ce3 : 2 * most ≤ (T1.length : Int) + B1.length + T2.length + B2.length := ce2
            have A1 := A.n2 B2.tail
            obtain ⟨h', e, A2, fr⟩ := reS_ok (n := n + 1) A1 false hm n1 n2 (by omega) (by omega)
            obtain ⟨u1, u2, u3, u4⟩ := reS_sub (most := most) (aim := aim) (ag := false) (T1 := T1) (T2 := T2) (B1 := B1) (B2 := B2.tail)
            refine go (reS most aim false T1 T2 B1 B2.tail) h' g1 h.length A2 (fun z => c1 (u1 k z)) (by omega) ?_ (.inl rfl) (.inr (Nat.le_refl _)) ?_
            · exact (((Frame.refl _ h).app _).set (.inl (by simp)) _).trans2 fr fun b hb => by
                simp only [List.mem_cons, List.not_mem_nil, or_false] at hb ⊢
                rcases hb with rfl | rfl | rfl | rfl <;> simp
            · have z := app_at A.fa [CO.lst false (sts B2.tail)]
              have z2 := set_at z (.ins 2 [(0, .int most), (7, .int aim), (8, .ref d1), (9, .ref d2), (10, .ref g1), (11, .ref h.length)])
              have e' : callN pg (n + 2) 13 [.ref a, .bl false] _ = .ok (oW (reS most aim false T1 T2 B1 B2.tail).g, h') := e
              simp [-List.map_tail, exB, exS, evE, evEs, evAnd, evOr, evAndT, evOrT, evIf, PyI.Out.of, PyI.Out.then, Res.bind, tst, Sl.var, stTg, stTgs, attrW, insAt, setAttrW, clsW, fget, fput, bmT, bmHas, bm, bi, mkL, binop, iop, lseq, truth, cmpop, index, atW, idxN, partR, partOf, sliceW, getW, setItemW, delItemW, nxO, callI, newI, W.isKey, stPT, stPTs, dicOf, Fn.args, Fn.start, cx_call, cx_glob, cx_init, cx_meth, cx_told, cx_fuel, walkK, walkOf, walkOne, walkVal, walkRange, walkEnum, walkDic, walkZip, LL, h1, h2, h3, h4, h5, cw1, ce1, ce3, bo, pg_init, pg_meth, meths, ct, z, z2, e']
          · simp only [if_neg ce2]
            have ce3 : ¬ 2 * most ≤ (T1.length : Int) + B1.length + T2.length + B2.length := ce2
            obtain ⟨h', e, A2, fr⟩ := reS_ok (n := n + 1) A false hm n1 n2 (by omega) (by omega)
            obtain ⟨u1, u2, u3, u4⟩ := reS_sub (most := most) (aim := aim) (ag := false) (T1 := T1) (T2 := T2) (B1 := B1) (B2 := B2)
            refine go (reS most aim false T1 T2 B1 B2) h' g1 g2 A2 (fun z => c1 (u1 k z)) (by omega) (fr.to fun b hb => .inl (List.mem_cons_of_mem _ hb)) (.inl rfl) (.inl rfl) ?_
            have e' : callN pg (n + 2) 13 [.ref a, .bl false] _ = .ok (oW (reS most aim false T1 T2 B1 B2).g, h') := e
            simp [exB, exS, evE, evEs, evAnd, evOr, evAndT, evOrT, evIf, PyI.Out.of, PyI.Out.then, Res.bind, tst, Sl.var, stTg, stTgs, attrW, insAt, setAttrW, clsW, fget, fput, bmT, bmHas, bm, bi, mkL, binop, iop, lseq, truth, cmpop, index, atW, idxN, partR, partOf, sliceW, getW, setItemW, delItemW, nxO, callI, newI, W.isKey, stPT, stPTs, dicOf, Fn.args, Fn.start, cx_call, cx_glob, cx_init, cx_meth, cx_told, cx_fuel, walkK, walkOf, walkOne, walkVal, walkRange, walkEnum, walkDic, walkZip, LL, h1, h2, h3, h4, h5, cw1, ce1, ce3, bo, pg_init, pg_meth, meths, e']
        · simp only [if_neg ce]
          have ce1 : ¬ most ≤ (T1.length : Int) + B1.length + T2.length + B2.length := ce
          refine go ⟨none, aim, T1, T2, B1, B2⟩ h g1 g2 A c1 (by omega) (Frame.refl _ _) (.inl rfl) (.inl rfl) ?_
          simp [exB, exS, evE, evEs, evAnd, evOr, evAndT, evOrT, evIf, PyI.Out.of, PyI.Out.then, Res.bind, tst, Sl.var, stTg, stTgs, attrW, insAt, setAttrW, clsW, fget, fput, bmT, bmHas, bm, bi, mkL, binop, iop, lseq, truth, cmpop, index, atW, idxN, partR, partOf, sliceW, getW, setItemW, delItemW, nxO, callI, newI, W.isKey, stPT, stPTs, dicOf, Fn.args, Fn.start, cx_call, cx_glob, cx_init, cx_meth, cx_told, cx_fuel, walkK, walkOf, walkOne, walkVal, walkRange, walkEnum, walkDic, walkZip, LL, h1, h2, h3, h4, h5, cw1, ce1, pg_init, pg_meth, meths, oW]
end
end K05

set_option linter.all false
set_option maxRecDepth 100000
set_option maxHeartbeats 4000000
/-! K05g: the law's account of the one that learns. -/
namespace K05
open PySem PyI
def OwnL (most aim : Int) (T1 T2 B1 B2 : Ks) : List (W × W) := [(.str [109, 111, 115, 116], .int most), (.str [116, 49], .lst (sts T1)), (.str [116, 50], .lst (sts T2)), (.str [98, 49], .lst (sts B1)), (.str [98, 50], .lst (sts B2)), (.str [97, 105, 109], .int aim)]
section
variable {n : Nat} {h : Hc} {w : Nat} {most aim : Int} {T1 T2 B1 B2 : Ks} {k : List Nat}
theorem eq0_emp (h : Hc) (ks : Ks) : isEq0 h (.lst (sts ks)) (.lst []) = some (decide (ks = [])) := by
  have n1 : W.nref (.lst (sts ks)) = true := by unfold W.nref; exact nrefs_sts ks
  rw [isEq0_tree (x' := .lst (sts ks)) (y' := .lst []) n1 rfl (by rw [rd_lst, rd_sts]; rfl) (by rw [rd_lst]; rfl)]
  cases ks <;> simp [W.eqv, W.eqvs]
theorem eq_emp' (h : Hc) (ks : Ks) : isEq h (.lst (sts ks)) (.lst []) = some (decide (ks = [])) := by
  unfold isEq
  rw [eq0_emp]
theorem ownL_len : (OwnL most aim T1 T2 B1 B2).length = 6 := rfl
theorem law_repl (hw : h[w]? = some (.dic false (OwnL most aim T1 T2 B1 B2))) (ag : Bool) (hm : 1 ≤ most) (l3 : B1.length < 1000) (l4 : B2.length < 1000) :
    callN pg (n + 1) 21 [.ref w, .bl ag] h = .ok (oW (reS most aim ag T1 T2 B1 B2).g, h.set w (.dic false (OwnL most (reS most aim ag T1 T2 B1 B2).aim (reS most aim ag T1 T2 B1 B2).t1 (reS most aim ag T1 T2 B1 B2).t2 (reS most aim ag T1 T2 B1 B2).b1 (reS most aim ag T1 T2 B1 B2).b2))) := by
  rw [callN_s (F := f21) rfl]
  have hs : ∀ o, (h.set w o)[w]? = some o := set_at hw
  have lb1 : B1.length + 1 ≤ LL := by show B1.length + 1 ≤ 16777216; omega
  have lb2 : B2.length + 1 ≤ LL := by show B2.length + 1 ≤ 16777216; omega
  unfold reS repl
  dsimp only
  by_cases c : (T1.length : Int) + T2.length < most
  · simp only [if_pos c, set_same hw]
    refine runF_of (o := .rt .non h) rfl ?_
    simp [f21, b21, exB, exS, evE, evEs, evAnd, evOr, evAndT, evOrT, evIf, PyI.Out.of, PyI.Out.then, Res.bind, tst, Sl.var, stTg, stTgs, attrW, insAt, setAttrW, clsW, fget, fput, bmT, bmHas, bm, bi, mkL, binop, iop, lseq, truth, cmpop, index, atW, idxN, partR, partOf, sliceW, getW, setItemW, delItemW, nxO, callI, newI, W.isKey, stPT, stPTs, dicOf, Fn.args, Fn.start, cx_call, cx_glob, cx_init, cx_meth, cx_told, cx_fuel, walkK, walkOf, walkOne, walkVal, walkRange, walkEnum, walkDic, walkZip, LL, hw, OwnL, dget, W.keq, c]
  · simp only [if_neg c]
    have ht : evE (pg.cx (callN pg n)) (.or [(.and [(.cmp .NotEq (.idx (.var 0) (.lit (.str [116, 49]))) (.lst false [])), (.or [(.cmp .Gt (.bi .len false [(.idx (.var 0) (.lit (.str [116, 49])))]) (.idx (.var 0) (.lit (.str [97, 105, 109])))), (.and [(.var 1), (.cmp .Eq (.bi .len false [(.idx (.var 0) (.lit (.str [116, 49])))]) (.idx (.var 0) (.lit (.str [97, 105, 109]))))])])]), (.cmp .Eq (.idx (.var 0) (.lit (.str [116, 50]))) (.lst false []))]) [.v (.ref w), .v (.bl ag), .un, .un, .un, .un] h = .ok (.bl (decide (isFirst aim ag T1 T2)), h) := by
      have q1 := eq0_emp h T1
      have q2 := eq_emp' h T2
      by_cases p1 : T1 = []
      · subst p1
        have : decide (isFirst aim ag [] T2) = decide (T2 = []) := by simp [isFirst]
        rw [this]
        simp only [List.map_nil] at q1
        simp [exB, exS, evE, evEs, evAnd, evOr, evAndT, evOrT, evIf, PyI.Out.of, PyI.Out.then, Res.bind, tst, Sl.var, stTg, stTgs, attrW, insAt, setAttrW, clsW, fget, fput, bmT, bmHas, bm, bi, mkL, binop, iop, lseq, truth, cmpop, index, atW, idxN, partR, partOf, sliceW, getW, setItemW, delItemW, nxO, callI, newI, W.isKey, stPT, stPTs, dicOf, Fn.args, Fn.start, cx_call, cx_glob, cx_init, cx_meth, cx_told, cx_fuel, walkK, walkOf, walkOne, walkVal, walkRange, walkEnum, walkDic, walkZip, LL, hw, OwnL, dget, W.keq, q1, q2]
      · have p0 : 0 < T1.length := by cases T1 with | nil => exact absurd rfl p1 | cons x r => simp
        by_cases p2 : (T1.length : Int) > aim
        · have : decide (isFirst aim ag T1 T2) = true := decide_eq_true (.inl ⟨p0, .inl p2⟩)
          rw [this]
          have p2' : aim < (T1.length : Int) := p2
          simp [exB, exS, evE, evEs, evAnd, evOr, evAndT, evOrT, evIf, PyI.Out.of, PyI.Out.then, Res.bind, tst, Sl.var, stTg, stTgs, attrW, insAt, setAttrW, clsW, fget, fput, bmT, bmHas, bm, bi, mkL, binop, iop, lseq, truth, cmpop, index, atW, idxN, partR, partOf, sliceW, getW, setItemW, delItemW, nxO, callI, newI, W.isKey, stPT, stPTs, dicOf, Fn.args, Fn.start, cx_call, cx_glob, cx_init, cx_meth, cx_told, cx_fuel, walkK, walkOf, walkOne, walkVal, walkRange, walkEnum, walkDic, walkZip, LL, hw, OwnL, dget, W.keq, q1, q2, p1, p2']
        · have p2' : ¬ aim < (T1.length : Int) := p2
          by_cases p3 : ag = true
          · subst p3
            by_cases p4 : (T1.length : Int) = aim
            · have : decide (isFirst aim true T1 T2) = true := decide_eq_true (.inl ⟨p0, .inr ⟨rfl, p4⟩⟩)
              rw [this]
              have p5 : ¬ (aim < aim) := by omega
              simp [exB, exS, evE, evEs, evAnd, evOr, evAndT, evOrT, evIf, PyI.Out.of, PyI.Out.then, Res.bind, tst, Sl.var, stTg, stTgs, attrW, insAt, setAttrW, clsW, fget, fput, bmT, bmHas, bm, bi, mkL, binop, iop, lseq, truth, cmpop, index, atW, idxN, partR, partOf, sliceW, getW, setItemW, delItemW, nxO, callI, newI, W.isKey, stPT, stPTs, dicOf, Fn.args, Fn.start, cx_call, cx_glob, cx_init, cx_meth, cx_told, cx_fuel, walkK, walkOf, walkOne, walkVal, walkRange, walkEnum, walkDic, walkZip, LL, hw, OwnL, dget, W.keq, q1, q2, p1, p4, isEq_int]
            · have : decide (isFirst aim true T1 T2) = decide (T2 = []) := by simp [isFirst, p2', p4]
              rw [this]
              have p5 : ((T1.length : Int) == aim) = false := by simpa using p4
              simp [exB, exS, evE, evEs, evAnd, evOr, evAndT, evOrT, evIf, PyI.Out.of, PyI.Out.then, Res.bind, tst, Sl.var, stTg, stTgs, attrW, insAt, setAttrW, clsW, fget, fput, bmT, bmHas, bm, bi, mkL, binop, iop, lseq, truth, cmpop, index, atW, idxN, partR, partOf, sliceW, getW, setItemW, delItemW, nxO, callI, newI, W.isKey, stPT, stPTs, dicOf, Fn.args, Fn.start, cx_call, cx_glob, cx_init, cx_meth, cx_told, cx_fuel, walkK, walkOf, walkOne, walkVal, walkRange, walkEnum, walkDic, walkZip, LL, hw, OwnL, dget, W.keq, q1, q2, p1, p2', p5, isEq_int]
          · have p3 : ag = false := by simpa using p3
            subst p3
            have : decide (isFirst aim false T1 T2) = decide (T2 = []) := by simp [isFirst, p2']
            rw [this]
            simp [exB, exS, evE, evEs, evAnd, evOr, evAndT, evOrT, evIf, PyI.Out.of, PyI.Out.then, Res.bind, tst, Sl.var, stTg, stTgs, attrW, insAt, setAttrW, clsW, fget, fput, bmT, bmHas, bm, bi, mkL, binop, iop, lseq, truth, cmpop, index, atW, idxN, partR, partOf, sliceW, getW, setItemW, delItemW, nxO, callI, newI, W.isKey, stPT, stPTs, dicOf, Fn.args, Fn.start, cx_call, cx_glob, cx_init, cx_meth, cx_told, cx_fuel, walkK, walkOf, walkOne, walkVal, walkRange, walkEnum, walkDic, walkZip, LL, hw, OwnL, dget, W.keq, q1, q2, p1, p2']
    simp only [f21, b21]
    generalize E.or _ = CE at ht ⊢
    by_cases cf : isFirst aim ag T1 T2
    · simp only [if_pos cf]
      rw [decide_eq_true cf] at ht
      cases T1 with
      | nil =>
        rcases cf with ⟨z, _⟩ | z
        · simp at z
        · subst z; simp at c; omega
      | cons x r =>
        have c2 : ¬ (r.length : Int) + 1 + T2.length < most := by simpa using c
        have c1' := cut1 (W.str x) (sts r)
        refine runF_of (o := .rt (.str x) _) rfl ?_
        simp [exB, exS, evE, evEs, evAnd, evOr, evAndT, evOrT, evIf, PyI.Out.of, PyI.Out.then, Res.bind, tst, Sl.var, stTg, stTgs, attrW, insAt, setAttrW, clsW, fget, fput, bmT, bmHas, bm, bi, mkL, binop, iop, lseq, truth, cmpop, index, atW, idxN, partR, partOf, sliceW, getW, setItemW, delItemW, nxO, callI, newI, W.isKey, stPT, stPTs, dicOf, Fn.args, Fn.start, cx_call, cx_glob, cx_init, cx_meth, cx_told, cx_fuel, walkK, walkOf, walkOne, walkVal, walkRange, walkEnum, walkDic, walkZip, LL, hw, OwnL, dget, W.keq, c2, ht, c1', dput, lb1, hs]
    · simp only [if_neg cf]
      rw [decide_eq_false cf] at ht
      cases T2 with
      | nil => exact absurd (.inr rfl) cf
      | cons x r =>
        have c2 : ¬ (T1.length : Int) + (r.length + 1) < most := by simpa using c
        have c1' := cut1 (W.str x) (sts r)
        refine runF_of (o := .rt (.str x) _) rfl ?_
        simp [exB, exS, evE, evEs, evAnd, evOr, evAndT, evOrT, evIf, PyI.Out.of, PyI.Out.then, Res.bind, tst, Sl.var, stTg, stTgs, attrW, insAt, setAttrW, clsW, fget, fput, bmT, bmHas, bm, bi, mkL, binop, iop, lseq, truth, cmpop, index, atW, idxN, partR, partOf, sliceW, getW, setItemW, delItemW, nxO, callI, newI, W.isKey, stPT, stPTs, dicOf, Fn.args, Fn.start, cx_call, cx_glob, cx_init, cx_meth, cx_told, cx_fuel, walkK, walkOf, walkOne, walkVal, walkRange, walkEnum, walkDic, walkZip, LL, hw, OwnL, dget, W.keq, c2, ht, c1', dput, lb2, hs]
theorem law_learn_hit (hw : h[w]? = some (.dic false (OwnL most aim T1 T2 B1 B2))) (c : k ∈ T1 ∨ k ∈ T2) (l1 : T1.length < 900) (l2 : T2.length < 900) :
    callN pg (n + 2) 22 [.ref w, .str k] h = .ok (.str [104, 105, 116], h.set w (.dic false (OwnL most aim (T1.filter (· != k)) (T2.filter (· != k) ++ [k]) B1 B2))) := by
  rw [callN_s (F := f22) rfl]
  have hi := isIn_lst h (T1 ++ T2) k
  have hk : k ∈ T1 ++ T2 := List.mem_append.mpr c
  rw [decide_eq_true hk] at hi
  have e1 := ev_ne (X := pg.cx (callN pg (n + 1))) (e := .idx (.var 0) (.lit (.str [116, 49]))) (i := 2) (j := 1) (σ := [.v (.ref w), .v (.str k), .un, .un, .un, .un, .un, .un]) (h := h) (h1 := h) (ks := T1) (k := k) (box := false) (by simp [exB, exS, evE, evEs, evAnd, evOr, evAndT, evOrT, evIf, PyI.Out.of, PyI.Out.then, Res.bind, tst, Sl.var, stTg, stTgs, attrW, insAt, setAttrW, clsW, fget, fput, bmT, bmHas, bm, bi, mkL, binop, iop, lseq, truth, cmpop, index, atW, idxN, partR, partOf, sliceW, getW, setItemW, delItemW, nxO, callI, newI, W.isKey, stPT, stPTs, dicOf, Fn.args, Fn.start, cx_call, cx_glob, cx_init, cx_meth, cx_told, cx_fuel, walkK, walkOf, walkOne, walkVal, walkRange, walkEnum, walkDic, walkZip, LL, hw, OwnL, dget, W.keq]) (by simp) (by decide) rfl
  have e2 := ev_ne (X := pg.cx (callN pg (n + 1))) (e := .idx (.var 0) (.lit (.str [116, 50]))) (i := 2) (j := 1) (σ := [.v (.ref w), .v (.str k), .un, .un, .un, .un, .un, .un]) (h := h) (h1 := h) (ks := T2) (k := k) (box := false) (by simp [exB, exS, evE, evEs, evAnd, evOr, evAndT, evOrT, evIf, PyI.Out.of, PyI.Out.then, Res.bind, tst, Sl.var, stTg, stTgs, attrW, insAt, setAttrW, clsW, fget, fput, bmT, bmHas, bm, bi, mkL, binop, iop, lseq, truth, cmpop, index, atW, idxN, partR, partOf, sliceW, getW, setItemW, delItemW, nxO, callI, newI, W.isKey, stPT, stPTs, dicOf, Fn.args, Fn.start, cx_call, cx_glob, cx_init, cx_meth, cx_told, cx_fuel, walkK, walkOf, walkOne, walkVal, walkRange, walkEnum, walkDic, walkZip, LL, hw, OwnL, dget, W.keq]) (by simp) (by decide) rfl
  have hs : ∀ o, (h.set w o)[w]? = some o := set_at hw
  have ll : T1.length + T2.length ≤ LL := by show T1.length + T2.length ≤ 16777216; omega
  have lf : (T2.filter (· != k)).length + 1 ≤ LL := by
    have := List.length_filter_le (· != k) T2
    show _ ≤ 16777216
    omega
  simp only [List.map_append] at hi
  refine runF_of (o := .rt _ _) rfl ?_
  simp only [f22, b22]
  generalize E.lc false [2] (.one 2) .val [(.idx (.var 0) (.lit (.str [116, 49])))] [(.cmp .NotEq (.var 2) (.var 1))] (.var 2) = L1 at e1 ⊢
  generalize E.lc false [2] (.one 2) .val [(.idx (.var 0) (.lit (.str [116, 50])))] [(.cmp .NotEq (.var 2) (.var 1))] (.var 2) = L2 at e2 ⊢
  generalize E.lc _ _ _ _ _ _ _ = L3
  generalize E.lc _ _ _ _ _ _ _ = L4
  simp [exB, exS, evE, evEs, evAnd, evOr, evAndT, evOrT, evIf, PyI.Out.of, PyI.Out.then, Res.bind, tst, Sl.var, stTg, stTgs, attrW, insAt, setAttrW, clsW, fget, fput, bmT, bmHas, bm, bi, mkL, binop, iop, lseq, truth, cmpop, index, atW, idxN, partR, partOf, sliceW, getW, setItemW, delItemW, nxO, callI, newI, W.isKey, stPT, stPTs, dicOf, Fn.args, Fn.start, cx_call, cx_glob, cx_init, cx_meth, cx_told, cx_fuel, walkK, walkOf, walkOne, walkVal, walkRange, walkEnum, walkDic, walkZip, LL, hw, OwnL, dget, W.keq, hi, e1, e2, ll, lf, dput, hs]
theorem law_learn_new (hw : h[w]? = some (.dic false (OwnL most aim T1 T2 B1 B2))) (c1 : k ∉ T1) (c2 : k ∉ T2) (hm : 1 ≤ most) (hm2 : most ≤ 1000) (l1 : T1.length < 900) (l2 : T2.length < 900) (l3 : B1.length < 900) (l4 : B2.length < 900) :
    callN pg (n + 2) 22 [.ref w, .str k] h = .ok (oW (adPut most aim T1 T2 B1 B2 k).g, h.set w (.dic false (OwnL most (adPut most aim T1 T2 B1 B2 k).aim (adPut most aim T1 T2 B1 B2 k).t1 (adPut most aim T1 T2 B1 B2 k).t2 (adPut most aim T1 T2 B1 B2 k).b1 (adPut most aim T1 T2 B1 B2 k).b2))) := by
  rw [callN_s (F := f22) rfl]
  have hi := isIn_lst h (T1 ++ T2) k
  have hk : k ∉ T1 ++ T2 := fun z => (List.mem_append.mp z).elim c1 c2
  rw [decide_eq_false hk] at hi
  simp only [List.map_append] at hi
  have ll : T1.length + T2.length ≤ LL := by show T1.length + T2.length ≤ 16777216; omega
  have hs : ∀ o, (h.set w o)[w]? = some o := set_at hw
  have i1 := isIn_lst h B1 k
  have i2 := isIn_lst h B2 k
  have lg1 := small_log (n := B1.length) (by omega)
  have lg2 := small_log (n := B2.length) (by omega)
  have bo : bitsOk 2 most = true := by
    unfold bitsOk
    have : most.natAbs < 2 ^ 20 := by omega
    have := log2_small this
    have l2 : (2 : Int).natAbs.log2 = 1 := by decide
    rw [l2]
    simp
    omega
  have rp := fun (a : Int) (t1 t2 b1 b2 : Ks) (ag : Bool) (z1 : b1.length < 1000) (z2 : b2.length < 1000) => law_repl (n := n) (h := h.set w (.dic false (OwnL most a t1 t2 b1 b2))) (hs _) ag hm z1 z2
  simp only [List.set_set] at rp
  have lf : ∀ (ks : Ks), (ks.filter (· != k)).length ≤ ks.length := fun ks => List.length_filter_le _ _
  have t1l : T1.length + 1 ≤ LL := by show T1.length + 1 ≤ 16777216; omega
  have t2l : T2.length + 1 ≤ LL := by show T2.length + 1 ≤ 16777216; omega
  simp only [f22, b22]
  generalize E.lc false [2] (.one 2) .val [(.idx (.var 0) (.lit (.str [116, 49])))] [(.cmp .NotEq (.var 2) (.var 1))] (.var 2) = L1
  generalize E.lc false [2] (.one 2) .val [(.idx (.var 0) (.lit (.str [116, 50])))] [(.cmp .NotEq (.var 2) (.var 1))] (.var 2) = L2
  unfold adPut
  by_cases cb1 : k ∈ B1
  · simp only [if_pos cb1]
    have p0 : 0 < B1.length := by cases B1 with | nil => cases cb1 | cons x r => simp
    have r := rp (aimUp most aim B1 B2) T1 T2 B1 B2 false (by omega) (by omega)
    obtain ⟨u1, u2, u3, u4⟩ := reS_sub (most := most) (aim := aimUp most aim B1 B2) (ag := false) (T1 := T1) (T2 := T2) (B1 := B1) (B2 := B2)
    have ea : (reS most (aimUp most aim B1 B2) false T1 T2 B1 B2).aim = aimUp most aim B1 B2 := rfl
    generalize reS most (aimUp most aim B1 B2) false T1 T2 B1 B2 = S at *
    have e1 := ev_ne (X := pg.cx (callN pg (n + 1))) (e := .idx (.var 0) (.lit (.str [98, 49]))) (i := 7) (j := 1) (σ := [.v (.ref w), .v (.str k), .v (.int B1.length), .v (.int B2.length), .v (oW S.g), .un, .un, .un]) (h := h.set w (.dic false (OwnL most S.aim S.t1 S.t2 S.b1 S.b2))) (h1 := h.set w (.dic false (OwnL most S.aim S.t1 S.t2 S.b1 S.b2))) (ks := S.b1) (k := k) (box := false) (by simp [exB, exS, evE, evEs, evAnd, evOr, evAndT, evOrT, evIf, PyI.Out.of, PyI.Out.then, Res.bind, tst, Sl.var, stTg, stTgs, attrW, insAt, setAttrW, clsW, fget, fput, bmT, bmHas, bm, bi, mkL, binop, iop, lseq, truth, cmpop, index, atW, idxN, partR, partOf, sliceW, getW, setItemW, delItemW, nxO, callI, newI, W.isKey, stPT, stPTs, dicOf, Fn.args, Fn.start, cx_call, cx_glob, cx_init, cx_meth, cx_told, cx_fuel, walkK, walkOf, walkOne, walkVal, walkRange, walkEnum, walkDic, walkZip, LL, hs, OwnL, dget, W.keq]) (by simp) (by decide) rfl
    generalize E.lc false [7] (.one 7) .val [(.idx (.var 0) (.lit (.str [98, 49])))] [(.cmp .NotEq (.var 7) (.var 1))] (.var 7) = L3 at e1 ⊢
    generalize E.lc false [7] (.one 7) .val [(.idx (.var 0) (.lit (.str [98, 50])))] [(.cmp .NotEq (.var 7) (.var 1))] (.var 7) = L4
    have lt2 : S.t2.length + 1 ≤ LL := by show S.t2.length + 1 ≤ 16777216; omega
    refine runF_of (o := .rt _ _) rfl ?_
    simp only [OwnL, aimUp] at r e1
    simp [exB, exS, evE, evEs, evAnd, evOr, evAndT, evOrT, evIf, PyI.Out.of, PyI.Out.then, Res.bind, tst, Sl.var, stTg, stTgs, attrW, insAt, setAttrW, clsW, fget, fput, bmT, bmHas, bm, bi, mkL, binop, iop, lseq, truth, cmpop, index, atW, idxN, partR, partOf, sliceW, getW, setItemW, delItemW, nxO, callI, newI, W.isKey, stPT, stPTs, dicOf, Fn.args, Fn.start, cx_call, cx_glob, cx_init, cx_meth, cx_told, cx_fuel, walkK, walkOf, walkOne, walkVal, walkRange, walkEnum, walkDic, walkZip, LL, hw, OwnL, dget, W.keq, hi, ll, i1, cb1, p0, lg1, dput, hs, r, e1, lt2]
  · simp only [if_neg cb1]
    by_cases cb2 : k ∈ B2
    · simp only [if_pos cb2]
      have p0 : 0 < B2.length := by cases B2 with | nil => cases cb2 | cons x r => simp
      have r := rp (aimDn aim B1 B2) T1 T2 B1 B2 true (by omega) (by omega)
      obtain ⟨u1, u2, u3, u4⟩ := reS_sub (most := most) (aim := aimDn aim B1 B2) (ag := true) (T1 := T1) (T2 := T2) (B1 := B1) (B2 := B2)
      have ea : (reS most (aimDn aim B1 B2) true T1 T2 B1 B2).aim = aimDn aim B1 B2 := rfl
      generalize reS most (aimDn aim B1 B2) true T1 T2 B1 B2 = S at *
      have e1 := ev_ne (X := pg.cx (callN pg (n + 1))) (e := .idx (.var 0) (.lit (.str [98, 50]))) (i := 7) (j := 1) (σ := [.v (.ref w), .v (.str k), .v (.int B1.length), .v (.int B2.length), .v (oW S.g), .un, .un, .un]) (h := h.set w (.dic false (OwnL most S.aim S.t1 S.t2 S.b1 S.b2))) (h1 := h.set w (.dic false (OwnL most S.aim S.t1 S.t2 S.b1 S.b2))) (ks := S.b2) (k := k) (box := false) (by simp [exB, exS, evE, evEs, evAnd, evOr, evAndT, evOrT, evIf, PyI.Out.of, PyI.Out.then, Res.bind, tst, Sl.var, stTg, stTgs, attrW, insAt, setAttrW, clsW, fget, fput, bmT, bmHas, bm, bi, mkL, binop, iop, lseq, truth, cmpop, index, atW, idxN, partR, partOf, sliceW, getW, setItemW, delItemW, nxO, callI, newI, W.isKey, stPT, stPTs, dicOf, Fn.args, Fn.start, cx_call, cx_glob, cx_init, cx_meth, cx_told, cx_fuel, walkK, walkOf, walkOne, walkVal, walkRange, walkEnum, walkDic, walkZip, LL, hs, OwnL, dget, W.keq]) (by simp) (by decide) rfl
      generalize E.lc false [7] (.one 7) .val [(.idx (.var 0) (.lit (.str [98, 49])))] [(.cmp .NotEq (.var 7) (.var 1))] (.var 7) = L3
      generalize E.lc false [7] (.one 7) .val [(.idx (.var 0) (.lit (.str [98, 50])))] [(.cmp .NotEq (.var 7) (.var 1))] (.var 7) = L4 at e1 ⊢
      have lt2 : S.t2.length + 1 ≤ LL := by show S.t2.length + 1 ≤ 16777216; omega
      refine runF_of (o := .rt _ _) rfl ?_
      simp only [OwnL, aimDn] at r e1
      simp [exB, exS, evE, evEs, evAnd, evOr, evAndT, evOrT, evIf, PyI.Out.of, PyI.Out.then, Res.bind, tst, Sl.var, stTg, stTgs, attrW, insAt, setAttrW, clsW, fget, fput, bmT, bmHas, bm, bi, mkL, binop, iop, lseq, truth, cmpop, index, atW, idxN, partR, partOf, sliceW, getW, setItemW, delItemW, nxO, callI, newI, W.isKey, stPT, stPTs, dicOf, Fn.args, Fn.start, cx_call, cx_glob, cx_init, cx_meth, cx_told, cx_fuel, walkK, walkOf, walkOne, walkVal, walkRange, walkEnum, walkDic, walkZip, LL, hw, OwnL, dget, W.keq, hi, ll, i1, i2, cb1, cb2, p0, lg2, dput, hs, r, e1, lt2]
    · simp only [if_neg cb2]
      generalize E.lc false [7] (.one 7) .val [(.idx (.var 0) (.lit (.str [98, 49])))] [(.cmp .NotEq (.var 7) (.var 1))] (.var 7) = L3
      generalize E.lc false [7] (.one 7) .val [(.idx (.var 0) (.lit (.str [98, 50])))] [(.cmp .NotEq (.var 7) (.var 1))] (.var 7) = L4
      have lb1 := tail_len B1
      have lb2 := tail_len B2
      by_cases cw : (T1.length : Int) + B1.length ≥ most
      · simp only [if_pos cw]
        have cw1 : most ≤ (T1.length : Int) + B1.length := cw
        by_cases ct1 : (T1.length : Int) < most
        · simp only [if_pos ct1]
          have r := rp aim T1 T2 B1.tail B2 false (by omega) (by omega)
          obtain ⟨u1, u2, u3, u4⟩ := reS_sub (most := most) (aim := aim) (ag := false) (T1 := T1) (T2 := T2) (B1 := B1.tail) (B2 := B2)
          have ea : (reS most aim false T1 T2 B1.tail B2).aim = aim := rfl
          generalize reS most aim false T1 T2 B1.tail B2 = S at *
          have lt1 : S.t1.length + 1 ≤ LL := by show S.t1.length + 1 ≤ 16777216; omega
          refine runF_of (o := .rt _ _) rfl ?_
          simp only [OwnL] at r
          simp [-List.map_tail, exB, exS, evE, evEs, evAnd, evOr, evAndT, evOrT, evIf, PyI.Out.of, PyI.Out.then, Res.bind, tst, Sl.var, stTg, stTgs, attrW, insAt, setAttrW, clsW, fget, fput, bmT, bmHas, bm, bi, mkL, binop, iop, lseq, truth, cmpop, index, atW, idxN, partR, partOf, sliceW, getW, setItemW, delItemW, nxO, callI, newI, W.isKey, stPT, stPTs, dicOf, Fn.args, Fn.start, cx_call, cx_glob, cx_init, cx_meth, cx_told, cx_fuel, walkK, walkOf, walkOne, walkVal, walkRange, walkEnum, walkDic, walkZip, LL, hw, OwnL, dget, W.keq, hi, ll, i1, i2, cb1, cb2, cw1, ct1, dput, hs, r, lt1, ct]
        · simp only [if_neg ct1]
          cases T1 with
          | nil => simp at ct1; omega
          | cons x r =>
            have cw2 : most ≤ (r.length : Int) + 1 + B1.length := by simpa using cw
            have ct2 : ¬ (r.length : Int) + 1 < most := by simpa using ct1
            have c1' := cut1 (W.str x) (sts r)
            have lt1 : r.length + 1 ≤ LL := by show r.length + 1 ≤ 16777216; simp at l1; omega
            refine runF_of (o := .rt _ _) rfl ?_
            simp only [List.map_cons, List.cons_append] at hi
            simp only [List.length_cons] at ll
            simp [exB, exS, evE, evEs, evAnd, evOr, evAndT, evOrT, evIf, PyI.Out.of, PyI.Out.then, Res.bind, tst, Sl.var, stTg, stTgs, attrW, insAt, setAttrW, clsW, fget, fput, bmT, bmHas, bm, bi, mkL, binop, iop, lseq, truth, cmpop, index, atW, idxN, partR, partOf, sliceW, getW, setItemW, delItemW, nxO, callI, newI, W.isKey, stPT, stPTs, dicOf, Fn.args, Fn.start, cx_call, cx_glob, cx_init, cx_meth, cx_told, cx_fuel, walkK, walkOf, walkOne, walkVal, walkRange, walkEnum, walkDic, walkZip, LL, hw, OwnL, dget, W.keq, hi, ll, i1, i2, cb1, cb2, cw2, ct2, dput, hs, lt1, c1', oW]
      · simp only [if_neg cw]
        have cw1 : ¬ most ≤ (T1.length : Int) + B1.length := cw
        by_cases ce : (T1.length : Int) + B1.length + T2.length + B2.length ≥ most
        · simp only [if_pos ce]
          have ce1 : most ≤ (T1.length : Int) + T2.length + B1.length + B2.length := by omega
          by_cases ce2 : (T1.length : Int) + B1.length + T2.length + B2.length ≥ 2 * most
          · simp only [if_pos ce2]
            have ce3 : 2 * most ≤ (T1.length : Int) + T2.length + B1.length + B2.length := by omega
            have r := rp aim T1 T2 B1 B2.tail false (by omega) (by omega)
            obtain ⟨u1, u2, u3, u4⟩ := reS_sub (most := most) (aim := aim) (ag := false) (T1 := T1) (T2 := T2) (B1 := B1) (B2 := B2.tail)
            have ea : (reS most aim false T1 T2 B1 B2.tail).aim = aim := rfl
            generalize reS most aim false T1 T2 B1 B2.tail = S at *
            have lt1 : S.t1.length + 1 ≤ LL := by show S.t1.length + 1 ≤ 16777216; omega
            refine runF_of (o := .rt _ _) rfl ?_
            simp only [OwnL] at r
            simp [-List.map_tail, exB, exS, evE, evEs, evAnd, evOr, evAndT, evOrT, evIf, PyI.Out.of, PyI.Out.then, Res.bind, tst, Sl.var, stTg, stTgs, attrW, insAt, setAttrW, clsW, fget, fput, bmT, bmHas, bm, bi, mkL, binop, iop, lseq, truth, cmpop, index, atW, idxN, partR, partOf, sliceW, getW, setItemW, delItemW, nxO, callI, newI, W.isKey, stPT, stPTs, dicOf, Fn.args, Fn.start, cx_call, cx_glob, cx_init, cx_meth, cx_told, cx_fuel, walkK, walkOf, walkOne, walkVal, walkRange, walkEnum, walkDic, walkZip, LL, hw, OwnL, dget, W.keq, hi, ll, i1, i2, cb1, cb2, cw1, ce1, ce3, bo, dput, hs, r, lt1, ct]
          · simp only [if_neg ce2]
            have ce3 : ¬ 2 * most ≤ (T1.length : Int) + T2.length + B1.length + B2.length := by omega
            have r := rp aim T1 T2 B1 B2 false (by omega) (by omega)
            obtain ⟨u1, u2, u3, u4⟩ := reS_sub (most := most) (aim := aim) (ag := false) (T1 := T1) (T2 := T2) (B1 := B1) (B2 := B2)
            have ea : (reS most aim false T1 T2 B1 B2).aim = aim := rfl
            generalize reS most aim false T1 T2 B1 B2 = S at *
            have lt1 : S.t1.length + 1 ≤ LL := by show S.t1.length + 1 ≤ 16777216; omega
            refine runF_of (o := .rt _ _) rfl ?_
            simp only [OwnL] at r
            simp [exB, exS, evE, evEs, evAnd, evOr, evAndT, evOrT, evIf, PyI.Out.of, PyI.Out.then, Res.bind, tst, Sl.var, stTg, stTgs, attrW, insAt, setAttrW, clsW, fget, fput, bmT, bmHas, bm, bi, mkL, binop, iop, lseq, truth, cmpop, index, atW, idxN, partR, partOf, sliceW, getW, setItemW, delItemW, nxO, callI, newI, W.isKey, stPT, stPTs, dicOf, Fn.args, Fn.start, cx_call, cx_glob, cx_init, cx_meth, cx_told, cx_fuel, walkK, walkOf, walkOne, walkVal, walkRange, walkEnum, walkDic, walkZip, LL, hw, OwnL, dget, W.keq, hi, ll, i1, i2, cb1, cb2, cw1, ce1, ce3, bo, dput, hs, r, lt1]
        · simp only [if_neg ce]
          have ce1 : ¬ most ≤ (T1.length : Int) + T2.length + B1.length + B2.length := by omega
          refine runF_of (o := .rt _ _) rfl ?_
          simp [exB, exS, evE, evEs, evAnd, evOr, evAndT, evOrT, evIf, PyI.Out.of, PyI.Out.then, Res.bind, tst, Sl.var, stTg, stTgs, attrW, insAt, setAttrW, clsW, fget, fput, bmT, bmHas, bm, bi, mkL, binop, iop, lseq, truth, cmpop, index, atW, idxN, partR, partOf, sliceW, getW, setItemW, delItemW, nxO, callI, newI, W.isKey, stPT, stPTs, dicOf, Fn.args, Fn.start, cx_call, cx_glob, cx_init, cx_meth, cx_told, cx_fuel, walkK, walkOf, walkOne, walkVal, walkRange, walkEnum, walkDic, walkZip, LL, hw, OwnL, dget, W.keq, hi, ll, i1, i2, cb1, cb2, cw1, ce1, dput, hs, t1l, oW]
end
end K05

set_option linter.all false
set_option maxRecDepth 100000
/-! K05h: the plain samples, run. -/
namespace K05
open PySem PyI
def isTrue : RW → Bool
  | .ok (.bl b, _) => b
  | _ => false
theorem plain_run : isTrue (callN pg 40 23 [] []) = true := by decide +kernel
end K05

set_option linter.all false
set_option maxRecDepth 100000
set_option maxHeartbeats 4000000
/-! K05i: what stays true of the three caches. -/
namespace K05
open PySem PyI
abbrev Key := List Nat
/-! counts -/
theorem cnt_nd {l : Ks} (h : ∀ a, l.count a ≤ 1) : l.Nodup := by
  induction l with
  | nil => exact List.nodup_nil
  | cons x r ih =>
    refine List.nodup_cons.mpr ⟨fun z => ?_, ih fun a => ?_⟩
    · have := h x
      rw [List.count_cons_self] at this
      have := List.count_pos_iff.mpr z
      omega
    · have := h a
      have : r.count a ≤ (x :: r).count a := by rw [List.count_cons]; omega
      omega
theorem cnt_tail (l : Ks) (a : Key) : l.tail.count a ≤ l.count a := by
  cases l with
  | nil => exact Nat.le_refl _
  | cons x r => show r.count a ≤ _; rw [List.count_cons]; omega
theorem cnt_drop (l : Ks) (n : Nat) (a : Key) : (l.drop n).count a ≤ l.count a := (List.drop_sublist n l).count_le a
theorem cnt_filt (l : Ks) (k a : Key) : (l.filter (· != k)).count a ≤ l.count a := List.filter_sublist.count_le a
theorem cnt_filt0 (l : Ks) (k : Key) : (l.filter (· != k)).count k = 0 := List.count_eq_zero.mpr (filt_not k l)
theorem cnt_no {l : Ks} {k : Key} (h : k ∉ l) : l.count k = 0 := List.count_eq_zero.mpr h
theorem cnt_in {l : Ks} {k : Key} (h : k ∈ l) : 0 < l.count k := List.count_pos_iff.mpr h
theorem cnt_snoc (l : Ks) (k a : Key) : (l ++ [k]).count a = l.count a + (if k = a then 1 else 0) := by
  rw [List.count_append, List.count_cons, List.count_nil]
  by_cases z : k = a <;> simp [z]
theorem cnt_cons (l : Ks) (k a : Key) : (k :: l).count a = l.count a + (if k = a then 1 else 0) := by
  rw [List.count_cons]
  by_cases z : k = a <;> simp [z]
theorem len_filt (l : Ks) (k : Key) : (l.filter (· != k)).length ≤ l.length := List.length_filter_le _ _
theorem len_filt_in {l : Ks} {k : Key} (h : k ∈ l) : (l.filter (· != k)).length + 1 ≤ l.length := by
  induction l with
  | nil => cases h
  | cons x r ih =>
    rw [List.filter_cons]
    by_cases z : x = k
    · subst z
      simp
      exact len_filt r x
    · have : (x != k) = true := by simpa using z
      rw [if_pos this]
      rcases List.mem_cons.mp h with q | q
      · exact absurd q.symm z
      · have := ih q
        simp at this ⊢
        omega
/-! ### the plain one -/
def fifS (most : Int) (ks : Ks) (k : Key) : Ks := if k ∈ ks then ks else (fifPut most ks k).2
theorem fif_cut {most : Int} (h : 1 ≤ most) (ks : Ks) (k : Key) : fifPut most ks k = cutQ most (ks ++ [k]) := by
  unfold fifPut cutQ
  by_cases c : (ks.length : Int) ≥ most
  · have c2 : ¬ (((ks ++ [k]).length : Nat) : Int) ≤ most := by simp; omega
    rw [if_pos c, if_neg c2]
    cases ks with
    | nil => simp at c; omega
    | cons x r => rfl
  · have c2 : (((ks ++ [k]).length : Nat) : Int) ≤ most := by simp; omega
    rw [if_neg c, if_pos c2]
theorem cutQ_cnt (most : Int) (ks : Ks) (a : Key) : (cutQ most ks).2.count a + (match (cutQ most ks).1 with | some x => if x = a then 1 else 0 | none => 0) = ks.count a := by
  unfold cutQ
  split
  · rfl
  · cases ks with
    | nil => rfl
    | cons x r => exact (cnt_cons r x a).symm
theorem cutQ_len (most : Int) (ks : Ks) : (cutQ most ks).2.length ≤ ks.length := by
  unfold cutQ
  split
  · exact Nat.le_refl _
  · cases ks with
    | nil => exact Nat.le_refl _
    | cons x r => exact Nat.le_succ _
structure FI (ks : Ks) (n : Nat) : Prop where
  c : ∀ a, ks.count a ≤ 1
  l : ks.length ≤ n
theorem FI.nx {most : Int} {ks : Ks} {n : Nat} (I : FI ks n) (hm : 1 ≤ most) (k : Key) : FI (fifS most ks k) (n + 1) := by
  obtain ⟨c, l⟩ := I
  unfold fifS
  split
  · exact ⟨c, by omega⟩
  · rename_i hk
    rw [fif_cut hm]
    refine ⟨fun a => ?_, ?_⟩
    · have h1 := cutQ_cnt most (ks ++ [k]) a
      rw [cnt_snoc] at h1
      have h2 := c a
      by_cases z : k = a
      · subst z
        have := cnt_no hk
        simp at h1
        omega
      · simp [z] at h1
        omega
    · have := cutQ_len most (ks ++ [k])
      simp at this
      omega
/-! ### three queues -/
/-- a key is one letter -/
def w1 (a : Key) : Nat := if a.length = 1 then 1 else 0
theorem w1_le (a : Key) : w1 a ≤ 1 := by unfold w1; split <;> omega
theorem w1_k {k : Key} (h : k.length = 1) : w1 k = 1 := if_pos h
theorem w1_of {a : Key} (h : 0 < w1 a) : a.length = 1 := by
  unfold w1 at h
  split at h
  · assumption
  · omega
structure TS where
  i : Ks
  g : Ks
  m : Ks
def twoS (m0 m1 m2 : Int) (S : TS) (k : Key) : TS := if k ∈ S.m then ⟨S.i, S.g, S.m.filter (· != k) ++ [k]⟩ else if k ∈ S.i then S
  else ⟨(twoPut m0 m1 m2 S.i S.g S.m k).2.1, (twoPut m0 m1 m2 S.i S.g S.m k).2.2.1, (twoPut m0 m1 m2 S.i S.g S.m k).2.2.2⟩
structure TI (S : TS) (n : Nat) : Prop where
  c : ∀ a, S.i.count a + S.g.count a + S.m.count a ≤ w1 a
  l : S.i.length ≤ n ∧ S.g.length ≤ n ∧ S.m.length ≤ n
theorem lastQ_cnt (m1 : Int) (ks : Ks) (a : Key) : (lastQ m1 ks).count a ≤ ks.count a := by
  unfold lastQ cut
  exact Nat.le_trans ((List.take_sublist _ _).count_le a) (cnt_drop ks _ a)
theorem lastQ_len (m1 : Int) (ks : Ks) : (lastQ m1 ks).length ≤ ks.length := by
  unfold lastQ cut
  simp
  omega
theorem TI.nx {m0 m1 m2 : Int} {S : TS} {n : Nat} (I : TI S n) (k : Key) (hk : k.length = 1) : TI (twoS m0 m1 m2 S k) (n + 1) := by
  obtain ⟨c, l1, l2, l3⟩ := I
  have hw := w1_k hk
  obtain ⟨i, g, m⟩ := S
  simp only at c l1 l2 l3
  unfold twoS
  dsimp only
  by_cases z1 : k ∈ m
  · rw [if_pos z1]
    refine ⟨fun a => ?_, by show i.length ≤ _; omega, by show g.length ≤ _; omega, ?_⟩
    · show i.count a + g.count a + (m.filter (· != k) ++ [k]).count a ≤ w1 a
      rw [cnt_snoc]
      have := c a
      have := cnt_filt m k a
      by_cases z : k = a
      · subst z
        have := cnt_filt0 m k
        have := cnt_in z1
        simp
        omega
      · simp [z]
        omega
    · show (m.filter (· != k) ++ [k]).length ≤ _
      have := len_filt m k
      simp at this ⊢
      omega
  · rw [if_neg z1]
    by_cases z2 : k ∈ i
    · rw [if_pos z2]
      exact ⟨c, by show i.length ≤ _; omega, by show g.length ≤ _; omega, by show m.length ≤ _; omega⟩
    · rw [if_neg z2]
      have d1 := cnt_no z1
      have d2 := cnt_no z2
      unfold twoPut
      by_cases z3 : k ∈ g
      · simp only [if_pos z3]
        refine ⟨fun a => ?_, by show i.length ≤ _; omega, ?_, ?_⟩
        · show i.count a + (g.filter (· != k)).count a + (cutQ m2 (m ++ [k])).2.count a ≤ w1 a
          have h1 := cutQ_cnt m2 (m ++ [k]) a
          rw [cnt_snoc] at h1
          have := c a
          have := cnt_filt g k a
          by_cases z : k = a
          · subst z
            have := cnt_filt0 g k
            simp at h1
            omega
          · simp [z] at h1
            omega
        · show (g.filter (· != k)).length ≤ _
          have := len_filt g k
          omega
        · show (cutQ m2 (m ++ [k])).2.length ≤ _
          have := cutQ_len m2 (m ++ [k])
          simp at this
          omega
      · simp only [if_neg z3]
        have d3 := cnt_no z3
        have h0 := fun a => cutQ_cnt m0 (i ++ [k]) a
        have hl := cutQ_len m0 (i ++ [k])
        generalize cutQ m0 (i ++ [k]) = q at h0 hl ⊢
        obtain ⟨o, r⟩ := q
        simp at hl
        refine ⟨fun a => ?_, by show r.length ≤ _; omega, ?_, by show m.length ≤ _; omega⟩
        · show r.count a + (match o with | none => g | some x => lastQ m1 (g ++ [x])).count a + m.count a ≤ w1 a
          have h1 := h0 a
          have h2 := c a
          rw [cnt_snoc] at h1
          cases o with
          | none =>
            dsimp only at h1 ⊢
            by_cases z : k = a
            · subst z; simp at h1; omega
            · simp [z] at h1; omega
          | some x =>
            dsimp only at h1 ⊢
            have h3 := lastQ_cnt m1 (g ++ [x]) a
            rw [cnt_snoc] at h3
            by_cases z : k = a
            · subst z; simp at h1; omega
            · simp [z] at h1; omega
        · show (match o with | none => g | some x => lastQ m1 (g ++ [x])).length ≤ _
          cases o with
          | none => show g.length ≤ _; omega
          | some x =>
            have := lastQ_len m1 (g ++ [x])
            simp at this ⊢
            omega
/-! ### the one that learns -/
structure LS where
  aim : Int
  t1 : Ks
  t2 : Ks
  b1 : Ks
  b2 : Ks
def adS (most : Int) (S : LS) (k : Key) : LS := if k ∈ S.t1 ∨ k ∈ S.t2 then ⟨S.aim, S.t1.filter (· != k), S.t2.filter (· != k) ++ [k], S.b1, S.b2⟩
  else ⟨(adPut most S.aim S.t1 S.t2 S.b1 S.b2 k).aim, (adPut most S.aim S.t1 S.t2 S.b1 S.b2 k).t1, (adPut most S.aim S.t1 S.t2 S.b1 S.b2 k).t2, (adPut most S.aim S.t1 S.t2 S.b1 S.b2 k).b1, (adPut most S.aim S.t1 S.t2 S.b1 S.b2 k).b2⟩
structure AI (most : Int) (S : LS) (n : Nat) : Prop where
  c : ∀ a, S.t1.count a + S.t2.count a + S.b1.count a + S.b2.count a ≤ w1 a
  m : (S.t1.length : Int) + S.t2.length ≤ most
  a0 : 0 ≤ S.aim
  a1 : S.aim ≤ most
  l : S.t1.length + S.t2.length + S.b1.length + S.b2.length ≤ n
/-- replace: nothing is lost; there is room then -/
theorem reS_inv {most aim : Int} {ag : Bool} {T1 T2 B1 B2 : Ks} (h1 : 1 ≤ most) (hm : (T1.length : Int) + T2.length ≤ most) : (∀ a, (reS most aim ag T1 T2 B1 B2).t1.count a + (reS most aim ag T1 T2 B1 B2).t2.count a + (reS most aim ag T1 T2 B1 B2).b1.count a + (reS most aim ag T1 T2 B1 B2).b2.count a = T1.count a + T2.count a + B1.count a + B2.count a) ∧
    (∀ a, (reS most aim ag T1 T2 B1 B2).t1.count a ≤ T1.count a) ∧ (∀ a, (reS most aim ag T1 T2 B1 B2).t2.count a ≤ T2.count a) ∧
    ((reS most aim ag T1 T2 B1 B2).t1.length : Int) + (reS most aim ag T1 T2 B1 B2).t2.length + 1 ≤ most ∧ (reS most aim ag T1 T2 B1 B2).t1.length + (reS most aim ag T1 T2 B1 B2).t2.length + (reS most aim ag T1 T2 B1 B2).b1.length + (reS most aim ag T1 T2 B1 B2).b2.length = T1.length + T2.length + B1.length + B2.length ∧
    (∀ a, B1.count a ≤ (reS most aim ag T1 T2 B1 B2).b1.count a) ∧ (∀ a, B2.count a ≤ (reS most aim ag T1 T2 B1 B2).b2.count a) := by
  unfold reS repl
  dsimp only
  by_cases c : (T1.length : Int) + T2.length < most
  · simp only [if_pos c]
    exact ⟨by simp, by simp, by simp, by omega, by simp, by simp, by simp⟩
  · simp only [if_neg c]
    by_cases f : isFirst aim ag T1 T2
    · simp only [if_pos f]
      cases T1 with
      | nil =>
        rcases f with ⟨z, _⟩ | z
        · simp at z
        · subst z; simp at c; omega
      | cons x r =>
        dsimp only
        refine ⟨fun a => ?_, fun a => ?_, fun _ => Nat.le_refl _, ?_, ?_, fun a => ?_, fun _ => Nat.le_refl _⟩
        · rw [cnt_snoc, cnt_cons]; omega
        · rw [cnt_cons]; omega
        · simp at hm; omega
        · simp; omega
        · rw [cnt_snoc]; omega
    · simp only [if_neg f]
      cases T2 with
      | nil => exact absurd (.inr rfl) f
      | cons x r =>
        dsimp only
        refine ⟨fun a => ?_, fun _ => Nat.le_refl _, fun a => ?_, ?_, ?_, fun _ => Nat.le_refl _, fun a => ?_⟩
        · rw [cnt_snoc, cnt_cons]; omega
        · rw [cnt_cons]; omega
        · simp at hm; omega
        · simp; omega
        · rw [cnt_snoc]; omega
theorem up_b {most aim : Int} {B1 B2 : Ks} (h1 : 1 ≤ most) (a0 : 0 ≤ aim) (a1 : aim ≤ most) : 0 ≤ aimUp most aim B1 B2 ∧ aimUp most aim B1 B2 ≤ most := by
  unfold aimUp minI maxI
  split <;> split <;> omega
theorem dn_b {most aim : Int} {B1 B2 : Ks} (h1 : 1 ≤ most) (a0 : 0 ≤ aim) (a1 : aim ≤ most) : 0 ≤ aimDn aim B1 B2 ∧ aimDn aim B1 B2 ≤ most := by
  unfold aimDn maxI
  split <;> split <;> omega
theorem AI.nx {most : Int} {S : LS} {n : Nat} (I : AI most S n) (h1 : 1 ≤ most) (k : Key) (hk : k.length = 1) : AI most (adS most S k) (n + 1) := by
  obtain ⟨c, m, a0, a1, l⟩ := I
  have hw := w1_k hk
  obtain ⟨aim, T1, T2, B1, B2⟩ := S
  simp only at c m a0 a1 l
  unfold adS
  dsimp only
  by_cases z : k ∈ T1 ∨ k ∈ T2
  · rw [if_pos z]
    have len : (T1.filter (· != k)).length + (T2.filter (· != k)).length + 1 ≤ T1.length + T2.length := by
      have e1 := len_filt T1 k
      have e2 := len_filt T2 k
      rcases z with z | z
      · have := len_filt_in z; omega
      · have := len_filt_in z; omega
    refine ⟨fun a => ?_, ?_, a0, a1, ?_⟩
    · show (T1.filter (· != k)).count a + (T2.filter (· != k) ++ [k]).count a + B1.count a + B2.count a ≤ w1 a
      rw [cnt_snoc]
      have f1 := cnt_filt T1 k a
      have f2 := cnt_filt T2 k a
      have := c a
      by_cases e : k = a
      · subst e
        have e1 := cnt_filt0 T1 k
        have e2 := cnt_filt0 T2 k
        have : 0 < T1.count k + T2.count k := by
          rcases z with z | z
          · have := cnt_in z; omega
          · have := cnt_in z; omega
        simp
        omega
      · simp [e]
        omega
    · show ((T1.filter (· != k)).length : Int) + ((T2.filter (· != k) ++ [k]).length : Nat) ≤ most
      rw [List.length_append]
      simp only [List.length_singleton]
      omega
    · show (T1.filter (· != k)).length + (T2.filter (· != k) ++ [k]).length + B1.length + B2.length ≤ n + 1
      rw [List.length_append]
      simp only [List.length_singleton]
      omega
  · rw [if_neg z]
    have z1 : k ∉ T1 := fun q => z (.inl q)
    have z2 : k ∉ T2 := fun q => z (.inr q)
    have d1 := cnt_no z1
    have d2 := cnt_no z2
    unfold adPut
    by_cases zb : k ∈ B1
    · simp only [if_pos zb]
      have ub := up_b (B1 := B1) (B2 := B2) h1 a0 a1
      obtain ⟨i1, i2, i3, i4, i5, i6, i7⟩ := reS_inv (most := most) (aim := aimUp most aim B1 B2) (ag := false) (B1 := B1) (B2 := B2) h1 m
      have ea : (reS most (aimUp most aim B1 B2) false T1 T2 B1 B2).aim = aimUp most aim B1 B2 := rfl
      generalize reS most (aimUp most aim B1 B2) false T1 T2 B1 B2 = S at *
      rw [← ea] at ub
      refine ⟨fun a => ?_, ?_, ub.1, ub.2, ?_⟩
      · show S.t1.count a + (S.t2 ++ [k]).count a + (S.b1.filter (· != k)).count a + S.b2.count a ≤ w1 a
        rw [cnt_snoc]
        have := c a
        have := i1 a
        have := cnt_filt S.b1 k a
        by_cases e : k = a
        · subst e
          have := cnt_filt0 S.b1 k
          have := cnt_in zb
          have := i2 k
          have := i3 k
          have := i6 k
          simp
          omega
        · simp [e]
          omega
      · show (S.t1.length : Int) + ((S.t2 ++ [k]).length : Nat) ≤ most
        rw [List.length_append]
        simp only [List.length_singleton]
        omega
      · show S.t1.length + (S.t2 ++ [k]).length + (S.b1.filter (· != k)).length + S.b2.length ≤ n + 1
        have := len_filt S.b1 k
        rw [List.length_append]
        simp only [List.length_singleton]
        omega
    · simp only [if_neg zb]
      have d3 := cnt_no zb
      by_cases zc : k ∈ B2
      · simp only [if_pos zc]
        have ub := dn_b (B1 := B1) (B2 := B2) h1 a0 a1
        obtain ⟨i1, i2, i3, i4, i5, i6, i7⟩ := reS_inv (most := most) (aim := aimDn aim B1 B2) (ag := true) (B1 := B1) (B2 := B2) h1 m
        have ea : (reS most (aimDn aim B1 B2) true T1 T2 B1 B2).aim = aimDn aim B1 B2 := rfl
        generalize reS most (aimDn aim B1 B2) true T1 T2 B1 B2 = S at *
        rw [← ea] at ub
        refine ⟨fun a => ?_, ?_, ub.1, ub.2, ?_⟩
        · show S.t1.count a + (S.t2 ++ [k]).count a + S.b1.count a + (S.b2.filter (· != k)).count a ≤ w1 a
          rw [cnt_snoc]
          have := c a
          have := i1 a
          have := cnt_filt S.b2 k a
          by_cases e : k = a
          · subst e
            have := cnt_filt0 S.b2 k
            have := cnt_in zc
            have := i2 k
            have := i3 k
            have := i7 k
            simp
            omega
          · simp [e]
            omega
        · show (S.t1.length : Int) + ((S.t2 ++ [k]).length : Nat) ≤ most
          rw [List.length_append]
          simp only [List.length_singleton]
          omega
        · show S.t1.length + (S.t2 ++ [k]).length + S.b1.length + (S.b2.filter (· != k)).length ≤ n + 1
          have := len_filt S.b2 k
          rw [List.length_append]
          simp only [List.length_singleton]
          omega
      · simp only [if_neg zc]
        have d4 := cnt_no zc
        have fin : ∀ (aim : Int) (t1 t2 b1 b2 : Ks), 0 ≤ aim → aim ≤ most → (∀ a, t1.count a + t2.count a + b1.count a + b2.count a ≤ T1.count a + T2.count a + B1.count a + B2.count a) → (t1.length : Int) + t2.length + 1 ≤ most → t1.length + t2.length + b1.length + b2.length ≤ T1.length + T2.length + B1.length + B2.length → AI most ⟨aim, t1 ++ [k], t2, b1, b2⟩ (n + 1) := by
          intro aim t1 t2 b1 b2 q0 q1 q2 q3 q4
          refine ⟨fun a => ?_, ?_, q0, q1, ?_⟩
          · show (t1 ++ [k]).count a + t2.count a + b1.count a + b2.count a ≤ w1 a
            rw [cnt_snoc]
            have := c a
            have := q2 a
            by_cases e : k = a
            · subst e; simp; omega
            · simp [e]; omega
          · show (((t1 ++ [k]).length : Nat) : Int) + t2.length ≤ most
            rw [List.length_append]
            simp only [List.length_singleton]
            omega
          · show (t1 ++ [k]).length + t2.length + b1.length + b2.length ≤ n + 1
            rw [List.length_append]
            simp only [List.length_singleton]
            omega
        by_cases cw : (T1.length : Int) + B1.length ≥ most
        · simp only [if_pos cw]
          by_cases ct : (T1.length : Int) < most
          · simp only [if_pos ct]
            obtain ⟨i1, i2, i3, i4, i5, i6, i7⟩ := reS_inv (most := most) (aim := aim) (ag := false) (B1 := B1.tail) (B2 := B2) h1 m
            have ea : (reS most aim false T1 T2 B1.tail B2).aim = aim := rfl
            generalize reS most aim false T1 T2 B1.tail B2 = S at *
            refine fin S.aim S.t1 S.t2 S.b1 S.b2 (by omega) (by omega) (fun a => ?_) i4 ?_
            · have := i1 a
              have := cnt_tail B1 a
              omega
            · have := tail_len B1
              omega
          · simp only [if_neg ct]
            cases T1 with
            | nil => simp at ct; omega
            | cons x r =>
              dsimp only
              refine fin aim r T2 B1 B2 a0 a1 (fun a => ?_) ?_ ?_
              · rw [cnt_cons]; omega
              · simp at m; omega
              · simp
        · simp only [if_neg cw]
          by_cases ce : (T1.length : Int) + B1.length + T2.length + B2.length ≥ most
          · simp only [if_pos ce]
            by_cases ce2 : (T1.length : Int) + B1.length + T2.length + B2.length ≥ 2 * most
            · simp only [if_pos ce2]
              obtain ⟨i1, i2, i3, i4, i5, i6, i7⟩ := reS_inv (most := most) (aim := aim) (ag := false) (B1 := B1) (B2 := B2.tail) h1 m
              have ea : (reS most aim false T1 T2 B1 B2.tail).aim = aim := rfl
              generalize reS most aim false T1 T2 B1 B2.tail = S at *
              refine fin S.aim S.t1 S.t2 S.b1 S.b2 (by omega) (by omega) (fun a => ?_) i4 ?_
              · have := i1 a
                have := cnt_tail B2 a
                omega
              · have := tail_len B2
                omega
            · simp only [if_neg ce2]
              obtain ⟨i1, i2, i3, i4, i5, i6, i7⟩ := reS_inv (most := most) (aim := aim) (ag := false) (B1 := B1) (B2 := B2) h1 m
              have ea : (reS most aim false T1 T2 B1 B2).aim = aim := rfl
              generalize reS most aim false T1 T2 B1 B2 = S at *
              refine fin S.aim S.t1 S.t2 S.b1 S.b2 (by omega) (by omega) (fun a => ?_) i4 ?_
              · have := i1 a
                omega
              · omega
          · simp only [if_neg ce]
            refine fin aim T1 T2 B1 B2 a0 a1 (fun a => Nat.le_refl _) (by omega) (Nat.le_refl _)
end K05

set_option linter.all false
set_option maxRecDepth 100000
set_option maxHeartbeats 4000000
/-! K05j: the caches made; queue_hits. -/
namespace K05
open PySem PyI
abbrev qh_0 : S := .par [.n 2, .n 3, .n 4] [(.new 0 [(.var 1)]), (.new 2 [(.var 1)]), (.lst true [(.lit (.int 0)), (.lit (.int 0))])]
abbrev qh_1_0_0 : S := .ite (.cmp .IsNot (.meth (.var 7) 12 [(.var 5)]) (.lit (.non))) [.augS (.var 4) (.var 6) .Add (.lit (.int 1))] [.expr (.meth (.var 7) 15 [(.var 5), (.var 5)])]
abbrev qh_1_0 : S := .for (.many [.one 6, .one 7]) .enum [(.tup [(.var 2), (.var 3)])] [qh_1_0_0]
abbrev qh_1 : S := .for (.one 5) .val [(.var 0)] [qh_1_0]
abbrev qh_2 : S := .ret [(.bi .tuple false [(.var 4)])]
theorem qh_eq : b15 = [qh_0, qh_1, qh_2] := rfl
theorem at_end (h : Hc) (x : CO) (t : Hc) : (h ++ x :: t)[h.length]? = some x := by simp
theorem set_end (h : Hc) (x y : CO) (t : Hc) : (h ++ x :: t).set h.length y = h ++ y :: t := by
  rw [List.set_append_right _ _ (Nat.le_refl _), Nat.sub_self]
  rfl
theorem new_fif (n : Nat) (h : Hc) {most : Int} (h1 : 1 ≤ most) (h2 : most ≤ 400) : newI 0 (callN pg (n + 1) 0) [.int most] h = .ok (.ref h.length, h ++ [.ins 0 [(0, .int most), (1, .ref (h.length + 1))], .dic false []]) := by
  unfold newI
  rw [callN_s (F := f0) rfl, runF_of (o := .nx [.v (.ref h.length), .v (.int most)] (h ++ [.ins 0 [(0, .int most), (1, .ref (h.length + 1))], .dic false []])) rfl (by
    simp [f0, b0, exB, exS, evE, evEs, evAnd, evOr, evAndT, evOrT, evIf, PyI.Out.of, PyI.Out.then, Res.bind, tst, Sl.var, stTg, stTgs, attrW, insAt, setAttrW, clsW, fget, fput, bmT, bmHas, bm, bi, mkL, binop, iop, lseq, truth, cmpop, index, atW, idxN, partR, partOf, sliceW, getW, setItemW, delItemW, nxO, callI, newI, W.isKey, stPT, stPTs, dicOf, Fn.args, Fn.start, cx_call, cx_glob, cx_init, cx_meth, cx_told, cx_fuel, walkK, walkOf, walkOne, walkVal, walkRange, walkEnum, walkDic, walkZip, LL, pg_init, pg_glob, pg_meth, meths, at_end, set_end, h1, h2])]
  rfl
theorem new_two (n : Nat) (h : Hc) {m0 m1 m2 : Int} (a1 : 1 ≤ m0) (a2 : m0 ≤ 400) (b1 : 1 ≤ m1) (b2 : m1 ≤ 400) (c1 : 1 ≤ m2) (c2 : m2 ≤ 400) : newI 1 (callN pg (n + 1) 4) [.int m0, .int m1, .int m2] h = .ok (.ref h.length, h ++ [.ins 1 [(2, .tup [.int m0, .int m1, .int m2]), (3, .ref (h.length + 1)), (4, .lst []), (5, .ref (h.length + 2))], .dic false [], .dic false []]) := by
  unfold newI
  rw [callN_s (F := f4) rfl, runF_of (o := .nx [.v (.ref h.length), .v (.int m0), .v (.int m1), .v (.int m2), .un] (h ++ [.ins 1 [(2, .tup [.int m0, .int m1, .int m2]), (3, .ref (h.length + 1)), (4, .lst []), (5, .ref (h.length + 2))], .dic false [], .dic false []])) rfl (by
    simp [f4, b4, exB, exS, evE, evEs, evAnd, evOr, evAndT, evOrT, evIf, PyI.Out.of, PyI.Out.then, Res.bind, tst, Sl.var, stTg, stTgs, attrW, insAt, setAttrW, clsW, fget, fput, bmT, bmHas, bm, bi, mkL, binop, iop, lseq, truth, cmpop, index, atW, idxN, partR, partOf, sliceW, getW, setItemW, delItemW, nxO, callI, newI, W.isKey, stPT, stPTs, dicOf, Fn.args, Fn.start, cx_call, cx_glob, cx_init, cx_meth, cx_told, cx_fuel, walkK, walkOf, walkOne, walkVal, walkRange, walkEnum, walkDic, walkZip, LL, pg_init, pg_glob, pg_meth, meths, at_end, set_end, a1, a2, b1, b2, c1, c2, genRun, anyG, wipeS, evIf, tr1, noX])]
  rfl
theorem new_ad (n : Nat) (h : Hc) {most : Int} (h1 : 1 ≤ most) (h2 : most ≤ 400) : newI 2 (callN pg (n + 1) 9) [.int most] h = .ok (.ref h.length, h ++ [.ins 2 [(0, .int most), (7, .int 0), (8, .ref (h.length + 1)), (9, .ref (h.length + 2)), (10, .ref (h.length + 3)), (11, .ref (h.length + 4))], .dic false [], .dic false [], .lst false [], .lst false []]) := by
  unfold newI
  rw [callN_s (F := f9) rfl, runF_of (o := .nx [.v (.ref h.length), .v (.int most)] (h ++ [.ins 2 [(0, .int most), (7, .int 0), (8, .ref (h.length + 1)), (9, .ref (h.length + 2)), (10, .ref (h.length + 3)), (11, .ref (h.length + 4))], .dic false [], .dic false [], .lst false [], .lst false []])) rfl (by
    simp [f9, b9, exB, exS, evE, evEs, evAnd, evOr, evAndT, evOrT, evIf, PyI.Out.of, PyI.Out.then, Res.bind, tst, Sl.var, stTg, stTgs, attrW, insAt, setAttrW, clsW, fget, fput, bmT, bmHas, bm, bi, mkL, binop, iop, lseq, truth, cmpop, index, atW, idxN, partR, partOf, sliceW, getW, setItemW, delItemW, nxO, callI, newI, W.isKey, stPT, stPTs, dicOf, Fn.args, Fn.start, cx_call, cx_glob, cx_init, cx_meth, cx_told, cx_fuel, walkK, walkOf, walkOne, walkVal, walkRange, walkEnum, walkDic, walkZip, LL, pg_init, pg_glob, pg_meth, meths, at_end, set_end, h1, h2])]
  rfl
/-! ### one key at a cache -/
abbrev AdS (h : Hc) (a d1 d2 g1 g2 : Nat) (most : Int) (S : LS) : Prop := AdAt h a d1 d2 g1 g2 most S.aim S.t1 S.t2 S.b1 S.b2
abbrev inA (S : LS) (k : Key) : Prop := k ∈ S.t1 ∨ k ∈ S.t2
theorem AI.nd1 {most : Int} {S : LS} {n : Nat} (I : AI most S n) : S.t1.Nodup := cnt_nd fun a => by have := I.c a; have := w1_le a; omega
theorem AI.nd2 {most : Int} {S : LS} {n : Nat} (I : AI most S n) : S.t2.Nodup := cnt_nd fun a => by have := I.c a; have := w1_le a; omega
theorem AI.dj {most : Int} {S : LS} {n : Nat} (I : AI most S n) {k : Key} (h : k ∈ S.t1) : k ∉ S.t2 := fun z => by have := I.c k; have := w1_le k; have := cnt_in h; have := cnt_in z; omega
theorem AI.djb {most : Int} {S : LS} {n : Nat} (I : AI most S n) {k : Key} (h : k ∈ S.b1) : k ∉ S.b2 := fun z => by have := I.c k; have := w1_le k; have := cnt_in h; have := cnt_in z; omega
theorem ad_hit {n m : Nat} {h : Hc} {a d1 d2 g1 g2 : Nat} {most : Int} {S : LS} {k : Key} (A : AdS h a d1 d2 g1 g2 most S) (I : AI most S m) (hm : m < 900) (c : inA S k) :
    ∃ h', callN pg (n + 1) 10 [.ref a, .str k] h = .ok (.str k, h') ∧ AdS h' a d1 d2 g1 g2 most (adS most S k) ∧ Frame [d1, d2] h h' := by
  have l := I.l
  unfold adS
  rw [if_pos c]
  by_cases c1 : k ∈ S.t1
  · have c2 := I.dj c1
    refine ⟨_, ad_get1 A c1 c2 (by omega), ?_, ((Frame.refl _ h).set (.inl (by simp)) _).set (.inl (by simp)) _⟩
    have := (A.w1 (S.t1.filter (· != k))).w2 (S.t2 ++ [k])
    show AdAt _ _ _ _ _ _ _ S.aim (S.t1.filter (· != k)) (S.t2.filter (· != k) ++ [k]) S.b1 S.b2
    rw [filt_id c2]
    exact this
  · have c2 : k ∈ S.t2 := c.elim (fun z => absurd z c1) id
    refine ⟨_, ad_get2 A c1 c2 (by omega), ?_, (Frame.refl _ h).set (.inl (by simp)) _⟩
    have := A.w2 (S.t2.filter (· != k) ++ [k])
    show AdAt _ _ _ _ _ _ _ S.aim (S.t1.filter (· != k)) (S.t2.filter (· != k) ++ [k]) S.b1 S.b2
    rw [filt_id c1]
    exact this
theorem ad_miss {n m : Nat} {h : Hc} {a d1 d2 g1 g2 : Nat} {most : Int} {S : LS} {k : Key} (A : AdS h a d1 d2 g1 g2 most S) (I : AI most S m) (hm : m < 900) (h1 : 1 ≤ most) (c : ¬ inA S k) :
    ∃ h' g1' g2', callN pg (n + 3) 11 [.ref a, .str k, .str k] h = .ok (oW (adPut most S.aim S.t1 S.t2 S.b1 S.b2 k).g, h') ∧ AdS h' a d1 d2 g1' g2' most (adS most S k) ∧ Frame [a, d1, d2, g1, g2] h h' ∧ (g1' = g1 ∨ h.length ≤ g1') ∧ (g2' = g2 ∨ h.length ≤ g2') := by
  have l := I.l
  have c1 : k ∉ S.t1 := fun z => c (.inl z)
  have c2 : k ∉ S.t2 := fun z => c (.inr z)
  obtain ⟨h', g1', g2', e, A', fr, l1, l2⟩ := ad_put (n := n) A h1 I.nd1 I.nd2 (by omega) (by omega) (by omega) (by omega) c1 c2 (fun z => I.djb z)
  refine ⟨h', g1', g2', e, ?_, fr, l1, l2⟩
  unfold adS
  rw [if_neg c]
  exact A'
theorem FI.nd {ks : Ks} {n : Nat} (I : FI ks n) : ks.Nodup := cnt_nd I.c
/-! ### both caches, counted -/
structure QS where
  f : Ks
  a : LS
  c0 : Int
  c1 : Int
def q0 : QS := ⟨[], ⟨0, [], [], [], []⟩, 0, 0⟩
def qS (most : Int) (q : QS) (k : Key) : QS := ⟨fifS most q.f k, adS most q.a k, q.c0 + (if k ∈ q.f then 1 else 0), q.c1 + (if inA q.a k then 1 else 0)⟩
def qR (most : Int) (q : QS) : Ks → QS
  | [] => q
  | k :: r => qR most (qS most q k) r
theorem FI0 : FI [] 0 := ⟨fun _ => by simp, Nat.le_refl _⟩
theorem AI0 {most : Int} (h : 1 ≤ most) : AI most ⟨0, [], [], [], []⟩ 0 := ⟨fun _ => by simp, by simp; omega, Int.le_refl _, by show (0 : Int) ≤ most; omega, Nat.le_refl _⟩
structure QH (h : Hc) (most : Int) (q : QS) (g1 g2 : Nat) : Prop where
  f : FifAt h 0 1 most q.f
  a : AdS h 2 3 4 g1 g2 most q.a
  c : h[7]? = some (.lst false [.int q.c0, .int q.c1])
  p1 : g1 = 5 ∨ 8 ≤ g1
  p2 : g2 = 6 ∨ 8 ≤ g2
theorem none_str (k : List Nat) : (match W.str k with | .non => some false | _ => some true) = some true := rfl
theorem FifAt.to {h h' : Hc} {a d : Nat} {most : Int} {ks : Ks} {L : List Nat} (A : FifAt h a d most ks) (fr : Frame L h h') (ha : a ∉ L) (hd : d ∉ L) : FifAt h' a d most ks := ⟨fr.keep A.1 ha, fr.keep A.2 hd⟩
theorem AdAt.to {h h' : Hc} {a d1 d2 g1 g2 : Nat} {most aim : Int} {T1 T2 B1 B2 : Ks} {L : List Nat} (A : AdAt h a d1 d2 g1 g2 most aim T1 T2 B1 B2) (fr : Frame L h h') (ha : a ∉ L) (h1 : d1 ∉ L) (h2 : d2 ∉ L) (h3 : g1 ∉ L) (h4 : g2 ∉ L) : AdAt h' a d1 d2 g1 g2 most aim T1 T2 B1 B2 := ⟨fr.keep A.fa ha, fr.keep A.f1 h1, fr.keep A.f2 h2, fr.keep A.b1 h3, fr.keep A.b2 h4, A.nd, A.ng⟩
theorem TwoAt.to {h h' : Hc} {a i m : Nat} {m0 m1 m2 : Int} {In Gh Main : Ks} {L : List Nat} (A : TwoAt h a i m m0 m1 m2 In Gh Main) (fr : Frame L h h') (ha : a ∉ L) (h1 : i ∉ L) (h2 : m ∉ L) : TwoAt h' a i m m0 m1 m2 In Gh Main := ⟨fr.keep A.fa ha, fr.keep A.fi h1, fr.keep A.fm h2, A.ne⟩
abbrev qsl (ks : Ks) (most : Int) (s5 s6 s7 : Sv) : Sl := [.v (.lst (sts ks)), .v (.int most), .v (.ref 0), .v (.ref 2), .v (.ref 7), s5, s6, s7]
section
variable {n m : Nat} {h : Hc} {most : Int} {q : QS} {g1 g2 : Nat} {ks : Ks} {k : Key}
/-- the plain one's turn -/
theorem qh_f (H : QH h most q g1 g2) (I : FI q.f m) (hm : m < 900) (h1 : 1 ≤ most) :
    ∃ h', exS (pg.cx (callN pg (n + 4))) qh_1_0_0 (qsl ks most (.v (.str k)) (.v (.int 0)) (.v (.ref 0))) h = .nx (qsl ks most (.v (.str k)) (.v (.int 0)) (.v (.ref 0))) h' ∧ QH h' most ⟨fifS most q.f k, q.a, q.c0 + (if k ∈ q.f then 1 else 0), q.c1⟩ g1 g2 := by
  have e1 := fif_get (n := n + 3) (k := k) H.f
  have hf := H.f.1
  have hc := H.c
  have l := I.l
  by_cases c : k ∈ q.f
  · rw [if_pos c] at e1
    have fr : Frame [7] h (h.set 7 (.lst false [.int (q.c0 + 1), .int q.c1])) := (Frame.refl _ h).set (.inl (by simp)) _
    have n1 : g1 ∉ [7] := by have := H.p1; simp; omega
    have n2 : g2 ∉ [7] := by have := H.p2; simp; omega
    refine ⟨_, ?_, ⟨?_, H.a.to fr (by simp) (by simp) (by simp) n1 n2, ?_, H.p1, H.p2⟩⟩
    · simp [exB, exS, evE, evEs, evAnd, evOr, evAndT, evOrT, evIf, PyI.Out.of, PyI.Out.then, Res.bind, tst, Sl.var, stTg, stTgs, attrW, insAt, setAttrW, clsW, fget, fput, bmT, bmHas, bm, bi, mkL, binop, iop, lseq, truth, cmpop, index, atW, idxN, partR, partOf, sliceW, getW, setItemW, delItemW, nxO, callI, newI, W.isKey, stPT, stPTs, dicOf, Fn.args, Fn.start, cx_call, cx_glob, cx_init, cx_meth, cx_told, cx_fuel, walkK, walkOf, walkOne, walkVal, walkRange, walkEnum, walkDic, walkZip, LL, hf, pg_init, pg_meth, meths, e1, c, hc]
    · unfold fifS
      rw [if_pos c]
      exact H.f.to fr (by simp) (by simp)
    · rw [if_pos c]
      exact set_at hc _
  · rw [if_neg c] at e1
    have e2 := fif_put (n := n + 3) (k := k) H.f c I.nd h1 (by omega)
    have fr : Frame [1] h (h.set 1 (.dic false (kks (fifPut most q.f k).2))) := (Frame.refl _ h).set (.inl (by simp)) _
    have n1 : g1 ∉ [1] := by have := H.p1; simp; omega
    have n2 : g2 ∉ [1] := by have := H.p2; simp; omega
    refine ⟨_, ?_, ⟨?_, H.a.to fr (by simp) (by simp) (by simp) n1 n2, ?_, H.p1, H.p2⟩⟩
    · simp [exB, exS, evE, evEs, evAnd, evOr, evAndT, evOrT, evIf, PyI.Out.of, PyI.Out.then, Res.bind, tst, Sl.var, stTg, stTgs, attrW, insAt, setAttrW, clsW, fget, fput, bmT, bmHas, bm, bi, mkL, binop, iop, lseq, truth, cmpop, index, atW, idxN, partR, partOf, sliceW, getW, setItemW, delItemW, nxO, callI, newI, W.isKey, stPT, stPTs, dicOf, Fn.args, Fn.start, cx_call, cx_glob, cx_init, cx_meth, cx_told, cx_fuel, walkK, walkOf, walkOne, walkVal, walkRange, walkEnum, walkDic, walkZip, LL, hf, pg_init, pg_meth, meths, e1, c, hc, e2]
    · unfold fifS
      rw [if_neg c]
      exact ⟨fr.keep H.f.1 (by simp), set_at H.f.2 _⟩
    · rw [if_neg c]
      show (h.set 1 _)[7]? = some (.lst false [.int (q.c0 + 0), .int q.c1])
      rw [Int.add_zero, set_ne _ (by decide)]
      exact hc
/-- the learning one's turn -/
theorem qh_a (H : QH h most q g1 g2) (I : AI most q.a m) (hm : m < 900) (h1 : 1 ≤ most) :
    ∃ h' g1' g2', exS (pg.cx (callN pg (n + 4))) qh_1_0_0 (qsl ks most (.v (.str k)) (.v (.int 1)) (.v (.ref 2))) h = .nx (qsl ks most (.v (.str k)) (.v (.int 1)) (.v (.ref 2))) h' ∧ QH h' most ⟨q.f, adS most q.a k, q.c0, q.c1 + (if inA q.a k then 1 else 0)⟩ g1' g2' := by
  have hf := H.a.fa
  have hc := H.c
  have hl : 7 < h.length := (List.getElem?_eq_some_iff.mp hc).1
  by_cases c : inA q.a k
  · obtain ⟨h', e1, A', fr⟩ := ad_hit (n := n + 3) H.a I hm c
    have hc' := fr.keep hc (by decide)
    have fr2 : Frame [7] h' (h'.set 7 (.lst false [.int q.c0, .int (q.c1 + 1)])) := (Frame.refl _ h').set (.inl (by simp)) _
    have n1 : g1 ∉ [7] := by have := H.p1; simp; omega
    have n2 : g2 ∉ [7] := by have := H.p2; simp; omega
    refine ⟨_, g1, g2, ?_, ⟨(H.f.to fr (by decide) (by decide)).to fr2 (by decide) (by decide), A'.to fr2 (by decide) (by decide) (by decide) n1 n2, ?_, H.p1, H.p2⟩⟩
    · simp [exB, exS, evE, evEs, evAnd, evOr, evAndT, evOrT, evIf, PyI.Out.of, PyI.Out.then, Res.bind, tst, Sl.var, stTg, stTgs, attrW, insAt, setAttrW, clsW, fget, fput, bmT, bmHas, bm, bi, mkL, binop, iop, lseq, truth, cmpop, index, atW, idxN, partR, partOf, sliceW, getW, setItemW, delItemW, nxO, callI, newI, W.isKey, stPT, stPTs, dicOf, Fn.args, Fn.start, cx_call, cx_glob, cx_init, cx_meth, cx_told, cx_fuel, walkK, walkOf, walkOne, walkVal, walkRange, walkEnum, walkDic, walkZip, LL, hf, pg_init, pg_meth, meths, e1, hc']
    · rw [if_pos c]
      exact set_at hc' _
  · have c1 : k ∉ q.a.t1 := fun z => c (.inl z)
    have c2 : k ∉ q.a.t2 := fun z => c (.inr z)
    have e0 := ad_get3 (n := n + 3) H.a c1 c2
    obtain ⟨h', g1', g2', e1, A', fr, l1, l2⟩ := ad_miss (n := n + 1) H.a I hm h1 c
    have p1 := H.p1
    have p2 := H.p2
    have n7 : 7 ∉ [2, 3, 4, g1, g2] := by simp; omega
    have n0 : 0 ∉ [2, 3, 4, g1, g2] := by simp; omega
    have n1 : 1 ∉ [2, 3, 4, g1, g2] := by simp; omega
    refine ⟨_, g1', g2', ?_, ⟨H.f.to fr n0 n1, A', ?_, by omega, by omega⟩⟩
    · simp [exB, exS, evE, evEs, evAnd, evOr, evAndT, evOrT, evIf, PyI.Out.of, PyI.Out.then, Res.bind, tst, Sl.var, stTg, stTgs, attrW, insAt, setAttrW, clsW, fget, fput, bmT, bmHas, bm, bi, mkL, binop, iop, lseq, truth, cmpop, index, atW, idxN, partR, partOf, sliceW, getW, setItemW, delItemW, nxO, callI, newI, W.isKey, stPT, stPTs, dicOf, Fn.args, Fn.start, cx_call, cx_glob, cx_init, cx_meth, cx_told, cx_fuel, walkK, walkOf, walkOne, walkVal, walkRange, walkEnum, walkDic, walkZip, LL, hf, pg_init, pg_meth, meths, e0, e1]
    · rw [if_neg c, fr.keep hc n7]
      simp
/-- a key's turn -/
theorem qh_k (H : QH h most q g1 g2) (I : FI q.f m) (J : AI most q.a m) (hm : m < 900) (h1 : 1 ≤ most) (s6 s7 : Sv) :
    ∃ h' g1' g2' s6' s7', exS (pg.cx (callN pg (n + 4))) qh_1_0 (qsl ks most (.v (.str k)) s6 s7) h = .nx (qsl ks most (.v (.str k)) s6' s7') h' ∧ QH h' most (qS most q k) g1' g2' := by
  obtain ⟨h1', e1, H1⟩ := qh_f (n := n) (ks := ks) (k := k) H I hm h1
  obtain ⟨h2', g1', g2', e2, H2⟩ := qh_a (n := n) (ks := ks) (k := k) H1 J hm h1
  refine ⟨h2', g1', g2', .v (.int 1), .v (.ref 2), ?_, H2⟩
  unfold qh_1_0
  generalize qh_1_0_0 = s at e1 e2 ⊢
  simp [exS, exB, evE, evEs, walkK, walkOf, walkEnum, enumW, forL, stTg, stTgs, e1, e2, Sl.var, Res.bind, Out.then]
theorem qh_loop (h1 : 1 ≤ most) : ∀ (r : Ks) (h : Hc) (q : QS) (g1 g2 m : Nat) (s5 s6 s7 : Sv), QH h most q g1 g2 → FI q.f m → AI most q.a m → m + r.length < 900 → (∀ x ∈ r, x.length = 1) →
    ∃ h' g1' g2' s5' s6' s7', forL (fun x σ h => match stTg (.one 5) x σ with
      | some σ' => exB (pg.cx (callN pg (n + 4))) [qh_1_0] σ' h
      | none => .no) (sts r) (qsl ks most s5 s6 s7) h = .nx (qsl ks most s5' s6' s7') h' ∧ QH h' most (qR most q r) g1' g2'
  | [], h, q, g1, g2, m, s5, s6, s7, H, _, _, _, _ => ⟨h, g1, g2, s5, s6, s7, rfl, H⟩
  | k :: r, h, q, g1, g2, m, s5, s6, s7, H, I, J, hl, hk => by
    have k1 := hk k (by simp)
    simp only [List.length_cons] at hl
    obtain ⟨h', g1', g2', s6', s7', e, H'⟩ := qh_k (n := n) (ks := ks) (k := k) H I J (by omega) h1 s6 s7
    obtain ⟨h'', g1'', g2'', s5', s6'', s7'', e2, H''⟩ := qh_loop h1 r h' (qS most q k) g1' g2' (m + 1) (.v (.str k)) s6' s7' H' (I.nx h1 k) (J.nx h1 k k1) (by omega) (fun x hx => hk x (by simp [hx]))
    refine ⟨h'', g1'', g2'', s5', s6'', s7'', ?_, H''⟩
    rw [← e2]
    show forL _ (.str k :: sts r) _ _ = _
    conv => lhs; unfold forL
    have : exB (pg.cx (callN pg (n + 4))) [qh_1_0] (qsl ks most (.v (.str k)) s6 s7) h = .nx (qsl ks most (.v (.str k)) s6' s7') h' := by rw [exB_nx e]; rfl
    simp only [stTg]
    show (match exB (pg.cx (callN pg (n + 4))) [qh_1_0] (qsl ks most (.v (.str k)) s6 s7) h with
      | .nx σ' h' => _
      | .ct σ' h' => _
      | .bk σ' h' => _
      | o => o) = _
    rw [this]
end
theorem qh_ok {n : Nat} {most : Int} {ks : Ks} (h1 : 1 ≤ most) (h2 : most ≤ 400) (hl : ks.length < 900) (hk : ∀ x ∈ ks, x.length = 1) :
    ∃ h', callN pg (n + 5) 15 [.lst (sts ks), .int most] [] = .ok (.tup [.int (qR most q0 ks).c0, .int (qR most q0 ks).c1], h') := by
  have nf := new_fif (n + 3) [] h1 h2
  have na := fun h => new_ad (n + 3) h h1 h2
  have s0 : exS (pg.cx (callN pg (n + 4))) qh_0 [.v (.lst (sts ks)), .v (.int most), .un, .un, .un, .un, .un, .un] [] = .nx (qsl ks most .un .un .un) [.ins 0 [(0, .int most), (1, .ref 1)], .dic false [], .ins 2 [(0, .int most), (7, .int 0), (8, .ref 3), (9, .ref 4), (10, .ref 5), (11, .ref 6)], .dic false [], .dic false [], .lst false [], .lst false [], .lst false [.int 0, .int 0]] := by
    simp at nf
    simp [exB, exS, evE, evEs, evAnd, evOr, evAndT, evOrT, evIf, PyI.Out.of, PyI.Out.then, Res.bind, tst, Sl.var, stTg, stTgs, attrW, insAt, setAttrW, clsW, fget, fput, bmT, bmHas, bm, bi, mkL, binop, iop, lseq, truth, cmpop, index, atW, idxN, partR, partOf, sliceW, getW, setItemW, delItemW, nxO, callI, newI, W.isKey, stPT, stPTs, dicOf, Fn.args, Fn.start, cx_call, cx_glob, cx_init, cx_meth, cx_told, cx_fuel, walkK, walkOf, walkOne, walkVal, walkRange, walkEnum, walkDic, walkZip, LL, -newI, pg_init, nf, na]
  have H : QH [.ins 0 [(0, .int most), (1, .ref 1)], .dic false [], .ins 2 [(0, .int most), (7, .int 0), (8, .ref 3), (9, .ref 4), (10, .ref 5), (11, .ref 6)], .dic false [], .dic false [], .lst false [], .lst false [], .lst false [.int 0, .int 0]] most q0 5 6 := ⟨⟨rfl, rfl⟩, ⟨rfl, rfl, rfl, rfl, rfl, by decide, by decide⟩, rfl, .inl rfl, .inl rfl⟩
  obtain ⟨h', g1', g2', s5, s6, s7, e, H'⟩ := qh_loop (n := n) (ks := ks) h1 ks _ q0 5 6 0 .un .un .un H FI0 (AI0 h1) (by omega) hk
  have s1 : exS (pg.cx (callN pg (n + 4))) qh_1 (qsl ks most .un .un .un) [.ins 0 [(0, .int most), (1, .ref 1)], .dic false [], .ins 2 [(0, .int most), (7, .int 0), (8, .ref 3), (9, .ref 4), (10, .ref 5), (11, .ref 6)], .dic false [], .dic false [], .lst false [], .lst false [], .lst false [.int 0, .int 0]] = .nx (qsl ks most s5 s6 s7) h' := by
    rw [← e]
    unfold qh_1
    generalize qh_1_0 = s
    simp [exS, evE, evEs, walkK, walkOf, walkOne, walkVal, Sl.var, Res.bind]
    all_goals rfl
  have hc := H'.c
  refine ⟨h', ?_⟩
  rw [callN_s (F := f15) rfl]
  refine runF_of (o := .rt (.tup [.int (qR most q0 ks).c0, .int (qR most q0 ks).c1]) h') rfl ?_
  show exB _ b15 [.v (.lst (sts ks)), .v (.int most), .un, .un, .un, .un, .un, .un] [] = _
  rw [qh_eq, exB_nx s0, exB_nx s1]
  refine exB_rt ?_
  simp [exB, exS, evE, evEs, evAnd, evOr, evAndT, evOrT, evIf, PyI.Out.of, PyI.Out.then, Res.bind, tst, Sl.var, stTg, stTgs, attrW, insAt, setAttrW, clsW, fget, fput, bmT, bmHas, bm, bi, mkL, binop, iop, lseq, truth, cmpop, index, atW, idxN, partR, partOf, sliceW, getW, setItemW, delItemW, nxO, callI, newI, W.isKey, stPT, stPTs, dicOf, Fn.args, Fn.start, cx_call, cx_glob, cx_init, cx_meth, cx_told, cx_fuel, walkK, walkOf, walkOne, walkVal, walkRange, walkEnum, walkDic, walkZip, LL, hc]
end K05

set_option linter.all false
set_option maxRecDepth 100000
set_option maxHeartbeats 4000000
/-! K05k: the law's turn. -/
namespace K05
open PySem PyI
abbrev st_0_0 : S := .par [.n 2, .n 3] [(.bin false .Add (.lit (.int 1)) (.call false 17 [(.var 1), (.lit (.int 4))])), (.lc false [16] (.one 16) .range [(.lit (.int 3))] [] (.bin false .Add (.lit (.int 1)) (.call false 17 [(.var 1), (.lit (.int 3))])))]
abbrev st_0_1 : S := .par [.n 4, .n 5, .n 6] [(.new 0 [(.var 2)]), (.new 1 [(.idx (.var 3) (.lit (.int 0))), (.idx (.var 3) (.lit (.int 1))), (.idx (.var 3) (.lit (.int 2)))]), (.new 2 [(.var 2)])]
abbrev st_0_2 : S := .par [.n 7, .n 8, .n 9, .n 10] [(.lst false []), (.dic [(.lit (.str [109, 111, 115, 116, 115])), (.var 3), (.lit (.str [105, 110])), (.lst false []), (.lit (.str [111, 117, 116])), (.lst false []), (.lit (.str [109, 97, 105, 110])), (.lst false [])]), (.dic [(.lit (.str [109, 111, 115, 116])), (.var 2), (.lit (.str [116, 49])), (.lst false []), (.lit (.str [116, 50])), (.lst false []), (.lit (.str [98, 49])), (.lst false []), (.lit (.str [98, 50])), (.lst false []), (.lit (.str [97, 105, 109])), (.lit (.int 0))]), (.lst true [(.lit (.int 0)), (.lit (.int 0))])]
abbrev st_0_3 : S := .asg (.one 11) (.lc false [16] (.one 16) .range [(.call false 17 [(.var 1), (.lit (.int 40))])] [] (.idx (.lit (.str [97, 98, 99, 100, 101, 102, 103, 104])) (.call false 17 [(.var 1), (.bin false .Add (.lit (.int 1)) (.call false 17 [(.var 1), (.lit (.int 8))]))])))
abbrev st_0_4_0 : S := .par [.n 13, .n 14] [(.cmp .In (.var 12) (.var 7)), (.lit (.non))]
abbrev st_0_4_1 : S := .setSub (.var 10) (.lit (.int 0)) (.bin false .Add (.idx (.var 10) (.lit (.int 0))) (.bi .int false [(.var 13)]))
abbrev st_0_4_2 : S := .ite (.not (.var 13)) [.asg (.one 7) (.bin false .Add (.var 7) (.lst false [(.var 12)])), .asg (.many [.one 14, .one 7]) (.ifx (.cmp .Gt (.bi .len false [(.var 7)]) (.var 2)) (.tup [(.idx (.var 7) (.lit (.int 0))), (.slice false (.var 7) (.lit (.int 1)) (.lit .non))]) (.tup [(.lit (.non)), (.var 7)]))] []
abbrev st_0_4_3 : S := .ite (.orT [(.cmp .NotEq (.meth (.var 4) 12 [(.var 12)]) (.ifx (.var 13) (.var 12) (.lit (.non)))), (.andT [(.not (.var 13)), (.cmp .NotEq (.meth (.var 4) 15 [(.var 12), (.var 12)]) (.var 14))])]) [.ret [(.lit (.bl false))]] []
abbrev st_0_4_4 : S := .ite (.cmp .NotEq (.bi .list false [(.meth (.var 4) 16 [])]) (.var 7)) [.ret [(.lit (.bl false))]] []
abbrev st_0_4_5 : S := .asg (.one 15) (.call false 20 [(.var 8), (.var 12)])
abbrev st_0_4_6 : S := .ite (.orT [(.cmp .NotEq (.meth (.var 5) 12 [(.var 12)]) (.ifx (.cmp .Eq (.var 15) (.lit (.str [104, 105, 116]))) (.var 12) (.lit (.non)))), (.andT [(.cmp .NotEq (.var 15) (.lit (.str [104, 105, 116]))), (.cmp .NotEq (.meth (.var 5) 15 [(.var 12), (.var 12)]) (.var 15))])]) [.ret [(.lit (.bl false))]] []
abbrev st_0_4_7 : S := .ite (.cmp .NotEq (.meth (.var 5) 17 []) (.tup [(.bi .tuple false [(.idx (.var 8) (.lit (.str [105, 110])))]), (.bi .tuple false [(.idx (.var 8) (.lit (.str [111, 117, 116])))]), (.bi .tuple false [(.idx (.var 8) (.lit (.str [109, 97, 105, 110])))])])) [.ret [(.lit (.bl false))]] []
abbrev st_0_4_8 : S := .asg (.one 15) (.call false 22 [(.var 9), (.var 12)])
abbrev st_0_4_9 : S := .setSub (.var 10) (.lit (.int 1)) (.bin false .Add (.idx (.var 10) (.lit (.int 1))) (.bi .int false [(.cmp .Eq (.var 15) (.lit (.str [104, 105, 116])))]))
abbrev st_0_4_10 : S := .ite (.orT [(.cmp .NotEq (.meth (.var 6) 12 [(.var 12)]) (.ifx (.cmp .Eq (.var 15) (.lit (.str [104, 105, 116]))) (.var 12) (.lit (.non)))), (.andT [(.cmp .NotEq (.var 15) (.lit (.str [104, 105, 116]))), (.cmp .NotEq (.meth (.var 6) 15 [(.var 12), (.var 12)]) (.var 15))]), (.cmp .NotEq (.meth (.var 6) 17 []) (.tup [(.bi .tuple false [(.idx (.var 9) (.lit (.str [116, 49])))]), (.bi .tuple false [(.idx (.var 9) (.lit (.str [116, 50])))]), (.bi .tuple false [(.idx (.var 9) (.lit (.str [98, 49])))]), (.bi .tuple false [(.idx (.var 9) (.lit (.str [98, 50])))])])), (.cmp .NotEq (.attr (.var 6) 7) (.idx (.var 9) (.lit (.str [97, 105, 109]))))]) [.ret [(.lit (.bl false))]] []
abbrev st_0_4_11 : S := .ite (.orT [(.cmp .Gt (.bin false .Add (.bi .len false [(.idx (.var 9) (.lit (.str [116, 49])))]) (.bi .len false [(.idx (.var 9) (.lit (.str [116, 50])))])) (.var 2)), (.not (.cmp2 .LtE .LtE (.lit (.int 0)) (.attr (.var 6) 7) (.var 2)))]) [.ret [(.lit (.bl false))]] []
abbrev st_0_4_12 : S := .ite (.cmp .NotEq (.lc false [17] (.one 17) .val [(.idx (.var 8) (.lit (.str [111, 117, 116])))] [(.cmp .IsNot (.meth (.var 5) 12 [(.var 17)]) (.lit (.non)))] (.var 17)) (.lst false [])) [.ret [(.lit (.bl false))]] []
abbrev st_0_4 : S := .for (.one 12) .val [(.var 11)] [st_0_4_0, st_0_4_1, st_0_4_2, st_0_4_3, st_0_4_4, st_0_4_5, st_0_4_6, st_0_4_7, st_0_4_8, st_0_4_9, st_0_4_10, st_0_4_11, st_0_4_12]
abbrev st_0_5 : S := .ite (.cmp .NotEq (.bi .list false [(.call true 15 [(.var 11), (.var 2)])]) (.var 10)) [.ret [(.lit (.bl false))]] []
abbrev st_0 : S := .for (.one 1) .val [(.call false 18 [(.var 0), (.lit (.int 1))])] [st_0_0, st_0_1, st_0_2, st_0_3, st_0_4, st_0_5]
abbrev st_1 : S := .ret [(.call true 23 [])]
theorem st_eq : b24 = [st_0, st_1] := rfl
abbrev lsl (w : W) (most m0 m1 m2 : Int) (kept keys : Ks) (s12 s13 s14 s15 : Sv) : Sl := [.v w, .v (.ref 0), .v (.int most), .v (.lst [.int m0, .int m1, .int m2]), .v (.ref 1), .v (.ref 3), .v (.ref 6), .v (.lst (sts kept)), .v (.ref 11), .v (.ref 12), .v (.ref 13), .v (.lst (sts keys)), s12, s13, s14, s15, .un, .un]
abbrev OT (m0 m1 m2 : Int) (T : TS) : CO := .dic false (OwnT m0 m1 m2 T.i T.g T.m)
abbrev OL (most : Int) (S : LS) : CO := .dic false (OwnL most S.aim S.t1 S.t2 S.b1 S.b2)
/-- all that stands: the plain one, the law's three queues, the three queues, the law's learning one, the learning one, the hits -/
structure LH (h : Hc) (most m0 m1 m2 : Int) (F : Ks) (To T : TS) (So S : LS) (c0 c1 : Int) (g1 g2 : Nat) : Prop where
  f : FifAt h 1 2 most F
  t : TwoAt h 3 4 5 m0 m1 m2 T.i T.g T.m
  a : AdS h 6 7 8 g1 g2 most S
  o : h[11]? = some (OT m0 m1 m2 To)
  l : h[12]? = some (OL most So)
  c : h[13]? = some (.lst false [.int c0, .int c1])
  p1 : g1 = 9 ∨ 14 ≤ g1
  p2 : g2 = 10 ∨ 14 ≤ g2
section
variable {n m : Nat} {h : Hc} {w : W} {most m0 m1 m2 c0 c1 : Int} {F : Ks} {To T : TS} {So S : LS} {g1 g2 : Nat} {kept keys : Ks} {k : Key} {s12 s13 s14 s15 : Sv}
theorem LH.fr (H : LH h most m0 m1 m2 F To T So S c0 c1 g1 g2) {h' : Hc} {b : Nat} (fr : Frame [b] h h') (hb : b = 2 ∨ b = 11 ∨ b = 12 ∨ b = 13) : TwoAt h' 3 4 5 m0 m1 m2 T.i T.g T.m ∧ AdS h' 6 7 8 g1 g2 most S := by
  have p1 := H.p1
  have p2 := H.p2
  refine ⟨H.t.to fr (by simp; omega) (by simp; omega) (by simp; omega), H.a.to fr (by simp; omega) (by simp; omega) (by simp; omega) (by simp; omega) (by simp; omega)⟩
theorem LH.u13 (H : LH h most m0 m1 m2 F To T So S c0 c1 g1 g2) (c0' c1' : Int) : LH (h.set 13 (.lst false [.int c0', .int c1'])) most m0 m1 m2 F To T So S c0' c1' g1 g2 := by
  have fr : Frame [13] h (h.set 13 (.lst false [.int c0', .int c1'])) := (Frame.refl _ h).set (.inl (by simp)) _
  obtain ⟨q1, q2⟩ := H.fr fr (by simp)
  exact ⟨H.f.to fr (by decide) (by decide), q1, q2, fr.keep H.o (by decide), fr.keep H.l (by decide), set_at H.c _, H.p1, H.p2⟩
theorem LH.u11 (H : LH h most m0 m1 m2 F To T So S c0 c1 g1 g2) (To' : TS) : LH (h.set 11 (OT m0 m1 m2 To')) most m0 m1 m2 F To' T So S c0 c1 g1 g2 := by
  have fr : Frame [11] h (h.set 11 (OT m0 m1 m2 To')) := (Frame.refl _ h).set (.inl (by simp)) _
  obtain ⟨q1, q2⟩ := H.fr fr (by simp)
  exact ⟨H.f.to fr (by decide) (by decide), q1, q2, set_at H.o _, fr.keep H.l (by decide), fr.keep H.c (by decide), H.p1, H.p2⟩
theorem LH.u12 (H : LH h most m0 m1 m2 F To T So S c0 c1 g1 g2) (So' : LS) : LH (h.set 12 (OL most So')) most m0 m1 m2 F To T So' S c0 c1 g1 g2 := by
  have fr : Frame [12] h (h.set 12 (OL most So')) := (Frame.refl _ h).set (.inl (by simp)) _
  obtain ⟨q1, q2⟩ := H.fr fr (by simp)
  exact ⟨H.f.to fr (by decide) (by decide), q1, q2, fr.keep H.o (by decide), set_at H.l _, fr.keep H.c (by decide), H.p1, H.p2⟩
theorem LH.u2 (H : LH h most m0 m1 m2 F To T So S c0 c1 g1 g2) (F' : Ks) : LH (h.set 2 (.dic false (kks F'))) most m0 m1 m2 F' To T So S c0 c1 g1 g2 := by
  have fr : Frame [2] h (h.set 2 (.dic false (kks F'))) := (Frame.refl _ h).set (.inl (by simp)) _
  obtain ⟨q1, q2⟩ := H.fr fr (by simp)
  exact ⟨⟨fr.keep H.f.1 (by decide), set_at H.f.2 _⟩, q1, q2, fr.keep H.o (by decide), fr.keep H.l (by decide), fr.keep H.c (by decide), H.p1, H.p2⟩
theorem LH.u3 (H : LH h most m0 m1 m2 F To T So S c0 c1 g1 g2) {h' : Hc} {T' : TS} (q1 : TwoAt h' 3 4 5 m0 m1 m2 T'.i T'.g T'.m) (fr : Frame [3, 4, 5] h h') : LH h' most m0 m1 m2 F To T' So S c0 c1 g1 g2 := by
  have p1 := H.p1
  have p2 := H.p2
  exact ⟨H.f.to fr (by decide) (by decide), q1, H.a.to fr (by decide) (by decide) (by decide) (by simp; omega) (by simp; omega), fr.keep H.o (by decide), fr.keep H.l (by decide), fr.keep H.c (by decide), H.p1, H.p2⟩
theorem LH.u6 (H : LH h most m0 m1 m2 F To T So S c0 c1 g1 g2) {h' : Hc} {S' : LS} {g1' g2' : Nat} (q2 : AdS h' 6 7 8 g1' g2' most S') (fr : Frame [6, 7, 8, g1, g2] h h') (l1 : g1' = g1 ∨ h.length ≤ g1') (l2 : g2' = g2 ∨ h.length ≤ g2') : LH h' most m0 m1 m2 F To T So S' c0 c1 g1' g2' := by
  have p1 := H.p1
  have p2 := H.p2
  have hl : 13 < h.length := (List.getElem?_eq_some_iff.mp H.c).1
  exact ⟨H.f.to fr (by simp; omega) (by simp; omega), H.t.to fr (by simp; omega) (by simp; omega) (by simp; omega), q2, fr.keep H.o (by simp; omega), fr.keep H.l (by simp; omega), fr.keep H.c (by simp; omega), by omega, by omega⟩
/-! ### the plain one -/
theorem t0 : exS (pg.cx (callN pg (n + 9))) st_0_4_0 (lsl w most m0 m1 m2 F keys (.v (.str k)) s13 s14 s15) h = .nx (lsl w most m0 m1 m2 F keys (.v (.str k)) (.v (.bl (decide (k ∈ F)))) (.v .non) s15) h := by
  have hi := isIn_lst h F k
  simp [exB, exS, evE, evEs, evAnd, evOr, evAndT, evOrT, evIf, PyI.Out.of, PyI.Out.then, Res.bind, tst, Sl.var, stTg, stTgs, attrW, insAt, setAttrW, clsW, fget, fput, bmT, bmHas, bm, bi, mkL, binop, iop, lseq, truth, cmpop, index, atW, idxN, partR, partOf, sliceW, getW, setItemW, delItemW, nxO, callI, newI, W.isKey, stPT, stPTs, dicOf, Fn.args, Fn.start, cx_call, cx_glob, cx_init, cx_meth, cx_told, cx_fuel, walkK, walkOf, walkOne, walkVal, walkRange, walkEnum, walkDic, walkZip, LL, hi]
theorem t1 (H : LH h most m0 m1 m2 F To T So S c0 c1 g1 g2) {b : Bool} : ∃ h', exS (pg.cx (callN pg (n + 9))) st_0_4_1 (lsl w most m0 m1 m2 F keys (.v (.str k)) (.v (.bl b)) s14 s15) h = .nx (lsl w most m0 m1 m2 F keys (.v (.str k)) (.v (.bl b)) s14 s15) h' ∧ LH h' most m0 m1 m2 F To T So S (c0 + if b then 1 else 0) c1 g1 g2 := by
  have hc := H.c
  refine ⟨_, ?_, H.u13 _ _⟩
  simp [exB, exS, evE, evEs, evAnd, evOr, evAndT, evOrT, evIf, PyI.Out.of, PyI.Out.then, Res.bind, tst, Sl.var, stTg, stTgs, attrW, insAt, setAttrW, clsW, fget, fput, bmT, bmHas, bm, bi, mkL, binop, iop, lseq, truth, cmpop, index, atW, idxN, partR, partOf, sliceW, getW, setItemW, delItemW, nxO, callI, newI, W.isKey, stPT, stPTs, dicOf, Fn.args, Fn.start, cx_call, cx_glob, cx_init, cx_meth, cx_told, cx_fuel, walkK, walkOf, walkOne, walkVal, walkRange, walkEnum, walkDic, walkZip, LL, hc]
/-- what goes of the plain one -/
def goF (most : Int) (F : Ks) (k : Key) : Option Key := if k ∈ F then none else (cutQ most (F ++ [k])).1
theorem t2 (hm : 1 ≤ most) (hl : F.length < 900) : exS (pg.cx (callN pg (n + 9))) st_0_4_2 (lsl w most m0 m1 m2 F keys (.v (.str k)) (.v (.bl (decide (k ∈ F)))) (.v .non) s15) h = .nx (lsl w most m0 m1 m2 (fifS most F k) keys (.v (.str k)) (.v (.bl (decide (k ∈ F)))) (.v (oW (goF most F k))) s15) h := by
  unfold goF fifS
  by_cases c : k ∈ F
  · simp only [if_pos c]
    simp [exB, exS, evE, evEs, evAnd, evOr, evAndT, evOrT, evIf, PyI.Out.of, PyI.Out.then, Res.bind, tst, Sl.var, stTg, stTgs, attrW, insAt, setAttrW, clsW, fget, fput, bmT, bmHas, bm, bi, mkL, binop, iop, lseq, truth, cmpop, index, atW, idxN, partR, partOf, sliceW, getW, setItemW, delItemW, nxO, callI, newI, W.isKey, stPT, stPTs, dicOf, Fn.args, Fn.start, cx_call, cx_glob, cx_init, cx_meth, cx_told, cx_fuel, walkK, walkOf, walkOne, walkVal, walkRange, walkEnum, walkDic, walkZip, LL, c, oW]
  · simp only [if_neg c]
    rw [fif_cut hm]
    have ll : F.length + 1 ≤ LL := by show F.length + 1 ≤ 16777216; omega
    unfold cutQ
    by_cases c2 : ((F ++ [k]).length : Int) ≤ most
    · rw [if_pos c2]
      have c3 : ¬ most < (F.length : Int) + 1 := by simp at c2; omega
      simp [exB, exS, evE, evEs, evAnd, evOr, evAndT, evOrT, evIf, PyI.Out.of, PyI.Out.then, Res.bind, tst, Sl.var, stTg, stTgs, attrW, insAt, setAttrW, clsW, fget, fput, bmT, bmHas, bm, bi, mkL, binop, iop, lseq, truth, cmpop, index, atW, idxN, partR, partOf, sliceW, getW, setItemW, delItemW, nxO, callI, newI, W.isKey, stPT, stPTs, dicOf, Fn.args, Fn.start, cx_call, cx_glob, cx_init, cx_meth, cx_told, cx_fuel, walkK, walkOf, walkOne, walkVal, walkRange, walkEnum, walkDic, walkZip, LL, c, oW, ll, c3]
    · rw [if_neg c2]
      have c3 : most < (F.length : Int) + 1 := by simp at c2; omega
      obtain ⟨x, r, hx⟩ : ∃ x r, F ++ [k] = x :: r := by
        cases F with
        | nil => exact ⟨_, _, rfl⟩
        | cons a b => exact ⟨_, _, rfl⟩
      have hx2 : sts F ++ [W.str k] = W.str x :: sts r := by
        have := congrArg sts hx
        simpa using this
      have hlen : (F.length : Int) + 1 = r.length + 1 := by
        have := congrArg List.length hx
        simp at this
        omega
      have c4 : most < (r.length : Int) + 1 := by omega
      have c1' := cut1 (W.str x) (sts r)
      rw [hx]
      simp [exB, exS, evE, evEs, evAnd, evOr, evAndT, evOrT, evIf, PyI.Out.of, PyI.Out.then, Res.bind, tst, Sl.var, stTg, stTgs, attrW, insAt, setAttrW, clsW, fget, fput, bmT, bmHas, bm, bi, mkL, binop, iop, lseq, truth, cmpop, index, atW, idxN, partR, partOf, sliceW, getW, setItemW, delItemW, nxO, callI, newI, W.isKey, stPT, stPTs, dicOf, Fn.args, Fn.start, cx_call, cx_glob, cx_init, cx_meth, cx_told, cx_fuel, walkK, walkOf, walkOne, walkVal, walkRange, walkEnum, walkDic, walkZip, LL, c, oW, ll, hx2, c4, c1']
theorem eqK {h : Hc} (g : Option Key) : isEq0 h (oW g) (oW g) = some true := by
  cases g with
  | none => exact isEq0_refl rfl (rd_non _ _)
  | some x => exact isEq0_refl rfl (rd_str _ _ _)
theorem t3 (H : LH h most m0 m1 m2 F To T So S c0 c1 g1 g2) (I : FI F m) (hm : 1 ≤ most) (hl : m < 900) : ∃ h', exS (pg.cx (callN pg (n + 9))) st_0_4_3 (lsl w most m0 m1 m2 (fifS most F k) keys (.v (.str k)) (.v (.bl (decide (k ∈ F)))) (.v (oW (goF most F k))) s15) h = .nx (lsl w most m0 m1 m2 (fifS most F k) keys (.v (.str k)) (.v (.bl (decide (k ∈ F)))) (.v (oW (goF most F k))) s15) h' ∧ LH h' most m0 m1 m2 (fifS most F k) To T So S c0 c1 g1 g2 := by
  have e1 := fif_get (n := n + 8) (k := k) H.f
  have hf := H.f.1
  have l := I.l
  by_cases c : k ∈ F
  · rw [if_pos c] at e1
    refine ⟨h, ?_, ?_⟩
    · have q := eqK (h := h) (some k)
      simp only [oW] at q
      generalize oW (goF most F k) = g
      simp [exB, exS, evE, evEs, evAnd, evOr, evAndT, evOrT, evIf, PyI.Out.of, PyI.Out.then, Res.bind, tst, Sl.var, stTg, stTgs, attrW, insAt, setAttrW, clsW, fget, fput, bmT, bmHas, bm, bi, mkL, binop, iop, lseq, truth, cmpop, index, atW, idxN, partR, partOf, sliceW, getW, setItemW, delItemW, nxO, callI, newI, W.isKey, stPT, stPTs, dicOf, Fn.args, Fn.start, cx_call, cx_glob, cx_init, cx_meth, cx_told, cx_fuel, walkK, walkOf, walkOne, walkVal, walkRange, walkEnum, walkDic, walkZip, LL, hf, pg_init, pg_meth, meths, e1, c, q]
    · unfold fifS
      rw [if_pos c]
      exact H
  · rw [if_neg c] at e1
    have e2 := fif_put (n := n + 8) (k := k) H.f c I.nd hm (by omega)
    have gg : goF most F k = (fifPut most F k).1 := by
      unfold goF
      rw [if_neg c, fif_cut hm]
    have ff : fifS most F k = (fifPut most F k).2 := by
      unfold fifS
      rw [if_neg c]
    rw [gg, ff]
    refine ⟨_, ?_, H.u2 (fifPut most F k).2⟩
    have q1 := eqK (h := h) none
    have q := eqK (h := h.set 2 (.dic false (kks (fifPut most F k).2))) (fifPut most F k).1
    simp only [oW] at q1
    generalize oW (fifPut most F k).1 = g at e2 q ⊢
    simp [exB, exS, evE, evEs, evAnd, evOr, evAndT, evOrT, evIf, PyI.Out.of, PyI.Out.then, Res.bind, tst, Sl.var, stTg, stTgs, attrW, insAt, setAttrW, clsW, fget, fput, bmT, bmHas, bm, bi, mkL, binop, iop, lseq, truth, cmpop, index, atW, idxN, partR, partOf, sliceW, getW, setItemW, delItemW, nxO, callI, newI, W.isKey, stPT, stPTs, dicOf, Fn.args, Fn.start, cx_call, cx_glob, cx_init, cx_meth, cx_told, cx_fuel, walkK, walkOf, walkOne, walkVal, walkRange, walkEnum, walkDic, walkZip, LL, hf, pg_init, pg_meth, meths, e1, e2, c, q1, q]
theorem nref_sts (ks : Ks) : W.nref (.lst (sts ks)) = true := by
  unfold W.nref
  exact nrefs_sts ks
theorem nref_tup (ks : Ks) : W.nref (.tup (sts ks)) = true := by
  unfold W.nref
  exact nrefs_sts ks
theorem rd_stsl (n : Nat) (h : Hc) (ks : Ks) : rd (n + 2) h (.lst (sts ks)) = some (.lst (sts ks)) := by
  rw [rd_lst, rd_sts]
  rfl
theorem rd_stst (n : Nat) (h : Hc) (ks : Ks) : rd (n + 2) h (.tup (sts ks)) = some (.tup (sts ks)) := by
  rw [rd_tup, rd_sts]
  rfl
theorem t4 (H : LH h most m0 m1 m2 F To T So S c0 c1 g1 g2) : exS (pg.cx (callN pg (n + 9))) st_0_4_4 (lsl w most m0 m1 m2 F keys (.v (.str k)) s13 s14 s15) h = .nx (lsl w most m0 m1 m2 F keys (.v (.str k)) s13 s14 s15) h := by
  have e1 := fif_order (n := n + 8) H.f
  have hf := H.f.1
  have q := isEq0_refl (h := h) (nref_sts F) (rd_stsl _ _ _)
  simp [exB, exS, evE, evEs, evAnd, evOr, evAndT, evOrT, evIf, PyI.Out.of, PyI.Out.then, Res.bind, tst, Sl.var, stTg, stTgs, attrW, insAt, setAttrW, clsW, fget, fput, bmT, bmHas, bm, bi, mkL, binop, iop, lseq, truth, cmpop, index, atW, idxN, partR, partOf, sliceW, getW, setItemW, delItemW, nxO, callI, newI, W.isKey, stPT, stPTs, dicOf, Fn.args, Fn.start, cx_call, cx_glob, cx_init, cx_meth, cx_told, cx_fuel, walkK, walkOf, walkOne, walkVal, walkRange, walkEnum, walkDic, walkZip, LL, hf, pg_init, pg_meth, meths, e1, q]
/-! ### three queues -/
theorem TI.nd1 {T : TS} {m : Nat} (I : TI T m) : T.i.Nodup := cnt_nd fun a => by have := I.c a; have := w1_le a; omega
theorem TI.nd2 {T : TS} {m : Nat} (I : TI T m) : T.m.Nodup := cnt_nd fun a => by have := I.c a; have := w1_le a; omega
def hit : List Nat := [104, 105, 116]
/-- what the law tells of a key's coming -/
def dueT (m0 m1 m2 : Int) (T : TS) (k : Key) : W := if k ∈ T.m ∨ k ∈ T.i then .str hit else oW (twoPut m0 m1 m2 T.i T.g T.m k).1
theorem t5 (H : LH h most m0 m1 m2 F T T So S c0 c1 g1 g2) (I : TI T m) (hl : m < 900) (p0 : 0 ≤ m0) (p2 : 0 ≤ m2) : ∃ h', exS (pg.cx (callN pg (n + 9))) st_0_4_5 (lsl w most m0 m1 m2 F keys (.v (.str k)) s13 s14 s15) h = .nx (lsl w most m0 m1 m2 F keys (.v (.str k)) s13 s14 (.v (dueT m0 m1 m2 T k))) h' ∧ LH h' most m0 m1 m2 F (twoS m0 m1 m2 T k) T So S c0 c1 g1 g2 := by
  obtain ⟨l1, l2, l3⟩ := I.l
  unfold dueT twoS
  by_cases z1 : k ∈ T.m
  · rw [if_pos z1, if_pos (.inl z1)]
    have e := law_two_main (n := n + 8) H.o z1 (by omega)
    refine ⟨_, ?_, H.u11 ⟨T.i, T.g, T.m.filter (· != k) ++ [k]⟩⟩
    simp [exB, exS, evE, evEs, evAnd, evOr, evAndT, evOrT, evIf, PyI.Out.of, PyI.Out.then, Res.bind, tst, Sl.var, stTg, stTgs, attrW, insAt, setAttrW, clsW, fget, fput, bmT, bmHas, bm, bi, mkL, binop, iop, lseq, truth, cmpop, index, atW, idxN, partR, partOf, sliceW, getW, setItemW, delItemW, nxO, callI, newI, W.isKey, stPT, stPTs, dicOf, Fn.args, Fn.start, cx_call, cx_glob, cx_init, cx_meth, cx_told, cx_fuel, walkK, walkOf, walkOne, walkVal, walkRange, walkEnum, walkDic, walkZip, LL, e, hit]
  · rw [if_neg z1]
    by_cases z2 : k ∈ T.i
    · rw [if_pos z2, if_pos (.inr z2)]
      have e := law_two_in (n := n + 8) H.o z1 z2
      refine ⟨h, ?_, H⟩
      simp [exB, exS, evE, evEs, evAnd, evOr, evAndT, evOrT, evIf, PyI.Out.of, PyI.Out.then, Res.bind, tst, Sl.var, stTg, stTgs, attrW, insAt, setAttrW, clsW, fget, fput, bmT, bmHas, bm, bi, mkL, binop, iop, lseq, truth, cmpop, index, atW, idxN, partR, partOf, sliceW, getW, setItemW, delItemW, nxO, callI, newI, W.isKey, stPT, stPTs, dicOf, Fn.args, Fn.start, cx_call, cx_glob, cx_init, cx_meth, cx_told, cx_fuel, walkK, walkOf, walkOne, walkVal, walkRange, walkEnum, walkDic, walkZip, LL, e, hit]
    · rw [if_neg z2, if_neg (fun z => z.elim z1 z2)]
      have e := law_two_new (n := n + 8) H.o z1 z2 p0 p2 (by omega) (by omega) (by omega)
      refine ⟨_, ?_, H.u11 ⟨(twoPut m0 m1 m2 T.i T.g T.m k).2.1, (twoPut m0 m1 m2 T.i T.g T.m k).2.2.1, (twoPut m0 m1 m2 T.i T.g T.m k).2.2.2⟩⟩
      simp [exB, exS, evE, evEs, evAnd, evOr, evAndT, evOrT, evIf, PyI.Out.of, PyI.Out.then, Res.bind, tst, Sl.var, stTg, stTgs, attrW, insAt, setAttrW, clsW, fget, fput, bmT, bmHas, bm, bi, mkL, binop, iop, lseq, truth, cmpop, index, atW, idxN, partR, partOf, sliceW, getW, setItemW, delItemW, nxO, callI, newI, W.isKey, stPT, stPTs, dicOf, Fn.args, Fn.start, cx_call, cx_glob, cx_init, cx_meth, cx_told, cx_fuel, walkK, walkOf, walkOne, walkVal, walkRange, walkEnum, walkDic, walkZip, LL, e]
theorem cutQ_mem {most : Int} {ks : Ks} {x : Key} (h : (cutQ most ks).1 = some x) : x ∈ ks := by
  unfold cutQ at h
  split at h
  · cases h
  · cases ks with
    | nil => cases h
    | cons y r => cases h; simp
theorem TI.len1 {T : TS} {m : Nat} (I : TI T m) {x : Key} (h : x ∈ T.i ∨ x ∈ T.g ∨ x ∈ T.m) : x.length = 1 := by
  refine w1_of ?_
  have := I.c x
  rcases h with h | h | h <;> (have := cnt_in h; omega)
theorem two_one {T : TS} {m : Nat} (I : TI T m) (hk : k.length = 1) {x : Key} (h : (twoPut m0 m1 m2 T.i T.g T.m k).1 = some x) : x.length = 1 := by
  unfold twoPut at h
  have key : ∀ {ks : Ks} {mo : Int}, (∀ y ∈ ks, y.length = 1) → (cutQ mo (ks ++ [k])).1 = some x → x.length = 1 := by
    intro ks mo h1 h2
    rcases List.mem_append.mp (cutQ_mem h2) with q | q
    · exact h1 x q
    · rw [List.mem_singleton.mp q]; exact hk
  split at h
  · exact key (fun y hy => I.len1 (.inr (.inr hy))) h
  · exact key (fun y hy => I.len1 (.inl hy)) h
theorem eq_hit (h : Hc) : isEq h (.str hit) (.str hit) = some true := isEq_refl rfl (rd_str _ _ _)
theorem eq0_hit (h : Hc) : isEq0 h (.str hit) (.str hit) = some true := isEq0_refl rfl (rd_str _ _ _)
theorem ne_hit (h : Hc) {g : Option Key} (hg : ∀ x, g = some x → x.length = 1) : isEq0 h (oW g) (.str hit) = some false := by
  cases g with
  | none =>
    rw [isEq0_tree (x := oW none) (y := .str hit) rfl rfl (rd_non _ _) (rd_str _ _ _)]
    rfl
  | some x =>
    rw [isEq0_tree (x := oW (some x)) (y := .str hit) rfl rfl (rd_str _ _ _) (rd_str _ _ _), eqv_str]
    have : x ≠ hit := fun z => by have := hg x rfl; rw [z] at this; cases this
    simp [this]
theorem ne_hit' (h : Hc) {g : Option Key} (hg : ∀ x, g = some x → x.length = 1) : isEq h (oW g) (.str hit) = some false := by
  unfold isEq
  rw [ne_hit h hg]
theorem t6 (H : LH h most m0 m1 m2 F To T So S c0 c1 g1 g2) (I : TI T m) (hl : m < 900) (p0 : 0 ≤ m0) (p2 : 0 ≤ m2) (hk : k.length = 1) : ∃ h', exS (pg.cx (callN pg (n + 9))) st_0_4_6 (lsl w most m0 m1 m2 F keys (.v (.str k)) s13 s14 (.v (dueT m0 m1 m2 T k))) h = .nx (lsl w most m0 m1 m2 F keys (.v (.str k)) s13 s14 (.v (dueT m0 m1 m2 T k))) h' ∧ LH h' most m0 m1 m2 F To (twoS m0 m1 m2 T k) So S c0 c1 g1 g2 := by
  obtain ⟨l1, l2, l3⟩ := I.l
  have eg := two_get (n := n + 8) (k := k) H.t (by omega)
  have ef := H.t.fa
  have qk := fun h => eqK (h := h) (some k)
  have qn := fun h => eqK (h := h) none
  simp only [oW] at qk qn
  have q0 := fun h => eq0_hit h
  have q1 := fun h => eq_hit h
  simp only [hit] at q0 q1
  unfold dueT twoS
  by_cases z1 : k ∈ T.m
  · simp only [if_pos z1, z1, true_or, if_true] at eg ⊢
    have fr : Frame [3, 4, 5] h (h.set 5 (.dic false (kks (T.m.filter (· != k) ++ [k])))) := (Frame.refl _ h).set (.inl (by simp)) _
    refine ⟨_, ?_, H.u3 (T' := ⟨T.i, T.g, T.m.filter (· != k) ++ [k]⟩) ⟨?_, ?_, set_at H.t.fm _, by decide⟩ fr⟩
    · simp [exB, exS, evE, evEs, evAnd, evOr, evAndT, evOrT, evIf, PyI.Out.of, PyI.Out.then, Res.bind, tst, Sl.var, stTg, stTgs, attrW, insAt, setAttrW, clsW, fget, fput, bmT, bmHas, bm, bi, mkL, binop, iop, lseq, truth, cmpop, index, atW, idxN, partR, partOf, sliceW, getW, setItemW, delItemW, nxO, callI, newI, W.isKey, stPT, stPTs, dicOf, Fn.args, Fn.start, cx_call, cx_glob, cx_init, cx_meth, cx_told, cx_fuel, walkK, walkOf, walkOne, walkVal, walkRange, walkEnum, walkDic, walkZip, LL, ef, pg_init, pg_meth, meths, eg, hit, qk, q0, q1]
    · rw [set_ne _ (by decide)]; exact H.t.fa
    · rw [set_ne _ (by decide)]; exact H.t.fi
  · rw [if_neg z1] at eg
    by_cases z2 : k ∈ T.i
    · simp only [if_neg z1, if_pos z2, z2, or_true, if_true] at eg ⊢
      refine ⟨h, ?_, H⟩
      simp [exB, exS, evE, evEs, evAnd, evOr, evAndT, evOrT, evIf, PyI.Out.of, PyI.Out.then, Res.bind, tst, Sl.var, stTg, stTgs, attrW, insAt, setAttrW, clsW, fget, fput, bmT, bmHas, bm, bi, mkL, binop, iop, lseq, truth, cmpop, index, atW, idxN, partR, partOf, sliceW, getW, setItemW, delItemW, nxO, callI, newI, W.isKey, stPT, stPTs, dicOf, Fn.args, Fn.start, cx_call, cx_glob, cx_init, cx_meth, cx_told, cx_fuel, walkK, walkOf, walkOne, walkVal, walkRange, walkEnum, walkDic, walkZip, LL, ef, pg_init, pg_meth, meths, eg, hit, qk, q0, q1]
    · simp only [if_neg z1, if_neg z2, z1, z2, or_self, if_false] at eg ⊢
      obtain ⟨h', e, A', fr, _⟩ := two_put (n := n + 7) H.t z1 z2 I.nd1 I.nd2 p0 p2 (by omega) (by omega) (by omega)
      have hg : ∀ x, (twoPut m0 m1 m2 T.i T.g T.m k).1 = some x → x.length = 1 := fun x hx => two_one I hk hx
      have r0 := ne_hit h hg
      have r1 := ne_hit' h hg
      have r2 := eqK (h := h') (twoPut m0 m1 m2 T.i T.g T.m k).1
      refine ⟨h', ?_, H.u3 (T' := ⟨_, _, _⟩) A' fr⟩
      generalize oW (twoPut m0 m1 m2 T.i T.g T.m k).1 = g at e r0 r1 r2 ⊢
      simp only [hit] at r0 r1
      simp [exB, exS, evE, evEs, evAnd, evOr, evAndT, evOrT, evIf, PyI.Out.of, PyI.Out.then, Res.bind, tst, Sl.var, stTg, stTgs, attrW, insAt, setAttrW, clsW, fget, fput, bmT, bmHas, bm, bi, mkL, binop, iop, lseq, truth, cmpop, index, atW, idxN, partR, partOf, sliceW, getW, setItemW, delItemW, nxO, callI, newI, W.isKey, stPT, stPTs, dicOf, Fn.args, Fn.start, cx_call, cx_glob, cx_init, cx_meth, cx_told, cx_fuel, walkK, walkOf, walkOne, walkVal, walkRange, walkEnum, walkDic, walkZip, LL, ef, pg_init, pg_meth, meths, eg, qn, r0, r1, r2, e]
theorem rd_tups {h : Hc} {xs : List W} (hx : ∀ x ∈ xs, ∃ ks : Ks, x = .tup (sts ks)) : W.nref (.tup xs) = true ∧ rd 60 h (.tup xs) = some (.tup xs) := by
  constructor
  · unfold W.nref
    induction xs with
    | nil => simp [W.nrefs]
    | cons x r ih =>
      unfold W.nrefs
      obtain ⟨ks, rfl⟩ := hx x (by simp)
      rw [nref_tup, ih fun y hy => hx y (by simp [hy])]
      rfl
  · rw [rd_tup, optAll_id]
    · rfl
    · intro x hm
      obtain ⟨ks, rfl⟩ := hx x hm
      exact rd_stst _ _ _
theorem t7 (H : LH h most m0 m1 m2 F T T So S c0 c1 g1 g2) : exS (pg.cx (callN pg (n + 9))) st_0_4_7 (lsl w most m0 m1 m2 F keys (.v (.str k)) s13 s14 s15) h = .nx (lsl w most m0 m1 m2 F keys (.v (.str k)) s13 s14 s15) h := by
  have e1 := two_parts (n := n + 8) H.t
  have ef := H.t.fa
  have eo := H.o
  obtain ⟨q1, q2⟩ := rd_tups (h := h) (xs := [.tup (sts T.i), .tup (sts T.g), .tup (sts T.m)]) (by
    intro x hx
    simp only [List.mem_cons, List.not_mem_nil, or_false] at hx
    rcases hx with rfl | rfl | rfl <;> exact ⟨_, rfl⟩)
  have q := isEq0_refl q1 q2
  simp [exB, exS, evE, evEs, evAnd, evOr, evAndT, evOrT, evIf, PyI.Out.of, PyI.Out.then, Res.bind, tst, Sl.var, stTg, stTgs, attrW, insAt, setAttrW, clsW, fget, fput, bmT, bmHas, bm, bi, mkL, binop, iop, lseq, truth, cmpop, index, atW, idxN, partR, partOf, sliceW, getW, setItemW, delItemW, nxO, callI, newI, W.isKey, stPT, stPTs, dicOf, Fn.args, Fn.start, cx_call, cx_glob, cx_init, cx_meth, cx_told, cx_fuel, walkK, walkOf, walkOne, walkVal, walkRange, walkEnum, walkDic, walkZip, LL, ef, eo, OwnT, dget, W.keq, pg_init, pg_meth, meths, e1, q]
/-! ### the learning one -/
def dueA (most : Int) (S : LS) (k : Key) : W := if inA S k then .str hit else oW (adPut most S.aim S.t1 S.t2 S.b1 S.b2 k).g
theorem t8 (H : LH h most m0 m1 m2 F To T S S c0 c1 g1 g2) (I : AI most S m) (hl : m < 900) (p1 : 1 ≤ most) (p2 : most ≤ 400) : ∃ h', exS (pg.cx (callN pg (n + 9))) st_0_4_8 (lsl w most m0 m1 m2 F keys (.v (.str k)) s13 s14 s15) h = .nx (lsl w most m0 m1 m2 F keys (.v (.str k)) s13 s14 (.v (dueA most S k))) h' ∧ LH h' most m0 m1 m2 F To T (adS most S k) S c0 c1 g1 g2 := by
  have l := I.l
  unfold dueA adS
  by_cases z : inA S k
  · rw [if_pos z, if_pos z]
    have e := law_learn_hit (n := n + 7) H.l z (by omega) (by omega)
    refine ⟨_, ?_, H.u12 ⟨S.aim, S.t1.filter (· != k), S.t2.filter (· != k) ++ [k], S.b1, S.b2⟩⟩
    simp [exB, exS, evE, evEs, evAnd, evOr, evAndT, evOrT, evIf, PyI.Out.of, PyI.Out.then, Res.bind, tst, Sl.var, stTg, stTgs, attrW, insAt, setAttrW, clsW, fget, fput, bmT, bmHas, bm, bi, mkL, binop, iop, lseq, truth, cmpop, index, atW, idxN, partR, partOf, sliceW, getW, setItemW, delItemW, nxO, callI, newI, W.isKey, stPT, stPTs, dicOf, Fn.args, Fn.start, cx_call, cx_glob, cx_init, cx_meth, cx_told, cx_fuel, walkK, walkOf, walkOne, walkVal, walkRange, walkEnum, walkDic, walkZip, LL, e, hit]
  · rw [if_neg z, if_neg z]
    have e := law_learn_new (n := n + 7) H.l (k := k) (fun q => z (.inl q)) (fun q => z (.inr q)) p1 (by omega) (by omega) (by omega) (by omega) (by omega)
    refine ⟨_, ?_, H.u12 ⟨_, _, _, _, _⟩⟩
    simp [exB, exS, evE, evEs, evAnd, evOr, evAndT, evOrT, evIf, PyI.Out.of, PyI.Out.then, Res.bind, tst, Sl.var, stTg, stTgs, attrW, insAt, setAttrW, clsW, fget, fput, bmT, bmHas, bm, bi, mkL, binop, iop, lseq, truth, cmpop, index, atW, idxN, partR, partOf, sliceW, getW, setItemW, delItemW, nxO, callI, newI, W.isKey, stPT, stPTs, dicOf, Fn.args, Fn.start, cx_call, cx_glob, cx_init, cx_meth, cx_told, cx_fuel, walkK, walkOf, walkOne, walkVal, walkRange, walkEnum, walkDic, walkZip, LL, e]
theorem AI.len1 {S : LS} {m : Nat} (I : AI most S m) {x : Key} (h : x ∈ S.t1 ∨ x ∈ S.t2) : x.length = 1 := by
  refine w1_of ?_
  have := I.c x
  rcases h with h | h <;> (have := cnt_in h; omega)
theorem reS_g {aim : Int} {ag : Bool} {T1 T2 B1 B2 : Ks} {x : Key} (h : (reS most aim ag T1 T2 B1 B2).g = some x) : x ∈ T1 ∨ x ∈ T2 := by
  unfold reS repl at h
  dsimp only at h
  split at h
  · cases h
  · split at h
    · cases T1 with
      | nil => cases h
      | cons y r => cases h; simp
    · cases T2 with
      | nil => cases h
      | cons y r => cases h; simp
theorem ad_g {aim : Int} {T1 T2 B1 B2 : Ks} {x : Key} (h : (adPut most aim T1 T2 B1 B2 k).g = some x) : x ∈ T1 ∨ x ∈ T2 := by
  unfold adPut at h
  split at h
  · exact reS_g h
  · split at h
    · exact reS_g h
    · split at h
      · split at h
        · exact reS_g h
        · cases T1 with
          | nil => cases h
          | cons y r => cases h; simp
      · split at h
        · split at h
          · exact reS_g h
          · exact reS_g h
        · cases h
theorem due_hit (h : Hc) (I : AI most S m) : isEq h (dueA most S k) (.str hit) = some (decide (inA S k)) ∧ isEq0 h (dueA most S k) (.str hit) = some (decide (inA S k)) := by
  unfold dueA
  by_cases z : inA S k
  · rw [if_pos z, decide_eq_true z]
    exact ⟨eq_hit h, eq0_hit h⟩
  · rw [if_neg z, decide_eq_false z]
    have hg : ∀ x, (adPut most S.aim S.t1 S.t2 S.b1 S.b2 k).g = some x → x.length = 1 := fun x hx => I.len1 (ad_g hx)
    exact ⟨ne_hit' h hg, ne_hit h hg⟩
theorem t9 (H : LH h most m0 m1 m2 F To T So S' c0 c1 g1 g2) (I : AI most S m) : ∃ h', exS (pg.cx (callN pg (n + 9))) st_0_4_9 (lsl w most m0 m1 m2 F keys (.v (.str k)) s13 s14 (.v (dueA most S k))) h = .nx (lsl w most m0 m1 m2 F keys (.v (.str k)) s13 s14 (.v (dueA most S k))) h' ∧ LH h' most m0 m1 m2 F To T So S' c0 (c1 + if inA S k then 1 else 0) g1 g2 := by
  have q := (due_hit (k := k) h I).1
  have hc := H.c
  refine ⟨_, ?_, H.u13 _ _⟩
  simp only [hit] at q
  generalize dueA most S k = d at q ⊢
  by_cases z : inA S k
  · rw [decide_eq_true z] at q
    simp only [if_pos z]
    simp [exB, exS, evE, evEs, evAnd, evOr, evAndT, evOrT, evIf, PyI.Out.of, PyI.Out.then, Res.bind, tst, Sl.var, stTg, stTgs, attrW, insAt, setAttrW, clsW, fget, fput, bmT, bmHas, bm, bi, mkL, binop, iop, lseq, truth, cmpop, index, atW, idxN, partR, partOf, sliceW, getW, setItemW, delItemW, nxO, callI, newI, W.isKey, stPT, stPTs, dicOf, Fn.args, Fn.start, cx_call, cx_glob, cx_init, cx_meth, cx_told, cx_fuel, walkK, walkOf, walkOne, walkVal, walkRange, walkEnum, walkDic, walkZip, LL, hc, q]
  · rw [decide_eq_false z] at q
    simp only [if_neg z]
    simp [exB, exS, evE, evEs, evAnd, evOr, evAndT, evOrT, evIf, PyI.Out.of, PyI.Out.then, Res.bind, tst, Sl.var, stTg, stTgs, attrW, insAt, setAttrW, clsW, fget, fput, bmT, bmHas, bm, bi, mkL, binop, iop, lseq, truth, cmpop, index, atW, idxN, partR, partOf, sliceW, getW, setItemW, delItemW, nxO, callI, newI, W.isKey, stPT, stPTs, dicOf, Fn.args, Fn.start, cx_call, cx_glob, cx_init, cx_meth, cx_told, cx_fuel, walkK, walkOf, walkOne, walkVal, walkRange, walkEnum, walkDic, walkZip, LL, hc, q]
theorem t10 (H : LH h most m0 m1 m2 F To T (adS most S k) S c0 c1 g1 g2) (I : AI most S m) (hl : m < 900) (p1 : 1 ≤ most) : ∃ h' g1' g2', exS (pg.cx (callN pg (n + 9))) st_0_4_10 (lsl w most m0 m1 m2 F keys (.v (.str k)) s13 s14 (.v (dueA most S k))) h = .nx (lsl w most m0 m1 m2 F keys (.v (.str k)) s13 s14 (.v (dueA most S k))) h' ∧ LH h' most m0 m1 m2 F To T (adS most S k) (adS most S k) c0 c1 g1' g2' := by
  have ef := H.a.fa
  have qk := fun h => eqK (h := h) (some k)
  have qn := fun h => eqK (h := h) none
  simp only [oW] at qk qn
  have d := fun h => due_hit (k := k) h I
  simp only [hit] at d
  obtain ⟨h', g1', g2', H', go⟩ : ∃ h' g1' g2', LH h' most m0 m1 m2 F To T (adS most S k) (adS most S k) c0 c1 g1' g2' ∧ (∀ E1 E2 : E, tst (evE (pg.cx (callN pg (n + 9))) (.orT [(.cmp .NotEq (.meth (.var 6) 12 [(.var 12)]) (.ifx (.cmp .Eq (.var 15) (.lit (.str [104, 105, 116]))) (.var 12) (.lit (.non)))), (.andT [(.cmp .NotEq (.var 15) (.lit (.str [104, 105, 116]))), (.cmp .NotEq (.meth (.var 6) 15 [(.var 12), (.var 12)]) (.var 15))]), E1, E2]) (lsl w most m0 m1 m2 F keys (.v (.str k)) s13 s14 (.v (dueA most S k))) h) = tst (evE (pg.cx (callN pg (n + 9))) (.orT [E1, E2]) (lsl w most m0 m1 m2 F keys (.v (.str k)) s13 s14 (.v (dueA most S k))) h')) := by
    by_cases z : inA S k
    · obtain ⟨h', e1, A', fr⟩ := ad_hit (n := n + 8) H.a I hl z
      refine ⟨h', g1, g2, H.u6 A' (fr.to fun b hb => .inl (by simp at hb ⊢; omega)) (.inl rfl) (.inl rfl), fun E1 E2 => ?_⟩
      have d1 := fun h => (d h).1
      have d2 := fun h => (d h).2
      rw [decide_eq_true z] at d1 d2
      generalize dueA most S k = d at d1 d2 ⊢
      simp [exB, exS, evE, evEs, evAnd, evOr, evAndT, evOrT, evIf, PyI.Out.of, PyI.Out.then, Res.bind, tst, Sl.var, stTg, stTgs, attrW, insAt, setAttrW, clsW, fget, fput, bmT, bmHas, bm, bi, mkL, binop, iop, lseq, truth, cmpop, index, atW, idxN, partR, partOf, sliceW, getW, setItemW, delItemW, nxO, callI, newI, W.isKey, stPT, stPTs, dicOf, Fn.args, Fn.start, cx_call, cx_glob, cx_init, cx_meth, cx_told, cx_fuel, walkK, walkOf, walkOne, walkVal, walkRange, walkEnum, walkDic, walkZip, LL, ef, pg_init, pg_meth, meths, e1, qk, d1, d2]
    · have c1 : k ∉ S.t1 := fun q => z (.inl q)
      have c2 : k ∉ S.t2 := fun q => z (.inr q)
      have e0 := ad_get3 (n := n + 8) H.a c1 c2
      obtain ⟨h', g1', g2', e1, A', fr, l1, l2⟩ := ad_miss (n := n + 6) H.a I hl p1 z
      refine ⟨h', g1', g2', H.u6 A' fr l1 l2, fun E1 E2 => ?_⟩
      have d1 := fun h => (d h).1
      have d2 := fun h => (d h).2
      rw [decide_eq_false z] at d1 d2
      have dd : dueA most S k = oW (adPut most S.aim S.t1 S.t2 S.b1 S.b2 k).g := by unfold dueA; rw [if_neg z]
      have qg := eqK (h := h') (adPut most S.aim S.t1 S.t2 S.b1 S.b2 k).g
      rw [← dd] at e1 qg
      generalize dueA most S k = d at d1 d2 e1 qg ⊢
      simp [exB, exS, evE, evEs, evAnd, evOr, evAndT, evOrT, evIf, PyI.Out.of, PyI.Out.then, Res.bind, tst, Sl.var, stTg, stTgs, attrW, insAt, setAttrW, clsW, fget, fput, bmT, bmHas, bm, bi, mkL, binop, iop, lseq, truth, cmpop, index, atW, idxN, partR, partOf, sliceW, getW, setItemW, delItemW, nxO, callI, newI, W.isKey, stPT, stPTs, dicOf, Fn.args, Fn.start, cx_call, cx_glob, cx_init, cx_meth, cx_told, cx_fuel, walkK, walkOf, walkOne, walkVal, walkRange, walkEnum, walkDic, walkZip, LL, ef, pg_init, pg_meth, meths, e0, e1, qn, d1, d2, qg]
  refine ⟨h', g1', g2', ?_, H'⟩
  have e1 := ad_parts (n := n + 8) H'.a
  have ef' := H'.a.fa
  have eo := H'.l
  obtain ⟨q1, q2⟩ := rd_tups (h := h') (xs := [.tup (sts (adS most S k).t1), .tup (sts (adS most S k).t2), .tup (sts (adS most S k).b1), .tup (sts (adS most S k).b2)]) (by
    intro x hx
    simp only [List.mem_cons, List.not_mem_nil, or_false] at hx
    rcases hx with rfl | rfl | rfl | rfl <;> exact ⟨_, rfl⟩)
  have q := isEq0_refl q1 q2
  have qa := isEq0_int h' (adS most S k).aim (adS most S k).aim
  rw [beq_self_eq_true] at qa
  unfold st_0_4_10
  simp only [exS]
  rw [go]
  generalize adS most S k = S2 at *
  generalize dueA most S k = d
  simp [exB, exS, evE, evEs, evAnd, evOr, evAndT, evOrT, evIf, PyI.Out.of, PyI.Out.then, Res.bind, tst, Sl.var, stTg, stTgs, attrW, insAt, setAttrW, clsW, fget, fput, bmT, bmHas, bm, bi, mkL, binop, iop, lseq, truth, cmpop, index, atW, idxN, partR, partOf, sliceW, getW, setItemW, delItemW, nxO, callI, newI, W.isKey, stPT, stPTs, dicOf, Fn.args, Fn.start, cx_call, cx_glob, cx_init, cx_meth, cx_told, cx_fuel, walkK, walkOf, walkOne, walkVal, walkRange, walkEnum, walkDic, walkZip, LL, ef', eo, OwnL, dget, W.keq, pg_init, pg_meth, meths, e1, q, qa]
theorem t11 (H : LH h most m0 m1 m2 F To T S S c0 c1 g1 g2) (I : AI most S m) : exS (pg.cx (callN pg (n + 9))) st_0_4_11 (lsl w most m0 m1 m2 F keys (.v (.str k)) s13 s14 s15) h = .nx (lsl w most m0 m1 m2 F keys (.v (.str k)) s13 s14 s15) h := by
  have ef := H.a.fa
  have eo := H.l
  have u1 : ¬ most < (S.t1.length : Int) + S.t2.length := by have := I.m; omega
  have u2 := I.a0
  have u3 := I.a1
  simp [exB, exS, evE, evEs, evAnd, evOr, evAndT, evOrT, evIf, PyI.Out.of, PyI.Out.then, Res.bind, tst, Sl.var, stTg, stTgs, attrW, insAt, setAttrW, clsW, fget, fput, bmT, bmHas, bm, bi, mkL, binop, iop, lseq, truth, cmpop, index, atW, idxN, partR, partOf, sliceW, getW, setItemW, delItemW, nxO, callI, newI, W.isKey, stPT, stPTs, dicOf, Fn.args, Fn.start, cx_call, cx_glob, cx_init, cx_meth, cx_told, cx_fuel, walkK, walkOf, walkOne, walkVal, walkRange, walkEnum, walkDic, walkZip, LL, ef, eo, OwnL, dget, W.keq, pg_init, pg_meth, meths, u1, u2, u3]
end
end K05

set_option linter.all false
set_option maxRecDepth 100000
set_option maxHeartbeats 4000000
/-! K05l: the law, run. -/
namespace K05
open PySem PyI
abbrev turnB : List PyI.S := [st_0_4_0, st_0_4_1, st_0_4_2, st_0_4_3, st_0_4_4, st_0_4_5, st_0_4_6, st_0_4_7, st_0_4_8, st_0_4_9, st_0_4_10, st_0_4_11, st_0_4_12]
theorem turns_cons {f : W → Hc → Res (Option W × Hc)} {x y : W} {r ys : List W} {h h1 h2 : Hc} (e : f x h = .ok (some y, h1)) (e2 : turns f r h1 = .ok (ys, h2)) : turns f (x :: r) h = .ok (y :: ys, h2) := by
  unfold turns
  rw [e]
  simp only [Res.bind]
  rw [e2]
section
variable {n m : Nat} {h : Hc} {w : W} {most m0 m1 m2 c0 c1 : Int} {F : Ks} {To T : TS} {So S : LS} {g1 g2 : Nat} {kept keys : Ks} {k : Key} {s12 s13 s14 s15 : Sv}
theorem t12 (H : LH h most m0 m1 m2 F T T So S c0 c1 g1 g2) (I : TI T m) (hl : m < 900) : exS (pg.cx (callN pg (n + 9))) st_0_4_12 (lsl w most m0 m1 m2 F keys (.v (.str k)) s13 s14 s15) h = .nx (lsl w most m0 m1 m2 F keys (.v (.str k)) s13 s14 s15) h := by
  obtain ⟨l1, l2, l3⟩ := I.l
  have eo := H.o
  have ef := H.t.fa
  have e : evE (pg.cx (callN pg (n + 9))) (.lc false [17] (.one 17) .val [(.idx (.var 8) (.lit (.str [111, 117, 116])))] [(.cmp .IsNot (.meth (.var 5) 12 [(.var 17)]) (.lit (.non)))] (.var 17)) (lsl w most m0 m1 m2 F keys (.v (.str k)) s13 s14 s15) h = .ok (.lst [], h) := by
    rw [evE]
    unfold walkK
    have e1 : evEs (pg.cx (callN pg (n + 9))) [(.idx (.var 8) (.lit (.str [111, 117, 116])))] (lsl w most m0 m1 m2 F keys (.v (.str k)) s13 s14 s15) h = .ok ([.lst (sts T.g)], h) := by simp [exB, exS, evE, evEs, evAnd, evOr, evAndT, evOrT, evIf, PyI.Out.of, PyI.Out.then, Res.bind, tst, Sl.var, stTg, stTgs, attrW, insAt, setAttrW, clsW, fget, fput, bmT, bmHas, bm, bi, mkL, binop, iop, lseq, truth, cmpop, index, atW, idxN, partR, partOf, sliceW, getW, setItemW, delItemW, nxO, callI, newI, W.isKey, stPT, stPTs, dicOf, Fn.args, Fn.start, cx_call, cx_glob, cx_init, cx_meth, cx_told, cx_fuel, walkK, walkOf, walkOne, walkVal, walkRange, walkEnum, walkDic, walkZip, LL, eo, OwnT, dget, W.keq]
    dsimp only
    rw [e1]
    dsimp only [walkOf, walkOne, walkVal]
    rw [turns_pure (g := fun _ => none)]
    · simp [noX, Res.bind, mkL]
    · intro x hx
      obtain ⟨y, hy, rfl⟩ := List.mem_map.mp hx
      have n1 : y ∉ T.m := fun z => by have := I.c y; have := w1_le y; have := cnt_in hy; have := cnt_in z; omega
      have n2 : y ∉ T.i := fun z => by have := I.c y; have := w1_le y; have := cnt_in hy; have := cnt_in z; omega
      have eg := two_get (n := n + 8) (k := y) H.t (by omega)
      rw [if_neg n1, if_neg n2] at eg
      simp [exB, exS, evE, evEs, evAnd, evOr, evAndT, evOrT, evIf, PyI.Out.of, PyI.Out.then, Res.bind, tst, Sl.var, stTg, stTgs, attrW, insAt, setAttrW, clsW, fget, fput, bmT, bmHas, bm, bi, mkL, binop, iop, lseq, truth, cmpop, index, atW, idxN, partR, partOf, sliceW, getW, setItemW, delItemW, nxO, callI, newI, W.isKey, stPT, stPTs, dicOf, Fn.args, Fn.start, cx_call, cx_glob, cx_init, cx_meth, cx_told, cx_fuel, walkK, walkOf, walkOne, walkVal, walkRange, walkEnum, walkDic, walkZip, LL, wipeS, evIf, ef, pg_init, pg_meth, meths, eg]
  unfold st_0_4_12
  generalize E.lc false [17] (.one 17) .val [(.idx (.var 8) (.lit (.str [111, 117, 116])))] [(.cmp .IsNot (.meth (.var 5) 12 [(.var 17)]) (.lit (.non)))] (.var 17) = L at e ⊢
  have q := isEq0_refl (h := h) (w := .lst []) rfl rfl
  simp [exS, exB, evE, evEs, tst, Out.of, Res.bind, e, q, cmpop, mkL, truth]
theorem turn (q : QS) (H : LH h most m0 m1 m2 q.f T T q.a q.a q.c0 q.c1 g1 g2) (IF : FI q.f m) (IT : TI T m) (IA : AI most q.a m) (hl : m + 1 < 900) (p1 : 1 ≤ most) (p2 : most ≤ 400) (p3 : 0 ≤ m0) (p4 : 0 ≤ m2) (hk : k.length = 1) :
    ∃ h' g1' g2' s13' s14' s15', exB (pg.cx (callN pg (n + 9))) turnB (lsl w most m0 m1 m2 q.f keys (.v (.str k)) s13 s14 s15) h = .nx (lsl w most m0 m1 m2 (qS most q k).f keys (.v (.str k)) s13' s14' s15') h' ∧ LH h' most m0 m1 m2 (qS most q k).f (twoS m0 m1 m2 T k) (twoS m0 m1 m2 T k) (qS most q k).a (qS most q k).a (qS most q k).c0 (qS most q k).c1 g1' g2' := by
  have e0 := t0 (n := n) (w := w) (most := most) (m0 := m0) (m1 := m1) (m2 := m2) (F := q.f) (keys := keys) (k := k) (s13 := s13) (s14 := s14) (s15 := s15) (h := h)
  obtain ⟨h1, e1, H1⟩ := t1 (n := n) (w := w) (keys := keys) (k := k) (s14 := .v .non) (s15 := s15) (b := decide (k ∈ q.f)) H
  have e2 := t2 (n := n) (w := w) (m0 := m0) (m1 := m1) (m2 := m2) (F := q.f) (keys := keys) (k := k) (s15 := s15) (h := h1) p1 (by have := IF.l; omega)
  obtain ⟨h3, e3, H3⟩ := t3 (n := n) (w := w) (keys := keys) (k := k) (s15 := s15) H1 IF p1 (by omega)
  have e4 := t4 (n := n) (w := w) (keys := keys) (k := k) (s13 := .v (.bl (decide (k ∈ q.f)))) (s14 := .v (oW (goF most q.f k))) (s15 := s15) H3
  obtain ⟨h5, e5, H5⟩ := t5 (n := n) (w := w) (keys := keys) (k := k) (s13 := .v (.bl (decide (k ∈ q.f)))) (s14 := .v (oW (goF most q.f k))) (s15 := s15) H3 IT (by omega) p3 p4
  obtain ⟨h6, e6, H6⟩ := t6 (n := n) (w := w) (keys := keys) (k := k) (s13 := .v (.bl (decide (k ∈ q.f)))) (s14 := .v (oW (goF most q.f k))) H5 IT (by omega) p3 p4 hk
  have e7 := t7 (n := n) (w := w) (keys := keys) (k := k) (s13 := .v (.bl (decide (k ∈ q.f)))) (s14 := .v (oW (goF most q.f k))) (s15 := .v (dueT m0 m1 m2 T k)) H6
  obtain ⟨h8, e8, H8⟩ := t8 (n := n) (w := w) (keys := keys) (k := k) (s13 := .v (.bl (decide (k ∈ q.f)))) (s14 := .v (oW (goF most q.f k))) (s15 := .v (dueT m0 m1 m2 T k)) H6 IA (by omega) p1 p2
  obtain ⟨h9, e9, H9⟩ := t9 (n := n) (w := w) (keys := keys) (k := k) (s13 := .v (.bl (decide (k ∈ q.f)))) (s14 := .v (oW (goF most q.f k))) H8 IA
  obtain ⟨h10, g1', g2', e10, H10⟩ := t10 (n := n) (w := w) (keys := keys) (k := k) (s13 := .v (.bl (decide (k ∈ q.f)))) (s14 := .v (oW (goF most q.f k))) H9 IA (by omega) p1
  have e11 := t11 (n := n) (w := w) (keys := keys) (k := k) (s13 := .v (.bl (decide (k ∈ q.f)))) (s14 := .v (oW (goF most q.f k))) (s15 := .v (dueA most q.a k)) H10 (IA.nx p1 k hk)
  have e12 := t12 (n := n) (w := w) (keys := keys) (k := k) (s13 := .v (.bl (decide (k ∈ q.f)))) (s14 := .v (oW (goF most q.f k))) (s15 := .v (dueA most q.a k)) H10 (IT.nx (m0 := m0) (m1 := m1) (m2 := m2) k hk) (by omega)
  refine ⟨h10, g1', g2', .v (.bl (decide (k ∈ q.f))), .v (oW (goF most q.f k)), .v (dueA most q.a k), ?_, ?_⟩
  · unfold turnB
    rw [exB_nx e0, exB_nx e1, exB_nx e2, exB_nx e3, exB_nx e4, exB_nx e5, exB_nx e6, exB_nx e7, exB_nx e8, exB_nx e9, exB_nx e10, exB_nx e11, exB_nx e12]
    rfl
  · unfold qS
    by_cases c : k ∈ q.f
    · simpa [c] using H10
    · simpa [c] using H10
theorem loop (p1 : 1 ≤ most) (p2 : most ≤ 400) (p3 : 0 ≤ m0) (p4 : 0 ≤ m2) : ∀ (r : Ks) (h : Hc) (q : QS) (T : TS) (g1 g2 m : Nat) (s12 s13 s14 s15 : Sv), LH h most m0 m1 m2 q.f T T q.a q.a q.c0 q.c1 g1 g2 → FI q.f m → TI T m → AI most q.a m → m + r.length < 899 → (∀ x ∈ r, x.length = 1) →
    ∃ h' F' T' S' g1' g2' s12' s13' s14' s15', forL (fun x σ h => match stTg (.one 12) x σ with
      | some σ' => exB (pg.cx (callN pg (n + 9))) turnB σ' h
      | none => .no) (sts r) (lsl w most m0 m1 m2 q.f keys s12 s13 s14 s15) h = .nx (lsl w most m0 m1 m2 F' keys s12' s13' s14' s15') h' ∧ LH h' most m0 m1 m2 F' T' T' S' S' (qR most q r).c0 (qR most q r).c1 g1' g2'
  | [], h, q, T, g1, g2, m, s12, s13, s14, s15, H, _, _, _, _, _ => ⟨h, q.f, T, q.a, g1, g2, s12, s13, s14, s15, rfl, H⟩
  | k :: r, h, q, T, g1, g2, m, s12, s13, s14, s15, H, IF, IT, IA, hl, hk => by
    have k1 := hk k (by simp)
    simp only [List.length_cons] at hl
    obtain ⟨h', g1', g2', s13', s14', s15', e, H'⟩ := turn (n := n) (w := w) (keys := keys) (k := k) (s13 := s13) (s14 := s14) (s15 := s15) q H IF IT IA (by omega) p1 p2 p3 p4 k1
    obtain ⟨h'', F', T', S', g1'', g2'', s12'', s13'', s14'', s15'', e2, H''⟩ := loop p1 p2 p3 p4 r h' (qS most q k) _ g1' g2' (m + 1) (.v (.str k)) s13' s14' s15' H' (IF.nx p1 k) (IT.nx k k1) (IA.nx p1 k k1) (by omega) (fun x hx => hk x (by simp [hx]))
    refine ⟨h'', F', T', S', g1'', g2'', s12'', s13'', s14'', s15'', ?_, H''⟩
    rw [← e2]
    show forL _ (.str k :: sts r) _ _ = _
    conv => lhs; unfold forL
    simp only [stTg]
    show (match exB (pg.cx (callN pg (n + 9))) turnB (lsl w most m0 m1 m2 q.f keys (.v (.str k)) s13 s14 s15) h with
      | .nx σ' h' => _
      | .ct σ' h' => _
      | .bk σ' h' => _
      | o => o) = _
    rw [e]
/-! ### the dice -/
theorem roll (n : Nat) (t : Hc) {b : Nat} {o : CO} (hv : V (b + 1) o) {many : Int} (hm : 0 < many) (hm2 : many ≤ 100000000) : ∃ r o', callN pg (n + 1) 17 [.ref 0, .int many] (o :: t) = .ok (.int r, o' :: t) ∧ V b o' ∧ 0 ≤ r ∧ r < many := by
  obtain ⟨r, o', e, v, h0, h1⟩ := roll_ok (P := pg) (n := n) (id := 17) rfl (h := o :: t) (a := 0) (o := o) rfl hv hm hm2
  exact ⟨r, o', e, v, h0, h1⟩
theorem letter {s : List Nat} (hs : s.length = 8) (h : Hc) {r : Int} (h0 : 0 ≤ r) (h1 : r < 8) : ∃ c, index h (.str s) (.int r) = some (.str [c]) := by
  have l : 8 ≤ LL := by decide
  have : r.toNat < s.length := by omega
  refine ⟨s[r.toNat], ?_⟩
  have e2 : (r < (8 : Nat)) := h1
  simp only [index, if_pos l, atW, idxN, hs, if_pos h0, if_pos e2, Option.bind, List.getElem?_eq_getElem this, Option.map]
abbrev keyE : E := .idx (.lit (.str [97, 98, 99, 100, 101, 102, 103, 104])) (.call false 17 [(.var 1), (.bin false .Add (.lit (.int 1)) (.call false 17 [(.var 1), (.lit (.int 8))]))])
theorem key_turn (t : Hc) {b : Nat} {o : CO} (hv : V (b + 2) o) {σ : Sl} (hσ : σ[1]? = some (.v (.ref 0))) : ∃ k : Key, k.length = 1 ∧ ∃ o', evE (pg.cx (callN pg (n + 9))) keyE σ (o :: t) = .ok (.str k, o' :: t) ∧ V b o' := by
  obtain ⟨r1, o1, e1, v1, a1, b1⟩ := roll (n + 8) t (b := b + 1) hv (many := 8) (by omega) (by omega)
  obtain ⟨r2, o2, e2, v2, a2, b2⟩ := roll (n + 8) t (b := b) v1 (many := 1 + r1) (by omega) (by omega)
  obtain ⟨c, ec⟩ := letter (s := [97, 98, 99, 100, 101, 102, 103, 104]) rfl (o2 :: t) (r := r2) a2 (by omega)
  refine ⟨[c], rfl, o2, ?_, v2⟩
  simp [-index, evE, evEs, Res.bind, Sl.var, hσ, cx_call, callI, e1, e2, binop, ec]
theorem keys_ok (t : Hc) {b : Nat} {σ : Sl} (hσ : (wipeS σ [16])[1]? = some (.v (.ref 0))) (hn : 16 < (wipeS σ [16]).length) : ∀ (xs : List W) (o : CO), V (b + 2 * xs.length) o → ∃ ks : Ks, ∃ o', turns (fun x h => match stTg (.one 16) x (wipeS σ [16]) with
      | some σ' => (evIf (pg.cx (callN pg (n + 9))) [] σ' h).bind fun (k, h') => if k then (evE (pg.cx (callN pg (n + 9))) keyE σ' h').bind fun (w, h'') => .ok (some w, h'') else .ok (none, h')
      | none => .no) xs (o :: t) = .ok (sts ks, o' :: t) ∧ V b o' ∧ ks.length = xs.length ∧ ∀ x ∈ ks, x.length = 1
  | [], o, hv => ⟨[], o, rfl, hv, rfl, fun x hx => by cases hx⟩
  | x :: r, o, hv => by
    have hσ' : ((wipeS σ [16]).set 16 (.v x))[1]? = some (.v (.ref 0)) := by rw [List.getElem?_set_ne (by decide)]; exact hσ
    obtain ⟨k, kl, o1, e1, v1⟩ := key_turn (n := n) t (b := b + 2 * r.length) (σ := (wipeS σ [16]).set 16 (.v x)) (by simp only [List.length_cons] at hv; exact hv.mono (by omega)) hσ'
    obtain ⟨ks, o2, e2, v2, l2, k2⟩ := keys_ok t hσ hn r o1 v1
    refine ⟨k :: ks, o2, ?_, v2, by simp [l2], fun y hy => ?_⟩
    · refine turns_cons ?_ e2
      simp only [stTg, if_pos hn, evIf, Res.bind, if_true, e1]
    · rcases List.mem_cons.mp hy with q | q
      · rw [q]; exact kl
      · exact k2 y q
end
/-- what stands after the making -/
abbrev hp0 (o : CO) (most m0 m1 m2 : Int) : Hc := [o, .ins 0 [(0, .int most), (1, .ref 2)], .dic false [], .ins 1 [(2, .tup [.int m0, .int m1, .int m2]), (3, .ref 4), (4, .lst []), (5, .ref 5)], .dic false [], .dic false [],
  .ins 2 [(0, .int most), (7, .int 0), (8, .ref 7), (9, .ref 8), (10, .ref 9), (11, .ref 10)], .dic false [], .dic false [], .lst false [], .lst false [],
  .dic false (OwnT m0 m1 m2 [] [] []), .dic false (OwnL most 0 [] [] [] []), .lst false [.int 0, .int 0]]
theorem lh0 (o : CO) (most m0 m1 m2 : Int) : LH (hp0 o most m0 m1 m2) most m0 m1 m2 q0.f ⟨[], [], []⟩ ⟨[], [], []⟩ q0.a q0.a q0.c0 q0.c1 9 10 :=
  ⟨⟨rfl, rfl⟩, ⟨rfl, rfl, rfl, by decide⟩, ⟨rfl, rfl, rfl, rfl, rfl, by decide, by decide⟩, rfl, rfl, rfl, .inl rfl, .inl rfl⟩
theorem TI0 : TI ⟨[], [], []⟩ 0 := ⟨fun _ => by simp, Nat.le_refl _, Nat.le_refl _, Nat.le_refl _⟩
section
variable {n : Nat} {w : W} {o : CO}
theorem s0 (hv : V 1000 o) : ∃ most m0 m1 m2 : Int, ∃ o', exS (pg.cx (callN pg (n + 9))) st_0_0 [.v w, .v (.ref 0), .un, .un, .un, .un, .un, .un, .un, .un, .un, .un, .un, .un, .un, .un, .un, .un] [o] = .nx [.v w, .v (.ref 0), .v (.int most), .v (.lst [.int m0, .int m1, .int m2]), .un, .un, .un, .un, .un, .un, .un, .un, .un, .un, .un, .un, .un, .un] [o'] ∧ V 900 o' ∧ (1 ≤ most ∧ most ≤ 4) ∧ (1 ≤ m0 ∧ m0 ≤ 3) ∧ (1 ≤ m1 ∧ m1 ≤ 3) ∧ (1 ≤ m2 ∧ m2 ≤ 3) := by
  obtain ⟨r1, o1, e1, v1, a1, b1⟩ := roll (n + 8) [] (b := 999) hv (many := 4) (by omega) (by omega)
  obtain ⟨r2, o2, e2, v2, a2, b2⟩ := roll (n + 8) [] (b := 998) v1 (many := 3) (by omega) (by omega)
  obtain ⟨r3, o3, e3, v3, a3, b3⟩ := roll (n + 8) [] (b := 997) v2 (many := 3) (by omega) (by omega)
  obtain ⟨r4, o4, e4, v4, a4, b4⟩ := roll (n + 8) [] (b := 996) v3 (many := 3) (by omega) (by omega)
  refine ⟨1 + r1, 1 + r2, 1 + r3, 1 + r4, o4, ?_, v4.mono (by omega), by omega, by omega, by omega, by omega⟩
  simp [exB, exS, evE, evEs, evAnd, evOr, evAndT, evOrT, evIf, PyI.Out.of, PyI.Out.then, Res.bind, tst, Sl.var, stTg, stTgs, attrW, insAt, setAttrW, clsW, fget, fput, bmT, bmHas, bm, bi, mkL, binop, iop, lseq, truth, cmpop, index, atW, idxN, partR, partOf, sliceW, getW, setItemW, delItemW, nxO, callI, newI, W.isKey, stPT, stPTs, dicOf, Fn.args, Fn.start, cx_call, cx_glob, cx_init, cx_meth, cx_told, cx_fuel, walkK, walkOf, walkOne, walkVal, walkRange, walkEnum, walkDic, walkZip, LL, wipeS, turns, noX, rangeW, evIf, e1, e2, e3, e4]
theorem s1 {most m0 m1 m2 : Int} (p : 1 ≤ most ∧ most ≤ 4) (q0 : 1 ≤ m0 ∧ m0 ≤ 3) (q1 : 1 ≤ m1 ∧ m1 ≤ 3) (q2 : 1 ≤ m2 ∧ m2 ≤ 3) : exS (pg.cx (callN pg (n + 9))) st_0_1 [.v w, .v (.ref 0), .v (.int most), .v (.lst [.int m0, .int m1, .int m2]), .un, .un, .un, .un, .un, .un, .un, .un, .un, .un, .un, .un, .un, .un] [o] = .nx [.v w, .v (.ref 0), .v (.int most), .v (.lst [.int m0, .int m1, .int m2]), .v (.ref 1), .v (.ref 3), .v (.ref 6), .un, .un, .un, .un, .un, .un, .un, .un, .un, .un, .un] ((hp0 o most m0 m1 m2).take 11) := by
  have n1 := fun h => new_fif (n + 8) h p.1 (by omega : most ≤ 400)
  have n2 := fun h => new_two (n + 8) h q0.1 (by omega : m0 ≤ 400) q1.1 (by omega : m1 ≤ 400) q2.1 (by omega : m2 ≤ 400)
  have n3 := fun h => new_ad (n + 8) h p.1 (by omega : most ≤ 400)
  simp [exB, exS, evE, evEs, evAnd, evOr, evAndT, evOrT, evIf, PyI.Out.of, PyI.Out.then, Res.bind, tst, Sl.var, stTg, stTgs, attrW, insAt, setAttrW, clsW, fget, fput, bmT, bmHas, bm, bi, mkL, binop, iop, lseq, truth, cmpop, index, atW, idxN, partR, partOf, sliceW, getW, setItemW, delItemW, nxO, callI, newI, W.isKey, stPT, stPTs, dicOf, Fn.args, Fn.start, cx_call, cx_glob, cx_init, cx_meth, cx_told, cx_fuel, walkK, walkOf, walkOne, walkVal, walkRange, walkEnum, walkDic, walkZip, LL, -newI, pg_init, n1, n2, n3]
theorem s2 {most m0 m1 m2 : Int} : exS (pg.cx (callN pg (n + 9))) st_0_2 [.v w, .v (.ref 0), .v (.int most), .v (.lst [.int m0, .int m1, .int m2]), .v (.ref 1), .v (.ref 3), .v (.ref 6), .un, .un, .un, .un, .un, .un, .un, .un, .un, .un, .un] ((hp0 o most m0 m1 m2).take 11) = .nx [.v w, .v (.ref 0), .v (.int most), .v (.lst [.int m0, .int m1, .int m2]), .v (.ref 1), .v (.ref 3), .v (.ref 6), .v (.lst []), .v (.ref 11), .v (.ref 12), .v (.ref 13), .un, .un, .un, .un, .un, .un, .un] (hp0 o most m0 m1 m2) := by
  simp [exB, exS, evE, evEs, evAnd, evOr, evAndT, evOrT, evIf, PyI.Out.of, PyI.Out.then, Res.bind, tst, Sl.var, stTg, stTgs, attrW, insAt, setAttrW, clsW, fget, fput, bmT, bmHas, bm, bi, mkL, binop, iop, lseq, truth, cmpop, index, atW, idxN, partR, partOf, sliceW, getW, setItemW, delItemW, nxO, callI, newI, W.isKey, stPT, stPTs, dicOf, Fn.args, Fn.start, cx_call, cx_glob, cx_init, cx_meth, cx_told, cx_fuel, walkK, walkOf, walkOne, walkVal, walkRange, walkEnum, walkDic, walkZip, LL, OwnT, OwnL, dput, W.keq]
theorem s3 {most m0 m1 m2 : Int} (hv : V 900 o) : ∃ keys : Ks, ∃ o', exS (pg.cx (callN pg (n + 9))) st_0_3 [.v w, .v (.ref 0), .v (.int most), .v (.lst [.int m0, .int m1, .int m2]), .v (.ref 1), .v (.ref 3), .v (.ref 6), .v (.lst []), .v (.ref 11), .v (.ref 12), .v (.ref 13), .un, .un, .un, .un, .un, .un, .un] (hp0 o most m0 m1 m2) = .nx (lsl w most m0 m1 m2 [] keys .un .un .un .un) (hp0 o' most m0 m1 m2) ∧ keys.length < 40 ∧ ∀ x ∈ keys, x.length = 1 := by
  obtain ⟨r1, o1, e1, v1, a1, b1⟩ := roll (n + 8) (hp0 o most m0 m1 m2).tail (b := 899) hv (many := 40) (by omega) (by omega)
  have rl : (rangeW 0 r1.toNat).length = r1.toNat := by
    have : ∀ (m : Nat) (i : Int), (rangeW i m).length = m := fun m => by
      induction m with
      | zero => intro i; rfl
      | succ m ih => intro i; simp [rangeW, ih]
    exact this _ _
  obtain ⟨ks, o2, e2, v2, l2, k2⟩ := keys_ok (n := n) (hp0 o most m0 m1 m2).tail (b := 0) (σ := [.v w, .v (.ref 0), .v (.int most), .v (.lst [.int m0, .int m1, .int m2]), .v (.ref 1), .v (.ref 3), .v (.ref 6), .v (.lst []), .v (.ref 11), .v (.ref 12), .v (.ref 13), .un, .un, .un, .un, .un, .un, .un]) rfl (by simp [wipeS]) (rangeW 0 r1.toNat) o1 (v1.mono (by omega))
  refine ⟨ks, o2, ?_, by omega, k2⟩
  have w1 : evEs (pg.cx (callN pg (n + 9))) [.call false 17 [(.var 1), (.lit (.int 40))]] [.v w, .v (.ref 0), .v (.int most), .v (.lst [.int m0, .int m1, .int m2]), .v (.ref 1), .v (.ref 3), .v (.ref 6), .v (.lst []), .v (.ref 11), .v (.ref 12), .v (.ref 13), .un, .un, .un, .un, .un, .un, .un] (hp0 o most m0 m1 m2) = .ok ([.int r1], hp0 o1 most m0 m1 m2) := by
    have : callN pg (n + 9) 17 [.ref 0, .int 40] (hp0 o most m0 m1 m2) = .ok (.int r1, hp0 o1 most m0 m1 m2) := e1
    simp only [evEs, evE, Sl.var, Res.bind, cx_call, callI]
    simp only [List.getElem?_cons_succ, List.getElem?_cons_zero, this, Bool.false_eq_true, if_false]
  have ev : evE (pg.cx (callN pg (n + 9))) (.lc false [16] (.one 16) .range [(.call false 17 [(.var 1), (.lit (.int 40))])] [] keyE) [.v w, .v (.ref 0), .v (.int most), .v (.lst [.int m0, .int m1, .int m2]), .v (.ref 1), .v (.ref 3), .v (.ref 6), .v (.lst []), .v (.ref 11), .v (.ref 12), .v (.ref 13), .un, .un, .un, .un, .un, .un, .un] (hp0 o most m0 m1 m2) = .ok (.lst (sts ks), hp0 o2 most m0 m1 m2) := by
    rw [evE]
    unfold walkK
    dsimp only
    rw [w1]
    have c1 : -(2 ^ 62) ≤ r1 ∧ r1 ≤ LL := ⟨by omega, by show r1 ≤ 16777216; omega⟩
    have w2 : walkOf .range [.int r1] (hp0 o1 most m0 m1 m2) = some (rangeW 0 r1.toNat, none) := by
      simp only [walkOf, walkRange, if_pos c1]
    dsimp only
    rw [w2]
    dsimp only
    exact (congrArg (fun z => (noX z).bind fun p => mkL false p.1 p.2) e2).trans rfl
  unfold st_0_3
  simp only [exS]
  rw [ev]
  rfl
end
theorem rounds1 {ns : List Int} (hz : ∀ z ∈ ns, z.natAbs.log2 ≤ 1100000) {w : W} (hw : w = .frz (ns.map .int) ∨ w = .lst (ns.map .int)) : ∃ o, callN pg 40 18 [w, .int 1] [] = .ok (.lst [.ref 0], [o]) ∧ V (2 ^ 59) o := rounds_ok (P := pg) (n := 38) (id := 18) (idd := 16) rfl rfl hz hw
theorem law_run {ns : List Int} (hz : ∀ z ∈ ns, z.natAbs.log2 ≤ 1100000) {w : W} (hw : w = .frz (ns.map .int) ∨ w = .lst (ns.map .int)) : ∃ h, callN pg 41 24 [w] [] = .ok (.bl true, h) := by
  obtain ⟨o, er, hv⟩ := rounds1 hz hw
  obtain ⟨most, m0, m1, m2, o1, e0, v1, p, q0', q1, q2⟩ := s0 (n := 31) (w := w) (hv.mono (b' := 1000) (by decide))
  have e1 := s1 (n := 31) (w := w) (o := o1) p q0' q1 q2
  have e2 := s2 (n := 31) (w := w) (o := o1) (most := most) (m0 := m0) (m1 := m1) (m2 := m2)
  obtain ⟨keys, o2, e3, l3, k3⟩ := s3 (n := 31) (w := w) (most := most) (m0 := m0) (m1 := m1) (m2 := m2) v1
  obtain ⟨h', F', T', S', g1', g2', s12', s13', s14', s15', e4, H'⟩ := loop (n := 31) (w := w) (keys := keys) (m1 := m1) p.1 (by omega : most ≤ 400) (by omega : 0 ≤ m0) (by omega : 0 ≤ m2) keys _ q0 _ 9 10 0 .un .un .un .un (lh0 o2 most m0 m1 m2) FI0 TI0 (AI0 p.1) (by omega) k3
  obtain ⟨hq, eq⟩ := qh_ok (n := 35) (most := most) (ks := keys) p.1 (by omega) (by omega) k3
  have hc := H'.c
  generalize (qR most q0 keys).c0 = c0 at *
  generalize (qR most q0 keys).c1 = c1 at *
  have nk := nref_sts keys
  have e5 : exS (pg.cx (callN pg 40)) st_0_5 (lsl w most m0 m1 m2 F' keys s12' s13' s14' s15') h' = .nx (lsl w most m0 m1 m2 F' keys s12' s13' s14' s15') h' := by
    have eqv : isEq0 h' (.lst [.int c0, .int c1]) (.ref 13) = some true := by
      unfold isEq0
      rw [dicAt_of (w := .lst [.int c0, .int c1]) rfl]
      have r1 : rd 60 h' (.lst [.int c0, .int c1]) = some (.lst [.int c0, .int c1]) := rfl
      have r2 : rd 60 h' (.ref 13) = some (.lst [.int c0, .int c1]) := by
        rw [rd, hc]
        rfl
      dsimp only
      rw [r1, r2]
      simp [W.eqv, W.eqvs]
    have nn : W.nrefs [.lst (sts keys), .int most] = true := by simp [W.nrefs, nrefs_sts keys, W.nref]
    have n3 : W.nref (.tup [.int c0, .int c1]) = true := rfl
    have cc : callI true (callN pg 40 15) [.lst (sts keys), .int most] h' = .ok (.tup [.int c0, .int c1], h') := by
      unfold callI
      rw [if_pos rfl, if_pos nn, eq]
      dsimp only
      rw [if_pos n3]
    simp [exB, exS, evE, evEs, evAnd, evOr, evAndT, evOrT, evIf, PyI.Out.of, PyI.Out.then, Res.bind, tst, Sl.var, stTg, stTgs, attrW, insAt, setAttrW, clsW, fget, fput, bmT, bmHas, bm, bi, mkL, binop, iop, lseq, truth, cmpop, index, atW, idxN, partR, partOf, sliceW, getW, setItemW, delItemW, nxO, callI, newI, W.isKey, stPT, stPTs, dicOf, Fn.args, Fn.start, cx_call, cx_glob, cx_init, cx_meth, cx_told, cx_fuel, walkK, walkOf, walkOne, walkVal, walkRange, walkEnum, walkDic, walkZip, LL, -callI, cc, eqv]
  have e40 : exS (pg.cx (callN pg 40)) st_0_4 (lsl w most m0 m1 m2 [] keys .un .un .un .un) (hp0 o2 most m0 m1 m2) = .nx (lsl w most m0 m1 m2 F' keys s12' s13' s14' s15') h' := by
    rw [← e4]
    unfold st_0_4
    show exS _ (.for (.one 12) .val [(.var 11)] turnB) _ _ = _
    generalize turnB = B
    simp [exS, evE, evEs, walkK, walkOf, walkOne, walkVal, Sl.var, Res.bind]
    all_goals rfl
  obtain ⟨hp, ep⟩ : ∃ hp, callN pg 40 23 [] [] = .ok (.bl true, hp) := by
    have := plain_run
    cases e : callN pg 40 23 [] [] with
    | ok a =>
      obtain ⟨v, hp⟩ := a
      rw [e] at this
      cases v with
      | bl b =>
        have q : b = true := this
        exact ⟨hp, by rw [q]⟩
      | _ => cases this
    | exc c h => rw [e] at this; cases this
    | no => rw [e] at this; cases this
  have es : exS (pg.cx (callN pg 40)) st_0 [.v w, .un, .un, .un, .un, .un, .un, .un, .un, .un, .un, .un, .un, .un, .un, .un, .un, .un] [] = .nx (lsl w most m0 m1 m2 F' keys s12' s13' s14' s15') h' := by
    have eb : exB (pg.cx (callN pg 40)) [st_0_0, st_0_1, st_0_2, st_0_3, st_0_4, st_0_5] [.v w, .v (.ref 0), .un, .un, .un, .un, .un, .un, .un, .un, .un, .un, .un, .un, .un, .un, .un, .un] [o] = .nx (lsl w most m0 m1 m2 F' keys s12' s13' s14' s15') h' := by
      rw [exB_nx e0, exB_nx e1, exB_nx e2, exB_nx e3, exB_nx e40, exB_nx e5]
      rfl
    unfold st_0
    generalize [st_0_0, st_0_1, st_0_2, st_0_3, st_0_4, st_0_5] = B at eb ⊢
    simp [exS, evE, evEs, walkK, walkOf, walkOne, walkVal, Sl.var, Res.bind, cx_call, callI, er, forL, stTg, eb]
  refine ⟨h', ?_⟩
  rw [callN_s (F := f24) rfl]
  refine runF_of (o := .rt (.bl true) h') rfl ?_
  show exB _ b24 [.v w, .un, .un, .un, .un, .un, .un, .un, .un, .un, .un, .un, .un, .un, .un, .un, .un, .un] [] = _
  rw [st_eq, exB_nx es]
  refine exB_rt ?_
  simp only [exS, evE, evEs, Res.bind, cx_call, callI, W.nrefs, ep, W.nref, Out.of, if_true]
end K05

set_option Elab.async false
set_option linter.all false
set_option maxRecDepth 100000
set_option maxHeartbeats 8000000
namespace K05E
open K05
open PySem PySem.Spec PyProof.Rows L2 PyI
def dep : Nat := 40
theorem plain_ok : ∀ ns : List Int, ns.length ≤ 63 → (∀ z ∈ ns, Builtin.Int.intBits z ≤ 1048576) → (∃ h, callN pg (dep + 1) 24 [.frz (ns.map .int)] [] = .ok (.bl true, h)) ∧ ∃ h, callN pg (dep + 1) 24 [.lst (ns.map .int)] [] = .ok (.bl true, h) := by
  intro ns _ hb
  have hz : ∀ z ∈ ns, z.natAbs.log2 ≤ 1100000 := fun z hz => by
    have := hb z hz
    unfold Builtin.Int.intBits at this
    split at this
    · rename_i q
      have q : z = 0 := by simpa using q
      subst q
      decide
    · omega
  exact ⟨law_run hz (.inl rfl), law_run hz (.inr rfl)⟩
def top (i : Nat) : Stmt := PySem.Challenge.pw_cachestack_k05_caches_in_order_of_coming.main.body.getD i (.Pass ⟨0, 0, 0, 0⟩)
def inC (i j : Nat) : Stmt := L2.inClass (top i) j
def T : Tb := { gn := ["MOST_QUEUED"], fn := ["", "", "", "", "", "", "", "", "", "", "", "", "", "", "", "queue_hits", "_law_dice", "_law_roll", "_law_rounds", "", "_law_two", "_law_replace", "_law_learn", "_law_plain", "law"], cn := ["Fifo", "TwoQueues", "Adapting"], en := ["CacheFault", "QueueError"], tn := ["_law_told"], nm := ["most", "rows", "mosts", "inner", "ghosts", "main", "let_go", "aim", "once", "again", "once_ghosts", "again_ghosts", "get", "ghost", "replace", "put", "order", "parts", "__init__"], lx := lams }
abbrev s0 : Stmt := inC 5 0
def d0 : Dd := { x := "__init__", qual := "Fifo.__init__", params := L2.defArgs s0, body := L2.defBody s0, scope := L2.defScope s0, N := ["self", "most"], ps := ["self", "most"], lam := false, gen := false, F := f0 }
def D0 : Option Dd := some d0
def e0 : He.DefD := ⟨("Fifo", some "__init__"), "__init__", "Fifo.__init__", L2.defArgs s0, L2.defBody s0, L2.defScope s0, [], []⟩
abbrev s1 : Stmt := inC 5 1
def d1 : Dd := { x := "get", qual := "Fifo.get", params := L2.defArgs s1, body := L2.defBody s1, scope := L2.defScope s1, N := ["self", "key"], ps := ["self", "key"], lam := false, gen := false, F := f1 }
def D1 : Option Dd := some d1
def e1 : He.DefD := ⟨("Fifo", some "get"), "get", "Fifo.get", L2.defArgs s1, L2.defBody s1, L2.defScope s1, [], []⟩
abbrev s2 : Stmt := inC 5 2
def d2 : Dd := { x := "put", qual := "Fifo.put", params := L2.defArgs s2, body := L2.defBody s2, scope := L2.defScope s2, N := ["self", "key", "value", "gone"], ps := ["self", "key", "value"], lam := false, gen := false, F := f2 }
def D2 : Option Dd := some d2
def e2 : He.DefD := ⟨("Fifo", some "put"), "put", "Fifo.put", L2.defArgs s2, L2.defBody s2, L2.defScope s2, [], []⟩
abbrev s3 : Stmt := inC 5 3
def d3 : Dd := { x := "order", qual := "Fifo.order", params := L2.defArgs s3, body := L2.defBody s3, scope := L2.defScope s3, N := ["self"], ps := ["self"], lam := false, gen := false, F := f3 }
def D3 : Option Dd := some d3
def e3 : He.DefD := ⟨("Fifo", some "order"), "order", "Fifo.order", L2.defArgs s3, L2.defBody s3, L2.defScope s3, [], []⟩
abbrev s4 : Stmt := inC 6 0
def d4 : Dd := { x := "__init__", qual := "TwoQueues.__init__", params := L2.defArgs s4, body := L2.defBody s4, scope := L2.defScope s4, N := ["self", "inner", "ghosts", "main", "most"], ps := ["self", "inner", "ghosts", "main"], lam := false, gen := true, F := f4 }
def D4 : Option Dd := some d4
def e4 : He.DefD := ⟨("TwoQueues", some "__init__"), "__init__", "TwoQueues.__init__", L2.defArgs s4, L2.defBody s4, L2.defScope s4, [], []⟩
abbrev s5 : Stmt := inC 6 1
def d5 : Dd := { x := "get", qual := "TwoQueues.get", params := L2.defArgs s5, body := L2.defBody s5, scope := L2.defScope s5, N := ["self", "key", "value"], ps := ["self", "key"], lam := false, gen := false, F := f5 }
def D5 : Option Dd := some d5
def e5 : He.DefD := ⟨("TwoQueues", some "get"), "get", "TwoQueues.get", L2.defArgs s5, L2.defBody s5, L2.defScope s5, [], []⟩
abbrev s6 : Stmt := inC 6 2
def d6 : Dd := { x := "put", qual := "TwoQueues.put", params := L2.defArgs s6, body := L2.defBody s6, scope := L2.defScope s6, N := ["self", "key", "value", "gone", "part", "one"], ps := ["self", "key", "value"], lam := false, gen := false, F := f6 }
def D6 : Option Dd := some d6
def e6 : He.DefD := ⟨("TwoQueues", some "put"), "put", "TwoQueues.put", L2.defArgs s6, L2.defBody s6, L2.defScope s6, [], []⟩
abbrev s7 : Stmt := inC 6 3
def d7 : Dd := { x := "let_go", qual := "TwoQueues.let_go", params := L2.defArgs s7, body := L2.defBody s7, scope := L2.defScope s7, N := ["self", "part", "most", "gone"], ps := ["self", "part", "most"], lam := false, gen := false, F := f7 }
def D7 : Option Dd := some d7
def e7 : He.DefD := ⟨("TwoQueues", some "let_go"), "let_go", "TwoQueues.let_go", L2.defArgs s7, L2.defBody s7, L2.defScope s7, [], []⟩
abbrev s8 : Stmt := inC 6 4
def d8 : Dd := { x := "parts", qual := "TwoQueues.parts", params := L2.defArgs s8, body := L2.defBody s8, scope := L2.defScope s8, N := ["self"], ps := ["self"], lam := false, gen := false, F := f8 }
def D8 : Option Dd := some d8
def e8 : He.DefD := ⟨("TwoQueues", some "parts"), "parts", "TwoQueues.parts", L2.defArgs s8, L2.defBody s8, L2.defScope s8, [], []⟩
abbrev s9 : Stmt := inC 7 0
def d9 : Dd := { x := "__init__", qual := "Adapting.__init__", params := L2.defArgs s9, body := L2.defBody s9, scope := L2.defScope s9, N := ["self", "most"], ps := ["self", "most"], lam := false, gen := false, F := f9 }
def D9 : Option Dd := some d9
def e9 : He.DefD := ⟨("Adapting", some "__init__"), "__init__", "Adapting.__init__", L2.defArgs s9, L2.defBody s9, L2.defScope s9, [], []⟩
abbrev s10 : Stmt := inC 7 1
def d10 : Dd := { x := "get", qual := "Adapting.get", params := L2.defArgs s10, body := L2.defBody s10, scope := L2.defScope s10, N := ["self", "key", "value"], ps := ["self", "key"], lam := false, gen := false, F := f10 }
def D10 : Option Dd := some d10
def e10 : He.DefD := ⟨("Adapting", some "get"), "get", "Adapting.get", L2.defArgs s10, L2.defBody s10, L2.defScope s10, [], []⟩
abbrev s11 : Stmt := inC 7 2
def d11 : Dd := { x := "put", qual := "Adapting.put", params := L2.defArgs s11, body := L2.defBody s11, scope := L2.defScope s11, N := ["self", "key", "value", "gone", "whole", "part"], ps := ["self", "key", "value"], lam := false, gen := false, F := f11 }
def D11 : Option Dd := some d11
def e11 : He.DefD := ⟨("Adapting", some "put"), "put", "Adapting.put", L2.defArgs s11, L2.defBody s11, L2.defScope s11, [], []⟩
abbrev s12 : Stmt := inC 7 3
def d12 : Dd := { x := "ghost", qual := "Adapting.ghost", params := L2.defArgs s12, body := L2.defBody s12, scope := L2.defScope s12, N := ["self", "key", "once", "again", "is_again", "gone", "one"], ps := ["self", "key"], lam := false, gen := false, F := f12 }
def D12 : Option Dd := some d12
def e12 : He.DefD := ⟨("Adapting", some "ghost"), "ghost", "Adapting.ghost", L2.defArgs s12, L2.defBody s12, L2.defScope s12, [], []⟩
abbrev s13 : Stmt := inC 7 4
def d13 : Dd := { x := "replace", qual := "Adapting.replace", params := L2.defArgs s13, body := L2.defBody s13, scope := L2.defScope s13, N := ["self", "is_again", "many", "gone"], ps := ["self", "is_again"], lam := false, gen := false, F := f13 }
def D13 : Option Dd := some d13
def e13 : He.DefD := ⟨("Adapting", some "replace"), "replace", "Adapting.replace", L2.defArgs s13, L2.defBody s13, L2.defScope s13, [], []⟩
abbrev s14 : Stmt := inC 7 5
def d14 : Dd := { x := "parts", qual := "Adapting.parts", params := L2.defArgs s14, body := L2.defBody s14, scope := L2.defScope s14, N := ["self"], ps := ["self"], lam := false, gen := false, F := f14 }
def D14 : Option Dd := some d14
def e14 : He.DefD := ⟨("Adapting", some "parts"), "parts", "Adapting.parts", L2.defArgs s14, L2.defBody s14, L2.defScope s14, [], []⟩
abbrev s15 : Stmt := top 8
def d15 : Dd := { x := "queue_hits", qual := "queue_hits", params := L2.defArgs s15, body := L2.defBody s15, scope := L2.defScope s15, N := ["keys", "most", "plain", "clever", "hits", "key", "place", "cache"], ps := ["keys", "most"], lam := false, gen := false, F := f15 }
def D15 : Option Dd := some d15
def e15 : He.DefD := ⟨("queue_hits", none), "queue_hits", "queue_hits", L2.defArgs s15, L2.defBody s15, L2.defScope s15, [], []⟩
abbrev s16 : Stmt := top 10
def d16 : Dd := { x := "_law_dice", qual := "_law_dice", params := L2.defArgs s16, body := L2.defBody s16, scope := L2.defScope s16, N := ["cell"], ps := ["cell"], lam := false, gen := false, F := f16 }
def D16 : Option Dd := some d16
def e16 : He.DefD := ⟨("_law_dice", none), "_law_dice", "_law_dice", L2.defArgs s16, L2.defBody s16, L2.defScope s16, [], []⟩
abbrev s17 : Stmt := top 11
def d17 : Dd := { x := "_law_roll", qual := "_law_roll", params := L2.defArgs s17, body := L2.defBody s17, scope := L2.defScope s17, N := ["dice", "many", "found"], ps := ["dice", "many"], lam := false, gen := false, F := f17 }
def D17 : Option Dd := some d17
def e17 : He.DefD := ⟨("_law_roll", none), "_law_roll", "_law_roll", L2.defArgs s17, L2.defBody s17, L2.defScope s17, [], []⟩
abbrev s18 : Stmt := top 12
def d18 : Dd := { x := "_law_rounds", qual := "_law_rounds", params := L2.defArgs s18, body := L2.defBody s18, scope := L2.defScope s18, N := ["script", "most", "cells", "cell"], ps := ["script", "most"], lam := false, gen := false, F := f18 }
def D18 : Option Dd := some d18
def e18 : He.DefD := ⟨("_law_rounds", none), "_law_rounds", "_law_rounds", L2.defArgs s18, L2.defBody s18, L2.defScope s18, [], []⟩
def D19 : Option Dd := none
abbrev s19 : Stmt := top 13
def e19 : He.DefD := ⟨("_law_told", none), "_law_told", "_law_told", L2.defArgs s19, L2.defBody s19, L2.defScope s19, [], []⟩
abbrev s20 : Stmt := top 14
def d20 : Dd := { x := "_law_two", qual := "_law_two", params := L2.defArgs s20, body := L2.defBody s20, scope := L2.defScope s20, N := ["own", "key", "part", "most", "gone", "one"], ps := ["own", "key"], lam := false, gen := false, F := f20 }
def D20 : Option Dd := some d20
def e20 : He.DefD := ⟨("_law_two", none), "_law_two", "_law_two", L2.defArgs s20, L2.defBody s20, L2.defScope s20, [], []⟩
abbrev s21 : Stmt := top 15
def d21 : Dd := { x := "_law_replace", qual := "_law_replace", params := L2.defArgs s21, body := L2.defBody s21, scope := L2.defScope s21, N := ["own", "again", "first", "part", "ghosts", "gone"], ps := ["own", "again"], lam := false, gen := false, F := f21 }
def D21 : Option Dd := some d21
def e21 : He.DefD := ⟨("_law_replace", none), "_law_replace", "_law_replace", L2.defArgs s21, L2.defBody s21, L2.defScope s21, [], []⟩
abbrev s22 : Stmt := top 16
def d22 : Dd := { x := "_law_learn", qual := "_law_learn", params := L2.defArgs s22, body := L2.defBody s22, scope := L2.defScope s22, N := ["own", "key", "one", "two", "gone", "first", "every", "mine"], ps := ["own", "key"], lam := false, gen := false, F := f22 }
def D22 : Option Dd := some d22
def e22 : He.DefD := ⟨("_law_learn", none), "_law_learn", "_law_learn", L2.defArgs s22, L2.defBody s22, L2.defScope s22, [], []⟩
abbrev s23 : Stmt := top 17
def d23 : Dd := { x := "_law_plain", qual := "_law_plain", params := L2.defArgs s23, body := L2.defBody s23, scope := L2.defScope s23, N := ["plain", "three", "clever", "key", "told", "bad", "f"], ps := [], lam := true, gen := false, F := f23 }
def D23 : Option Dd := some d23
def e23 : He.DefD := ⟨("_law_plain", none), "_law_plain", "_law_plain", L2.defArgs s23, L2.defBody s23, L2.defScope s23, [], []⟩
abbrev s24 : Stmt := top 18
def d24 : Dd := { x := "law", qual := "law", params := L2.defArgs s24, body := L2.defBody s24, scope := L2.defScope s24, N := ["script", "dice", "most", "mosts", "plain", "three", "clever", "kept", "own", "learnt", "hits", "keys", "key", "there", "gone", "due", "k", "one"], ps := ["script"], lam := false, gen := false, F := f24 }
def D24 : Option Dd := some d24
def e24 : He.DefD := ⟨("law", none), "law", "law", L2.defArgs s24, L2.defBody s24, L2.defScope s24, [], []⟩
def dds : List (Option Dd) := [D0, D1, D2, D3, D4, D5, D6, D7, D8, D9, D10, D11, D12, D13, D14, D15, D16, D17, D18, D19, D20, D21, D22, D23, D24]
def fnl : List He.DefD := [e0, e1, e2, e3, e4, e5, e6, e7, e8, e9, e10, e11, e12, e13, e14, e15, e16, e17, e18, e19, e20, e21, e22, e23, e24]
def tf : List (Str × Option Str × Str) := [("TwoQueues", some "__init__", "TwoQueues.__init__.<locals>.<genexpr>"), ("_law_plain", none, "_law_plain.<locals>.<lambda>")]
def tfl : List (Str × Option Str) := [("TwoQueues", some "__init__"), ("_law_plain", none)]
def lw : Lw := { T := T, pg := pg, dds := dds, at_ := fnl.map (·.at_), dvs := [], tell := ["QueueError"], tf := tf }
abbrev R : PySem.W.OpenRow := PySem.W.OpenLaw.row PySem.Challenge.rw_cachestack_k05_caches_in_order_of_coming
def fal : List He.Fa := lw.fa
def hk : PySem.W.Hook := He.hookX 4 fal fnl [] tfl lw.ex
def ob (s : PySem.W.SharedT) : He.AlX := He.obsX 4 fal fnl [] tfl lw.ex (HandSHeadRun.getT s)
theorem ob_eq (s : PySem.W.SharedT) : ob s = hk.obs s.abs := He.obsX_eq (HandSHeadRun.getT_eq s)
section
open PySem PySem.Spec PyProof.Rows L2 PyI
def xt (f : Fs) (m : Bool) (c : PyI.E) (e : Expr) : Bool := xtB T f m c e || xtG T f m c e
def xs (f : Fs) (c : PyI.S) (s : Stmt) : Bool := xsB T f c s
theorem hxt_ok {Γ : Gm} {LO : LamT} {n K0 : Nat} {m : Bool} {f : Fs} {c : PyI.E} {e : Expr} {E' : XK} {X : L2.Cx} (r : Frm Γ LO T (pg.cx (callN pg n)) K0 E' f X) (h : xt f m c e = true) : Rds Γ LO (pg.cx (callN pg n)) E' X m c e := by
  unfold xt at h
  rw [Bool.or_eq_true] at h
  rcases h with h | h
  · exact xt_ok r rfl h
  · exact xtG_ok r h
theorem b0_ (kV doc pm : Value) (an : Option Addr) (cdv ct : Value) (us : List Value) (hl : us.length = d0.ps.length) : bindArgs (PySem.W.fnOf d0.x d0.qual d0.params d0.body d0.scope .none kV doc pm an cdv ct) ⟨us, []⟩ = pure (d0.ps.zip us) := match us, hl with | [_, _], _ => rfl
theorem k0_ : d0.okB T xt xs = true := by decide +kernel
theorem b1_ (kV doc pm : Value) (an : Option Addr) (cdv ct : Value) (us : List Value) (hl : us.length = d1.ps.length) : bindArgs (PySem.W.fnOf d1.x d1.qual d1.params d1.body d1.scope .none kV doc pm an cdv ct) ⟨us, []⟩ = pure (d1.ps.zip us) := match us, hl with | [_, _], _ => rfl
theorem k1_ : d1.okB T xt xs = true := by decide +kernel
theorem b2_ (kV doc pm : Value) (an : Option Addr) (cdv ct : Value) (us : List Value) (hl : us.length = d2.ps.length) : bindArgs (PySem.W.fnOf d2.x d2.qual d2.params d2.body d2.scope .none kV doc pm an cdv ct) ⟨us, []⟩ = pure (d2.ps.zip us) := match us, hl with | [_, _, _], _ => rfl
theorem k2_ : d2.okB T xt xs = true := by decide +kernel
theorem b3_ (kV doc pm : Value) (an : Option Addr) (cdv ct : Value) (us : List Value) (hl : us.length = d3.ps.length) : bindArgs (PySem.W.fnOf d3.x d3.qual d3.params d3.body d3.scope .none kV doc pm an cdv ct) ⟨us, []⟩ = pure (d3.ps.zip us) := match us, hl with | [_], _ => rfl
theorem k3_ : d3.okB T xt xs = true := by decide +kernel
theorem b4_ (kV doc pm : Value) (an : Option Addr) (cdv ct : Value) (us : List Value) (hl : us.length = d4.ps.length) : bindArgs (PySem.W.fnOf d4.x d4.qual d4.params d4.body d4.scope .none kV doc pm an cdv ct) ⟨us, []⟩ = pure (d4.ps.zip us) := match us, hl with | [_, _, _, _], _ => rfl
theorem k4_ : d4.okB T xt xs = true := by decide +kernel
theorem b5_ (kV doc pm : Value) (an : Option Addr) (cdv ct : Value) (us : List Value) (hl : us.length = d5.ps.length) : bindArgs (PySem.W.fnOf d5.x d5.qual d5.params d5.body d5.scope .none kV doc pm an cdv ct) ⟨us, []⟩ = pure (d5.ps.zip us) := match us, hl with | [_, _], _ => rfl
theorem k5_ : d5.okB T xt xs = true := by decide +kernel
theorem b6_ (kV doc pm : Value) (an : Option Addr) (cdv ct : Value) (us : List Value) (hl : us.length = d6.ps.length) : bindArgs (PySem.W.fnOf d6.x d6.qual d6.params d6.body d6.scope .none kV doc pm an cdv ct) ⟨us, []⟩ = pure (d6.ps.zip us) := match us, hl with | [_, _, _], _ => rfl
theorem k6_ : d6.okB T xt xs = true := by decide +kernel
theorem b7_ (kV doc pm : Value) (an : Option Addr) (cdv ct : Value) (us : List Value) (hl : us.length = d7.ps.length) : bindArgs (PySem.W.fnOf d7.x d7.qual d7.params d7.body d7.scope .none kV doc pm an cdv ct) ⟨us, []⟩ = pure (d7.ps.zip us) := match us, hl with | [_, _, _], _ => rfl
theorem k7_ : d7.okB T xt xs = true := by decide +kernel
theorem b8_ (kV doc pm : Value) (an : Option Addr) (cdv ct : Value) (us : List Value) (hl : us.length = d8.ps.length) : bindArgs (PySem.W.fnOf d8.x d8.qual d8.params d8.body d8.scope .none kV doc pm an cdv ct) ⟨us, []⟩ = pure (d8.ps.zip us) := match us, hl with | [_], _ => rfl
theorem k8_ : d8.okB T xt xs = true := by decide +kernel
theorem b9_ (kV doc pm : Value) (an : Option Addr) (cdv ct : Value) (us : List Value) (hl : us.length = d9.ps.length) : bindArgs (PySem.W.fnOf d9.x d9.qual d9.params d9.body d9.scope .none kV doc pm an cdv ct) ⟨us, []⟩ = pure (d9.ps.zip us) := match us, hl with | [_, _], _ => rfl
theorem k9_ : d9.okB T xt xs = true := by decide +kernel
theorem b10_ (kV doc pm : Value) (an : Option Addr) (cdv ct : Value) (us : List Value) (hl : us.length = d10.ps.length) : bindArgs (PySem.W.fnOf d10.x d10.qual d10.params d10.body d10.scope .none kV doc pm an cdv ct) ⟨us, []⟩ = pure (d10.ps.zip us) := match us, hl with | [_, _], _ => rfl
theorem k10_ : d10.okB T xt xs = true := by decide +kernel
theorem b11_ (kV doc pm : Value) (an : Option Addr) (cdv ct : Value) (us : List Value) (hl : us.length = d11.ps.length) : bindArgs (PySem.W.fnOf d11.x d11.qual d11.params d11.body d11.scope .none kV doc pm an cdv ct) ⟨us, []⟩ = pure (d11.ps.zip us) := match us, hl with | [_, _, _], _ => rfl
theorem k11_ : d11.okB T xt xs = true := by decide +kernel
theorem b12_ (kV doc pm : Value) (an : Option Addr) (cdv ct : Value) (us : List Value) (hl : us.length = d12.ps.length) : bindArgs (PySem.W.fnOf d12.x d12.qual d12.params d12.body d12.scope .none kV doc pm an cdv ct) ⟨us, []⟩ = pure (d12.ps.zip us) := match us, hl with | [_, _], _ => rfl
theorem k12_ : d12.okB T xt xs = true := by decide +kernel
theorem b13_ (kV doc pm : Value) (an : Option Addr) (cdv ct : Value) (us : List Value) (hl : us.length = d13.ps.length) : bindArgs (PySem.W.fnOf d13.x d13.qual d13.params d13.body d13.scope .none kV doc pm an cdv ct) ⟨us, []⟩ = pure (d13.ps.zip us) := match us, hl with | [_, _], _ => rfl
theorem k13_ : d13.okB T xt xs = true := by decide +kernel
theorem b14_ (kV doc pm : Value) (an : Option Addr) (cdv ct : Value) (us : List Value) (hl : us.length = d14.ps.length) : bindArgs (PySem.W.fnOf d14.x d14.qual d14.params d14.body d14.scope .none kV doc pm an cdv ct) ⟨us, []⟩ = pure (d14.ps.zip us) := match us, hl with | [_], _ => rfl
theorem k14_ : d14.okB T xt xs = true := by decide +kernel
theorem b15_ (kV doc pm : Value) (an : Option Addr) (cdv ct : Value) (us : List Value) (hl : us.length = d15.ps.length) : bindArgs (PySem.W.fnOf d15.x d15.qual d15.params d15.body d15.scope .none kV doc pm an cdv ct) ⟨us, []⟩ = pure (d15.ps.zip us) := match us, hl with | [_, _], _ => rfl
theorem k15_ : d15.okB T xt xs = true := by decide +kernel
theorem b16_ (kV doc pm : Value) (an : Option Addr) (cdv ct : Value) (us : List Value) (hl : us.length = d16.ps.length) : bindArgs (PySem.W.fnOf d16.x d16.qual d16.params d16.body d16.scope .none kV doc pm an cdv ct) ⟨us, []⟩ = pure (d16.ps.zip us) := match us, hl with | [_], _ => rfl
theorem k16_ : d16.okB T xt xs = true := by decide +kernel
theorem b17_ (kV doc pm : Value) (an : Option Addr) (cdv ct : Value) (us : List Value) (hl : us.length = d17.ps.length) : bindArgs (PySem.W.fnOf d17.x d17.qual d17.params d17.body d17.scope .none kV doc pm an cdv ct) ⟨us, []⟩ = pure (d17.ps.zip us) := match us, hl with | [_, _], _ => rfl
theorem k17_ : d17.okB T xt xs = true := by decide +kernel
theorem b18_ (kV doc pm : Value) (an : Option Addr) (cdv ct : Value) (us : List Value) (hl : us.length = d18.ps.length) : bindArgs (PySem.W.fnOf d18.x d18.qual d18.params d18.body d18.scope .none kV doc pm an cdv ct) ⟨us, []⟩ = pure (d18.ps.zip us) := match us, hl with | [_, _], _ => rfl
theorem k18_ : d18.okB T xt xs = true := by decide +kernel
theorem b20_ (kV doc pm : Value) (an : Option Addr) (cdv ct : Value) (us : List Value) (hl : us.length = d20.ps.length) : bindArgs (PySem.W.fnOf d20.x d20.qual d20.params d20.body d20.scope .none kV doc pm an cdv ct) ⟨us, []⟩ = pure (d20.ps.zip us) := match us, hl with | [_, _], _ => rfl
theorem k20_ : d20.okB T xt xs = true := by decide +kernel
theorem b21_ (kV doc pm : Value) (an : Option Addr) (cdv ct : Value) (us : List Value) (hl : us.length = d21.ps.length) : bindArgs (PySem.W.fnOf d21.x d21.qual d21.params d21.body d21.scope .none kV doc pm an cdv ct) ⟨us, []⟩ = pure (d21.ps.zip us) := match us, hl with | [_, _], _ => rfl
theorem k21_ : d21.okB T xt xs = true := by decide +kernel
theorem b22_ (kV doc pm : Value) (an : Option Addr) (cdv ct : Value) (us : List Value) (hl : us.length = d22.ps.length) : bindArgs (PySem.W.fnOf d22.x d22.qual d22.params d22.body d22.scope .none kV doc pm an cdv ct) ⟨us, []⟩ = pure (d22.ps.zip us) := match us, hl with | [_, _], _ => rfl
theorem k22_ : d22.okB T xt xs = true := by decide +kernel
theorem b23_ (kV doc pm : Value) (an : Option Addr) (cdv ct : Value) (us : List Value) (hl : us.length = d23.ps.length) : bindArgs (PySem.W.fnOf d23.x d23.qual d23.params d23.body d23.scope .none kV doc pm an cdv ct) ⟨us, []⟩ = pure (d23.ps.zip us) := match us, hl with | [], _ => rfl
theorem k23_ : d23.okB T xt xs = true := by decide +kernel
theorem b24_ (kV doc pm : Value) (an : Option Addr) (cdv ct : Value) (us : List Value) (hl : us.length = d24.ps.length) : bindArgs (PySem.W.fnOf d24.x d24.qual d24.params d24.body d24.scope .none kV doc pm an cdv ct) ⟨us, []⟩ = pure (d24.ps.zip us) := match us, hl with | [_], _ => rfl
theorem k24_ : d24.okB T xt xs = true := by decide +kernel
theorem dds_ok {K : PySem.W.Frag} {base : Heap} {mg : Str → Option Value} (c : He.SaysD fal fnl K) (hnd : (tf.map fun p => (He.cT K (p.1, p.2.1)).2).Nodup) (hTB : ∀ q ∈ tf2 tf, LamX.TabB base mg (He.cT K q).1 (He.cT K q).2) : ∀ f D, dds[f]? = some (some D) → DdOk (lw.gm K tf) T xt xs K base mg (lw.fad K f) D ∧ pg.fns[f]? = some D.F
  | 0, _, h => by cases h; exact ⟨ddOk_of (L := lw) (tf := tf) c rfl (List.mem_of_getElem? (i := 0) rfl) k0_ ((nomatch ·)) ((nomatch ·)) hnd hTB b0_, rfl⟩
  | 1, _, h => by cases h; exact ⟨ddOk_of (L := lw) (tf := tf) c rfl (List.mem_of_getElem? (i := 1) rfl) k1_ ((nomatch ·)) ((nomatch ·)) hnd hTB b1_, rfl⟩
  | 2, _, h => by cases h; exact ⟨ddOk_of (L := lw) (tf := tf) c rfl (List.mem_of_getElem? (i := 2) rfl) k2_ ((nomatch ·)) ((nomatch ·)) hnd hTB b2_, rfl⟩
  | 3, _, h => by cases h; exact ⟨ddOk_of (L := lw) (tf := tf) c rfl (List.mem_of_getElem? (i := 3) rfl) k3_ ((nomatch ·)) ((nomatch ·)) hnd hTB b3_, rfl⟩
  | 4, _, h => by cases h; exact ⟨ddOk_of (L := lw) (tf := tf) c rfl (List.mem_of_getElem? (i := 4) rfl) k4_ ((nomatch ·)) (fun _ => by decide +kernel) hnd hTB b4_, rfl⟩
  | 5, _, h => by cases h; exact ⟨ddOk_of (L := lw) (tf := tf) c rfl (List.mem_of_getElem? (i := 5) rfl) k5_ ((nomatch ·)) ((nomatch ·)) hnd hTB b5_, rfl⟩
  | 6, _, h => by cases h; exact ⟨ddOk_of (L := lw) (tf := tf) c rfl (List.mem_of_getElem? (i := 6) rfl) k6_ ((nomatch ·)) ((nomatch ·)) hnd hTB b6_, rfl⟩
  | 7, _, h => by cases h; exact ⟨ddOk_of (L := lw) (tf := tf) c rfl (List.mem_of_getElem? (i := 7) rfl) k7_ ((nomatch ·)) ((nomatch ·)) hnd hTB b7_, rfl⟩
  | 8, _, h => by cases h; exact ⟨ddOk_of (L := lw) (tf := tf) c rfl (List.mem_of_getElem? (i := 8) rfl) k8_ ((nomatch ·)) ((nomatch ·)) hnd hTB b8_, rfl⟩
  | 9, _, h => by cases h; exact ⟨ddOk_of (L := lw) (tf := tf) c rfl (List.mem_of_getElem? (i := 9) rfl) k9_ ((nomatch ·)) ((nomatch ·)) hnd hTB b9_, rfl⟩
  | 10, _, h => by cases h; exact ⟨ddOk_of (L := lw) (tf := tf) c rfl (List.mem_of_getElem? (i := 10) rfl) k10_ ((nomatch ·)) ((nomatch ·)) hnd hTB b10_, rfl⟩
  | 11, _, h => by cases h; exact ⟨ddOk_of (L := lw) (tf := tf) c rfl (List.mem_of_getElem? (i := 11) rfl) k11_ ((nomatch ·)) ((nomatch ·)) hnd hTB b11_, rfl⟩
  | 12, _, h => by cases h; exact ⟨ddOk_of (L := lw) (tf := tf) c rfl (List.mem_of_getElem? (i := 12) rfl) k12_ ((nomatch ·)) ((nomatch ·)) hnd hTB b12_, rfl⟩
  | 13, _, h => by cases h; exact ⟨ddOk_of (L := lw) (tf := tf) c rfl (List.mem_of_getElem? (i := 13) rfl) k13_ ((nomatch ·)) ((nomatch ·)) hnd hTB b13_, rfl⟩
  | 14, _, h => by cases h; exact ⟨ddOk_of (L := lw) (tf := tf) c rfl (List.mem_of_getElem? (i := 14) rfl) k14_ ((nomatch ·)) ((nomatch ·)) hnd hTB b14_, rfl⟩
  | 15, _, h => by cases h; exact ⟨ddOk_of (L := lw) (tf := tf) c rfl (List.mem_of_getElem? (i := 15) rfl) k15_ ((nomatch ·)) ((nomatch ·)) hnd hTB b15_, rfl⟩
  | 16, _, h => by cases h; exact ⟨ddOk_of (L := lw) (tf := tf) c rfl (List.mem_of_getElem? (i := 16) rfl) k16_ ((nomatch ·)) ((nomatch ·)) hnd hTB b16_, rfl⟩
  | 17, _, h => by cases h; exact ⟨ddOk_of (L := lw) (tf := tf) c rfl (List.mem_of_getElem? (i := 17) rfl) k17_ ((nomatch ·)) ((nomatch ·)) hnd hTB b17_, rfl⟩
  | 18, _, h => by cases h; exact ⟨ddOk_of (L := lw) (tf := tf) c rfl (List.mem_of_getElem? (i := 18) rfl) k18_ ((nomatch ·)) ((nomatch ·)) hnd hTB b18_, rfl⟩
  | 19, _, h => by cases h
  | 20, _, h => by cases h; exact ⟨ddOk_of (L := lw) (tf := tf) c rfl (List.mem_of_getElem? (i := 20) rfl) k20_ ((nomatch ·)) ((nomatch ·)) hnd hTB b20_, rfl⟩
  | 21, _, h => by cases h; exact ⟨ddOk_of (L := lw) (tf := tf) c rfl (List.mem_of_getElem? (i := 21) rfl) k21_ ((nomatch ·)) ((nomatch ·)) hnd hTB b21_, rfl⟩
  | 22, _, h => by cases h; exact ⟨ddOk_of (L := lw) (tf := tf) c rfl (List.mem_of_getElem? (i := 22) rfl) k22_ ((nomatch ·)) ((nomatch ·)) hnd hTB b22_, rfl⟩
  | 23, _, h => by cases h; exact ⟨ddOk_of (L := lw) (tf := tf) c rfl (List.mem_of_getElem? (i := 23) rfl) k23_ (fun _ => by decide +kernel) ((nomatch ·)) hnd hTB b23_, rfl⟩
  | 24, _, h => by cases h; exact ⟨ddOk_of (L := lw) (tf := tf) c rfl (List.mem_of_getElem? (i := 24) rfl) k24_ ((nomatch ·)) ((nomatch ·)) hnd hTB b24_, rfl⟩
  | n + 25, _, h => by cases h
theorem told0 {K : PySem.W.Frag} {mg : Str → Option Value} {h : Heap} (KX : K.In h) (G : h.Ns mainGlobals mg) (c : He.SaysD fal fnl K) (X : L2.Cx) (hK : X.K = K) (hm : X.mg = mg) : TellF (lw.gm K tf) X "_law_told" (pg.told.getD 0 []) :=
  tellF_of (L := lw) (a := "what") (Ng := ["what"]) (CS := 1) (e := "QueueError") (rl := [81, 117, 101, 117, 101, 69, 114, 114, 111, 114]) (pr := L2.defArgs s19) (B := L2.defBody s19) (sg := L2.defScope s19) hK hm KX G c (List.mem_of_getElem? (i := 19) rfl) rfl rfl (by decide +kernel) (by decide +kernel) rfl (by decide +kernel) (by decide +kernel) (by decide +kernel) (by decide +kernel) (by decide +kernel) (by decide +kernel) rfl (by decide +kernel) (by decide +kernel) (fun _ _ _ _ _ _ us hl => match us, hl with | [_], _ => rfl)
def names : List Str := ["CacheFault", "QueueError", "MOST_QUEUED", "Fifo", "TwoQueues", "Adapting", "queue_hits", "_law_dice", "_law_roll", "_law_rounds", "_law_told", "_law_two", "_law_replace", "_law_learn", "_law_plain"]
theorem run (w : World) : HandSHeadRun.RunEq R (PySem.W.view R.prog [18]) hk ob 20000 names w := by
  intro os
  kernel_rfl
theorem at_law {w : World} {K : PySem.W.Frag} {mg : Str → Option Value} {h : Heap} {fa : Addr} (c : He.SaysX fal fnl [] tfl lw.ex w h K) (KX : K.In h) (G : h.Ns mainGlobals mg) (hfa : mg ("law" : Str) = some (.ref fa)) : LamX.LawAtS PySem.Challenge.rw_cachestack_k05_caches_in_order_of_coming w K (L2.CX (PySem.Challenge.rw_cachestack_k05_caches_in_order_of_coming).prog w) (4 * (dep + 1) + 4) 63 "script" mg fa h :=
  law_at (l := PySem.Challenge.rw_cachestack_k05_caches_in_order_of_coming) (L := lw) (K := K) (mg := mg) (tf := tf) (fnl := fnl) (xt := xt) (xs := xs) (N := dep) (lid := 24) (D := d24) c KX G (by decide +kernel) rfl (by decide +kernel) rfl (by decide +kernel) hfa
    (fun fd F s u => (FunD.bindsA (ps := d24.ps) F b24_) s [u] rfl)
    (c.t.d.defs (d := e24) (List.mem_of_getElem? (i := 24) rfl))
    (fun base _ _ hTB => dds_ok c.t.d (Lw.ex_nd (L := lw) c.more) hTB) (fun r h => hxt_ok r h) (fun r h => xs_ok r h)
    (fun X hK hm t x e => by
      match t, e with
      | 0, e => cases e; exact told0 KX G c.t.d X hK hm
      | n + 1, e => cases e)
    plain_ok
end
open PySem PySem.W PySem.Calls PyProof.Rows
theorem holds : (PySem.Challenge.rw_cachestack_k05_caches_in_order_of_coming).Holds := by
  w_on; o_law
  refine HandSHeadRun.head_any (r := OpenLaw.row PySem.Challenge.rw_cachestack_k05_caches_in_order_of_coming) (q := view (OpenLaw.row PySem.Challenge.rw_cachestack_k05_caches_in_order_of_coming).prog [18]) (H := hk) (ob := ob) (M := 20000) (loose := names) (d := HandSHeadRun.topDef (OpenLaw.row PySem.Challenge.rw_cachestack_k05_caches_in_order_of_coming).prog 18) (kwd := []) ob_eq
    (by kernel_rfl) (fun s => by kernel_rfl) run (by kernel_rfl) (by kernel_rfl) (by kernel_rfl) (by rfl) (by first | assumption | decide +kernel) (by decide +kernel) ⟨rfl, rfl, rfl, rfl, rfl, by decide +kernel⟩ ?hw ?hc
  case hw => w_witness2
  case hc =>
    refine LamX.walk_ofTsE (l := PySem.Challenge.rw_cachestack_k05_caches_in_order_of_coming) (n := 63) (k := 4 * (dep + 1) + 4) (x := "script") (CX := fun w => L2.CX (PySem.Challenge.rw_cachestack_k05_caches_in_order_of_coming).prog w) rfl (by decide) (by kernel_rfl) ⟨rfl, by decide, by decide⟩ ?F (fun _ _ _ _ _ z => PyI.cx_none z)
    intro w mg fa h Y G hmg0
    obtain ⟨K, KX, c⟩ := Y
    have hmg : mg ("law" : PySem.Str) = some (.ref fa) := by
      have e : (HandSHeadRun.topDef (OpenLaw.row PySem.Challenge.rw_cachestack_k05_caches_in_order_of_coming).prog 18).name = ("law" : PySem.Str) := by kernel_rfl
      rw [← e]
      exact hmg0
    exact ⟨K, KX, at_law c KX G hmg⟩
end K05E
theorem PySem.Challenge.cw_cachestack_k05_caches_in_order_of_coming_holds : PySem.Challenge.rw_cachestack_k05_caches_in_order_of_coming.Holds := by
  exact K05E.holds
