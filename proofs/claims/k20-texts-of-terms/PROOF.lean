import PyProof.Rows.All
import Wide.All
import OpenK.AllK
import Wide.FinOn
import HandS.ForMost
import HandS.ForExc
import HandS.Deep
import HandS.IsInst
import HandS.TupAny
import HandS.HotCalls
import HandS.ExcIs
import HandS.More
import KE.DataEq
import KE.DataFind
import PyProof.ReprReads
import PyProof.StrBlock2
import PyProof.ReprRoads
import HandS.ExcInitHot
import HandS.Flow
import HandS.ExcInit
import HandS.ExcField
import HandS.ClsMeth
import HandS.Defaults
import HandS.HeadHook4
import HandS.HeadEnd
import HandS.Head2
import HandS.Words
import KE.IntTextText
import PyProof.StrLawsRepr
import HandS.Head4
import PySem.Challenge.RW_wherewords_k20_texts_of_terms
set_option Elab.async false
set_option linter.all false
/-! Mi, first part: the small language, its values and its evaluator. -/
namespace Mi
open PySem L2

/-- a value: data, a mutable cell of the small heap, a def of the table, an error that is held -/
inductive W where
  | d (x : PyData)
  | ref (i : Nat)
  | fn (i : Nat)
  | ex (c : Nat) (x : Option PyData)
  | ro (xs : List PyData)
/-- a mutable cell: a list; a list that is data from now on; an instance by its fields' places -/
inductive Cell where
  | lst (xs : List W)
  | frz (x : PyData)
  | ins (c : Nat) (fs : List (Option W))
abbrev MH := List Cell
abbrev Ev := List (Option W)
/-- an own error: its class's place, its one value -/
structure Exn where
  cls : Nat
  arg : Option PyData
inductive R (α : Type) where
  | ok (a : α) (h : MH)
  | exc (e : Exn) (h : MH)
  | stuck
abbrev M (α : Type) := MH → R α
def R.bind {α β : Type} : R α → (α → M β) → R β
  | .ok a h, f => f a h
  | .exc e h, _ => .exc e h
  | .stuck, _ => .stuck
@[simp] theorem bind_ok {α β : Type} (a : α) (h : MH) (f : α → M β) : (R.ok a h).bind f = f a h := rfl
@[simp] theorem bind_exc {α β : Type} (e : Exn) (h : MH) (f : α → M β) : (R.exc e h : R α).bind f = .exc e h := rfl
@[simp] theorem bind_stuck {α β : Type} (f : α → M β) : (R.stuck : R α).bind f = .stuck := rfl
def lift {α : Type} (o : Option α) : M α := fun h => match o with
  | some a => .ok a h
  | none => .stuck

inductive Ty where | int | str | tuple | list
  deriving DecidableEq
inductive Blt where | len | int | str | repr | all | any | tuple | list (nw : Bool) | abs | min | max | sum
  deriving DecidableEq
inductive Mth where | append | extend | reverse | pop | split | join | count | index
  deriving DecidableEq

mutual
inductive E where
  | var (i : Nat)
  | lit (x : PyData)
  | gl (x : Str) (v : PyData)
  | bin (nw : Bool) (op : Operator) (a b : E)
  | neg (a : E)
  | not (a : E)
  | and (a b : E)
  | or (a b : E)
  | cmp (op : CmpOp) (a b : E)
  | chain (op op' : CmpOp) (a b c : E)
  | ite (c : T) (a b : E)
  | tup (es : Es)
  | lst (nw : Bool) (es : Es)
  | idx (a i : E)
  | slice (a : E) (l u : Pt)
  | call (f : Nat) (mu : Bool) (es : Es)
  | callg (g : Str) (tab : List (Str × Nat)) (a : E) (es : Es)
  | gdin (neg : Bool) (g : Str) (tab : List (Str × Nat)) (a : E)
  | dget (ks : List (Str × PyData)) (a : E)
  | isi (a : E) (t : Ty)
  | isx (a : E) (c : Nat)
  | blt (b : Blt) (es : Es)
  | meth (m : Mth) (a : E) (es : Es)
  | fld (c : Nat) (a : E) (j : Nat)
  | mk (c f nf : Nat) (es : Es)
  | mcall (f c : Nat) (mu : Bool) (a : E) (es : Es)
  | exf (c : Nat) (a : E)
  | noexc (e : E)
  | comp (nw : Bool) (own : List Nat) (tg : List Nat) (tup : Bool) (it : It) (c : T) (e : E)
inductive T where
  | not (a : T)
  | and (a b : T)
  | or (a b : T)
  | val (e : E)
  | yes
inductive Pt where
  | no
  | at (e : E)
inductive Es where
  | nil
  | cons (e : E) (es : Es)
inductive It where
  | over (e : E)
  | rng1 (e : E)
  | rng2 (a b : E)
end
mutual
inductive S where
  | ex (e : E)
  | set (i : Nat) (e : E)
  | setT (is : List Nat) (e : E)
  | setL (is : List Nat) (e : E)
  | ret (e : E)
  | ite (c : T) (a b : Ss)
  | for (tg : List Nat) (tup : Bool) (it : It) (b : Ss)
  | while (c : T) (b : Ss)
  | brk
  | cnt
  | pass
  | raise (c : Nat) (e : Option E)
  | try1 (b : Ss) (c : Nat) (i : Option Nat) (hd : Ss)
  | fset (c : Nat) (a : E) (j : Nat) (e : E)
  | faug (c : Nat) (a : E) (j : Nat) (e : E)
inductive Ss where
  | nil
  | cons (s : S) (ss : Ss)
end

/-! ### values -/
def lineOk (n : Nat) : Bool := Nat.ble n 16777216
def toD : W → Option PyData
  | .d x => some x
  | _ => none
def toDs : List W → Option (List PyData)
  | [] => some []
  | .d x :: r => (toDs r).map (x :: ·)
  | _ :: _ => none
def mkL (nw : Bool) (ws : List W) : M W := fun h => if nw then .ok (.ref h.length) (h ++ [.lst ws]) else match toDs ws with
  | some ds => .ok (.d (.list ds)) h
  | none => .stuck
def seqOf : W → MH → Option (List W)
  | .d (.list xs), _ => some (xs.map .d)
  | .d (.tuple xs), _ => some (xs.map .d)
  | .ref i, h => match h[i]? with
    | some (.lst ws) => some ws
    | some (.frz (.list xs)) => some (xs.map .d)
    | _ => none
  | _, _ => none
def listOf : W → MH → Option (List W)
  | .d (.list xs), _ => some (xs.map .d)
  | .ref i, h => match h[i]? with
    | some (.lst ws) => some ws
    | some (.frz (.list xs)) => some (xs.map .d)
    | _ => none
  | _, _ => none
/-- the data that a value is now -/
def dOf : W → MH → Option PyData
  | .d x, _ => some x
  | .ref i, h => match h[i]? with
    | some (.lst ws) => (toDs ws).map .list
    | some (.frz x) => some x
    | _ => none
  | _, _ => none
def mulOk (i j : Int) : Bool := Nat.ble i.natAbs 18446744073709551615 || Nat.ble j.natAbs 18446744073709551615
def powOk (i j : Int) : Bool := (match j with
  | .ofNat n => Nat.ble n 1000000
  | .negSucc _ => false) && Nat.ble i.natAbs 18446744073709551615
def intOp : Operator → Int → Int → Option Int
  | .Add, i, j => some (i + j)
  | .Sub, i, j => some (i - j)
  | .Mult, i, j => if mulOk i j then some (i * j) else none
  | .FloorDiv, i, j => if decide (j ≠ 0) && Nat.ble j.natAbs 1073741823 then some (i.fdiv j) else none
  | .Mod, i, j => if decide (j ≠ 0) then some (i.fmod j) else none
  | .Pow, i, j => if powOk i j then some (i ^ j.toNat) else none
  | .LShift, i, j => if powOk i j then some (i * 2 ^ j.toNat) else none
  | .RShift, i, j => if decide (0 ≤ j) then some (i / 2 ^ j.toNat) else none
  | .BitAnd, i, j => some (Builtin.bitAnd i j)
  | .BitOr, i, j => some (Builtin.bitOr i j)
  | .BitXor, i, j => some (Builtin.bitXor i j)
  | _, _, _ => none
def repOk (n : Nat) (k : Int) : Bool := decide (0 ≤ k) && Nat.ble k.toNat 1000 && Nat.ble n 1000
def binV (nw : Bool) (op : Operator) : W → W → M W
  | .d (.int i), .d (.int j), h => match intOp op i j with
    | some k => .ok (.d (.int k)) h
    | none => .stuck
  | .d (.str x), .d (.int k), h => match op with
    | .Mult => if repOk x.length k then .ok (.d (.str (Txt.mul x k))) h else .stuck
    | _ => .stuck
  | .d (.list x), .d (.int k), h => match op with
    | .Mult => if repOk x.length k then mkL nw ((List.replicate k.toNat x).flatten.map .d) h else .stuck
    | _ => .stuck
  | .d (.str x), .d (.str y), h => match op with
    | .Add => if lineOk (x.length + y.length) then .ok (.d (.str (x ++ y))) h else .stuck
    | _ => .stuck
  | .d (.tuple x), .d (.tuple y), h => match op with
    | .Add => if lineOk (x.length + y.length) then .ok (.d (.tuple (x ++ y))) h else .stuck
    | _ => .stuck
  | a, b, h => match op, listOf a h, listOf b h with
    | .Add, some x, some y => if lineOk (x.length + y.length) then mkL nw (x ++ y) h else .stuck
    | _, _, _ => .stuck
def depOk (d : PyData) : Bool := Nat.ble d.depth 100
def eqD (x y : PyData) : Option Bool := if depOk x || depOk y then some (PyData.eqv x y) else none
def strIn (x z : Str) : Bool := match x.cps.toList with
  | [c] => decide (c ∈ z.cps.toList)
  | _ => !(Builtin.Str.occurrences z x 0 z.length 1).isEmpty
def inD (x : PyData) (ds : List PyData) : Option Bool := if depOk x then some (ds.any fun z => PyData.eqv z x) else none
def inV (a b : W) (h : MH) : Option Bool := match a, b with
  | .d (.str x), .d (.str z) => some (strIn x z)
  | a, b => match dOf a h, seqOf b h with
    | some x, some ws => (toDs ws).bind (inD x)
    | _, _ => none
def cmpV (op : CmpOp) (a b : W) (h : MH) : Option Bool := match op with
  | .Eq => (dOf a h).bind fun x => (dOf b h).bind fun y => eqD x y
  | .NotEq => (dOf a h).bind fun x => (dOf b h).bind fun y => (eqD x y).map (!·)
  | .In => inV a b h
  | .NotIn => (inV a b h).map (!·)
  | .Is => match a, b with
    | .d x, .d .none => some (match x with | .none => true | _ => false)
    | .ref _, .d .none => some false
    | _, _ => none
  | .IsNot => match a, b with
    | .d x, .d .none => some (match x with | .none => false | _ => true)
    | .ref _, .d .none => some true
    | _, _ => none
  | .Lt => match a, b with
    | .d (.int i), .d (.int j) => some (decide (i < j))
    | .d (.str i), .d (.str j) => some (decide (i.cps.toList < j.cps.toList))
    | _, _ => none
  | .LtE => match a, b with
    | .d (.int i), .d (.int j) => some (decide (i ≤ j))
    | .d (.str i), .d (.str j) => some (decide (i.cps.toList ≤ j.cps.toList))
    | _, _ => none
  | .Gt => match a, b with
    | .d (.int i), .d (.int j) => some (decide (j < i))
    | _, _ => none
  | .GtE => match a, b with
    | .d (.int i), .d (.int j) => some (decide (j ≤ i))
    | _, _ => none
def truV : W → MH → Option Bool
  | .d .none, _ => some false
  | .d (.bool b), _ => some b
  | .d (.int i), _ => some (i != 0)
  | .d (.str x), _ => if lineOk x.length then some ((x.length : Int) != 0) else none
  | .d (.list xs), _ => some (!xs.isEmpty)
  | .d (.tuple xs), _ => some (!xs.isEmpty)
  | .ref i, h => match h[i]? with
    | some (.lst ws) => some (!ws.isEmpty)
    | some (.frz (.list xs)) => some (!xs.isEmpty)
    | _ => none
  | _, _ => none
def idxV (a i : W) (h : MH) : Option W := match i with
  | .d (.int j) => match a with
    | .d (.str z) => if lineOk z.length then (atI z.cps.toList j).map fun c => .d (.str ⟨#[c]⟩) else none
    | a => (seqOf a h).bind fun ws => atI ws j
  | _ => none
def cutD {α : Type} (xs : List α) (lo hi : Option Int) : List α := (xs.drop (HT.sIx xs.length 0 lo)).take (HT.sIx xs.length xs.length hi - HT.sIx xs.length 0 lo)
def sliceV (a : W) (lo hi : Option Int) (h : MH) : Option W := match a with
  | .d (.str z) => if lineOk z.length then some (.d (.str (cutS z lo hi))) else none
  | .d (.tuple xs) => some (.d (.tuple (cutD xs lo hi)))
  | a => (listOf a h).bind fun ws => (toDs ws).map fun xs => .d (.list (cutD xs lo hi))
def isiV : W → Ty → MH → Option Bool
  | .d x, t, _ => match x, t with
    | .none, _ => some false
    | .bool _, .int => some true
    | .bool _, _ => some false
    | .int _, .int => some true
    | .int _, _ => some false
    | .str _, .str => some true
    | .str _, _ => some false
    | .list _, .list => some true
    | .list _, _ => some false
    | .tuple _, .tuple => some true
    | .tuple _, _ => some false
    | .dict _, _ => none
  | _, _, _ => none
def bools : List W → Option (List Bool)
  | [] => some []
  | .d (.bool b) :: r => (bools r).map (b :: ·)
  | _ :: _ => none
def txts : List W → Option (List Str)
  | [] => some []
  | .d (.str b) :: r => (txts r).map (b :: ·)
  | _ :: _ => none
def nums : List W → Option (List Int)
  | [] => some []
  | .d (.int b) :: r => (nums r).map (b :: ·)
  | _ :: _ => none
def shOk (d : PyData) : Bool := d.showable && depOk d && lineOk d.shown.length
def lenV (ws : List W) : M W := fun h => match ws with
  | [.d (.str z)] => if lineOk z.length then .ok (.d (.int z.length)) h else .stuck
  | [a] => lift ((seqOf a h).map fun xs => .d (.int xs.length)) h
  | _ => .stuck
def intV (ws : List W) : M W := fun h => match ws with
  | [.d (.int i)] => .ok (.d (.int i)) h
  | [.d (.bool b)] => .ok (.d (.int (if b then 1 else 0))) h
  | [.d (.str z)] => match PySem.intText? z with
    | some n => if Nat.ble z.length 640 then .ok (.d (.int n)) h else .stuck
    | none => .stuck
  | _ => .stuck
def strV (ws : List W) : M W := fun h => match ws with
  | [.d (.int i)] => if Nat.ble i.natAbs.log2 1919 then .ok (.d (.str (toString i))) h else .stuck
  | _ => .stuck
def reprV (ws : List W) : M W := fun h => match ws with
  | [a] => match dOf a h with
    | some x => if shOk x then .ok (.d (.str x.shown)) h else .stuck
    | none => .stuck
  | _ => .stuck
def boolsV (f : List Bool → Bool) (ws : List W) : M W := fun h => match ws with
  | [a] => lift ((listOf a h).bind fun ws => (bools ws).map fun bs => .d (.bool (f bs))) h
  | _ => .stuck
def tupV (ws : List W) : M W := fun h => match ws with
  | [a] => match a with
    | .d (.tuple xs) => .ok (.d (.tuple xs)) h
    | a => lift ((listOf a h).bind fun ws => (toDs ws).map fun xs => .d (.tuple xs)) h
  | _ => .stuck
def lstV (nw : Bool) (ws : List W) : M W := fun h => match ws with
  | [a] => match seqOf a h with
    | some ws => mkL nw ws h
    | none => .stuck
  | _ => .stuck
def absV (ws : List W) : M W := fun h => match ws with
  | [.d (.int i)] => .ok (.d (.int (if i < 0 then -i else i))) h
  | _ => .stuck
def maxV (ws : List W) : M W := fun h => match ws with
  | [.d (.int i), .d (.int j)] => .ok (.d (.int (if j > i then j else i))) h
  | _ => .stuck
def minV (ws : List W) : M W := fun h => match ws with
  | [.d (.int i), .d (.int j)] => .ok (.d (.int (if j < i then j else i))) h
  | _ => .stuck
def sumV (ws : List W) : M W := fun h => match ws with
  | [a] => lift ((listOf a h).bind fun ws => (nums ws).map fun bs => .d (.int bs.sum)) h
  | _ => .stuck
def bltV : Blt → List W → M W
  | .len => lenV
  | .int => intV
  | .str => strV
  | .repr => reprV
  | .all => boolsV fun bs => bs.all id
  | .any => boolsV fun bs => bs.any id
  | .tuple => tupV
  | .list nw => lstV nw
  | .abs => absV
  | .max => maxV
  | .min => minV
  | .sum => sumV
def cellL (i : Nat) (h : MH) : Option (List W) := match h[i]? with
  | some (.lst ws) => some ws
  | _ => none
def strLens (ys : List Str) (n : Nat) : Nat := (ys.map (·.length)).sum + ys.length * n
def appendV (a : W) (ws : List W) : M W := fun h => match a, ws with
  | .ref i, [w] => match cellL i h with
    | some xs => if Nat.blt xs.length 16777216 then .ok (.d .none) (h.set i (.lst (xs ++ [w]))) else .stuck
    | none => .stuck
  | _, _ => .stuck
def extendV (a : W) (ws : List W) : M W := fun h => match a, ws with
  | .ref i, [w] => match cellL i h, listOf w h with
    | some xs, some ys => if lineOk (xs.length + ys.length) then .ok (.d .none) (h.set i (.lst (xs ++ ys))) else .stuck
    | _, _ => .stuck
  | _, _ => .stuck
def reverseV (a : W) (ws : List W) : M W := fun h => match a, ws with
  | .ref i, [] => match cellL i h with
    | some xs => .ok (.d .none) (h.set i (.lst xs.reverse))
    | none => .stuck
  | _, _ => .stuck
def popV (a : W) (ws : List W) : M W := fun h => match a, ws with
  | .ref i, [] => match cellL i h with
    | some xs => match xs[xs.length - 1]? with
      | some y => .ok y (h.set i (.lst xs.dropLast))
      | none => .stuck
    | none => .stuck
  | _, _ => .stuck
def splitV (a : W) (ws : List W) : M W := fun h => match a, ws with
  | .d (.str x), [.d (.str y)] => if !(y.length == 0) && lineOk (x.length + 2) then .ok (.d (.list ((Txt.split x y).map .str))) h else .stuck
  | _, _ => .stuck
def joinV (a : W) (ws : List W) : M W := fun h => match a, ws with
  | .d (.str x), [a] => match (seqOf a h).bind txts with
    | some ys => if lineOk (strLens ys x.length) then .ok (.d (.str (Txt.join x ys))) h else .stuck
    | none => .stuck
  | _, _ => .stuck
def countV (a : W) (ws : List W) : M W := fun h => match ws with
  | [.d x] => match (listOf a h).bind toDs with
    | some ds => if depOk x then .ok (.d (.int (ds.countP fun y => PyData.eqv y x))) h else .stuck
    | none => .stuck
  | _ => .stuck
def indexV (a : W) (ws : List W) : M W := fun h => match ws with
  | [.d x] => match (listOf a h).bind toDs with
    | some ds => if depOk x then (match ds.findIdx? fun y => PyData.eqv y x with
      | some j => .ok (.d (.int j)) h
      | none => .stuck) else .stuck
    | none => .stuck
  | _ => .stuck
def mthV : Mth → W → List W → M W
  | .append => appendV
  | .extend => extendV
  | .reverse => reverseV
  | .pop => popV
  | .split => splitV
  | .join => joinV
  | .count => countV
  | .index => indexV

def recvOk (m : Mth) (w : W) (h : MH) : Bool := match m with
  | .split => (match w with
    | .d (.str _) => true
    | _ => false)
  | .join => (match w with
    | .d (.str _) => true
    | _ => false)
  | _ => (listOf w h).isSome

/-! ### loops, calls -/
mutual
def beqD : PyData → PyData → Bool
  | .none, .none => true
  | .bool a, .bool b => a == b
  | .int a, .int b => a == b
  | .str a, .str b => a == b
  | .list a, .list b => beqDs a b
  | .tuple a, .tuple b => beqDs a b
  | _, _ => false
def beqDs : List PyData → List PyData → Bool
  | [], [] => true
  | x :: xs, y :: ys => beqD x y && beqDs xs ys
  | _, _ => false
end
def beqW : W → W → Bool
  | .d x, .d y => beqD x y
  | .ref i, .ref j => i == j
  | .fn i, .fn j => i == j
  | _, _ => false
def beqWs : List W → List W → Bool
  | [], [] => true
  | x :: xs, y :: ys => beqW x y && beqWs xs ys
  | _, _ => false
/-- what a loop walks: the items, and the cell that must stay as it is -/
abbrev Src := List W × Option Nat
def srcOk (s : Src) (h : MH) : Bool := match s.2 with
  | none => true
  | some i => match cellL i h with
    | some ws => beqWs ws s.1
    | none => false
def signs (z : Str) : List W := z.cps.toList.map fun c => .d (.str ⟨#[c]⟩)
def srcOf (w : W) (h : MH) : Option Src := match w with
  | .d (.str z) => some (signs z, none)
  | .d (.list xs) => some (xs.map .d, none)
  | .d (.tuple xs) => some (xs.map .d, none)
  | .ro xs => some (xs.map .d, none)
  | .ref i => match h[i]? with
    | some (.lst ws) => some (ws, some i)
    | some (.frz (.list xs)) => some (xs.map .d, none)
    | _ => none
  | _ => none
def rngOk (i : Int) : Bool := Nat.ble i.natAbs 4611686018427387903
def rngFrom (i : Int) : Nat → List W
  | 0 => []
  | n + 1 => .d (.int i) :: rngFrom (i + 1) n
def wipeE (env : Ev) : List Nat → Ev
  | [] => env
  | v :: vs => (wipeE env vs).set v none
/-- a target: one name, or the names of a tuple -/
def setAll : Ev → List Nat → List W → Option Ev
  | env, [], [] => some env
  | env, i :: is, w :: ws => setAll (env.set i (some w)) is ws
  | _, _, _ => none
def setTg (tg : List Nat) (tup : Bool) (w : W) (env : Ev) : Option Ev := match tup, tg with
  | false, [i] => some (env.set i (some w))
  | true, is => match w with
    | .d (.tuple xs) => setAll env is (xs.map .d)
    | _ => none
  | _, _ => none
/-- .. fed with a list -/
def setTl (is : List Nat) (w : W) (env : Ev) : Option Ev := match w with
  | .d (.list xs) => setAll env is (xs.map .d)
  | _ => none
def compL (src : Src) (f : W → M (Option W)) : List W → List W → M (List W)
  | [], acc, h => if srcOk src h then .ok acc.reverse h else .stuck
  | w :: ws, acc, h => if srcOk src h then match f w h with
      | .ok (some y) h' => if Nat.blt acc.length 16777216 then compL src f ws (y :: acc) h' else .stuck
      | .ok none h' => compL src f ws acc h'
      | .exc e h' => .exc e h'
      | .stuck => .stuck
    else .stuck
def compG (test : Ev → M Bool) (elt : Ev → M W) (own tg : List Nat) (tup : Bool) (env : Ev) : W → M (Option W) := fun w h => match setTg tg tup w (wipeE env own) with
  | some env1 => (test env1 h).bind fun k h => if k then (elt env1 h).bind fun y h => .ok (some y) h else .ok none h
  | none => .stuck
/-- where a statement ends -/
inductive O where
  | nx (env : Ev)
  | ret (w : W)
  | brk (env : Ev)
  | cnt (env : Ev)
inductive RS where
  | ok (o : O) (h : MH)
  | exc (e : Exn) (env : Ev) (h : MH)
  | stuck
def R.toS {α : Type} (env : Ev) : R α → (α → MH → RS) → RS
  | .ok a h, f => f a h
  | .exc e h, _ => .exc e env h
  | .stuck, _ => .stuck
@[simp] theorem toS_ok {α : Type} (env : Ev) (a : α) (h : MH) (f : α → MH → RS) : (R.ok a h).toS env f = f a h := rfl
@[simp] theorem toS_exc {α : Type} (env : Ev) (e : Exn) (h : MH) (f : α → MH → RS) : (R.exc e h : R α).toS env f = .exc e env h := rfl
@[simp] theorem toS_stuck {α : Type} (env : Ev) (f : α → MH → RS) : (R.stuck : R α).toS env f = .stuck := rfl
def forL (src : Src) (tg : List Nat) (tup : Bool) (body : Ev → MH → RS) : List W → Ev → MH → RS
  | [], env, h => if srcOk src h then .ok (.nx env) h else .stuck
  | w :: ws, env, h => if srcOk src h then match setTg tg tup w env with
      | some env1 => match body env1 h with
        | .ok (.nx env2) h2 => forL src tg tup body ws env2 h2
        | .ok (.cnt env2) h2 => forL src tg tup body ws env2 h2
        | .ok (.brk env2) h2 => .ok (.nx env2) h2
        | .ok (.ret v) h2 => .ok (.ret v) h2
        | .exc e env2 h2 => .exc e env2 h2
        | .stuck => .stuck
      | none => .stuck
    else .stuck
def whileL (test : Ev → M Bool) (body : Ev → MH → RS) : Nat → Ev → MH → RS
  | 0, _, _ => .stuck
  | n + 1, env, h => (test env h).toS env fun b h1 => if b then match body env h1 with
      | .ok (.nx env2) h2 => whileL test body n env2 h2
      | .ok (.cnt env2) h2 => whileL test body n env2 h2
      | .ok (.brk env2) h2 => .ok (.nx env2) h2
      | .ok (.ret v) h2 => .ok (.ret v) h2
      | .exc e env2 h2 => .exc e env2 h2
      | .stuck => .stuck
    else .ok (.nx env) h1
/-- the cells that go along with a call: the refs of the arguments, each once, in order -/
def refsOf : List W → List Nat
  | [] => []
  | .ref i :: r => i :: refsOf r
  | _ :: r => refsOf r
def renum : Nat → List W → List W
  | _, [] => []
  | k, .ref _ :: r => .ref k :: renum (k + 1) r
  | k, w :: r => w :: renum k r
def flatO : Option W → Bool
  | some (.d _) => true
  | none => true
  | _ => false
def flatC : Cell → Bool
  | .lst ws => (toDs ws).isSome
  | .frz _ => true
  | .ins _ fs => fs.all flatO
def cellsAt (h : MH) : List Nat → Option (List Cell)
  | [] => some []
  | i :: r => match h[i]? with
    | some c => if flatC c then (cellsAt h r).map (c :: ·) else none
    | none => none
def putBack (h : MH) : List Nat → List Cell → Option MH
  | [], _ => some h
  | i :: r, c :: cs => if flatC c then putBack (h.set i c) r cs else none
  | _ :: _, [] => none
def nodupN : List Nat → Bool
  | [] => true
  | i :: r => !r.contains i && nodupN r
def resW (mu : Bool) (rs : List Nat) (w : W) (hc h2 : MH) : R W := match w with
  | .ref j => match rs[j]? with
    | some i => .ok (.ref i) h2
    | none => match hc[j]? with
      | some (.lst ws) => match toDs ws with
        | some ds => if mu then .ok (.ref h2.length) (h2 ++ [.lst ws]) else .ok (.d (.list ds)) h2
        | none => .stuck
      | some (.frz x) => .ok (.d x) h2
      | _ => .stuck
  | w => .ok w h2
def callW (Φ : Nat → List W → M W) (mu : Bool) (f : Nat) (ws : List W) : M W := fun h =>
  if nodupN (refsOf ws) then match cellsAt h (refsOf ws) with
    | some cs => match Φ f (renum 0 ws) cs with
      | .ok w hc => match putBack h (refsOf ws) hc with
        | some h2 => resW mu (refsOf ws) w hc h2
        | none => .stuck
      | .exc e hc => match putBack h (refsOf ws) hc with
        | some h2 => .exc e h2
        | none => .stuck
      | .stuck => .stuck
    | none => .stuck
  else .stuck
/-! ### instances -/
def fldV (c j : Nat) : W → MH → Option W
  | .ref i, h => match h[i]? with
    | some (.ins c' fs) => if c' == c then (fs[j]?).join else none
    | _ => none
  | _, _ => none
def insAt (c : Nat) : W → MH → Bool
  | .ref i, h => match h[i]? with
    | some (.ins c' _) => c' == c
    | _ => false
  | _, _ => false
def fsetV (c j : Nat) : W → W → MH → Option MH
  | .ref i, w, h => match h[i]? with
    | some (.ins c' fs) => if c' == c && Nat.blt j fs.length then some (h.set i (.ins c' (fs.set j (some w)))) else none
    | _ => none
  | _, _, _ => none
def mkV (Φ : Nat → List W → M W) (c f nf : Nat) (ws : List W) : M W := fun h =>
  match callW Φ false f (.ref h.length :: ws) (h ++ [.ins c (List.replicate nf none)]) with
  | .ok (.d .none) h' => .ok (.ref h.length) h'
  | .exc e h' => .exc e h'
  | _ => .stuck
def fuel : Nat := 1000000
def lookS {α : Type} (x : Str) : List (Str × α) → Option α
  | [] => none
  | (k, v) :: r => if decide (k = x) then some v else lookS x r

/-! ### an error that is held -/
def noExW : W → Bool
  | .ex _ _ => false
  | _ => true
def noExO : Option W → Bool
  | none => true
  | some w => noExW w
def noExC : Cell → Bool
  | .lst ws => ws.all noExW
  | .frz _ => true
  | .ins _ fs => fs.all noExO
def noExH (h : MH) : Bool := h.all noExC
def setEx (i : Option Nat) (e : Exn) (env : Ev) : Ev := match i with
  | none => env
  | some k => env.set k (some (.ex e.cls e.arg))
def unset (i : Option Nat) (env : Ev) : Ev := match i with
  | none => env
  | some k => env.set k none
def endX (i : Option Nat) (env : Ev) : Option Ev := if (unset i env).all noExO then some (unset i env) else none
def unsetO (i : Option Nat) : O → Option O
  | .nx env => (endX i env).map .nx
  | .brk env => (endX i env).map .brk
  | .cnt env => (endX i env).map .cnt
  | .ret w => if noExW w then some (.ret w) else none

/-- nothing may be raised here -/
def noX {α : Type} : R α → R α
  | .ok a h => .ok a h
  | _ => .stuck
/-! ### the evaluator -/
mutual
def evE (Φ : Nat → List W → M W) : E → Ev → M W
  | .var i, env, h => lift (env[i]?.join) h
  | .lit x, _, h => .ok (.d x) h
  | .gl _ x, _, h => .ok (.d x) h
  | .bin nw op a b, env, h => (evE Φ a env h).bind fun x h => (evE Φ b env h).bind fun y h => binV nw op x y h
  | .neg a, env, h => (evE Φ a env h).bind fun x h => match x with
    | .d (.int i) => .ok (.d (.int (-i))) h
    | _ => .stuck
  | .not a, env, h => (evE Φ a env h).bind fun x h => lift ((truV x h).map fun b => .d (.bool (!b))) h
  | .and a b, env, h => (evE Φ a env h).bind fun x h => match truV x h with
    | some true => evE Φ b env h
    | some false => .ok x h
    | none => .stuck
  | .or a b, env, h => (evE Φ a env h).bind fun x h => match truV x h with
    | some true => .ok x h
    | some false => evE Φ b env h
    | none => .stuck
  | .cmp op a b, env, h => (evE Φ a env h).bind fun x h => (evE Φ b env h).bind fun y h => lift ((cmpV op x y h).map fun c => .d (.bool c)) h
  | .chain op op' a b c, env, h => (evE Φ a env h).bind fun x h => (evE Φ b env h).bind fun y h => match cmpV op x y h with
    | some true => (evE Φ c env h).bind fun z h => lift ((cmpV op' y z h).map fun c => .d (.bool c)) h
    | some false => .ok (.d (.bool false)) h
    | none => .stuck
  | .ite c a b, env, h => (evT Φ c env h).bind fun k h => if k then evE Φ a env h else evE Φ b env h
  | .tup es, env, h => (evEs Φ es env h).bind fun ws h => lift ((toDs ws).map fun ds => .d (.tuple ds)) h
  | .lst nw es, env, h => (evEs Φ es env h).bind fun ws h => mkL nw ws h
  | .idx a i, env, h => (evE Φ a env h).bind fun x h => (evE Φ i env h).bind fun y h => lift (idxV x y h) h
  | .slice a l u, env, h => (evE Φ a env h).bind fun x h => (evP Φ l env h).bind fun lo h => (evP Φ u env h).bind fun hi h => lift (sliceV x lo hi h) h
  | .call f mu es, env, h => (evEs Φ es env h).bind fun ws h => callW Φ mu f ws h
  | .callg _ tab a es, env, h => (evE Φ a env h).bind fun x h => match x with
    | .d (.str z) => (match lookS z tab with
      | some i => (evEs Φ es env h).bind fun ws h => callW Φ false i ws h
      | none => .stuck)
    | _ => .stuck
  | .gdin neg _ tab a, env, h => (evE Φ a env h).bind fun x h => match x with
    | .d (.str z) => .ok (.d (.bool ((lookS z tab).isSome != neg))) h
    | _ => .stuck
  | .dget ks a, env, h => (evE Φ a env h).bind fun x h => match x with
    | .d (.str z) => lift ((lookS z ks).map .d) h
    | _ => .stuck
  | .isi a t, env, h => (evE Φ a env h).bind fun x h => lift ((isiV x t h).map fun b => .d (.bool b)) h
  | .isx a c, env, h => (evE Φ a env h).bind fun x h => match x with
    | .ex c' none => .ok (.d (.bool (c' == c || c == 0))) h
    | _ => .stuck
  | .blt b es, env, h => (evEs Φ es env h).bind fun ws h => bltV b ws h
  | .meth m a es, env, h => (evE Φ a env h).bind fun x h => if recvOk m x h then (evEs Φ es env h).bind fun ws h => mthV m x ws h else .stuck
  | .fld c a j, env, h => (evE Φ a env h).bind fun x h => lift (fldV c j x h) h
  | .mk c f nf es, env, h => (evEs Φ es env h).bind fun ws h => mkV Φ c f nf ws h
  | .mcall f c mu a es, env, h => (evE Φ a env h).bind fun x h => if insAt c x h then (evEs Φ es env h).bind fun ws h => callW Φ mu f (x :: ws) h else .stuck
  | .exf c a, env, h => (evE Φ a env h).bind fun x h => match x with
    | .ex c' (some v) => if c' == c then .ok (.d v) h else .stuck
    | _ => .stuck
  | .noexc e, env, h => noX (evE Φ e env h)
  | .comp nw own tg tup it c e, env, h => (evIt Φ it env h).bind fun src h =>
      (compL src (compG (fun env h => evT Φ c env h) (fun env h => evE Φ e env h) own tg tup env) src.1 [] h).bind fun ws h => mkL nw ws h
def evT (Φ : Nat → List W → M W) : T → Ev → M Bool
  | .not a, env, h => (evT Φ a env h).bind fun b h => .ok (!b) h
  | .and a b, env, h => (evT Φ a env h).bind fun k h => if k then evT Φ b env h else .ok false h
  | .or a b, env, h => (evT Φ a env h).bind fun k h => if k then .ok true h else evT Φ b env h
  | .val e, env, h => (evE Φ e env h).bind fun x h => lift (truV x h) h
  | .yes, _, h => .ok true h
def evP (Φ : Nat → List W → M W) : Pt → Ev → M (Option Int)
  | .no, _, h => .ok none h
  | .at e, env, h => (evE Φ e env h).bind fun w h => match w with
    | .d (.int i) => .ok (some i) h
    | _ => .stuck
def evEs (Φ : Nat → List W → M W) : Es → Ev → M (List W)
  | .nil, _, h => .ok [] h
  | .cons e es, env, h => (evE Φ e env h).bind fun w h => (evEs Φ es env h).bind fun ws h => .ok (w :: ws) h
def evIt (Φ : Nat → List W → M W) : It → Ev → M Src
  | .over e, env, h => (evE Φ e env h).bind fun w h => lift (srcOf w h) h
  | .rng1 e, env, h => (evE Φ e env h).bind fun w h => match w with
    | .d (.int j) => if rngOk j then .ok (rngFrom 0 j.toNat, none) h else .stuck
    | _ => .stuck
  | .rng2 a b, env, h => (evE Φ a env h).bind fun v h => (evE Φ b env h).bind fun w h => match v, w with
    | .d (.int i), .d (.int j) => if rngOk i && rngOk j then .ok (rngFrom i (j - i).toNat, none) h else .stuck
    | _, _ => .stuck
end
mutual
def evS (Φ : Nat → List W → M W) : S → Ev → MH → RS
  | .ex e, env, h => (evE Φ e env h).toS env fun _ h => .ok (.nx env) h
  | .set i e, env, h => (evE Φ e env h).toS env fun w h => .ok (.nx (env.set i (some w))) h
  | .setT is e, env, h => (evE Φ e env h).toS env fun w h => match setTg is true w env with
    | some env' => .ok (.nx env') h
    | none => .stuck
  | .setL is e, env, h => (evE Φ e env h).toS env fun w h => match setTl is w env with
    | some env' => .ok (.nx env') h
    | none => .stuck
  | .fset c a j e, env, h => (evE Φ e env h).toS env fun w h => (evE Φ a env h).toS env fun x h => match fsetV c j x w h with
    | some h' => .ok (.nx env) h'
    | none => .stuck
  | .faug c a j e, env, h => (evE Φ a env h).toS env fun x h => match fldV c j x h with
    | some (.d (.int i)) => (evE Φ e env h).toS env fun y h => match y with
      | .d (.int k) => (match fsetV c j x (.d (.int (i + k))) h with
        | some h' => .ok (.nx env) h'
        | none => .stuck)
      | _ => .stuck
    | _ => .stuck
  | .ret e, env, h => (evE Φ e env h).toS env fun w h => .ok (.ret w) h
  | .ite c a b, env, h => (evT Φ c env h).toS env fun k h => if k then evSs Φ a env h else evSs Φ b env h
  | .for tg tup it b, env, h => (evIt Φ it env h).toS env fun src h => forL src tg tup (fun env h => evSs Φ b env h) src.1 env h
  | .while c b, env, h => whileL (fun env h => evT Φ c env h) (fun env h => evSs Φ b env h) fuel env h
  | .brk, env, h => .ok (.brk env) h
  | .cnt, env, h => .ok (.cnt env) h
  | .pass, env, h => .ok (.nx env) h
  | .raise c none, env, h => .exc ⟨c, none⟩ env h
  | .raise c (some e), env, h => (evE Φ e env h).toS env fun w h => match w with
    | .d x => .exc ⟨c, some x⟩ env h
    | _ => .stuck
  | .try1 b c i hd, env, h => match evSs Φ b env h with
    | .exc e env1 h1 => if e.cls == c || c == 0 then
        (match evSs Φ hd (setEx i e env1) h1 with
          | .ok o h2 => if noExH h2 then (match unsetO i o with
            | some o2 => .ok o2 h2
            | none => .stuck) else .stuck
          | _ => .stuck) else .exc e env1 h1
    | r => r
def evSs (Φ : Nat → List W → M W) : Ss → Ev → MH → RS
  | .nil, env, h => .ok (.nx env) h
  | .cons s ss, env, h => match evS Φ s env h with
    | .ok (.nx env1) h1 => evSs Φ ss env1 h1
    | r => r
end
/-- a def: its parameters' number, its names' number, its body -/
structure FD where
  np : Nat
  ns : Nat
  body : Ss
def runF (Φ : Nat → List W → M W) (fd : FD) (ws : List W) : M W := fun h =>
  if ws.length == fd.np then match evSs Φ fd.body (ws.map some ++ List.replicate (fd.ns - ws.length) none) h with
    | .ok (.ret w) h' => .ok w h'
    | .ok (.nx _) h' => .ok (.d .none) h'
    | .exc e _ h' => .exc e h'
    | _ => .stuck
  else .stuck
def callN (P : List FD) : Nat → Nat → List W → M W
  | 0, _, _, _ => .stuck
  | n + 1, f, ws, h => match P[f]? with
    | some fd => runF (callN P n) fd ws h
    | none => .stuck
end Mi

set_option maxRecDepth 100000
/-! Mi, second part: what ties the small language's state to the abstract heap of HandS. -/
namespace Mi
open PySem PySem.Spec PyProof.Rows L2

/-- what is fixed of the top: where the defs and the own classes stand -/
structure Top where
  K : PySem.W.Frag
  fa : Nat → Addr
  ca : Nat → Addr
  /-- how many own error classes there are -/
  nc : Nat
  /-- the name of an own class's one value -/
  xf : Nat → Str
  /-- how an error that is held looks -/
  xw : Nat → Option PyData → V → Prop
  /-- .. where its dict stands -/
  xa : Addr
  /-- where the classes of instances stand, their fields' names -/
  ia : Nat → Addr
  fl : Nat → List Str

theorem SqT.up {K : PySem.W.Frag} {F F' : Hp} (s : ∀ a o, F a = some o → F' a = some o) {a : Addr} {xs : List V} : SqT K F a xs → SqT K F' a xs
  | .inl (.inl h) => .inl (.inl (s _ _ h))
  | .inl (.inr ⟨o, h⟩) => .inl (.inr ⟨o, s _ _ h⟩)
  | .inr h => .inr h
theorem SqL.up {K : PySem.W.Frag} {F F' : Hp} (s : ∀ a o, F a = some o → F' a = some o) {a : Addr} {xs : List V} : SqL K F a xs → SqL K F' a xs
  | .inl (.inl h) => .inl (.inl (s _ _ h))
  | .inl (.inr ⟨o, h⟩) => .inl (.inr ⟨o, s _ _ h⟩)
  | .inr h => .inr h
mutual
/-- data as it stands in the heap, its lists tracked -/
inductive Dq (K : PySem.W.Frag) (F : Hp) : V → PyData → Prop
  | non : Dq K F .non .none
  | bl (b : Bool) : Dq K F (.bl b) (.bool b)
  | int (i : Int) : Dq K F (.int i) (.int i)
  | str (x : Str) : Dq K F (.str x) (.str x)
  | lst {a : Addr} {xs : List V} {ds : List PyData} : F a = some (.lst xs) → DqAll K F xs ds → Dq K F (.ref a) (.list ds)
  | tup {a : Addr} {xs : List V} {ds : List PyData} : SqT K F a xs → DqAll K F xs ds → Dq K F (.ref a) (.tuple ds)
inductive DqAll (K : PySem.W.Frag) (F : Hp) : List V → List PyData → Prop
  | nil : DqAll K F [] []
  | cons {v : V} {vs : List V} {d : PyData} {ds : List PyData} : Dq K F v d → DqAll K F vs ds → DqAll K F (v :: vs) (d :: ds)
end
mutual
theorem Dq.up {K : PySem.W.Frag} {F F' : Hp} (s : ∀ a o, F a = some o → F' a = some o) : ∀ {v : V} {d : PyData}, Dq K F v d → Dq K F' v d
  | _, _, .non => .non
  | _, _, .bl b => .bl b
  | _, _, .int i => .int i
  | _, _, .str x => .str x
  | _, _, .lst h t => .lst (s _ _ h) (DqAll.up s t)
  | _, _, .tup h t => .tup (SqT.up s h) (DqAll.up s t)
theorem DqAll.up {K : PySem.W.Frag} {F F' : Hp} (s : ∀ a o, F a = some o → F' a = some o) : ∀ {v : List V} {d : List PyData}, DqAll K F v d → DqAll K F' v d
  | _, _, .nil => .nil
  | _, _, .cons h t => .cons (Dq.up s h) (DqAll.up s t)
end
mutual
theorem Dq.dp {K : PySem.W.Frag} {F F' : Hp} (s : ∀ a o, F a = some o → F' a = some o) : ∀ {v : V} {d : PyData}, Dq K F v d → Dp K F' v d
  | _, _, .non => .non
  | _, _, .bl b => .bl b
  | _, _, .int i => .int i
  | _, _, .str x => .str x
  | _, _, .lst h t => .lst (.inl (.inl (s _ _ h))) (DqAll.dp s t)
  | _, _, .tup h t => .tup (SqT.up s h) (DqAll.dp s t)
theorem DqAll.dp {K : PySem.W.Frag} {F F' : Hp} (s : ∀ a o, F a = some o → F' a = some o) : ∀ {v : List V} {d : List PyData}, DqAll K F v d → DpAll K F' v d
  | _, _, .nil => .nil
  | _, _, .cons h t => .cons (Dq.dp s h) (DqAll.dp s t)
end
theorem DqAll.len {K : PySem.W.Frag} {F : Hp} : ∀ {vs : List V} {ds : List PyData}, DqAll K F vs ds → vs.length = ds.length
  | _, _, .nil => rfl
  | _, _, .cons _ t => congrArg (· + 1) (DqAll.len t)
theorem DqAll.app {K : PySem.W.Frag} {F : Hp} : ∀ {vs us : List V} {ds es : List PyData}, DqAll K F vs ds → DqAll K F us es → DqAll K F (vs ++ us) (ds ++ es)
  | _, _, _, _, .nil, q => q
  | _, _, _, _, .cons h t, q => .cons h (DqAll.app t q)
theorem DqAll.take {K : PySem.W.Frag} {F : Hp} : ∀ {vs : List V} {ds : List PyData} (n : Nat), DqAll K F vs ds → DqAll K F (vs.take n) (ds.take n)
  | _, _, 0, _ => .nil
  | _, _, _ + 1, .nil => .nil
  | _, _, n + 1, .cons h t => .cons h (DqAll.take n t)
theorem DqAll.drop {K : PySem.W.Frag} {F : Hp} : ∀ {vs : List V} {ds : List PyData} (n : Nat), DqAll K F vs ds → DqAll K F (vs.drop n) (ds.drop n)
  | _, _, 0, q => q
  | _, _, _ + 1, .nil => .nil
  | _, _, n + 1, .cons _ t => DqAll.drop n t
theorem DqAll.get {K : PySem.W.Frag} {F : Hp} : ∀ {vs : List V} {ds : List PyData} {i : Nat} {d : PyData}, DqAll K F vs ds → ds[i]? = some d → ∃ v, vs[i]? = some v ∧ Dq K F v d
  | _, _, _, _, .nil, e => by simp at e
  | _, _, 0, _, .cons h _, e => by simp at e; subst e; exact ⟨_, rfl, h⟩
  | _, _, i + 1, d, .cons _ t, e => by
    obtain ⟨v, h1, h2⟩ := DqAll.get (i := i) (d := d) t (by simpa using e)
    exact ⟨v, by simpa using h1, h2⟩

variable (T : Top)
/-- the value that a held error has, in its dict -/
def XdR (F : Hp) (c : Nat) : Option PyData → Prop
  | none => True
  | some y => ∃ u, F T.xa = some (.xd [(T.xf c, u)]) ∧ Dq T.K F u y
/-- a small value, as HandS sees it -/
def WR (F : Hp) (m : List Addr) : W → V → Prop
  | .d x, v => Dq T.K F v x
  | .ref i, v => ∃ a, m[i]? = some a ∧ v = .ref a
  | .fn i, v => v = .ref (T.fa i)
  | .ex c x, v => T.xw c x v ∧ XdR T F c x
  | .ro xs, v => ∃ a vs, v = .ref a ∧ SqL T.K F a vs ∧ DqAll T.K F vs xs
def WRs (F : Hp) (m : List Addr) : List W → List V → Prop := Paired (WR T F m)
/-- an instance's fields -/
structure InsR (F : Hp) (m : List Addr) (c : Nat) (fs : List (Option W)) (gs : List (Str × V)) : Prop where
  short : fs.length < 900
  cnt : gs.length = (fs.filter Option.isSome).length
  nm : ∀ (j : Nat) (o : Option W), fs[j]? = some o → ∃ n, (T.fl c)[j]? = some n ∧ match o with
    | some w => ∃ v, gs.lookup n = some v ∧ WR T F m w v
    | none => gs.lookup n = none
  out : ∀ n, n ∉ T.fl c → gs.lookup n = none
def CellR (F : Hp) (m : List Addr) (H : Hp) (a : Addr) : Cell → Prop
  | .lst ws => F a = none ∧ ∃ vs, H a = some (.lst vs) ∧ WRs T F m ws vs
  | .frz x => (∃ o, F a = some o) ∧ Dq T.K F (.ref a) x
  | .ins c fs => F a = none ∧ ∃ dx gs, H a = some (.ins (T.ia c) dx gs) ∧ InsR T F m c fs gs
structure Sim (F : Hp) (m : List Addr) (h : MH) (H : Hp) : Prop where
  sub : ∀ a o, F a = some o → H a = some o
  len : m.length = h.length
  nd : m.Nodup
  cell : ∀ (i : Nat) (c : Cell) (a : Addr), h[i]? = some c → m[i]? = some a → CellR T F m H a c
structure Ext (F : Hp) (m : List Addr) (H : Hp) (F' : Hp) (m' : List Addr) (H' : Hp) : Prop where
  sub : ∀ a o, F a = some o → F' a = some o
  pre : ∃ t, m' = m ++ t ∧ ∀ a ∈ t, H a = none
  keep : ∀ a o, H a = some o → a ∉ m → H' a = some o
  new : ∀ a o, F' a = some o → F a = none → H a = none ∨ a ∈ m
def EnvR (F : Hp) (m : List Addr) (env : Ev) (σ : L2.St) : Prop :=
  env.length = σ.length ∧ ∀ (i : Nat) (w : W), env[i]? = some (some w) → ∃ v, σ[i]? = some (some v) ∧ WR T F m w v
/-- an own error in the air -/
def ExnR (F : Hp) (H : Hp) (e : Exn) (cls : Value) (d : Option Addr) : Prop :=
  cls = .ref (T.ca e.cls) ∧ e.cls < T.nc ∧ match e.arg with
    | none => d = none
    | some x => ∃ dd v, d = some dd ∧ F dd = some (.xd [(T.xf e.cls, v)]) ∧ Dq T.K F v x

variable {T}
variable {F F' F1 F2 : Hp} {m m' m1 m2 : List Addr} {h h' : MH} {H H' H1 H2 : Hp}
theorem Ext.refl : Ext F m H F m H := ⟨fun _ _ e => e, ⟨[], by simp, by simp⟩, fun _ _ e _ => e, fun a o e n => by rw [n] at e; cases e⟩
theorem Ext.trans (x : Ext F m H F1 m1 H1) (y : Ext F1 m1 H1 F2 m2 H2) (nd : m2.Nodup) : Ext F m H F2 m2 H2 := by
  obtain ⟨t1, e1, n1⟩ := x.pre
  obtain ⟨t2, e2, n2⟩ := y.pre
  have live : ∀ a, H1 a = none → H a = none ∨ a ∈ m := fun a n => by
    cases q : H a with
    | none => exact .inl rfl
    | some o =>
      by_cases hm : a ∈ m
      · exact .inr hm
      · rw [x.keep a o q hm] at n; cases n
  refine ⟨fun a o e => y.sub _ _ (x.sub _ _ e), ⟨t1 ++ t2, by rw [e2, e1, List.append_assoc], fun a ha => ?_⟩, fun a o e n => ?_, fun a o e n => ?_⟩
  · rcases List.mem_append.mp ha with ha | ha
    · exact n1 a ha
    · rcases live a (n2 a ha) with z | z
      · exact z
      · rw [e2, e1] at nd
        exact absurd ha ((List.nodup_append.mp nd).2.2 a (List.mem_append_left _ z) a · rfl)
  · refine y.keep a o (x.keep a o e n) fun z => ?_
    rw [e1] at z
    rcases List.mem_append.mp z with z | z
    · exact n z
    · rw [n1 a z] at e; cases e
  · cases q : F1 a with
    | some o1 => exact x.new a o1 q n
    | none =>
      rcases y.new a o e q with z | z
      · exact live a z
      · rw [e1] at z
        rcases List.mem_append.mp z with z | z
        · exact .inr z
        · exact .inl (n1 a z)
theorem WR.up {w : W} {v : V} (s : ∀ a o, F a = some o → F' a = some o) (p : ∃ t, m' = m ++ t) (r : WR T F m w v) : WR T F' m' w v := by
  cases w with
  | d x => exact Dq.up s r
  | ref i =>
    obtain ⟨a, e, z⟩ := r
    obtain ⟨t, rfl⟩ := p
    refine ⟨a, ?_, z⟩
    rw [List.getElem?_append_left (List.getElem?_eq_some_iff.mp e).1]
    exact e
  | fn i => exact r
  | ex c x =>
    refine ⟨r.1, ?_⟩
    cases x with
    | none => exact True.intro
    | some y => obtain ⟨u, h1, h2⟩ := r.2; exact ⟨u, s _ _ h1, Dq.up s h2⟩
  | ro xs =>
    obtain ⟨a, vs, e, q, d⟩ := r
    exact ⟨a, vs, e, SqL.up s q, DqAll.up s d⟩
theorem WRs.up {ws : List W} {vs : List V} (s : ∀ a o, F a = some o → F' a = some o) (p : ∃ t, m' = m ++ t) (r : WRs T F m ws vs) : WRs T F' m' ws vs := Paired.mapP r fun _ _ q => q.up s p
theorem InsR.up {c : Nat} {fs : List (Option W)} {gs : List (Str × V)} (s : ∀ a o, F a = some o → F' a = some o) (p : ∃ t, m' = m ++ t) (r : InsR T F m c fs gs) : InsR T F' m' c fs gs :=
  ⟨r.short, r.cnt, fun j o e => by
    obtain ⟨n, h1, h2⟩ := r.nm j o e
    refine ⟨n, h1, ?_⟩
    cases o with
    | none => exact h2
    | some w => obtain ⟨v, h3, h4⟩ := h2; exact ⟨v, h3, h4.up s p⟩, r.out⟩
theorem Ext.p (x : Ext F m H F' m' H') : ∃ t, m' = m ++ t := let ⟨t, e, _⟩ := x.pre; ⟨t, e⟩
theorem WR.ext {w : W} {v : V} (x : Ext F m H F' m' H') (r : WR T F m w v) : WR T F' m' w v := r.up x.sub x.p
theorem WRs.ext {ws : List W} {vs : List V} (x : Ext F m H F' m' H') (r : WRs T F m ws vs) : WRs T F' m' ws vs := r.up x.sub x.p
theorem EnvR.ext {env : Ev} {σ : L2.St} (x : Ext F m H F' m' H') (r : EnvR T F m env σ) : EnvR T F' m' env σ :=
  ⟨r.1, fun i w e => let ⟨v, h1, h2⟩ := r.2 i w e; ⟨v, h1, h2.ext x⟩⟩
theorem EnvR.set {env : Ev} {σ : L2.St} {w : W} {v : V} (r : EnvR T F m env σ) (i : Nat) (q : WR T F m w v) : EnvR T F m (env.set i (some w)) (σ.set i (some v)) := by
  refine ⟨by rw [List.length_set, List.length_set]; exact r.1, fun j u e => ?_⟩
  by_cases hj : i = j
  · subst hj
    by_cases hl : i < env.length
    · rw [List.getElem?_set_self hl] at e
      cases e
      exact ⟨v, by rw [List.getElem?_set_self (by rw [← r.1]; exact hl)], q⟩
    · rw [List.getElem?_eq_none (by rw [List.length_set]; omega)] at e
      cases e
  · rw [List.getElem?_set_ne hj] at e
    obtain ⟨x, h1, h2⟩ := r.2 j u e
    exact ⟨x, by rw [List.getElem?_set_ne hj]; exact h1, h2⟩
theorem EnvR.setN {env : Ev} {σ : L2.St} (r : EnvR T F m env σ) (i : Nat) (o : Option V) : EnvR T F m (env.set i none) (σ.set i o) := by
  refine ⟨by rw [List.length_set, List.length_set]; exact r.1, fun j u e => ?_⟩
  by_cases hj : i = j
  · subst hj
    by_cases hl : i < env.length
    · rw [List.getElem?_set_self hl] at e; cases e
    · rw [List.getElem?_eq_none (by rw [List.length_set]; omega)] at e
      cases e
  · rw [List.getElem?_set_ne hj] at e
    obtain ⟨x, h1, h2⟩ := r.2 j u e
    exact ⟨x, by rw [List.getElem?_set_ne hj]; exact h1, h2⟩
theorem EnvR.wipe {env : Ev} {σ : L2.St} (r : EnvR T F m env σ) : ∀ vs : List Nat, EnvR T F m (wipeE env vs) (wipe σ vs)
  | [] => r
  | v :: vs => (EnvR.wipe r vs).setN v none
theorem Sim.at {i : Nat} {c : Cell} (S : Sim T F m h H) (e : h[i]? = some c) : ∃ a, m[i]? = some a ∧ CellR T F m H a c := by
  have hi : i < m.length := by rw [S.len]; exact (List.getElem?_eq_some_iff.mp e).1
  exact ⟨m[i], List.getElem?_eq_getElem hi, S.cell i c _ e (List.getElem?_eq_getElem hi)⟩
/-- every cell stands in the heap -/
theorem CellR.there {c : Cell} {a : Addr} (S : Sim T F m h H) (r : CellR T F m H a c) : ∃ o, H a = some o := by
  cases c with
  | lst ws => obtain ⟨_, vs, e, _⟩ := r; exact ⟨_, e⟩
  | frz x => obtain ⟨⟨o, e⟩, _⟩ := r; exact ⟨o, S.sub _ _ e⟩
  | ins c fs => obtain ⟨_, dx, gs, e, _⟩ := r; exact ⟨_, e⟩
theorem Sim.there {a : Addr} (S : Sim T F m h H) (hm : a ∈ m) : ∃ o, H a = some o := by
  obtain ⟨i, hi, e⟩ := List.mem_iff_getElem.mp hm
  have hh : i < h.length := by rw [← S.len]; exact hi
  exact (S.cell i h[i] a (List.getElem?_eq_getElem hh) (by rw [List.getElem?_eq_getElem hi, e])).there S
theorem Sim.notM {a : Addr} (S : Sim T F m h H) (n : H a = none) : a ∉ m := fun z => by
  obtain ⟨o, e⟩ := S.there z
  rw [n] at e; cases e
theorem Sim.notF {a : Addr} (S : Sim T F m h H) (n : H a = none) : F a = none := by
  cases q : F a with
  | none => rfl
  | some o => rw [S.sub _ _ q] at n; cases n
/-- a new object that is data from now on -/
theorem Sim.newF {p : Addr} {o : HO} (S : Sim T F m h H) (n : H p = none) : Sim T (upd F p o) m h (upd H p o) ∧ Ext F m H (upd F p o) m (upd H p o) := by
  have nF := S.notF n
  have nM := S.notM n
  have sF : ∀ a u, F a = some u → upd F p o a = some u := fun a u e => by rw [upd_ne (ne_of_none e nF)]; exact e
  refine ⟨⟨fun a u e => ?_, S.len, S.nd, fun i c a e1 e2 => ?_⟩, ⟨sF, ⟨[], by simp, by simp⟩, fun a u e _ => by rw [upd_ne (ne_of_none e n)]; exact e, fun a u e z => ?_⟩⟩
  · by_cases q : a = p
    · subst q; rw [upd_same] at e ⊢; exact e
    · rw [upd_ne q] at e ⊢; exact S.sub _ _ e
  · have ne : a ≠ p := fun z => nM (z ▸ List.mem_of_getElem? e2)
    have r := S.cell i c a e1 e2
    cases c with
    | lst ws =>
      obtain ⟨z, vs, q, ws'⟩ := r
      exact ⟨by rw [upd_ne ne]; exact z, vs, by rw [upd_ne ne]; exact q, ws'.up sF ⟨[], by simp⟩⟩
    | frz x =>
      obtain ⟨⟨u, q⟩, d⟩ := r
      exact ⟨⟨u, sF _ _ q⟩, Dq.up sF d⟩
    | ins _ _ =>
      obtain ⟨z, dx, gs, q, rs⟩ := r
      exact ⟨by rw [upd_ne ne]; exact z, dx, gs, by rw [upd_ne ne]; exact q, rs.up sF ⟨[], by simp⟩⟩
  · by_cases q : a = p
    · exact .inl (q ▸ n)
    · rw [upd_ne q, z] at e; cases e
/-- a new object that the small program may change -/
theorem Sim.newC {p : Addr} {ws : List W} {vs : List V} (S : Sim T F m h H) (n : H p = none) (r : WRs T F m ws vs) :
    Sim T F (m ++ [p]) (h ++ [.lst ws]) (upd H p (.lst vs)) ∧ Ext F m H F (m ++ [p]) (upd H p (.lst vs)) := by
  have nF := S.notF n
  have nM := S.notM n
  refine ⟨⟨fun a u e => by rw [upd_ne (ne_of_none e nF)]; exact S.sub _ _ e, by simp [S.len], ?_, fun i c a e1 e2 => ?_⟩, ⟨fun _ _ e => e, ⟨[p], rfl, by simpa using n⟩, fun a u e _ => by rw [upd_ne (ne_of_none e n)]; exact e, fun a u e z => by rw [z] at e; cases e⟩⟩
  · rw [List.nodup_append]
    exact ⟨S.nd, by simp, fun a ha b hb => by simp at hb; subst hb; exact fun e => nM (e ▸ ha)⟩
  · by_cases hi : i < h.length
    · rw [List.getElem?_append_left hi] at e1
      rw [List.getElem?_append_left (by rw [S.len]; exact hi)] at e2
      have ne : a ≠ p := fun z => nM (z ▸ List.mem_of_getElem? e2)
      have q := S.cell i c a e1 e2
      cases c with
      | lst us =>
        obtain ⟨z, xs, q, rs⟩ := q
        exact ⟨z, xs, by rw [upd_ne ne]; exact q, rs.up (fun _ _ e => e) ⟨[p], rfl⟩⟩
      | frz x => exact q
      | ins _ _ =>
        obtain ⟨z, dx, gs, q, rs⟩ := q
        exact ⟨z, dx, gs, by rw [upd_ne ne]; exact q, rs.up (fun _ _ e => e) ⟨[p], rfl⟩⟩
    · have hl : i < (h ++ [Cell.lst ws]).length := (List.getElem?_eq_some_iff.mp e1).1
      rw [List.length_append] at hl
      have hi' : i = h.length := by simp at hl; omega
      subst hi'
      rw [List.getElem?_append_right (Nat.le_refl _), Nat.sub_self] at e1
      rw [List.getElem?_append_right (by rw [S.len]; exact Nat.le_refl _), S.len, Nat.sub_self] at e2
      cases e1
      cases e2
      exact ⟨nF, vs, upd_same, r.up (fun _ _ e => e) ⟨[p], rfl⟩⟩
/-- a cell is written -/
theorem Sim.put {i : Nat} {a : Addr} {us ws : List W} {vs : List V} (S : Sim T F m h H) (e : h[i]? = some (.lst us)) (ea : m[i]? = some a) (r : WRs T F m ws vs) :
    Sim T F m (h.set i (.lst ws)) (upd H a (.lst vs)) ∧ Ext F m H F m (upd H a (.lst vs)) := by
  obtain ⟨nF, xs, eH, _⟩ := S.cell i _ a e ea
  have hi : i < h.length := (List.getElem?_eq_some_iff.mp e).1
  refine ⟨⟨fun b u q => by rw [upd_ne (ne_of_none q nF)]; exact S.sub _ _ q, by rw [List.length_set]; exact S.len, S.nd, fun j c b e1 e2 => ?_⟩, ⟨fun _ _ q => q, ⟨[], by simp, by simp⟩, fun b u q n => by rw [upd_ne (fun z : b = a => n (by rw [z]; exact List.mem_of_getElem? ea))]; exact q, fun b u q z => by rw [z] at q; cases q⟩⟩
  by_cases hj : i = j
  · subst hj
    rw [List.getElem?_set_self hi] at e1
    rw [ea] at e2
    cases e1
    cases e2
    exact ⟨nF, vs, upd_same, r⟩
  · rw [List.getElem?_set_ne hj] at e1
    have ne : b ≠ a := fun z => by
      subst z
      obtain ⟨h1, q1⟩ := List.getElem?_eq_some_iff.mp ea
      obtain ⟨h2, q2⟩ := List.getElem?_eq_some_iff.mp e2
      exact hj ((List.getElem_inj S.nd).mp (q1.trans q2.symm))
    have q := S.cell j c b e1 e2
    cases c with
    | lst _ =>
      obtain ⟨z, xs, q, rs⟩ := q
      exact ⟨z, xs, by rw [upd_ne ne]; exact q, rs⟩
    | frz x => exact q
    | ins _ _ =>
      obtain ⟨z, dx, gs, q, rs⟩ := q
      exact ⟨z, dx, gs, by rw [upd_ne ne]; exact q, rs⟩

/-! ### runs -/
section
variable (T)
def Run {α : Type} (Wx : WX) (σ : L2.St) (F : Hp) (m : List Addr) (H : Hp) (r : R α) (k : α → Hp → List Addr → MH → Hp → Prop) : Prop := match r with
  | .ok a h' => ∀ F' m' H', Sim T F' m' h' H' → Ext F m H F' m' H' → k a F' m' h' H'
  | .exc e h' => ∀ F' m' H' cls d, Sim T F' m' h' H' → Ext F m H F' m' H' → ExnR T F' H' e cls d → Wx cls d σ H'
  | .stuck => False
end
variable {α β : Type} {Wx : WX} {σ : L2.St}
theorem Run.bind {r : R α} {f : α → M β} {k : β → Hp → List Addr → MH → Hp → Prop} (x : Run T Wx σ F m H (r.bind f) k) :
    Run T Wx σ F m H r (fun a F1 m1 h1 H1 => Run T Wx σ F1 m1 H1 (f a h1) k) := by
  cases r with
  | ok a h1 =>
    intro F1 m1 H1 S1 X1
    have x' : Run T Wx σ F m H (f a h1) k := x
    revert x'
    cases f a h1 with
    | ok b h2 => exact fun x' F2 m2 H2 S2 X2 => x' F2 m2 H2 S2 (X1.trans X2 S2.nd)
    | exc e h2 => exact fun x' F2 m2 H2 cls d S2 X2 ex => x' F2 m2 H2 cls d S2 (X1.trans X2 S2.nd) ex
    | stuck => exact fun x' => x'
  | exc e h1 => exact x
  | stuck => exact x
theorem Run.imp {r : R α} {k k' : α → Hp → List Addr → MH → Hp → Prop} (x : Run T Wx σ F m H r k) (f : ∀ a F' m' h' H', Sim T F' m' h' H' → Ext F m H F' m' H' → k a F' m' h' H' → k' a F' m' h' H') : Run T Wx σ F m H r k' := by
  cases r with
  | ok a h1 => exact fun F1 m1 H1 S1 X1 => f _ _ _ _ _ S1 X1 (x F1 m1 H1 S1 X1)
  | exc e h1 => exact x
  | stuck => exact x
theorem Run.here {a : α} {k : α → Hp → List Addr → MH → Hp → Prop} (S : Sim T F m h H) (x : Run T Wx σ F m H (.ok a h) k) : k a F m h H := x F m H S Ext.refl
theorem Run.lift {o : Option α} {k : α → Hp → List Addr → MH → Hp → Prop} (S : Sim T F m h H) (x : Run T Wx σ F m H (lift o h) k) : ∃ a, o = some a ∧ k a F m h H := by
  cases o with
  | none => exact x.elim
  | some a => exact ⟨a, rfl, Run.here S x⟩
end Mi

set_option maxRecDepth 100000
set_option maxHeartbeats 1000000
/-! Mi, third part: operations on values. -/
namespace Mi
open PySem PySem.Spec PyProof.Rows L2
variable {T : Top} {F F' : Hp} {m m' : List Addr} {h h' : MH} {H H' : Hp} {Wx : WX} {σ0 : L2.St}

theorem toDs_eq : ∀ {ws : List W} {xs : List PyData}, toDs ws = some xs → ws = xs.map .d
  | [], xs, e => by cases e; rfl
  | .d x :: r, xs, e => by
    unfold toDs at e
    cases q : toDs r with
    | none => rw [q] at e; cases e
    | some ys =>
      rw [q] at e
      cases e
      rw [toDs_eq q]
      rfl
  | .ref _ :: _, _, e => by cases e
  | .fn _ :: _, _, e => by cases e
  | .ex _ _ :: _, _, e => by cases e
  | .ro _ :: _, _, e => by cases e
theorem wrs_d : ∀ {xs : List PyData} {vs : List V}, WRs T F m (xs.map .d) vs → DqAll T.K F vs xs
  | [], _, .nil => .nil
  | _ :: _, _, .cons h t => .cons h (wrs_d t)
theorem d_wrs : ∀ {xs : List PyData} {vs : List V}, DqAll T.K F vs xs → WRs T F m (xs.map .d) vs
  | [], _, .nil => .nil
  | _ :: _, _, .cons h t => .cons h (d_wrs t)
theorem wrs_toDs {ws : List W} {xs : List PyData} {vs : List V} (e : toDs ws = some xs) (r : WRs T F m ws vs) : DqAll T.K F vs xs := by
  rw [toDs_eq e] at r
  exact wrs_d r
theorem WRs.len {ws : List W} {vs : List V} (r : WRs T F m ws vs) : ws.length = vs.length := Paired.length r
theorem WRs.app : ∀ {ws us : List W} {vs xs : List V}, WRs T F m ws vs → WRs T F m us xs → WRs T F m (ws ++ us) (vs ++ xs)
  | _, _, _, _, .nil, q => q
  | _, _, _, _, .cons h t, q => .cons h (WRs.app t q)
theorem WRs.get : ∀ {ws : List W} {vs : List V} {i : Nat} {w : W}, WRs T F m ws vs → ws[i]? = some w → ∃ v, vs[i]? = some v ∧ WR T F m w v
  | _, _, _, _, .nil, e => by simp at e
  | _, _, 0, _, .cons h _, e => by simp at e; subst e; exact ⟨_, rfl, h⟩
  | _, _, i + 1, w, .cons _ t, e => by
    obtain ⟨v, h1, h2⟩ := WRs.get (i := i) (w := w) t (by simpa using e)
    exact ⟨v, by simpa using h1, h2⟩
theorem WRs.rev {ws : List W} {vs : List V} (r : WRs T F m ws vs) : WRs T F m ws.reverse vs.reverse := by
  induction r with
  | nil => exact .nil
  | cons h _ ih =>
    rw [List.reverse_cons, List.reverse_cons]
    exact WRs.app ih (.cons h .nil)
theorem WRs.dropLast : ∀ {ws : List W} {vs : List V}, WRs T F m ws vs → WRs T F m ws.dropLast vs.dropLast
  | _, _, .nil => .nil
  | _, _, .cons _ .nil => .nil
  | _, _, .cons h (.cons h2 t) => .cons h (WRs.dropLast (.cons h2 t))
theorem WRs.take : ∀ {ws : List W} {vs : List V} (n : Nat), WRs T F m ws vs → WRs T F m (ws.take n) (vs.take n)
  | _, _, 0, _ => .nil
  | _, _, _ + 1, .nil => .nil
  | _, _, n + 1, .cons h t => .cons h (WRs.take n t)
theorem cell_lst {i : Nat} {ws : List W} {v : V} (S : Sim T F m h H) (e : (match h[i]? with
    | some (.lst ws) => some ws
    | some (.frz (.list xs)) => some (xs.map .d)
    | _ => none) = some ws) (r : WR T F m (.ref i) v) : ∃ a vs, v = .ref a ∧ H a = some (.lst vs) ∧ WRs T F m ws vs := by
  obtain ⟨a, ea, rfl⟩ := r
  split at e
  · rename_i ws' e1
    cases e
    obtain ⟨_, vs, e2, rs⟩ := S.cell i _ a e1 ea
    exact ⟨a, vs, rfl, e2, rs⟩
  · rename_i xs e1
    cases e
    obtain ⟨_, d⟩ := S.cell i _ a e1 ea
    cases d with
    | lst q d => exact ⟨_, _, rfl, S.sub _ _ q, d_wrs d⟩
  · cases e
theorem listOf_ok {w : W} {ws : List W} {v : V} (S : Sim T F m h H) (e : listOf w h = some ws) (r : WR T F m w v) : ∃ a vs, v = .ref a ∧ H a = some (.lst vs) ∧ WRs T F m ws vs := by
  cases w with
  | d x =>
    cases x with
    | list xs =>
      cases e
      cases r with
      | lst q d => exact ⟨_, _, rfl, S.sub _ _ q, d_wrs d⟩
    | _ => cases e
  | ref i => exact cell_lst S e r
  | _ => cases e
theorem seqOf_ok {w : W} {ws : List W} {v : V} (S : Sim T F m h H) (e : seqOf w h = some ws) (r : WR T F m w v) : ∃ a vs, v = .ref a ∧ (SqL T.K H a vs ∨ SqT T.K H a vs) ∧ WRs T F m ws vs := by
  have lo : listOf w h = some ws → ∃ a vs, v = .ref a ∧ (SqL T.K H a vs ∨ SqT T.K H a vs) ∧ WRs T F m ws vs := fun e => by
    obtain ⟨a, vs, e1, e2, rs⟩ := listOf_ok S e r
    exact ⟨a, vs, e1, .inl (.inl (.inl e2)), rs⟩
  cases w with
  | d x =>
    cases x with
    | list xs => exact lo e
    | tuple xs =>
      cases e
      cases r with
      | tup q d => exact ⟨_, _, rfl, .inr (SqT.up S.sub q), d_wrs d⟩
    | _ => cases e
  | ref i => exact lo e
  | _ => cases e
theorem dOf_ok {w : W} {x : PyData} {v : V} (S : Sim T F m h H) (e : dOf w h = some x) (r : WR T F m w v) : Dp T.K H v x := by
  cases w with
  | d y =>
    cases e
    exact Dq.dp S.sub r
  | ref i =>
    obtain ⟨a, ea, rfl⟩ := r
    simp only [dOf] at e
    split at e
    · rename_i ws' e1
      obtain ⟨_, vs, e2, rs⟩ := S.cell i _ a e1 ea
      cases q : toDs ws' with
      | none => rw [q] at e; cases e
      | some ds =>
        rw [q] at e
        cases e
        exact .lst (.inl (.inl e2)) (DqAll.dp S.sub (wrs_toDs q rs))
    · rename_i xs e1
      cases e
      obtain ⟨_, d⟩ := S.cell i _ a e1 ea
      exact Dq.dp S.sub d
    · cases e
  | _ => cases e

/-! ### readings by the small evaluator -/
variable (T)
/-- what is wanted of a value, by what the evaluator gives -/
def rW1 (o : W → M W) : V → Hp → VK → Prop := fun x H Q => ∃ Wx σ F m h w, Sim T F m h H ∧ WR T F m w x ∧ Run T Wx σ F m H (o w h) fun r F' m' _ H' => ∀ v, WR T F' m' r v → Q v H'
def rW2 (o : W → W → M W) : R2 := fun x y H Q => ∃ Wx σ F m h w1 w2, Sim T F m h H ∧ WR T F m w1 x ∧ WR T F m w2 y ∧ Run T Wx σ F m H (o w1 w2 h) fun r F' m' _ H' => ∀ v, WR T F' m' r v → Q v H'
def rWs (o : List W → M W) : List V → Hp → VK → Prop := fun xs H Q => ∃ Wx σ F m h ws, Sim T F m h H ∧ WRs T F m ws xs ∧ Run T Wx σ F m H (o ws h) fun r F' m' _ H' => ∀ v, WR T F' m' r v → Q v H'
variable {T}
theorem mkL_ok {nw : Bool} {ws : List W} {vs : List V} {Q : VK} (S : Sim T F m h H) (r : WRs T F m ws vs) (x : Run T Wx σ0 F m H (mkL nw ws h) fun w F' m' _ H' => ∀ v, WR T F' m' w v → Q v H') :
    ∀ p, H p = none → Q (.ref p) (upd H p (.lst vs)) := fun p n => by
  unfold mkL at x
  split at x
  · obtain ⟨S1, X1⟩ := S.newC n r
    refine x _ _ _ S1 X1 (.ref p) ⟨p, ?_, rfl⟩
    rw [← S.len, List.getElem?_append_right (Nat.le_refl _), Nat.sub_self]
    rfl
  · split at x
    · rename_i ds e
      obtain ⟨S1, X1⟩ := S.newF (o := .lst vs) n
      exact x _ _ _ S1 X1 (.ref p) (.lst upd_same (DqAll.up X1.sub (wrs_toDs e r)))
    · exact x.elim
theorem tup_ok {xs : List PyData} {vs : List V} {Q : VK} (S : Sim T F m h H) (r : DqAll T.K F vs xs) (x : Run T Wx σ0 F m H (.ok (.d (.tuple xs)) h) fun w F' m' _ H' => ∀ v, WR T F' m' w v → Q v H') :
    ∀ p, H p = none → Q (.ref p) (upd H p (.tup vs)) := fun p n => by
  obtain ⟨S1, X1⟩ := S.newF (o := .tup vs) n
  exact x _ _ _ S1 X1 (.ref p) (.tup (.inl (.inl upd_same)) (DqAll.up X1.sub r))
theorem lst_ok {xs : List PyData} {vs : List V} {Q : VK} (S : Sim T F m h H) (r : DqAll T.K F vs xs) (x : Run T Wx σ0 F m H (.ok (.d (.list xs)) h) fun w F' m' _ H' => ∀ v, WR T F' m' w v → Q v H') :
    ∀ p, H p = none → Q (.ref p) (upd H p (.lst vs)) := fun p n => by
  obtain ⟨S1, X1⟩ := S.newF (o := .lst vs) n
  exact x _ _ _ S1 X1 (.ref p) (.lst upd_same (DqAll.up X1.sub r))
theorem lineOk_le {n : Nat} (e : lineOk n = true) : n ≤ sizeLine := by
  rw [sizeLine_eq]
  exact Nat.le_of_ble_eq_true e
theorem int_inv {K : PySem.W.Frag} {v : V} {i : Int} (r : Dq K F v (.int i)) : v = .int i := by cases r; rfl
theorem str_inv {K : PySem.W.Frag} {v : V} {i : Str} (r : Dq K F v (.str i)) : v = .str i := by cases r; rfl
theorem bool_inv {K : PySem.W.Frag} {v : V} {i : Bool} (r : Dq K F v (.bool i)) : v = .bl i := by cases r; rfl

section
variable {X : Cx}
theorem mulOk_iff {i j : Int} (e : mulOk i j = true) : CMul i j := by
  unfold mulOk at e
  rw [Bool.or_eq_true] at e
  unfold CMul
  rcases e with e | e
  · have := Nat.le_of_ble_eq_true e
    exact .inl ⟨by omega, by omega⟩
  · have := Nat.le_of_ble_eq_true e
    exact .inr ⟨by omega, by omega⟩
theorem powOk_iff {i j : Int} (e : powOk i j = true) : CPow i j := by
  unfold powOk at e
  rw [Bool.and_eq_true] at e
  have h2 := Nat.le_of_ble_eq_true e.2
  unfold CPow
  cases j with
  | ofNat n =>
    have h1 := Nat.le_of_ble_eq_true e.1
    exact ⟨Int.natCast_nonneg n, by show (n : Int) ≤ 1000000; omega, by omega⟩
  | negSucc n => exact absurd e.1 Bool.false_ne_true
theorem or_int {op : Operator} {i j k : Int} (e : intOp op i j = some k) : ∀ (pins : List (Addr × Obj)) (s : Shared) (σ : L2.St) (H : Hp) (v u : Value) (Q : VK), Inv X pins σ H s → RelV (.int i) v → RelV (.int j) u → Q (.int k) H →
    wpAny (model X.prog X.w) X.A (binaryOp op v u) (EP X pins σ Q) X.xe s := fun pins s σ H v u Q I rx ry q => by
  cases op with
  | Add => cases e; exact op_add pins s σ H _ _ v u Q I rx ry ⟨i, j, rfl, rfl, q⟩
  | Sub => cases e; exact op_sub pins s σ H _ _ v u Q I rx ry ⟨i, j, rfl, rfl, q⟩
  | Mult =>
    simp only [intOp] at e
    split at e
    · rename_i c; cases e; exact op_mul pins s σ H _ _ v u Q I rx ry ⟨i, j, rfl, rfl, mulOk_iff c, q⟩
    · cases e
  | FloorDiv =>
    simp only [intOp] at e
    split at e
    · rename_i c
      simp only [Bool.and_eq_true, decide_eq_true_eq] at c
      cases e; exact op_fdivN pins s σ H _ _ v u Q I rx ry ⟨i, j, rfl, rfl, ⟨c.1, by have := Nat.le_of_ble_eq_true c.2; omega⟩, q⟩
    · cases e
  | Mod =>
    simp only [intOp] at e
    split at e
    · rename_i c
      simp only [decide_eq_true_eq] at c
      cases e; exact op_modN pins s σ H _ _ v u Q I rx ry ⟨i, j, rfl, rfl, c, q⟩
    · cases e
  | Pow =>
    simp only [intOp] at e
    split at e
    · rename_i c; cases e; exact op_pow pins s σ H _ _ v u Q I rx ry ⟨i, j, rfl, rfl, powOk_iff c, q⟩
    · cases e
  | LShift =>
    simp only [intOp] at e
    split at e
    · rename_i c; cases e; exact op_shl pins s σ H _ _ v u Q I rx ry ⟨i, j, rfl, rfl, powOk_iff c, q⟩
    · cases e
  | RShift =>
    simp only [intOp] at e
    split at e
    · rename_i c
      simp only [decide_eq_true_eq] at c
      cases e; exact op_shr pins s σ H _ _ v u Q I rx ry ⟨i, j, rfl, rfl, c, q⟩
    · cases e
  | BitAnd => cases e; exact op_and pins s σ H _ _ v u Q I rx ry ⟨i, j, rfl, rfl, q⟩
  | BitOr => cases e; exact op_or pins s σ H _ _ v u Q I rx ry ⟨i, j, rfl, rfl, q⟩
  | BitXor => cases e; exact op_xor pins s σ H _ _ v u Q I rx ry ⟨i, j, rfl, rfl, q⟩
  | _ => cases e
theorem mulOk_of {z : Str} {n : Int} (h : repOk z.length n = true) : MulOk z n := by
  unfold repOk at h
  simp only [Bool.and_eq_true, decide_eq_true_eq, Nat.ble_eq] at h
  obtain ⟨⟨h1, h2⟩, h3⟩ := h
  have hn : n ≤ 1000 := by omega
  have hm : z.length * n.toNat ≤ 1000 * 1000 := Nat.mul_le_mul h3 h2
  refine ⟨?_, fun a b => ?_, fun a b => ?_⟩
  · have e1 : decide (n < -(2 ^ 63 : Int)) = false := decide_eq_false (by omega)
    have e2 : decide (n ≥ 2 ^ 63) = false := decide_eq_false (by omega)
    rw [e1, e2]; rfl
  · have h5 : (9223372036854775 : Int) ≤ (2 ^ 63 - 1) / n := (Int.le_ediv_iff_mul_le (by omega)).mpr (by omega)
    omega
  · unfold Builtin.Str.tooLong
    have := sizeLine_eq
    exact decide_eq_false (by omega)
theorem op_mulS : OpR X (binaryOp .Mult) fun x y H Q => ∃ (z : Str) (n : Int), x = .str z ∧ y = .int n ∧ MulOk z n ∧ Q (.str (Txt.mul z n)) H := by
  rintro pins s σ H x y v u Q I rx ry ⟨z, n, rfl, rfl, ok, q⟩
  obtain ⟨t, rfl⟩ := rx
  obtain ⟨t', rfl⟩ := ry
  exact PySem.SB.mul ok fun t' k => ⟨.str _, H, I.tok _, ⟨_, rfl⟩, q⟩
theorem rep_rel {R : W → V → Prop} {xs : List PyData} {vs : List V} (d : DqAll T.K F vs xs) : ∀ k : Nat, DqAll T.K F (List.replicate k vs).flatten (List.replicate k xs).flatten
  | 0 => .nil
  | k + 1 => by
    rw [List.replicate_succ, List.replicate_succ, List.flatten_cons, List.flatten_cons]
    exact d.app (rep_rel (R := R) d k)
theorem or_bin {nw : Bool} {op : Operator} (hK : X.K = T.K) : OpR X (binaryOp op) (rW2 T (binV nw op)) := by
  rintro pins s σ H x y v u Q I rx ry ⟨Wx, σ0, F, m, h, w1, w2, S, r1, r2, R⟩
  unfold binV at R
  split at R
  · rename_i i j
    cases int_inv r1
    cases int_inv r2
    split at R
    · rename_i k e
      exact or_int e pins s σ H v u Q I rx ry (Run.here S R (.int k) (.int k))
    · exact R.elim
  · rename_i a k
    cases str_inv r1
    cases int_inv r2
    split at R
    · split at R
      · rename_i c
        exact op_mulS pins s σ H _ _ v u Q I rx ry ⟨a, k, rfl, rfl, mulOk_of c, Run.here S R (.str _) (.str _)⟩
      · exact R.elim
    · exact R.elim
  · rename_i a k
    cases int_inv r2
    cases r1 with
    | @lst p1 vs _ q1 d1 =>
      split at R
      · split at R
        · rename_i c
          have l1 := d1.len
          unfold repOk at c
          simp only [Bool.and_eq_true, decide_eq_true_eq, Nat.ble_eq] at c
          obtain ⟨⟨h1, h2⟩, h3⟩ := c
          have hm : vs.length * k.toNat ≤ 1000 * 1000 := Nat.mul_le_mul (by omega) h2
          exact op_rep pins s σ H _ _ v u Q I rx ry ⟨p1, k, vs, rfl, rfl, S.sub _ _ q1, by omega, by omega, by rw [sizeLine_eq]; omega, mkL_ok S (d_wrs (rep_rel (R := fun _ _ => True) d1 k.toNat)) R⟩
        · exact R.elim
      · exact R.elim
  · rename_i a b
    cases str_inv r1
    cases str_inv r2
    split at R
    · split at R
      · rename_i c
        exact op_add_str pins s σ H _ _ v u Q I rx ry ⟨a, b, rfl, rfl, lineOk_le c, Run.here S R (.str _) (.str _)⟩
      · exact R.elim
    · exact R.elim
  · rename_i a b
    cases r1 with
    | tup q1 d1 =>
      cases r2 with
      | tup q2 d2 =>
        split at R
        · split at R
          · rename_i c
            have l1 := d1.len
            have l2 := d2.len
            have z := lineOk_le c
            have one : ∀ {v}, Dq T.K F v (.tuple (a ++ b)) → Q v H := fun d => Run.here S R _ d
            exact op_catA pins s σ H _ _ v u Q I rx ry ⟨_, _, _, _, rfl, rfl, by rw [hK]; exact SqT.up S.sub q1, by rw [hK]; exact SqT.up S.sub q2, by omega,
              fun e => one (by subst e; cases d1; exact .tup q2 d2), fun _ e => one (by subst e; cases d2; rw [List.append_nil]; exact .tup q1 d1), fun _ _ => tup_ok S (d1.app d2) R⟩
          · exact R.elim
        · exact R.elim
  · split at R
    · rename_i a b e1 e2
      split at R
      · rename_i c
        obtain ⟨p1, v1, rfl, g1, t1⟩ := listOf_ok S e1 r1
        obtain ⟨p2, v2, rfl, g2, t2⟩ := listOf_ok S e2 r2
        have l1 := t1.len
        have l2 := t2.len
        have z := lineOk_le c
        exact op_cat pins s σ H _ _ v u Q I rx ry ⟨p1, p2, v1, v2, rfl, rfl, g1, g2, by omega, mkL_ok S (t1.app t2) R⟩
      · exact R.elim
    · exact R.elim
end
end Mi

set_option maxRecDepth 100000
set_option maxHeartbeats 1000000
/-! Mi, fourth part: comparisons, truth, places, built-ins, methods. -/
namespace Mi
open PySem PySem.Spec PyProof.Rows L2
variable {T : Top} {F F' : Hp} {m m' : List Addr} {h h' : MH} {H H' : Hp} {Wx : WX} {σ0 : L2.St}
mutual
theorem Dp.plain {K : PySem.W.Frag} {H : Hp} : ∀ {v : V} {d : PyData}, Dp K H v d → d.plain = true
  | _, _, .non => rfl
  | _, _, .bl _ => rfl
  | _, _, .int _ => rfl
  | _, _, .str _ => rfl
  | _, _, .lst _ t => by simp only [PyData.plain]; exact DpAll.plain t
  | _, _, .tup _ t => by simp only [PyData.plain]; exact DpAll.plain t
theorem DpAll.plain {K : PySem.W.Frag} {H : Hp} : ∀ {v : List V} {d : List PyData}, DpAll K H v d → PyData.plainAll d = true
  | _, _, .nil => rfl
  | _, _, .cons h t => by simp only [PyData.plainAll, Dp.plain h, DpAll.plain t, Bool.and_self]
end
mutual
theorem noDict_plain : ∀ d : PyData, d.plain = true → d.hasDict = false
  | .none, _ => by simp only [PyData.hasDict]
  | .bool _, _ => by simp only [PyData.hasDict]
  | .int _, _ => by simp only [PyData.hasDict]
  | .str _, _ => by simp only [PyData.hasDict]
  | .list xs, h => by simp only [PyData.hasDict]; exact noDict_plains xs (by simpa [PyData.plain] using h)
  | .tuple xs, h => by simp only [PyData.hasDict]; exact noDict_plains xs (by simpa [PyData.plain] using h)
  | .dict _, h => by simp [PyData.plain] at h
theorem noDict_plains : ∀ d : List PyData, PyData.plainAll d = true → PyData.hasDictAll d = false
  | [], _ => by simp only [PyData.hasDictAll]
  | x :: xs, h => by
    simp only [PyData.plainAll, Bool.and_eq_true] at h
    simp only [PyData.hasDictAll, noDict_plain x h.1, noDict_plains xs h.2, Bool.or_self]
end
theorem depOk_le {d : PyData} (e : depOk d = true) : d.depth ≤ 100 := Nat.le_of_ble_eq_true e
section
variable {X : Cx}
def rDq (K : PySem.W.Frag) (neg : Bool) : R2 := fun x y H Q => ∃ d e b, Dp K H x d ∧ Dp K H y e ∧ eqD d e = some b ∧ Q (.bl (if neg then !b else b)) H
theorem eqD_iff {d e : PyData} {b : Bool} (h : eqD d e = some b) : b = PyData.eqv d e ∧ min d.depth e.depth ≤ 100 := by
  unfold eqD at h
  split at h
  · rename_i c
    cases h
    refine ⟨rfl, ?_⟩
    rcases Bool.or_eq_true_iff.mp c with c | c
    · have := depOk_le c; omega
    · have := depOk_le c; omega
  · cases h
theorem or_eq (hu : X.A.units + 150 < cLine) : OpR X (compareOp .Eq) (rDq X.K false) := by
  rintro pins s σ H x y v u Q I rx ry ⟨d, e, b, hd, he, hb, q⟩
  obtain ⟨as, r1⟩ := Dp.reads I d x v hd rx
  obtain ⟨bs, r2⟩ := Dp.reads I e y u he ry
  obtain ⟨rfl, hz⟩ := eqD_iff hb
  exact SeqAt.eq_plain r1 r2 (Dp.plain hd) (Dp.plain he) (by omega) ⟨.bl _, H, I, rfl, q⟩
theorem or_ne (hu : X.A.units + 150 < cLine) : OpR X (compareOp .NotEq) (rDq X.K true) := by
  rintro pins s σ H x y v u Q I rx ry ⟨d, e, b, hd, he, hb, q⟩
  obtain ⟨as, r1⟩ := Dp.reads I d x v hd rx
  obtain ⟨bs, r2⟩ := Dp.reads I e y u he ry
  obtain ⟨rfl, hz⟩ := eqD_iff hb
  exact SeqAt.ne_plain r1 r2 (Dp.plain hd) (Dp.plain he) (by omega) ⟨.bl _, H, I, rfl, q⟩
/-- x in a list, a tuple of data -/
def SqD (K : PySem.W.Frag) (H : Hp) (y : V) (ds : List PyData) : Prop := Dp K H y (.list ds) ∨ Dp K H y (.tuple ds)
def rIq (K : PySem.W.Frag) (neg : Bool) : R2 := fun x y H Q => ∃ d ds b, Dp K H x d ∧ SqD K H y ds ∧ inD d ds = some b ∧ Q (.bl (if neg then !b else b)) H
theorem inD_iff {d : PyData} {ds : List PyData} {b : Bool} (h : inD d ds = some b) : b = (ds.any fun z => PyData.eqv z d) ∧ d.depth ≤ 100 := by
  unfold inD at h
  split at h
  · rename_i c
    cases h
    exact ⟨rfl, depOk_le c⟩
  · cases h
theorem or_in (hu : X.A.units + 150 < cLine) : OpR X (compareOp .In) (rIq X.K false) := by
  rintro pins s σ H x y v u Q I rx ry ⟨d, ds, b, hd, he, hb, q⟩
  obtain ⟨as, r1⟩ := Dp.reads I d x v hd rx
  obtain ⟨rfl, hz⟩ := inD_iff hb
  rcases he with he | he
  · obtain ⟨bs, r2⟩ := Dp.reads I _ y u he ry
    have pl : PyData.plainAll ds = true := by have := Dp.plain he; simpa [PyData.plain] using this
    exact SeqAt.in_list_data r2 r1 pl (Dp.plain hd) (by omega) ⟨.bl _, H, I, rfl, q⟩
  · obtain ⟨bs, r2⟩ := Dp.reads I _ y u he ry
    have pl : PyData.plainAll ds = true := by have := Dp.plain he; simpa [PyData.plain] using this
    exact SeqAt.in_tuple_data r2 r1 pl (Dp.plain hd) (by omega) ⟨.bl _, H, I, rfl, q⟩
theorem or_notin (hu : X.A.units + 150 < cLine) : OpR X (compareOp .NotIn) (rIq X.K true) := by
  rintro pins s σ H x y v u Q I rx ry ⟨d, ds, b, hd, he, hb, q⟩
  obtain ⟨as, r1⟩ := Dp.reads I d x v hd rx
  obtain ⟨rfl, hz⟩ := inD_iff hb
  rcases he with he | he
  · obtain ⟨bs, r2⟩ := Dp.reads I _ y u he ry
    have pl : PyData.plainAll ds = true := by have := Dp.plain he; simpa [PyData.plain] using this
    exact SeqAt.notIn_list_data r2 r1 pl (Dp.plain hd) (by omega) ⟨.bl _, H, I, rfl, q⟩
  · obtain ⟨bs, r2⟩ := Dp.reads I _ y u he ry
    have pl : PyData.plainAll ds = true := by have := Dp.plain he; simpa [PyData.plain] using this
    exact SeqAt.notIn_tuple_data r2 r1 pl (Dp.plain hd) (by omega) ⟨.bl _, H, I, rfl, q⟩
theorem strIn_found {x z : Str} : strIn x z = !(Builtin.Str.occurrences z x 0 z.length 1).isEmpty := by
  unfold strIn
  split
  · rename_i c e
    have hx : x = ⟨#[c]⟩ := by
      obtain ⟨cp⟩ := x
      have : cp = #[c] := by
        apply Array.ext'
        simpa using e
      rw [this]
    rw [hx]
    exact (PySem.StrLaws.found_one z c).symm
  · rfl
theorem seq_data {w : W} {ws : List W} {ds : List PyData} {v : V} (S : Sim T F m h H) (e : seqOf w h = some ws) (e2 : toDs ws = some ds) (r : WR T F m w v) : SqD T.K H v ds := by
  obtain ⟨a, vs, rfl, q, rs⟩ := seqOf_ok S e r
  have d := DqAll.dp S.sub (wrs_toDs e2 rs)
  rcases q with q | q
  · exact .inl (.lst q d)
  · exact .inr (.tup q d)
def rCmp (T : Top) (op : CmpOp) : R2 := fun x y H Q => ∃ F m h w1 w2 b, Sim T F m h H ∧ WR T F m w1 x ∧ WR T F m w2 y ∧ cmpV op w1 w2 h = some b ∧ Q (.bl b) H
theorem inV_ok {op : CmpOp} {neg : Bool} {x y : V} {w1 w2 : W} {b : Bool} {Q : VK} (hK : X.K = T.K) (S : Sim T F m h H) (r1 : WR T F m w1 x) (r2 : WR T F m w2 y) (e : inV w1 w2 h = some b) (q : Q (.bl (if neg then !b else b)) H) :
    (∃ i j, x = .str i ∧ y = .str j ∧ Q (.bl (if neg then !(!(Builtin.Str.occurrences j i 0 j.length 1).isEmpty) else !(Builtin.Str.occurrences j i 0 j.length 1).isEmpty)) H) ∨ rIq X.K neg x y H Q := by
  unfold inV at e
  split at e
  · rename_i a z
    cases e
    cases str_inv r1
    cases str_inv r2
    refine .inl ⟨a, z, rfl, rfl, ?_⟩
    rw [← strIn_found]
    exact q
  · split at e
    · rename_i d ws e1 e2
      cases e3 : toDs ws with
      | none => rw [e3] at e; cases e
      | some ds =>
        rw [e3] at e
        exact .inr ⟨d, ds, b, by rw [hK]; exact dOf_ok S e1 r1, by rw [hK]; exact seq_data S e2 e3 r2, e, q⟩
    · cases e
theorem or_cmp {op : CmpOp} (hK : X.K = T.K) (hu : X.A.units + 150 < cLine) : OpR X (compareOp op) (rCmp T op) := by
  rintro pins s σ H x y v u Q I rx ry ⟨F, m, h, w1, w2, b, S, r1, r2, e, q⟩
  cases op with
  | Eq =>
    simp only [cmpV] at e
    cases e1 : dOf w1 h with
    | none => rw [e1] at e; cases e
    | some d1 =>
      cases e2 : dOf w2 h with
      | none => rw [e1, e2] at e; cases e
      | some d2 =>
        rw [e1, e2] at e
        exact or_eq hu pins s σ H x y v u Q I rx ry ⟨d1, d2, b, by rw [hK]; exact dOf_ok S e1 r1, by rw [hK]; exact dOf_ok S e2 r2, e, q⟩
  | NotEq =>
    simp only [cmpV] at e
    cases e1 : dOf w1 h with
    | none => rw [e1] at e; cases e
    | some d1 =>
      cases e2 : dOf w2 h with
      | none => rw [e1, e2] at e; cases e
      | some d2 =>
        rw [e1, e2] at e
        simp only [Option.bind_some] at e
        cases e3 : eqD d1 d2 with
        | none => rw [e3] at e; cases e
        | some c =>
          rw [e3] at e
          cases e
          exact or_ne hu pins s σ H x y v u Q I rx ry ⟨d1, d2, c, by rw [hK]; exact dOf_ok S e1 r1, by rw [hK]; exact dOf_ok S e2 r2, e3, q⟩
  | In =>
    rcases inV_ok (op := .In) (neg := false) hK S r1 r2 e q with z | z
    · exact op_in_str pins s σ H x y v u Q I rx ry z
    · exact or_in hu pins s σ H x y v u Q I rx ry z
  | NotIn =>
    simp only [cmpV] at e
    cases e3 : inV w1 w2 h with
    | none => rw [e3] at e; cases e
    | some c =>
      rw [e3] at e
      cases e
      rcases inV_ok (op := .NotIn) (neg := true) hK S r1 r2 e3 q with z | z
      · exact op_notin_str pins s σ H x y v u Q I rx ry z
      · exact or_notin hu pins s σ H x y v u Q I rx ry z
  | Is =>
    have fin : ∀ c : Bool, y = .non → decide (x = .non) = c → b = c → wpAny (model X.prog X.w) X.A (compareOp .Is v u) (EP X pins σ Q) X.xe s := fun c hy hx hb => by
      subst hb
      subst hx
      exact op_isN pins s σ H x y v u Q I rx ry ⟨hy, q⟩
    unfold cmpV at e
    simp only at e
    split at e
    · rename_i d
      have hy : y = .non := by cases r2; rfl
      cases e
      refine fin _ hy ?_ rfl
      cases d <;> cases r1 <;> first | rfl | simp
    · have hy : y = .non := by cases r2; rfl
      cases e
      obtain ⟨a, _, rfl⟩ := r1
      exact fin _ hy (by simp) rfl
    · cases e
  | IsNot =>
    have fin : ∀ c : Bool, y = .non → decide (x = .non) = c → b = !c → wpAny (model X.prog X.w) X.A (compareOp .IsNot v u) (EP X pins σ Q) X.xe s := fun c hy hx hb => by
      subst hb
      subst hx
      exact op_notN pins s σ H x y v u Q I rx ry ⟨hy, q⟩
    unfold cmpV at e
    simp only at e
    split at e
    · rename_i d
      have hy : y = .non := by cases r2; rfl
      cases e
      cases d with
      | none => exact fin true hy (by cases r1; simp) rfl
      | _ => exact fin false hy (by cases r1 <;> simp) rfl
    · have hy : y = .non := by cases r2; rfl
      cases e
      obtain ⟨a, _, rfl⟩ := r1
      exact fin false hy (by simp) rfl
    · cases e
  | Lt =>
    unfold cmpV at e
    simp only at e
    split at e
    · cases int_inv r1
      cases int_inv r2
      cases e
      exact op_lt pins s σ H _ _ v u Q I rx ry ⟨_, _, rfl, rfl, q⟩
    · cases str_inv r1
      cases str_inv r2
      cases e
      exact op_lt_str pins s σ H _ _ v u Q I rx ry ⟨_, _, rfl, rfl, q⟩
    · cases e
  | LtE =>
    unfold cmpV at e
    simp only at e
    split at e
    · cases int_inv r1
      cases int_inv r2
      cases e
      exact op_le pins s σ H _ _ v u Q I rx ry ⟨_, _, rfl, rfl, q⟩
    · cases str_inv r1
      cases str_inv r2
      cases e
      refine op_le_str pins s σ H _ _ v u Q I rx ry ⟨_, _, rfl, rfl, ?_⟩
      rw [← decide_not]
      exact q
    · cases e
  | Gt =>
    unfold cmpV at e
    simp only at e
    split at e
    · cases int_inv r1
      cases int_inv r2
      cases e
      exact op_gt pins s σ H _ _ v u Q I rx ry ⟨_, _, rfl, rfl, q⟩
    · cases e
  | GtE =>
    unfold cmpV at e
    simp only at e
    split at e
    · cases int_inv r1
      cases int_inv r2
      cases e
      exact op_ge pins s σ H _ _ v u Q I rx ry ⟨_, _, rfl, rfl, q⟩
    · cases e
/-! ### truth -/
theorem tru_ok' {w : W} {x : V} {b : Bool} (hK : X.K = T.K) (S : Sim T F m h H) (r : WR T F m w x) (e : truV w h = some b) : TruV X.K x H b := by
  rw [hK]
  have emp : ∀ {ws : List W} {vs : List V}, WRs T F m ws vs → (!vs.isEmpty) = !ws.isEmpty := fun r => by cases r <;> rfl
  have emd : ∀ {ws : List PyData} {vs : List V}, DqAll T.K F vs ws → (!vs.isEmpty) = !ws.isEmpty := fun r => by cases r <;> rfl
  cases w with
  | d y =>
    cases y with
    | none => cases r; cases e; rfl
    | bool k => cases r; cases e; rfl
    | int i => cases r; cases e; rfl
    | str z =>
      cases r
      simp only [truV] at e
      split at e
      · rename_i c
        cases e
        exact ⟨lineOk_le c, rfl⟩
      · cases e
    | list xs =>
      cases e
      cases r with
      | lst q d => exact .inl ⟨_, .inl (.inl (S.sub _ _ q)), (emd d).symm⟩
    | tuple xs =>
      cases e
      cases r with
      | tup q d => exact .inr (.inl ⟨_, SqT.up S.sub q, (emd d).symm⟩)
    | dict _ => cases e
  | ref i =>
    obtain ⟨a, ea, rfl⟩ := r
    simp only [truV] at e
    split at e
    · rename_i ws e1
      cases e
      obtain ⟨_, vs, e2, rs⟩ := S.cell i _ a e1 ea
      exact .inl ⟨_, .inl (.inl e2), (emp rs).symm⟩
    · rename_i xs e1
      cases e
      obtain ⟨_, d⟩ := S.cell i _ a e1 ea
      cases d with
      | lst q d => exact .inl ⟨_, .inl (.inl (S.sub _ _ q)), (emd d).symm⟩
    · cases e
  | _ => cases e
/-! ### places -/
theorem atI_len {α β : Type} {xs : List α} {ys : List β} {i : Int} {a : α} (hl : ys.length = xs.length) (e : atI xs i = some a) : ∃ j : Nat, xs[j]? = some a ∧ ∀ b, ys[j]? = some b → atI ys i = some b := by
  unfold atI at e
  cases q : ixN xs.length i with
  | none => rw [q] at e; cases e
  | some j =>
    rw [q] at e
    refine ⟨j, e, fun b hb => ?_⟩
    unfold atI
    rw [hl, q]
    exact hb
def rIdx (T : Top) : R2 := fun x y H Q => ∃ F m h w1 w2 w, Sim T F m h H ∧ WR T F m w1 x ∧ WR T F m w2 y ∧ idxV w1 w2 h = some w ∧ ∀ v, WR T F m w v → Q v H
theorem ix_ok (hK : X.K = T.K) : IxR X (rIdx T) := by
  rintro value slice pins s σ H x y v u Q I rx ry ⟨F, m, h, w1, w2, w, S, r1, r2, e, q⟩ hs
  refine ix_seq value slice pins s σ H x y v u Q I rx ry ?_ hs
  have seq : ∀ {j : Int}, y = .int j → ((seqOf w1 h).bind fun ws => atI ws j) = some w → rIx X.K x y H Q := fun {j} hy e => by
    cases e1 : seqOf w1 h with
    | none => rw [e1] at e; cases e
    | some ws =>
      rw [e1] at e
      obtain ⟨a, vs, rfl, z, rs⟩ := seqOf_ok S e1 r1
      obtain ⟨k, h1, h2⟩ := atI_len rs.len.symm e
      obtain ⟨b, h3, h4⟩ := rs.get h1
      rcases z with z | z
      · exact .inl ⟨a, vs, j, b, rfl, hy, by rw [hK]; exact z, h2 b h3, q b h4⟩
      · exact .inr (.inl ⟨a, vs, j, b, rfl, hy, by rw [hK]; exact z, h2 b h3, q b h4⟩)
  unfold idxV at e
  split at e
  · have hy := int_inv r2
    split at e
    · rename_i z
      cases str_inv r1
      split at e
      · rename_i c
        cases e1 : atI z.cps.toList _ with
        | none => rw [e1] at e; cases e
        | some k =>
          rw [e1] at e
          cases e
          exact .inr (.inr ⟨z, _, k, rfl, hy, lineOk_le c, e1, q _ (.str _)⟩)
      · cases e
    · exact seq hy e
  · cases e
def rSli (T : Top) : V → Option Int → Option Int → Hp → VK → Prop := fun x lo hi H Q => ∃ Wx σ F m h w1, Sim T F m h H ∧ WR T F m w1 x ∧ Run T Wx σ F m H (lift (sliceV w1 lo hi h) h) fun r F' m' _ H' => ∀ v, WR T F' m' r v → Q v H'
theorem sl_ok (hK : X.K = T.K) : SlR X (rSli T) := by
  rintro pins s σ H x v vl vu lo hi sl Q I rx hs pl pu ⟨Wx, σ1, F, m, h, w1, S, r1, R⟩
  have lst : (R : Run T Wx σ1 F m H (lift ((listOf w1 h).bind fun ws => (toDs ws).map fun xs => W.d (.list (cutD xs lo hi))) h) fun r F' m' _ H' => ∀ v, WR T F' m' r v → Q v H') → rSlL X.K x lo hi H Q := fun R => by
    cases e1 : listOf w1 h with
    | none => rw [e1] at R; exact R.elim
    | some ws =>
      cases e2 : toDs ws with
      | none => rw [e1] at R; simp only [Option.bind_some, e2] at R; exact R.elim
      | some xs =>
        rw [e1] at R
        simp only [Option.bind_some, e2] at R
        obtain ⟨a, vs, rfl, g, rs⟩ := listOf_ok S e1 r1
        have d := wrs_toDs e2 rs
        have hl := d.len
        have dc : DqAll T.K F (cutV vs lo hi) (cutD xs lo hi) := by
          unfold cutV cutD
          rw [hl]
          exact (d.drop _).take _
        exact ⟨a, vs, rfl, .inl (.inl g), lst_ok S dc R⟩
  cases w1 with
  | d y =>
    cases y with
    | str z =>
      cases str_inv r1
      simp only [sliceV] at R
      split at R
      · rename_i c
        exact sl_str pins s σ H _ v vl vu lo hi sl Q I rx hs pl pu ⟨z, rfl, lineOk_le c, Run.here S R _ (.str _)⟩
      · exact R.elim
    | tuple xs =>
      cases r1 with
      | @tup a vs _ g d =>
        have hl := d.len
        have dc : DqAll T.K F (cutV vs lo hi) (cutD xs lo hi) := by
          unfold cutV cutD
          rw [hl]
          exact (d.drop _).take _
        refine sl_tupA pins s σ H _ v vl vu lo hi sl Q I rx hs pl pu ⟨a, vs, rfl, by rw [hK]; exact SqT.up S.sub g, fun hw => ?_, fun _ => tup_ok S dc R⟩
        refine Run.here S R _ ?_
        have e : cutD xs lo hi = xs := by
          unfold cutD
          rw [← hl, hw.1, hw.2, List.drop_zero, Nat.sub_zero, hl, List.take_length]
        rw [e]
        exact .tup g d
    | list xs => exact sl_list pins s σ H x v vl vu lo hi sl Q I rx hs pl pu (lst R)
    | _ => exact R.elim
  | ref i => exact sl_list pins s σ H x v vl vu lo hi sl Q I rx hs pl pu (lst R)
  | _ => exact R.elim
end
end Mi

set_option maxRecDepth 100000
set_option maxHeartbeats 1000000
/-! Mi, fifth part: built-ins and methods by values. -/
namespace Mi
open PySem PySem.Spec PyProof.Rows L2
variable {T : Top} {F F' : Hp} {m m' : List Addr} {h h' : MH} {H H' : Hp} {Wx : WX} {σ0 : L2.St}
theorem bools_ok : ∀ {ws : List W} {bs : List Bool} {vs : List V}, bools ws = some bs → WRs T F m ws vs → vs = bs.map V.bl
  | [], bs, _, e, .nil => by cases e; rfl
  | .d x :: r, bs, _, e, .cons q t => by
    cases x with
    | bool b =>
      unfold bools at e
      cases e1 : bools r with
      | none => rw [e1] at e; cases e
      | some cs =>
        rw [e1] at e
        cases e
        cases bool_inv q
        rw [bools_ok e1 t]
        rfl
    | _ => cases e
  | .ref _ :: _, _, _, e, _ => by cases e
  | .fn _ :: _, _, _, e, _ => by cases e
  | .ex _ _ :: _, _, _, e, _ => by cases e
  | .ro _ :: _, _, _, e, _ => by cases e
theorem txts_ok : ∀ {ws : List W} {bs : List Str} {vs : List V}, txts ws = some bs → WRs T F m ws vs → vs = bs.map V.str
  | [], bs, _, e, .nil => by cases e; rfl
  | .d x :: r, bs, _, e, .cons q t => by
    cases x with
    | str b =>
      unfold txts at e
      cases e1 : txts r with
      | none => rw [e1] at e; cases e
      | some cs =>
        rw [e1] at e
        cases e
        cases str_inv q
        rw [txts_ok e1 t]
        rfl
    | _ => cases e
  | .ref _ :: _, _, _, e, _ => by cases e
  | .fn _ :: _, _, _, e, _ => by cases e
  | .ex _ _ :: _, _, _, e, _ => by cases e
  | .ro _ :: _, _, _, e, _ => by cases e
theorem nums_ok : ∀ {ws : List W} {bs : List Int} {vs : List V}, nums ws = some bs → WRs T F m ws vs → vs = bs.map V.int
  | [], bs, _, e, .nil => by cases e; rfl
  | .d x :: r, bs, _, e, .cons q t => by
    cases x with
    | int b =>
      unfold nums at e
      cases e1 : nums r with
      | none => rw [e1] at e; cases e
      | some cs =>
        rw [e1] at e
        cases e
        cases int_inv q
        rw [nums_ok e1 t]
        rfl
    | _ => cases e
  | .ref _ :: _, _, _, e, _ => by cases e
  | .fn _ :: _, _, _, e, _ => by cases e
  | .ex _ _ :: _, _, _, e, _ => by cases e
  | .ro _ :: _, _, _, e, _ => by cases e
theorem DqAll.strs {K : PySem.W.Frag} {F : Hp} : ∀ ys : List Str, DqAll K F (ys.map V.str) (ys.map PyData.str)
  | [] => .nil
  | y :: ys => .cons (.str y) (DqAll.strs ys)
theorem WRs.one {ws : W} {vs : List V} (r : WRs T F m [ws] vs) : ∃ v, vs = [v] ∧ WR T F m ws v := by
  cases r with
  | cons h t => cases t; exact ⟨_, rfl, h⟩
theorem WRs.two {w1 w2 : W} {vs : List V} (r : WRs T F m [w1, w2] vs) : ∃ v1 v2, vs = [v1, v2] ∧ WR T F m w1 v1 ∧ WR T F m w2 v2 := by
  cases r with
  | cons h t =>
    obtain ⟨v, rfl, q⟩ := WRs.one t
    exact ⟨_, v, rfl, h, q⟩
theorem Run.liftB {α : Type} {k : α → Hp → List Addr → MH → Hp → Prop} {β : Type} {o : Option β} {f : β → Option α} (x : Run T Wx σ0 F m H (Mi.lift (o.bind f) h) k) : ∃ b, o = some b ∧ Run T Wx σ0 F m H (Mi.lift (f b) h) k := by
  cases o with
  | none => exact x.elim
  | some b => exact ⟨b, rfl, x⟩
theorem Run.liftM {α : Type} {k : α → Hp → List Addr → MH → Hp → Prop} {β : Type} {o : Option β} {f : β → α} (S : Sim T F m h H) (x : Run T Wx σ0 F m H (Mi.lift (o.map f) h) k) : ∃ b, o = some b ∧ k (f b) F m h H := by
  cases o with
  | none => exact x.elim
  | some b => exact ⟨b, rfl, Run.here S x⟩
/-- which built-in a word names -/
def bltF : Blt → Value
  | .len => .builtin "len"
  | .int => .type "int"
  | .str => .type "str"
  | .repr => .builtin "repr"
  | .all => .builtin "all"
  | .any => .builtin "any"
  | .tuple => .type "tuple"
  | .list _ => .type "list"
  | .abs => .builtin "abs"
  | .max => .builtin "max"
  | .min => .builtin "min"
  | .sum => .builtin "sum"
section
variable {X : Cx}
theorem repr_ok (hg : X.A.guards = some []) (hu : X.A.units + 150 < cLine) : CallR X (.builtin "repr") (fun xs H Q => ∃ x d, xs = [x] ∧ Dp X.K H x d ∧ shOk d = true ∧ Q (.str d.shown) H) := by
  rintro pins s σ H xs us Q I r ⟨x, d, rfl, hd, c, q⟩
  obtain ⟨u, rfl, ru⟩ := vals1 r
  unfold shOk at c
  simp only [Bool.and_eq_true] at c
  obtain ⟨⟨c1, c2⟩, c3⟩ := c
  have hz := lineOk_le c3
  have hdp := depOk_le c2
  obtain ⟨as, rd⟩ := Dp.reads I d x u hd ru
  have end_ : ∀ (h' : Heap) (tk : Nat) (t : Tok), (∀ b o, s.heap.get? b = some o → h'.get? b = some o) → EP X pins σ Q (.str d.shown t) { s with heap := h', toks := tk } := fun h' tk t hk => ⟨.str d.shown, H, I.kept hk, ⟨t, rfl⟩, q⟩
  have nd : d.hasDict = true → sysModules ∉ as := fun e => by rw [noDict_plain d (Dp.plain hd)] at e; cases e
  have ref : ∀ a, u = .ref a → wpAny (model X.prog X.w) X.A (call (.builtin "repr") [u]) (EP X pins σ Q) X.xe s := fun a e => by
    subst e
    exact PySem.repr_of_reads' rd c1 nd hg (by omega) (fun _ _ e => e) (fun h' t tk hk => end_ h' tk t hk) hz
  cases hd with
  | non => cases ru; exact PySem.P.repr_of_none (end_ _ _ _ fun _ _ e => e)
  | bl b =>
    cases ru
    exact PySem.P.repr_of_bool (end_ _ _ _ fun _ _ e => e)
  | int i =>
    obtain ⟨t, rfl⟩ := ru
    have hi : i.natAbs.log2 < 1920 := by simpa [PyData.showable] using c1
    exact PySem.P.repr_of_int hi (end_ _ _ _ fun _ _ e => e)
  | str z =>
    obtain ⟨t, rfl⟩ := ru
    exact PySem.P.repr_of_str (end_ _ _ _ fun _ _ e => e) hz
  | lst _ _ => exact ref _ ru
  | tup _ _ => exact ref _ ru
theorem blt_ok {b : Blt} (hK : X.K = T.K) (hc : X.calm = true) (hg : X.A.guards = some []) (hu : X.A.units + 150 < cLine) : CallR X (bltF b) (rWs T (bltV b)) := by
  rintro pins s σ H xs us Q I r ⟨Wx, σ0, F, m, h, ws, S, rw', R⟩
  have seqs : ∀ {a : W} {x : V} {ys : List W}, seqOf a h = some ys → WR T F m a x → ∃ p vs, x = .ref p ∧ (SqL X.K H p vs ∨ SqT X.K H p vs) ∧ WRs T F m ys vs := fun {a x ys} e q => by rw [hK]; exact seqOf_ok S e q
  have lists : ∀ {a : W} {x : V} {ys : List W}, listOf a h = some ys → WR T F m a x → ∃ p vs, x = .ref p ∧ SqL X.K H p vs ∧ WRs T F m ys vs := fun {a x ys} e q => by
    obtain ⟨p, vs, e1, e2, e3⟩ := listOf_ok S e q
    exact ⟨p, vs, e1, .inl (.inl e2), e3⟩
  cases b with
  | len =>
    simp only [bltV, lenV] at R
    split at R
    · obtain ⟨x, rfl, q⟩ := rw'.one
      cases str_inv q
      split at R
      · rename_i c
        exact call_len pins s σ H _ us Q I r ⟨_, _, rfl, ⟨lineOk_le c, rfl⟩, Run.here S R _ (.int _)⟩
      · exact R.elim
    · obtain ⟨x, rfl, q⟩ := rw'.one
      obtain ⟨ys, e, k⟩ := Run.liftM S R
      obtain ⟨p, vs, rfl, z, rs⟩ := seqs e q
      refine call_len pins s σ H _ us Q I r ⟨.ref p, ys.length, rfl, ?_, k _ (.int _)⟩
      rw [rs.len]
      rcases z with z | z
      · exact .inl ⟨vs, z, rfl⟩
      · exact .inr ⟨vs, z, rfl⟩
    · exact R.elim
  | int =>
    simp only [bltV, intV] at R
    split at R
    · obtain ⟨x, rfl, q⟩ := rw'.one
      cases int_inv q
      exact call_int1 pins s σ H _ us Q I r (.inl ⟨_, rfl, Run.here S R _ (.int _)⟩)
    · obtain ⟨x, rfl, q⟩ := rw'.one
      cases bool_inv q
      exact call_int1 pins s σ H _ us Q I r (.inr ⟨_, rfl, Run.here S R _ (.int _)⟩)
    · obtain ⟨x, rfl, q⟩ := rw'.one
      cases str_inv q
      split at R
      · rename_i n e
        split at R
        · rename_i c
          exact call_int_str pins s σ H _ us Q I r ⟨_, n, rfl, e, Nat.le_of_ble_eq_true c, Run.here S R _ (.int _)⟩
        · exact R.elim
      · exact R.elim
    · exact R.elim
  | str =>
    simp only [bltV, strV] at R
    split at R
    · obtain ⟨x, rfl, q⟩ := rw'.one
      cases int_inv q
      split at R
      · rename_i c
        exact call_str_int pins s σ H _ us Q I r ⟨_, rfl, Nat.lt_succ_of_le (Nat.le_of_ble_eq_true c), Run.here S R _ (.str _)⟩
      · exact R.elim
    · exact R.elim
  | repr =>
    simp only [bltV, reprV] at R
    split at R
    · obtain ⟨x, rfl, q⟩ := rw'.one
      split at R
      · rename_i d e
        split at R
        · rename_i c
          exact repr_ok hg hu pins s σ H _ us Q I r ⟨x, d, rfl, by rw [hK]; exact dOf_ok S e q, c, Run.here S R _ (.str _)⟩
        · exact R.elim
      · exact R.elim
    · exact R.elim
  | all =>
    simp only [bltV, boolsV] at R
    split at R
    · obtain ⟨x, rfl, q⟩ := rw'.one
      obtain ⟨ys, e, R⟩ := Run.liftB R
      obtain ⟨bs, e2, k⟩ := Run.liftM S R
      obtain ⟨p, vs, rfl, z, rs⟩ := lists e q
      cases bools_ok e2 rs
      exact cr_all hc pins s σ H _ us Q I r ⟨p, bs, rfl, z, k _ (.bl _)⟩
    · exact R.elim
  | any =>
    simp only [bltV, boolsV] at R
    split at R
    · obtain ⟨x, rfl, q⟩ := rw'.one
      obtain ⟨ys, e, R⟩ := Run.liftB R
      obtain ⟨bs, e2, k⟩ := Run.liftM S R
      obtain ⟨p, vs, rfl, z, rs⟩ := lists e q
      cases bools_ok e2 rs
      exact cr_any hc pins s σ H _ us Q I r ⟨p, bs, rfl, z, k _ (.bl _)⟩
    · exact R.elim
  | tuple =>
    simp only [bltV, tupV] at R
    split at R
    · obtain ⟨x, rfl, q⟩ := rw'.one
      split at R
      · cases q with
        | tup g d => exact call_tuple_of pins s σ H _ us Q I r ⟨_, _, rfl, .inr ⟨by rw [hK]; exact SqT.up S.sub g, Run.here S R _ (.tup g d)⟩⟩
      · obtain ⟨ys, e, R⟩ := Run.liftB R
        obtain ⟨ds, e2, k⟩ : ∃ ds, _ ∧ _ := by
          cases q2 : toDs ys with
          | none => rw [q2] at R; exact R.elim
          | some ds => exact ⟨ds, q2, R⟩
        obtain ⟨p, vs, rfl, z, rs⟩ := lists e q
        rw [e2] at k
        exact call_tuple_of pins s σ H _ us Q I r ⟨p, vs, rfl, .inl ⟨z, tup_ok S (wrs_toDs e2 rs) k⟩⟩
    · exact R.elim
  | list nw =>
    simp only [bltV, lstV] at R
    split at R
    · obtain ⟨x, rfl, q⟩ := rw'.one
      split at R
      · rename_i ys e
        obtain ⟨p, vs, rfl, z, rs⟩ := seqs e q
        exact call_list_of pins s σ H _ us Q I r ⟨p, vs, rfl, z, mkL_ok S rs R⟩
      · exact R.elim
    · exact R.elim
  | abs =>
    simp only [bltV, absV] at R
    split at R
    · obtain ⟨x, rfl, q⟩ := rw'.one
      cases int_inv q
      exact call_abs pins s σ H _ us Q I r ⟨_, rfl, Run.here S R _ (.int _)⟩
    · exact R.elim
  | max =>
    simp only [bltV, maxV] at R
    split at R
    · obtain ⟨x, y, rfl, q, q2⟩ := rw'.two
      cases int_inv q
      cases int_inv q2
      exact call_max2 hc pins s σ H _ us Q I r ⟨_, _, rfl, Run.here S R _ (.int _)⟩
    · exact R.elim
  | min =>
    simp only [bltV, minV] at R
    split at R
    · obtain ⟨x, y, rfl, q, q2⟩ := rw'.two
      cases int_inv q
      cases int_inv q2
      exact call_min2 hc pins s σ H _ us Q I r ⟨_, _, rfl, Run.here S R _ (.int _)⟩
    · exact R.elim
  | sum =>
    simp only [bltV, sumV] at R
    split at R
    · obtain ⟨x, rfl, q⟩ := rw'.one
      obtain ⟨ys, e, R⟩ := Run.liftB R
      obtain ⟨bs, e2, k⟩ := Run.liftM S R
      obtain ⟨p, vs, rfl, z, rs⟩ := lists e q
      cases nums_ok e2 rs
      exact cr_sum hc pins s σ H _ us Q I r ⟨p, bs, rfl, z, k _ (.int _)⟩
    · exact R.elim
/-! ### methods -/
theorem cellL_eq {i : Nat} {xs : List W} (e : cellL i h = some xs) : h[i]? = some (.lst xs) := by
  unfold cellL at e
  split at e
  · rename_i ws e1
    cases e
    exact e1
  · cases e
/-- a method's call by values: the receiver, the arguments -/
def rMth (T : Top) (o : W → List W → M W) : V → List V → Hp → VK → Prop := fun x xs H Q => ∃ Wx σ F m h w ws, Sim T F m h H ∧ WR T F m w x ∧ WRs T F m ws xs ∧ Run T Wx σ F m H (o w ws h) fun r F' m' _ H' => ∀ v, WR T F' m' r v → Q v H'
theorem app_ok' : MtM X "list.append" (rMth T appendV) := by
  rintro pins s σ H x xs v us Q I rx rs ⟨Wx, σ0, F, m, h, w, ws, S, r1, r2, R⟩
  simp only [appendV] at R
  split at R
  · obtain ⟨a, ea, rfl⟩ := r1
    obtain ⟨y, rfl, q⟩ := r2.one
    split at R
    · rename_i ys e
      obtain ⟨_, vs, eH, rv⟩ := S.cell _ _ a (cellL_eq e) ea
      split at R
      · rename_i c
        obtain ⟨S1, X1⟩ := S.put (cellL_eq e) ea (rv.app (.cons q .nil))
        exact mt_append pins s σ H _ _ v us Q I rx rs ⟨a, vs, y, rfl, rfl, eH, by rw [sizeLine_eq, ← rv.len]; exact Nat.le_of_ble_eq_true c, R _ _ _ S1 X1 _ .non⟩
      · exact R.elim
    · exact R.elim
  · exact R.elim
theorem ext_ok' : MtM X "list.extend" (rMth T extendV) := by
  rintro pins s σ H x xs v us Q I rx rs ⟨Wx, σ0, F, m, h, w, ws, S, r1, r2, R⟩
  simp only [extendV] at R
  split at R
  · obtain ⟨a, ea, rfl⟩ := r1
    obtain ⟨y, rfl, q⟩ := r2.one
    split at R
    · rename_i ys zs e e2
      obtain ⟨_, vs, eH, rv⟩ := S.cell _ _ a (cellL_eq e) ea
      obtain ⟨p, us2, rfl, g, rz⟩ := listOf_ok S e2 q
      split at R
      · rename_i c
        obtain ⟨S1, X1⟩ := S.put (cellL_eq e) ea (rv.app rz)
        have l1 := rv.len
        have l2 := rz.len
        have z := lineOk_le c
        exact mt_extend pins s σ H _ _ v us Q I rx rs ⟨a, p, vs, us2, rfl, rfl, eH, g, by omega, R _ _ _ S1 X1 _ .non⟩
      · exact R.elim
    · exact R.elim
  · exact R.elim
theorem rev_ok' : MtM X "list.reverse" (rMth T reverseV) := by
  rintro pins s σ H x xs v us Q I rx rs ⟨Wx, σ0, F, m, h, w, ws, S, r1, r2, R⟩
  simp only [reverseV] at R
  split at R
  · obtain ⟨a, ea, rfl⟩ := r1
    cases r2
    split at R
    · rename_i ys e
      obtain ⟨_, vs, eH, rv⟩ := S.cell _ _ a (cellL_eq e) ea
      obtain ⟨S1, X1⟩ := S.put (cellL_eq e) ea rv.rev
      exact mt_reverse pins s σ H _ _ v us Q I rx rs ⟨a, vs, rfl, rfl, eH, R _ _ _ S1 X1 _ .non⟩
    · exact R.elim
  · exact R.elim
theorem pop_ok' : MtM X "list.pop" (rMth T popV) := by
  rintro pins s σ H x xs v us Q I rx rs ⟨Wx, σ0, F, m, h, w, ws, S, r1, r2, R⟩
  simp only [popV] at R
  split at R
  · obtain ⟨a, ea, rfl⟩ := r1
    cases r2
    split at R
    · rename_i ys e
      obtain ⟨_, vs, eH, rv⟩ := S.cell _ _ a (cellL_eq e) ea
      split at R
      · rename_i y e3
        obtain ⟨y', g1, g2⟩ := rv.get e3
        obtain ⟨S1, X1⟩ := S.put (cellL_eq e) ea (WRs.dropLast rv)
        exact mt_pop pins s σ H _ _ v us Q I rx rs ⟨a, vs, y', rfl, rfl, eH, by rw [← rv.len]; exact g1, R _ _ _ S1 X1 _ (g2.ext X1)⟩
      · exact R.elim
    · exact R.elim
  · exact R.elim
theorem split_ok' : MtR X "str.split" (rMth T splitV) := by
  rintro pins s σ H x xs v us Q I rx rs ⟨Wx, σ0, F, m, h, w, ws, S, r1, r2, R⟩
  simp only [splitV] at R
  split at R
  · cases str_inv r1
    obtain ⟨y, rfl, q⟩ := r2.one
    cases str_inv q
    split at R
    · rename_i c
      simp only [Bool.and_eq_true, Bool.not_eq_true'] at c
      exact mt_split pins s σ H _ _ v us Q I rx rs ⟨_, _, rfl, rfl, c.1, lineOk_le c.2, lst_ok S (DqAll.strs _) R⟩
    · exact R.elim
  · exact R.elim
theorem join_ok' (hK : X.K = T.K) : MtR X "str.join" (rMth T joinV) := by
  rintro pins s σ H x xs v us Q I rx rs ⟨Wx, σ0, F, m, h, w, ws, S, r1, r2, R⟩
  simp only [joinV] at R
  split at R
  · rename_i x0 w2
    cases str_inv r1
    obtain ⟨y, rfl, q⟩ := r2.one
    split at R
    · rename_i ys e
      cases e1 : seqOf w2 h with
      | none => rw [e1] at e; cases e
      | some zs =>
        rw [e1] at e
        obtain ⟨p, vs, rfl, z, rz⟩ := seqOf_ok S e1 q
        cases txts_ok e rz
        split at R
        · rename_i c
          exact mt_join pins s σ H _ _ v us Q I rx rs ⟨_, p, ys, rfl, rfl, by rw [hK]; exact z, Nat.le_of_ble_eq_true c, Run.here S R _ (.str _)⟩
        · exact R.elim
    · exact R.elim
  · exact R.elim
theorem list_data {w : W} {ds : List PyData} {x : V} (S : Sim T F m h H) (e : (listOf w h).bind toDs = some ds) (r : WR T F m w x) : ∃ a, x = .ref a ∧ Dp T.K H (.ref a) (.list ds) := by
  cases e1 : listOf w h with
  | none => rw [e1] at e; cases e
  | some ws =>
    rw [e1] at e
    obtain ⟨a, vs, rfl, g, rs⟩ := listOf_ok S e1 r
    exact ⟨a, rfl, .lst (.inl (.inl g)) (DqAll.dp S.sub (wrs_toDs e rs))⟩
theorem reads_list {pins : List (Addr × Obj)} {σ : L2.St} {s : Shared} {a : Addr} {ds : List PyData} (I : Inv X pins σ H s) (d : Dp X.K H (.ref a) (.list ds)) :
    ∃ (vs : Array Value) (as : List Addr), s.heap.IsList a vs ∧ ReadsAll s.heap vs.toList ds as ∧ PyData.plainAll ds = true ∧ vs.size ≤ sizeLine := by
  cases d with
  | lst hs ha =>
    obtain ⟨its, rv, p, hz⟩ := I.list hs
    obtain ⟨as, q⟩ := Dp.readsAll I ds _ its ha rv
    exact ⟨its.toArray, as, p.isList, q, DpAll.plain ha, by have := rv.length; simp; omega⟩
theorem count_ok' (hK : X.K = T.K) (hu : X.A.units + 150 < cLine) : MtR X "list.count" (rMth T countV) := by
  rintro pins s σ H x xs v us Q I rx rs ⟨Wx, σ0, F, m, h, w, ws, S, r1, r2, R⟩
  simp only [countV] at R
  split at R
  · rename_i d0
    obtain ⟨y, rfl, q⟩ := r2.one
    split at R
    · rename_i ds e
      split at R
      · rename_i c
        obtain ⟨a, rfl, dl⟩ := list_data S e r1
        obtain ⟨u, rfl, ru⟩ := rs.one
        cases rx
        rw [← hK] at dl
        obtain ⟨as, l1, l2, l3, l4, _⟩ := reads_list I dl
        have dy : Dp X.K H y d0 := by rw [hK]; exact Dq.dp S.sub q
        obtain ⟨bs, ry⟩ := Dp.reads I d0 y u dy ru
        have := depOk_le c
        exact PySem.SeqAt.count_list_data l2 l3 ry l4 (Dp.plain dy) (by omega) ⟨.int _, H, I.tok _, ⟨_, rfl⟩, Run.here S R _ (.int _)⟩
      · exact R.elim
    · exact R.elim
  · exact R.elim
theorem index_ok' (hK : X.K = T.K) (hu : X.A.units + 150 < cLine) : MtR X "list.index" (rMth T indexV) := by
  rintro pins s σ H x xs v us Q I rx rs ⟨Wx, σ0, F, m, h, w, ws, S, r1, r2, R⟩
  simp only [indexV] at R
  split at R
  · rename_i d0
    obtain ⟨y, rfl, q⟩ := r2.one
    split at R
    · rename_i ds e
      split at R
      · rename_i c
        split at R
        · rename_i j ej
          obtain ⟨a, rfl, dl⟩ := list_data S e r1
          obtain ⟨u, rfl, ru⟩ := rs.one
          cases rx
          rw [← hK] at dl
          obtain ⟨as, l1, l2, l3, l4, l5⟩ := reads_list I dl
          have dy : Dp X.K H y d0 := by rw [hK]; exact Dq.dp S.sub q
          obtain ⟨bs, ry⟩ := Dp.reads I d0 y u dy ru
          have dep := depOk_le c
          have hs := sizeLine_eq
          obtain ⟨⟨cls, dd, data, sl⟩, ho, hc, n, hd⟩ := id l2
          simp only at hc hd
          subst hc hd
          obtain ⟨hj, hit, miss⟩ := PySem.SeqAt.hit_at (d := d0) (xs := ds) l3 l4 (j := j) ej
          refine call_meets PySem.F.slot_list_index ⟨_, ho, rfl⟩ PySem.F.entry_list_index (PySem.F.args_list_index_2 _ _)
            (PySem.SeqAt.list_indexAt a as n dd sl u (fun z => PyData.eqv (PySem.SeqAt.readOf s.heap z) d0) j hj (by omega) hit miss) ⟨ho, PySem.SeqAt.items_plain l3 ry l4 (Dp.plain dy) (by show X.A.units + 1 + _ < cLine; omega), ?_⟩
          exact ⟨.int _, H, I.tok _, ⟨_, rfl⟩, Run.here S R _ (.int _)⟩
        · exact R.elim
      · exact R.elim
    · exact R.elim
  · exact R.elim
end
end Mi

set_option maxRecDepth 100000
set_option maxHeartbeats 1000000
/-! Mi, sixth part: what a def promises; a call by the cells that go along. -/
namespace Mi
open PySem PySem.Spec PyProof.Rows L2
variable {T : Top} {F F' : Hp} {m m' : List Addr} {h h' : MH} {H H' : Hp} {Wx : WX} {σ0 : L2.St}

/-- a def that keeps a promise, called where no repr runs -/
structure FnG (P : Program) (w : World) (K : PySem.W.Frag) (mg : Str → Option Value) (base : Heap) (k : Nat) (f : Addr) (fd : FuncData) (ps : List Str) (sp : Sp) : Prop where
  len : ∀ vs H Q E, sp vs H Q E → vs.length = ps.length
  run : ∀ (A : Around) (outer : List Env) (s : Shared) (H : Hp) (args : Args) (us : List Value) (vs : List V) (Q : VK) (E : XK), Room k A → A.guards = some [] → Env0 P w K mg base A outer s H → BindsTo s fd args (ps.zip us) → Vals vs us → sp vs H Q E →
    codeAny (model P w) A (.call (.ref f) args) (CR (L2N.CX P w) outer P w H s Q E) s
variable (T) in
/-- the promise of the f-th def: it gives what the small evaluator gives -/
def spF (Φ : Nat → List W → M W) (f np : Nat) : Sp := fun vs H Q E => vs.length = np ∧ ∃ F m h ws, Sim T F m h H ∧ WRs T F m ws vs ∧ match Φ f ws h with
  | .ok w h' => ∀ F' m' H' v, Sim T F' m' h' H' → Ext F m H F' m' H' → WR T F' m' w v → Q v H'
  | .exc e h' => ∀ F' m' H' cls d, Sim T F' m' h' H' → Ext F m H F' m' H' → ExnR T F' H' e cls d → E cls d H'
  | .stuck => False

/-- the top where one error is held -/
def Top.at (T : Top) (c : Nat) (x : Option PyData) (a : Addr) (d : Option Addr) : Top := { T with xw := fun c' x' v => c' = c ∧ x' = x ∧ v = .ref a, xa := d.getD 0 }
/-- a def that keeps its promise in an except suite -/
def FnK (P : Program) (w : World) (K : PySem.W.Frag) (mg : Str → Option Value) (base : Heap) (T : Top) (Φ : Nat → List W → M W) (k : Nat) (f np : Nat) (fd : FuncData) (ps : List Str) : Prop :=
  ∀ (A : Around) (outer : List Env) (s : Shared) (H : Hp) (args : Args) (us : List Value) (vs : List V) (Q : VK) (E : XK) (p : Addr × Obj) (c : Nat) (x : Option PyData), L2H.RoomH k A → A.guards = some [] → L2H.Hot1 A p → c < T.nc → L2N.Zn (.ref (T.ca c)) p.2.dict p.2 → (x = none ↔ p.2.dict = none) →
    L2H.PinOk outer H s p → Env0 P w K mg base A outer s H → BindsTo s fd args (ps.zip us) → Vals vs us → spF (T.at c x p.1 p.2.dict) Φ f np vs H Q E → codeAny (model P w) A (.call (.ref (T.fa f)) args) (CR (L2N.CX P w) outer P w H s Q E) s
section
variable {X : Cx} {k : Nat} {f : Addr} {fd : FuncData} {ps : List Str} {sp : Sp}
/-- the callee runs in an except suite -/
theorem runK {Φ : Nat → List W → M W} {f np : Nat} {p : Addr × Obj} {c : Nat} {x : Option PyData} {pins : List (Addr × Obj)} {σ : L2.St} {s : Shared} {Q : VK} {us : List Value} {vs : List V} (G : FnK X.prog X.w X.K X.mg X.base T Φ k f np fd ps) (hl : ps.length = np) (hr : L2H.RoomH k X.A) (hg : X.A.guards = some [])
    (h1 : L2H.Hot1 X.A p) (hp : p ∈ X.pn) (hcl : c < T.nc) (hz : L2N.Zn (.ref (T.ca c)) p.2.dict p.2) (hz0 : x = none ↔ p.2.dict = none) (hb : Binds X.K fd ps []) (tk : L2N.Takes X Wx)
    (I : Inv X pins σ H s) (r : Vals vs us) (hs : spF (T.at c x p.1 p.2.dict) Φ f np vs H Q fun cls d H' => Wx cls d σ H') : wpAny (model X.prog X.w) X.A (PySem.call (.ref (T.fa f)) us) (EP X pins σ Q) X.xe s := by
  have e1 : us.length = ps.length := by rw [← r.length, hs.1, hl]
  have bt := hb s us I.kIn (by rw [List.append_nil]; exact e1)
  rw [List.append_nil] at bt
  have P1 := I.pin p (List.mem_append_left _ hp)
  have hpin : L2H.PinOk X.stack H s p := ⟨P1.1, P1.2.1, fun hm => (List.mem_cons.mp (I.stkSub p.1 hm)).elim P1.2.2.1 P1.2.2.2.1, P1.2.2.2.2⟩
  have go := G X.A X.stack s H ⟨us, []⟩ us vs Q (fun cls d H' => Wx cls d σ H') p c x hr hg h1 hcl hz hz0 hpin I.env0 bt r hs
  refine wpAny_call (codeAny_mono go fun res s' hq => ?_)
  match res, hq with
  | .error e, hq => exact tk e s' (L2N.XE.of_call I (fun _ _ _ z => z) hq)
  | .ok (.ret u), hq => exact I.after hq
  | .ok .next, hq => exact hq.elim
  | .ok .brk, hq => exact hq.elim
  | .ok .cont, hq => exact hq.elim
/-- the callee runs -/
theorem runG {pins : List (Addr × Obj)} {σ : L2.St} {s : Shared} {Q : VK} {us : List Value} {vs : List V} (G : FnG X.prog X.w X.K X.mg X.base k f fd ps sp) (hr : Room k X.A) (hg : X.A.guards = some []) (hb : Binds X.K fd ps []) (tk : L2N.Takes X Wx)
    (I : Inv X pins σ H s) (r : Vals vs us) (hs : sp vs H Q fun cls d H' => Wx cls d σ H') : wpAny (model X.prog X.w) X.A (PySem.call (.ref f) us) (EP X pins σ Q) X.xe s := by
  have e1 : us.length = ps.length := by rw [← r.length]; exact G.len _ _ _ _ hs
  have bt := hb s us I.kIn (by rw [List.append_nil]; exact e1)
  rw [List.append_nil] at bt
  have go := G.run X.A X.stack s H ⟨us, []⟩ us vs Q (fun cls d H' => Wx cls d σ H') hr hg I.env0 bt r hs
  refine wpAny_call (codeAny_mono go fun res s' hq => ?_)
  match res, hq with
  | .error e, hq => exact tk e s' (L2N.XE.of_call I (fun _ _ _ z => z) hq)
  | .ok (.ret u), hq => exact I.after hq
  | .ok .next, hq => exact hq.elim
  | .ok .brk, hq => exact hq.elim
  | .ok .cont, hq => exact hq.elim
end

/-! ### the cells that go along -/
theorem flatC_up {c : Cell} {a : Addr} (e : flatC c = true) (r : CellR T F m H a c) : CellR T F m' H a c := by
  cases c with
  | lst ws =>
    obtain ⟨z, vs, q, rs⟩ := r
    cases e1 : toDs ws with
    | none => simp [flatC, e1] at e
    | some ds =>
      refine ⟨z, vs, q, ?_⟩
      have d := wrs_toDs e1 rs
      rw [toDs_eq e1]
      exact d_wrs d
  | frz x => exact r
  | ins c fs =>
    obtain ⟨z, dx, gs, q, rs⟩ := r
    refine ⟨z, dx, gs, q, rs.short, rs.cnt, fun j o e2 => ?_, rs.out⟩
    obtain ⟨n, h1, h2⟩ := rs.nm j o e2
    refine ⟨n, h1, ?_⟩
    cases o with
    | none => exact h2
    | some w =>
      obtain ⟨v, h3, h4⟩ := h2
      have := List.all_eq_true.mp e _ (List.mem_of_getElem? e2)
      cases w with
      | d x => exact ⟨v, h3, h4⟩
      | _ => cases this
/-- the places of the cells, by their numbers -/
abbrev Ats (m : List Addr) : List Nat → List Addr → Prop := Paired fun i a => m[i]? = some a
theorem Ats.get {rs : List Nat} {as : List Addr} (x : Ats m rs as) : ∀ {j : Nat} {a : Addr}, as[j]? = some a → ∃ i, rs[j]? = some i ∧ m[i]? = some a := by
  induction x with
  | nil => intro j a e; simp at e
  | cons h t ih =>
    intro j a e
    cases j with
    | zero => simp at e; subst e; exact ⟨_, rfl, h⟩
    | succ j =>
      obtain ⟨i, h1, h2⟩ := ih (j := j) (a := a) (by simpa using e)
      exact ⟨i, by simpa using h1, h2⟩
theorem Ats.get' {rs : List Nat} {as : List Addr} (x : Ats m rs as) : ∀ {j : Nat} {i : Nat}, rs[j]? = some i → ∃ a, as[j]? = some a ∧ m[i]? = some a := by
  induction x with
  | nil => intro j a e; simp at e
  | cons h t ih =>
    intro j a e
    cases j with
    | zero => simp at e; subst e; exact ⟨_, rfl, h⟩
    | succ j =>
      obtain ⟨i, h1, h2⟩ := ih (j := j) (i := a) (by simpa using e)
      exact ⟨i, by simpa using h1, h2⟩
theorem Ats.mem {rs : List Nat} {as : List Addr} (x : Ats m rs as) {a : Addr} (ha : a ∈ as) : a ∈ m := by
  obtain ⟨j, hj, e⟩ := List.mem_iff_getElem.mp ha
  obtain ⟨i, _, h2⟩ := x.get (j := j) (a := a) (by rw [List.getElem?_eq_getElem hj, e])
  exact List.mem_of_getElem? h2
theorem nodupN_iff : ∀ {l : List Nat}, nodupN l = true → l.Nodup
  | [], _ => List.nodup_nil
  | i :: r, e => by
    simp only [nodupN, Bool.and_eq_true, Bool.not_eq_true'] at e
    refine List.nodup_cons.mpr ⟨fun z => ?_, nodupN_iff e.2⟩
    rw [List.contains_eq_mem, decide_eq_false_iff_not] at e
    exact e.1 z
theorem ix_inj {α : Type} {l : List α} (nd : l.Nodup) {i j : Nat} {a : α} (e1 : l[i]? = some a) (e2 : l[j]? = some a) : i = j := by
  obtain ⟨h1, q1⟩ := List.getElem?_eq_some_iff.mp e1
  obtain ⟨h2, q2⟩ := List.getElem?_eq_some_iff.mp e2
  exact (List.getElem_inj nd).mp (q1.trans q2.symm)
theorem Ats.nodup (ndm : m.Nodup) {rs : List Nat} {as : List Addr} (x : Ats m rs as) : rs.Nodup → as.Nodup := by
  induction x with
  | nil => exact fun _ => List.nodup_nil
  | @cons i a r as' h t ih =>
    intro nd
    obtain ⟨n1, n2⟩ := List.nodup_cons.mp nd
    refine List.nodup_cons.mpr ⟨fun z => ?_, ih n2⟩
    obtain ⟨j, hj, e⟩ := List.mem_iff_getElem.mp z
    obtain ⟨i', h1, h2⟩ := Ats.get t (j := j) (a := a) (by rw [List.getElem?_eq_getElem hj, e])
    exact n1 (ix_inj ndm h h2 ▸ List.mem_of_getElem? h1)
/-- the arguments by the callee's numbers -/
theorem wrs_renum : ∀ {ws : List W} {vs : List V}, WRs T F m ws vs → ∃ as, Ats m (refsOf ws) as ∧ ∀ pre : List Addr, WRs T F (pre ++ as) (renum pre.length ws) vs
  | [], _, .nil => ⟨[], .nil, fun _ => .nil⟩
  | .d x :: r, _, .cons q t => by
    obtain ⟨as, h1, h2⟩ := wrs_renum t
    exact ⟨as, h1, fun pre => .cons q (h2 pre)⟩
  | .fn x :: r, _, .cons q t => by
    obtain ⟨as, h1, h2⟩ := wrs_renum t
    exact ⟨as, h1, fun pre => .cons q (h2 pre)⟩
  | .ex c x :: r, _, .cons q t => by
    obtain ⟨as, h1, h2⟩ := wrs_renum t
    exact ⟨as, h1, fun pre => .cons q (h2 pre)⟩
  | .ro x :: r, _, .cons q t => by
    obtain ⟨as, h1, h2⟩ := wrs_renum t
    exact ⟨as, h1, fun pre => .cons q (h2 pre)⟩
  | .ref i :: r, _, .cons q t => by
    obtain ⟨as, h1, h2⟩ := wrs_renum t
    obtain ⟨a, ea, rfl⟩ := q
    refine ⟨a :: as, .cons ea h1, fun pre => .cons ⟨a, ?_, rfl⟩ ?_⟩
    · rw [List.getElem?_append_right (Nat.le_refl _), Nat.sub_self]
      rfl
    · have := h2 (pre ++ [a])
      rw [List.append_assoc, List.length_append] at this
      exact this
theorem cells_sim (S : Sim T F m h H) : ∀ {rs : List Nat} {cs : List Cell} {as : List Addr}, cellsAt h rs = some cs → Ats m rs as → cs.length = as.length ∧ ∀ (j : Nat) (c : Cell) (a : Addr), cs[j]? = some c → as[j]? = some a → flatC c = true ∧ CellR T F m H a c
  | [], cs, as, e, x => by
    cases x
    cases e
    exact ⟨rfl, fun j c a e _ => by simp at e⟩
  | i :: r, cs, _, e, .cons (b := a) q t => by
    unfold cellsAt at e
    split at e
    · rename_i c e1
      split at e
      · rename_i fl
        cases e2 : cellsAt h r with
        | none => rw [e2] at e; cases e
        | some cs' =>
          rw [e2] at e
          cases e
          obtain ⟨l, g⟩ := cells_sim S e2 t
          refine ⟨by simp [l], fun j c' a' e3 e4 => ?_⟩
          cases j with
          | zero => simp at e3 e4; subst e3; subst e4; exact ⟨fl, S.cell i c a e1 q⟩
          | succ j => exact g j c' a' (by simpa using e3) (by simpa using e4)
      · cases e
    · cases e
theorem sim_callee (S : Sim T F m h H) {rs : List Nat} {cs : List Cell} {as : List Addr} (nd : rs.Nodup) (e : cellsAt h rs = some cs) (x : Ats m rs as) : Sim T F as cs H := by
  obtain ⟨l, g⟩ := cells_sim S e x
  exact ⟨S.sub, l.symm, x.nodup S.nd nd, fun i c a e1 e2 => flatC_up (g i c a e1 e2).1 (g i c a e1 e2).2⟩
theorem putBack_at : ∀ {rs : List Nat} {cs : List Cell} {h h2 : MH}, putBack h rs cs = some h2 → rs.Nodup → h2.length = h.length ∧ (∀ i, i ∉ rs → h2[i]? = h[i]?) ∧
    ∀ (j i : Nat), rs[j]? = some i → i < h.length → ∃ c, cs[j]? = some c ∧ flatC c = true ∧ h2[i]? = some c
  | [], _, h, h2, e, _ => by
    simp only [putBack] at e
    cases e
    exact ⟨rfl, fun _ _ => rfl, fun j i e _ => by simp at e⟩
  | i :: r, [], _, _, e, _ => by cases e
  | i :: r, c :: cs, h, h2, e, nd => by
    unfold putBack at e
    split at e
    · rename_i fl
      obtain ⟨n1, n2⟩ := List.nodup_cons.mp nd
      obtain ⟨l, g1, g2⟩ := putBack_at e n2
      refine ⟨by rw [l, List.length_set], fun k hk => ?_, fun j k e1 hk => ?_⟩
      · rw [g1 k fun z => hk (List.mem_cons_of_mem _ z), List.getElem?_set_ne (fun z => hk (by rw [z]; exact List.mem_cons_self))]
      · cases j with
        | zero =>
          simp at e1
          subst e1
          exact ⟨c, rfl, fl, by rw [g1 i n1, List.getElem?_set_self hk]⟩
        | succ j =>
          obtain ⟨c', h1, h2, h3⟩ := g2 j k (by simpa using e1) (by rw [List.length_set]; exact hk)
          exact ⟨c', by simpa using h1, h2, h3⟩
    · cases e
/-- behind a call: the caller's cells -/
theorem sim_back {rs : List Nat} {hc : List Cell} {as mc : List Addr} {h2 : MH} (S : Sim T F m h H) (nd : rs.Nodup) (x : Ats m rs as) (Sc : Sim T F' mc hc H') (Xc : Ext F as H F' mc H') (e : putBack h rs hc = some h2) :
    Sim T F' m h2 H' ∧ Ext F m H F' m H' := by
  obtain ⟨l, g1, g2⟩ := putBack_at e nd
  obtain ⟨t, et, nt⟩ := Xc.pre
  have sub : ∀ a ∈ as, a ∈ m := fun a ha => x.mem ha
  refine ⟨⟨Sc.sub, by rw [l]; exact S.len, S.nd, fun i c a e1 e2 => ?_⟩, ⟨Xc.sub, ⟨[], by simp, by simp⟩, fun a o q n => Xc.keep a o q fun z => n (sub a z), fun a o q n => ?_⟩⟩
  · by_cases hi : i ∈ rs
    · obtain ⟨j, hj, ej⟩ := List.mem_iff_getElem.mp hi
      have ej' : rs[j]? = some i := by rw [List.getElem?_eq_getElem hj, ej]
      obtain ⟨a', h1, h2'⟩ := x.get' ej'
      rw [e2] at h2'
      cases h2'
      have hil : i < h.length := by rw [← S.len]; exact (List.getElem?_eq_some_iff.mp e2).1
      obtain ⟨c', k1, k2, k3⟩ := g2 j i ej' hil
      rw [e1] at k3
      cases k3
      have mcj : mc[j]? = some a := by
        rw [et, List.getElem?_append_left (List.getElem?_eq_some_iff.mp h1).1]
        exact h1
      exact flatC_up k2 (Sc.cell j c a k1 mcj)
    · rw [g1 i hi] at e1
      have na : a ∉ as := fun z => by
        obtain ⟨j, hj, ej⟩ := List.mem_iff_getElem.mp z
        obtain ⟨i', h1, h2'⟩ := x.get (j := j) (a := a) (by rw [List.getElem?_eq_getElem hj, ej])
        exact hi (ix_inj S.nd e2 h2' ▸ List.mem_of_getElem? h1)
      have r := S.cell i c a e1 e2
      cases c with
      | lst ws =>
        obtain ⟨z, vs, q, rs'⟩ := r
        refine ⟨?_, vs, Xc.keep a _ q na, rs'.up Xc.sub ⟨[], by simp⟩⟩
        cases q2 : F' a with
        | none => rfl
        | some o =>
          rcases Xc.new a o q2 z with w | w
          · rw [q] at w; cases w
          · exact absurd w na
      | frz y =>
        obtain ⟨⟨o, q⟩, d⟩ := r
        exact ⟨⟨o, Xc.sub _ _ q⟩, Dq.up Xc.sub d⟩
      | ins _ _ =>
        obtain ⟨z, dx, gs, q, rs'⟩ := r
        refine ⟨?_, dx, gs, Xc.keep a _ q na, rs'.up Xc.sub ⟨[], by simp⟩⟩
        cases q2 : F' a with
        | none => rfl
        | some o =>
          rcases Xc.new a o q2 z with w | w
          · rw [q] at w; cases w
          · exact absurd w na
  · rcases Xc.new a o q n with z | z
    · exact .inl z
    · exact .inr (sub a z)
/-- what a call hands back -/
theorem res_ok {rs : List Nat} {hc : List Cell} {as mc : List Addr} {h2 : MH} {mu : Bool} {w : W} {v : V} {k : W → Hp → List Addr → MH → Hp → Prop} (S : Sim T F m h H) (nd : rs.Nodup) (x : Ats m rs as) (Sc : Sim T F' mc hc H') (Xc : Ext F as H F' mc H')
    (e : putBack h rs hc = some h2) (rw' : WR T F' mc w v) (R : Run T Wx σ0 F m H (resW mu rs w hc h2) k) : ∃ w2 F2 m2 h3, WR T F2 m2 w2 v ∧ k w2 F2 m2 h3 H' := by
  obtain ⟨S2, X2⟩ := sim_back S nd x Sc Xc e
  obtain ⟨t, et, nt⟩ := Xc.pre
  have plain : ∀ {u : W}, (∀ i, u ≠ .ref i) → WR T F' mc u v → WR T F' m u v := fun {u} hu r => by
    cases u with
    | ref i => exact absurd rfl (hu i)
    | d x => exact r
    | fn x => exact r
    | ex c x => exact r
    | ro xs => exact r
  cases w with
  | ref j =>
    obtain ⟨a, ea, rfl⟩ := rw'
    unfold resW at R
    simp only at R
    split at R
    · rename_i i ei
      obtain ⟨a', h1, h2'⟩ := x.get' ei
      have : mc[j]? = some a' := by
        rw [et, List.getElem?_append_left (List.getElem?_eq_some_iff.mp h1).1]
        exact h1
      rw [ea] at this
      cases this
      exact ⟨.ref i, F', m, h2, ⟨a, h2', rfl⟩, R _ _ _ S2 X2⟩
    · rename_i ei
      have hj : rs.length ≤ j := List.getElem?_eq_none_iff.mp ei
      have la : as.length = rs.length := (Paired.length x).symm
      have hat : a ∈ t := by
        rw [et, List.getElem?_append_right (by omega)] at ea
        exact List.mem_of_getElem? ea
      have nH := nt a hat
      have nm := S.notM nH
      split at R
      · rename_i ws e1
        obtain ⟨nF, vs, eH, rs'⟩ := Sc.cell j _ a e1 ea
        split at R
        · rename_i ds e2
          have d := wrs_toDs e2 rs'
          split at R
          · refine ⟨.ref h2.length, F', m ++ [a], h2 ++ [.lst ws], ⟨a, ?_, rfl⟩, R _ _ _ ⟨S2.sub, by simp [S2.len], ?_, fun i c b e3 e4 => ?_⟩ ⟨X2.sub, ⟨[a], rfl, by simpa using nH⟩, X2.keep, X2.new⟩⟩
            · rw [← S2.len, List.getElem?_append_right (Nat.le_refl _), Nat.sub_self]
              rfl
            · rw [List.nodup_append]
              exact ⟨S.nd, by simp, fun b hb c hc => by simp at hc; subst hc; exact fun e => nm (e ▸ hb)⟩
            · by_cases hi : i < h2.length
              · rw [List.getElem?_append_left hi] at e3
                rw [List.getElem?_append_left (by rw [S2.len]; exact hi)] at e4
                have q := S2.cell i c b e3 e4
                cases c with
                | lst us =>
                  obtain ⟨z, xs, q, rs2⟩ := q
                  exact ⟨z, xs, q, rs2.up (fun _ _ e => e) ⟨[a], rfl⟩⟩
                | frz y => exact q
                | ins _ _ =>
                  obtain ⟨z, dx, gs, q, rs2⟩ := q
                  exact ⟨z, dx, gs, q, rs2.up (fun _ _ e => e) ⟨[a], rfl⟩⟩
              · have hl : i < (h2 ++ [Cell.lst ws]).length := (List.getElem?_eq_some_iff.mp e3).1
                rw [List.length_append] at hl
                have hi' : i = h2.length := by simp at hl; omega
                subst hi'
                rw [List.getElem?_append_right (Nat.le_refl _), Nat.sub_self] at e3
                rw [List.getElem?_append_right (by rw [S2.len]; exact Nat.le_refl _), S2.len, Nat.sub_self] at e4
                cases e3
                cases e4
                refine ⟨nF, vs, eH, ?_⟩
                rw [toDs_eq e2]
                exact d_wrs d
          · -- it is data from now on
            have sF : ∀ b o, F' b = some o → upd F' a (.lst vs) b = some o := fun b o q => by rw [upd_ne (ne_of_none q nF)]; exact q
            refine ⟨.d (.list ds), upd F' a (.lst vs), m, h2, .lst upd_same (DqAll.up sF d), R _ _ _ ⟨fun b o q => ?_, S2.len, S2.nd, fun i c b e3 e4 => ?_⟩ ⟨fun b o q => sF b o (X2.sub _ _ q), X2.pre, X2.keep, fun b o q n => ?_⟩⟩
            · by_cases hb : b = a
              · subst hb; rw [upd_same] at q; cases q; exact eH
              · rw [upd_ne hb] at q; exact S2.sub _ _ q
            · have hb : b ≠ a := fun z => nm (z ▸ List.mem_of_getElem? e4)
              have q := S2.cell i c b e3 e4
              cases c with
              | lst us =>
                obtain ⟨z, xs, q, rs2⟩ := q
                exact ⟨by rw [upd_ne hb]; exact z, xs, q, rs2.up sF ⟨[], by simp⟩⟩
              | frz y =>
                obtain ⟨⟨o, q⟩, d⟩ := q
                exact ⟨⟨o, sF _ _ q⟩, Dq.up sF d⟩
              | ins _ _ =>
                obtain ⟨z, dx, gs, q, rs2⟩ := q
                exact ⟨by rw [upd_ne hb]; exact z, dx, gs, q, rs2.up sF ⟨[], by simp⟩⟩
            · by_cases hb : b = a
              · exact .inl (hb ▸ nH)
              · rw [upd_ne hb] at q; exact X2.new b o q n
        · exact R.elim
      · rename_i y e1
        obtain ⟨_, d⟩ := Sc.cell j _ a e1 ea
        exact ⟨.d y, F', m, h2, d, R _ _ _ S2 X2⟩
      · exact R.elim
  | d y => exact ⟨_, _, _, _, plain (fun _ => by simp) rw', R _ _ _ S2 X2⟩
  | fn y => exact ⟨_, _, _, _, plain (fun _ => by simp) rw', R _ _ _ S2 X2⟩
  | ex c y => exact ⟨_, _, _, _, plain (fun _ => by simp) rw', R _ _ _ S2 X2⟩
  | ro y => exact ⟨_, _, _, _, plain (fun _ => by simp) rw', R _ _ _ S2 X2⟩
/-- a call of the small evaluator gives the callee's promise -/
theorem call_sp {Φ : Nat → List W → M W} {mu : Bool} {f np : Nat} {ws : List W} {vs : List V} {σ : L2.St} {Q : VK} (hn : vs.length = np) (S : Sim T F m h H) (r : WRs T F m ws vs)
    (R : Run T Wx σ F m H (callW Φ mu f ws h) fun w F' m' _ H' => ∀ v, WR T F' m' w v → Q v H') : spF T Φ f np vs H Q fun cls d H' => Wx cls d σ H' := by
  unfold callW at R
  split at R
  · rename_i c
    have nd := nodupN_iff c
    split at R
    · rename_i cs e
      obtain ⟨as, x, rn⟩ := wrs_renum r
      have Sc := sim_callee S nd e x
      refine ⟨hn, F, as, cs, renum 0 ws, Sc, rn [], ?_⟩
      split at R
      · rename_i w hc e1
        try rw [e1]
        split at R
        · rename_i h2 e2
          intro F' m' H' v Sc' Xc q
          obtain ⟨w2, F2, m2, h3, q2, k⟩ := res_ok S nd x Sc' Xc e2 q R
          exact k v q2
        · exact R.elim
      · rename_i ex hc e1
        try rw [e1]
        split at R
        · rename_i h2 e2
          intro F' m' H' cls d Sc' Xc q
          obtain ⟨S2, X2⟩ := sim_back S nd x Sc' Xc e2
          exact R _ _ _ cls d S2 X2 q
        · exact R.elim
      · exact R.elim
    · exact R.elim
  · exact R.elim
end Mi

set_option maxRecDepth 100000
set_option maxHeartbeats 1000000
/-! Mi, seventh part: does a small text stand for a text of Python? -/
namespace Mi
open PySem PySem.Spec PyProof.Rows L2
/-- a class of instances: its name, its fields, its __init__ (a def's number), its methods -/
structure Ic where
  name : Str
  fields : List Str
  init : Nat
  meths : List (Str × Nat)
/-- what the check knows of the top: the defs by number (name, parameters), the own classes' names, the built-ins that stand -/
structure Info where
  fns : List (Str × Nat)
  clss : List Str
  blts : List Str
  gls : List (Str × PyData)
  tabs : List (Str × List (Str × Nat))
  hot : Bool
  hfns : List Nat
  /-- how many of the defs are the module's own; the others are methods: of the class, by the name -/
  ng : Nat := 1000000
  /-- within a comprehension -/
  inner : Bool := false
  mths : List (Str × Str) := []
  ics : List Ic := []
  /-- own errors with one value: the class's number, the field's name -/
  xis : List (Nat × Str) := []
  /-- their bases' names -/
  xbs : List Str := []
def xiN (I : Info) (c : Nat) : Bool := I.xis.any fun q => q.1 == c
def visB (sc : Scope) (x : Str) : Bool := match sc.names.lookup x with
  | some .local => true
  | some .cell => true
  | some .free => true
  | _ => false
def locB (sc : Scope) (x : Str) : Bool := match sc.names.lookup x with
  | some .local => true
  | some .cell => true
  | _ => false
def loc1 (sc : Scope) (x : Str) : Bool := match sc.names.lookup x with
  | some .local => true
  | _ => false
def glB (sc : Scope) (x : Str) : Bool := match sc.names.lookup x with
  | some .globalImplicit => true
  | _ => false
def dbg (x : Str) : Bool := !(x == ("__debug__" : Str)) && !(x == ("__classdict__" : Str)) && !decide (x = ("__name__" : Str))
def varB (N : List Str) (sc : Scope) (i : Nat) (x : Str) : Bool := decide (N[i]? = some x) && visB sc x && dbg x
def litB : PyData → Const → Bool
  | .none, .none => true
  | .bool a, .bool b => a == b
  | .int a, .int b => a == b
  | .str a, .str b => decide (a = b)
  | _, _ => false
def bltN : Blt → Str
  | .len => "len"
  | .int => "int"
  | .str => "str"
  | .repr => "repr"
  | .all => "all"
  | .any => "any"
  | .tuple => "tuple"
  | .list _ => "list"
  | .abs => "abs"
  | .max => "max"
  | .min => "min"
  | .sum => "sum"
def tyN : Ty → Str
  | .int => "int"
  | .str => "str"
  | .tuple => "tuple"
  | .list => "list"
def mthN : Mth → Str
  | .append => "append"
  | .extend => "extend"
  | .reverse => "reverse"
  | .pop => "pop"
  | .split => "split"
  | .join => "join"
  | .count => "count"
  | .index => "index"
def mthA : Mth → Bool
  | .reverse => false
  | .pop => false
  | _ => true
def starB : Expr → Bool
  | .Starred _ _ => true
  | _ => false
def compB : Expr → Bool
  | .ListComp .. => true
  | .SetComp .. => true
  | .DictComp .. => true
  | _ => false
def setB : Expr → Bool
  | .Set .. => true
  | _ => false
def sliceB : Expr → Bool
  | .Slice .. => true
  | _ => false
def callB : Expr → Bool
  | .Call .. => true
  | _ => false
/-- an expression whose test is its value's truth -/
def plainT : Expr → Bool
  | .UnaryOp .. => false
  | .BoolOp .. => false
  | .IfExp .. => false
  | .Compare .. => false
  | _ => true
def ownN (N : List Str) (own : List Nat) : List (Str × Nat) := own.filterMap fun i => (N[i]?).map fun x => (x, i)
def nmB (N : List Str) (sc : Scope) (fb : Str → Bool) (i : Nat) (x : Str) : Bool := decide (N[i]? = some x) && locB sc x && (fb x || loc1 sc x) && dbg x
def nmsB (N : List Str) (sc : Scope) (fb : Str → Bool) : List Nat → List Expr → Bool
  | [], [] => true
  | i :: is, .Name x _ :: es => nmB N sc fb i x && nmsB N sc fb is es
  | _, _ => false
def tgB (N : List Str) (sc : Scope) (fb : Str → Bool) (tg : List Nat) (tup : Bool) (x : Expr) : Bool := match tup, tg, x with
  | false, [i], .Name n _ => nmB N sc fb i n
  | true, is, .Tuple es _ _ => nmsB N sc fb is es
  | _, _, _ => false
def blkFb (scope : Scope) : Str → Bool := fun x => scope.names.lookup x == some .cell
def tabB (I : Info) (g : Str) (tab : List (Str × Nat)) : Bool := match lookS g I.tabs with
  | some t => decide (t = tab)
  | none => false
def tabNp (I : Info) (tab : List (Str × Nat)) (n : Nat) : Bool := tab.all fun q => match I.fns[q.2]? with
  | some (_, np) => np == n && !I.hfns.contains q.2 && Nat.blt q.2 I.ng
  | none => false
def inOp (neg : Bool) : CmpOp := if neg then .NotIn else .In
/-- a display of texts and plain data -/
def dkB : List (Str × PyData) → List (Option Expr) → List Expr → Bool
  | [], [], [] => true
  | (k, d) :: r, some (.Constant (.str k') _ _) :: ks, .Constant c _ _ :: vs => decide (k = k') && litB d c && dkB r ks vs
  | _, _, _ => false
/-- what an attribute is asked of: a name -/
def attB : Expr → Bool
  | .Name .. => true
  | _ => false
def xfOf (I : Info) (c : Nat) : Str := match I.xis.find? fun q => q.1 == c with
  | some q => q.2
  | none => Str.empty
def fldB (I : Info) (c j : Nat) (f : Str) : Bool := match I.ics[c]? with
  | some ic => decide (ic.fields[j]? = some f)
  | none => false
mutual
def chkE : Info → List Str → E → Scope → Expr → Bool
  | I, N, .var i, sc, x => match x with
    | .Name n _ => varB N sc i n
    | _ => false
  | I, N, .lit d, _, x => match x with
    | .Constant c _ _ => litB d c
    | _ => false
  | I, N, .gl g d, sc, x => match x with
    | .Name n _ => decide (n = g) && glB sc n && dbg n && (match lookS g I.gls with
      | some d' => beqD d d'
      | none => false)
    | _ => false
  | I, N, .bin _ op a b, sc, x => match x with
    | .BinOp a' op' b' _ => decide (op = op') && chkE I N a sc a' && chkE I N b sc b'
    | _ => false
  | I, N, .neg a, sc, x => match x with
    | .UnaryOp .USub a' _ => chkE I N a sc a'
    | _ => false
  | I, N, .not t, sc, x => match x with
    | .UnaryOp .Not a' _ => chkE I N t sc a'
    | _ => false
  | I, N, .and a b, sc, x => match x with
    | .BoolOp .And (a' :: b' :: r) p => chkE I N a sc a' && (match r with
      | [] => chkE I N b sc b'
      | _ :: _ => chkE I N b sc (.BoolOp .And (b' :: r) p))
    | _ => false
  | I, N, .or a b, sc, x => match x with
    | .BoolOp .Or (a' :: b' :: r) p => chkE I N a sc a' && (match r with
      | [] => chkE I N b sc b'
      | _ :: _ => chkE I N b sc (.BoolOp .Or (b' :: r) p))
    | _ => false
  | I, N, .cmp op a b, sc, x => match x with
    | .Compare a' [op'] [b'] _ => decide (op = op') && chkE I N a sc a' && chkE I N b sc b' && !setB b'
    | _ => false
  | I, N, .chain op1 op2 a b c, sc, x => match x with
    | .Compare a' [op1', op2'] [b', c'] _ => decide (op1 = op1') && decide (op2 = op2') && chkE I N a sc a' && chkE I N b sc b' && chkE I N c sc c' && !setB c'
    | _ => false
  | I, N, .ite c a b, sc, x => match x with
    | .IfExp c' a' b' _ => chkT I N c sc c' && chkE I N a sc a' && chkE I N b sc b'
    | _ => false
  | I, N, .tup es, sc, x => match x with
    | .Tuple xs _ _ => chkEs I N es sc xs && Nat.blt xs.length 1000
    | _ => false
  | I, N, .lst _ es, sc, x => match x with
    | .List xs _ => chkEs I N es sc xs && Nat.blt xs.length 1000
    | _ => false
  | I, N, .idx a i, sc, x => match x with
    | .Subscript a' i' _ => chkE I N a sc a' && chkE I N i sc i' && !sliceB i'
    | _ => false
  | I, N, .slice a l u, sc, x => match x with
    | .Subscript a' (.Slice l' u' none _) _ => chkE I N a sc a' && chkP I N l sc l' && chkP I N u sc u'
    | _ => false
  | I, N, .call f _ es, sc, x => match x with
    | .Call (.Name n _) args [] _ => (I.hot == I.hfns.contains f) && Nat.blt f I.ng && glB sc n && dbg n && (match I.fns[f]? with
      | some (g, np) => decide (g = n) && args.length == np
      | none => false) && chkEs I N es sc args
    | _ => false
  | I, N, .callg g tab a es, sc, x => match x with
    | .Call (.Subscript (.Name n _) a' _) (y :: ys) [] _ => (!I.hot) && glB sc n && decide (n = g) && dbg n && tabB I g tab && chkE I N a sc a' && !sliceB a' && chkEs I N es sc (y :: ys) && tabNp I tab (y :: ys).length
    | _ => false
  | I, N, .gdin neg g tab a, sc, x => match x with
    | .Compare a' [op] [.Name n _] _ => decide (op = inOp neg) && glB sc n && decide (n = g) && dbg n && tabB I g tab && chkE I N a sc a'
    | _ => false
  | I, N, .dget ks a, sc, x => match x with
    | .Subscript (.Dict keys vals _) a' _ => dkB ks keys vals && decide ((ks.map (·.1)).Nodup) && Nat.blt ks.length 16 && Nat.blt 0 ks.length && chkE I N a sc a' && !sliceB a'
    | _ => false
  | I, N, .isi a t, sc, x => match x with
    | .Call (.Name n _) [a', .Name tn _] [] _ => decide (n = "isinstance") && glB sc n && I.blts.contains n && decide (tn = tyN t) && glB sc tn && I.blts.contains tn && chkE I N a sc a' && !starB a'
    | _ => false
  | I, N, .isx a c, sc, x => match x with
    | .Call (.Name n _) [a', .Name tn _] [] _ => I.hot && decide (n = "isinstance") && glB sc n && I.blts.contains n && glB sc tn && dbg tn && decide (I.clss[c]? = some tn) && chkE I N a sc a' && !starB a'
    | _ => false
  | I, N, .blt b es, sc, x => match x with
    | .Call (.Name n _) (a1 :: args) [] _ => !I.hot && decide (n = bltN b) && glB sc n && I.blts.contains n && chkEs I N es sc (a1 :: args)
    | _ => false
  | I, N, .meth m a es, sc, x => match x with
    | .Call (.Attribute o nm apos) args [] cpos => decide (nm = mthN m) && (apos.endLine == cpos.line) && !callB o && chkE I N a sc o && chkEs I N es sc args && (match args with
      | [] => !mthA m
      | [_] => mthA m
      | _ => false)
    | _ => false
  | I, N, .fld c a j, sc, x => match x with
    | .Attribute o f _ => fldB I c j f && attB o && chkE I N a sc o
    | _ => false
  | I, N, .mk c f nf es, sc, x => match x with
    | .Call (.Name n _) (y :: ys) [] _ => !I.hot && glB sc n && dbg n && (match I.ics[c]? with
      | some ic => decide (ic.name = n) && ic.init == f && ic.fields.length == nf && Nat.blt nf 900
      | none => false) && !I.hfns.contains f && (match I.fns[f]? with
      | some (_, np) => (y :: ys).length + 1 == np
      | none => false) && chkEs I N es sc (y :: ys)
    | _ => false
  | I, N, .mcall f c _ a es, sc, x => match x with
    | .Call (.Attribute o nm apos) args [] cpos => !I.hot && !I.hfns.contains f && !callB o && (apos.endLine == cpos.line) && (match I.ics[c]? with
      | some ic => (match lookS nm ic.meths with
        | some g => g == f && !ic.fields.contains nm
        | none => false)
      | none => false) && (match I.fns[f]? with
      | some (_, np) => args.length + 1 == np
      | none => false) && Nat.blt args.length 28 && chkE I N a sc o && chkEs I N es sc args
    | _ => false
  | I, N, .exf c a, sc, x => match x with
    | .Attribute o f _ => I.hot && attB o && (decide (xfOf I c = f) && I.xis.any fun q => q.1 == c && decide (q.2 = f)) && chkE I N a sc o
    | _ => false
  | I, N, .comp _ own tg tup it c e, sc, x => match x with
    | .ListComp elt [⟨tgx, itx, ifs, 0⟩] scope _ => !I.hot && !I.inner && blkC N sc scope (ownN N own) && decide ((ownN N own).map (·.2) = own) && decide (own = tg) && tgB N (relS scope sc) (blkFb scope) tg tup tgx && chkIt I N it sc itx && !setB itx && (match ifs with
      | [] => (match c with
        | .yes => true
        | _ => false)
      | [c'] => chkT { I with inner := true } N c (relS scope sc) c'
      | _ => false) && chkE { I with inner := true } N e (relS scope sc) elt
    | _ => false
  | I, N, .noexc (.comp _ own tg tup it c e), sc, x => match x with
    | .ListComp elt [⟨tgx, itx, ifs, 0⟩] scope _ => !I.hot && blkC N sc scope (ownN N own) && decide ((ownN N own).map (·.2) = own) && decide (own = tg) && tgB N (relS scope sc) (blkFb scope) tg tup tgx && chkIt I N it sc itx && !setB itx && (match ifs with
      | [] => (match c with
        | .yes => true
        | _ => false)
      | [c'] => chkT { I with inner := true } N c (relS scope sc) c'
      | _ => false) && chkE { I with inner := true } N e (relS scope sc) elt
    | _ => false
  | I, N, .noexc _, _, _ => false
def chkT : Info → List Str → T → Scope → Expr → Bool
  | I, N, .not t, sc, x => match x with
    | .UnaryOp .Not a' _ => chkT I N t sc a'
    | _ => false
  | I, N, .and a b, sc, x => match x with
    | .BoolOp .And (a' :: b' :: r) p => chkT I N a sc a' && (match r with
      | [] => chkT I N b sc b'
      | _ :: _ => chkT I N b sc (.BoolOp .And (b' :: r) p))
    | _ => false
  | I, N, .or a b, sc, x => match x with
    | .BoolOp .Or (a' :: b' :: r) p => chkT I N a sc a' && (match r with
      | [] => chkT I N b sc b'
      | _ :: _ => chkT I N b sc (.BoolOp .Or (b' :: r) p))
    | _ => false
  | I, N, .val e, sc, x => chkE I N e sc x && (plainT x || match e with
    | .cmp .. => true
    | .chain .. => true
    | .gdin .. => true
    | _ => false)
  | I, N, .yes, _, _ => false
def chkP : Info → List Str → Pt → Scope → Option Expr → Bool
  | I, N, .no, _, x => match x with
    | none => true
    | some _ => false
  | I, N, .at e, sc, x => match x with
    | some y => chkE I N e sc y
    | none => false
def chkEs : Info → List Str → Es → Scope → List Expr → Bool
  | I, N, .nil, _, xs => xs.isEmpty
  | I, N, .cons e es, sc, xs => match xs with
    | x :: r => !starB x && chkE I N e sc x && chkEs I N es sc r
    | [] => false
def chkIt : Info → List Str → It → Scope → Expr → Bool
  | I, N, .over e, sc, x => chkE I N e sc x
  | I, N, .rng1 e, sc, x => match x with
    | .Call (.Name n _) [a] [] _ => decide (n = "range") && glB sc n && I.blts.contains n && chkE I N e sc a && !starB a
    | _ => false
  | I, N, .rng2 a b, sc, x => match x with
    | .Call (.Name n _) [a', b'] [] _ => decide (n = "range") && glB sc n && I.blts.contains n && chkE I N a sc a' && chkE I N b sc b' && !starB a' && !starB b'
    | _ => false
end
end Mi

set_option maxRecDepth 100000
set_option maxHeartbeats 2000000
/-! Mi, eighth part: the rules of expressions. -/
namespace Mi
open PySem PySem.Spec PyProof.Rows L2
variable {T : Top} {F F' F0 F1 : Hp} {m m' m0 m1 : List Addr} {h h' : MH} {H H' H0 H1 : Hp} {Wx : WX} {σ0 : L2.St}

/-! ### readings -/
section
variable (T) (Φ : Nat → List W → M W) (Wx : WX)
/-- the state that the small evaluator sees -/
structure At (σ : L2.St) (F : Hp) (m : List Addr) (h : MH) (env : Ev) (H : Hp) : Prop where
  sim : Sim T F m h H
  env : EnvR T F m env σ
def tE (e : E) : TE := fun σ H Q => ∃ F m h env, At T σ F m h env H ∧ Run T Wx σ F m H (evE Φ e env h) fun w F' m' _ H' => ∀ v, WR T F' m' w v → Q v H'
def tT (t : Mi.T) : TT := fun σ H Q => ∃ F m h env, At T σ F m h env H ∧ Run T Wx σ F m H (evT Φ t env h) fun b _ _ _ H' => Q b H'
def tEs (es : Es) : TA := fun σ H Q => ∃ F m h env, At T σ F m h env H ∧ Run T Wx σ F m H (evEs Φ es env h) fun ws F' m' _ H' => ∀ vs, WRs T F' m' ws vs → Q vs H'
/-- the iterator J walks the items of the source -/
def JOk (J : L2.It) (src : Src) (F0 : Hp) (m0 : List Addr) (H0 : Hp) : Prop := ∀ (i : Nat) (F : Hp) (m : List Addr) (h : MH) (H : Hp), Sim T F m h H → Ext F0 m0 H0 F m H → srcOk src h = true →
  (∀ w, src.1[i]? = some w → J.go i H ∧ ∀ x H1, J.yld i H x H1 → ∃ F1, Sim T F1 m h H1 ∧ Ext F m H F1 m H1 ∧ WR T F1 m w x) ∧ (src.1.length ≤ i → J.stop i H)
def tIt (it : Mi.It) : TI := fun σ H R => ∃ F m h env, At T σ F m h env H ∧ Run T Wx σ F m H (evIt Φ it env h) fun src F' m' h' H' => srcOk src h' = true ∧ ∀ J, JOk T J src F' m' H' → R J H'
end
theorem At.step {σ : L2.St} {env : Ev} (a : At T σ F m h env H) (S : Sim T F' m' h' H') (X : Ext F m H F' m' H') : At T σ F' m' h' env H' := ⟨S, a.env.ext X⟩

theorem _root_.L2.PE.imp {X : Cx} {e : Expr} {t t' : TE} (p : PE X e t) (f : ∀ σ H Q, t' σ H Q → t σ H Q) : PE X e t' := ⟨fun pins s σ H Q I h => p.run pins s σ H Q I (f _ _ _ h)⟩
theorem _root_.L2.PT.imp {X : Cx} {e : Expr} {t t' : TT} (p : PT X e t) (f : ∀ σ H Q, t' σ H Q → t σ H Q) : PT X e t' := ⟨fun pins s σ H Q I h => p.run pins s σ H Q I (f _ _ _ h)⟩
theorem _root_.L2.PA.imp {X : Cx} {e : List Expr} {t t' : TA} (p : PA X e t) (f : ∀ σ H Q, t' σ H Q → t σ H Q) : PA X e t' := ⟨fun pos pins s σ H Q I h => p.run pos pins s σ H Q I (f _ _ _ h)⟩
theorem Run.impE {α : Type} {r : R α} {k k' : α → Hp → List Addr → MH → Hp → Prop} (x : Run T Wx σ0 F m H r k) (f : ∀ a F' m' h' H', r = .ok a h' → Sim T F' m' h' H' → Ext F m H F' m' H' → k a F' m' h' H' → k' a F' m' h' H') : Run T Wx σ0 F m H r k' := by
  cases r with
  | ok a h1 => exact fun F1 m1 H1 S1 X1 => f _ _ _ _ _ rfl S1 X1 (x F1 m1 H1 S1 X1)
  | exc e h1 => exact x
  | stuck => exact x
/-- from a run at a base to a run from where one stands -/
theorem Run.at {α β : Type} {r : R α} {f : α → M β} {k : β → Hp → List Addr → MH → Hp → Prop} (x : Run T Wx σ0 F0 m0 H0 (r.bind f) k) (X : Ext F0 m0 H0 F m H) :
    Run T Wx σ0 F m H r (fun a _ _ h' _ => Run T Wx σ0 F0 m0 H0 (f a h') k) := by
  cases r with
  | ok a h1 => exact fun _ _ _ _ _ => x
  | exc e h1 => exact fun F' m' H' cls d S' X' q => x F' m' H' cls d S' (X.trans X' S'.nd) q
  | stuck => exact x

section
variable {Φ : Nat → List W → M W} {X : Cx} {pos : Pos} {a b c : E} {xa xb xc : Expr}
/-! ### two in a row, three in a row -/
theorem tE_two {σ : L2.St} {env : Ev} {f : W → W → M W} {k : W → Hp → List Addr → MH → Hp → Prop} (A : At T σ F m h env H)
    (R : Run T Wx σ F m H ((evE Φ a env h).bind fun x h => (evE Φ b env h).bind fun y h => f x y h) k) {K : V → V → Hp → Prop}
    (g : ∀ w1 w2 x y F' m' h' H', At T σ F' m' h' env H' → WR T F' m' w1 x → WR T F' m' w2 y → Run T Wx σ F' m' H' (f w1 w2 h') k → K x y H') :
    tE T Φ Wx a σ H fun x H1 => tE T Φ Wx b σ H1 fun y H2 => K x y H2 := by
  refine ⟨F, m, h, env, A, R.bind.imp fun w1 F1 m1 h1 H1 S1 X1 R1 x r1 => ⟨F1, m1, h1, env, A.step S1 X1, R1.bind.imp fun w2 F2 m2 h2 H2 S2 X2 R2 y r2 => ?_⟩⟩
  exact g w1 w2 x y F2 m2 h2 H2 ((A.step S1 X1).step S2 X2) (r1.ext X2) r2 R2
theorem pe_bin' {nw : Bool} {op : Operator} (hK : X.K = T.K) (ha : PE X xa (tE T Φ Wx a)) (hb : PE X xb (tE T Φ Wx b)) : PE X (.BinOp xa op xb pos) (tE T Φ Wx (.bin nw op a b)) :=
  (pe_op (or_bin (nw := nw) hK) ha hb).imp fun σ H Q ⟨F, m, h, env, A, R⟩ => tE_two A (f := binV nw op) R fun w1 w2 x y F' m' h' H' A' r1 r2 R' => ⟨Wx, σ, F', m', h', w1, w2, A'.sim, r1, r2, R'⟩
theorem cmp_use {σ : L2.St} {op : CmpOp} {w1 w2 : W} {x y : V} {Q : VK} (S : Sim T F m h H) (r1 : WR T F m w1 x) (r2 : WR T F m w2 y) (R : Run T Wx σ F m H (Mi.lift ((cmpV op w1 w2 h).map fun c => W.d (.bool c)) h) fun w F' m' _ H' => ∀ v, WR T F' m' w v → Q v H') :
    rCmp T op x y H Q := by
  obtain ⟨b, e, k⟩ := Run.liftM S R
  exact ⟨F, m, h, w1, w2, b, S, r1, r2, e, k _ (.bl b)⟩
theorem pe_cmp' {op : CmpOp} (hK : X.K = T.K) (hu : X.A.units + 150 < cLine) (ha : PE X xa (tE T Φ Wx a)) (hb : PE X xb (tE T Φ Wx b)) (hm : behindInMarks op xb = false) : PE X (.Compare xa [op] [xb] pos) (tE T Φ Wx (.cmp op a b)) :=
  (pe_cmpR (or_cmp hK hu) ha hb hm).imp fun σ H Q ⟨F, m, h, env, A, R⟩ => tE_two A (f := fun x y h => Mi.lift ((cmpV op x y h).map fun c => W.d (.bool c)) h) R fun w1 w2 x y F' m' h' H' A' r1 r2 R' => cmp_use A'.sim r1 r2 R'
theorem lift_bool {o : Option Bool} {w : W} {h h' : MH} (e : Mi.lift (o.map fun c => W.d (.bool c)) h = .ok w h') : ∃ b, w = .d (.bool b) := by
  cases o with
  | none => cases e
  | some b => cases e; exact ⟨b, rfl⟩
theorem cmp_bool {op : CmpOp} {env : Ev} {w : W} {h h' : MH} (e : evE Φ (.cmp op a b) env h = .ok w h') : ∃ b, w = .d (.bool b) := by
  simp only [evE] at e
  cases e1 : evE Φ a env h with
  | ok x h1 =>
    rw [e1] at e
    simp only [R.bind] at e
    cases e2 : evE Φ b env h1 with
    | ok y h2 => rw [e2] at e; exact lift_bool e
    | exc _ _ => rw [e2] at e; cases e
    | stuck => rw [e2] at e; cases e
  | exc _ _ => rw [e1] at e; cases e
  | stuck => rw [e1] at e; cases e
theorem chain_bool {op op' : CmpOp} {env : Ev} {w : W} {h h' : MH} (e : evE Φ (.chain op op' a b c) env h = .ok w h') : ∃ b, w = .d (.bool b) := by
  simp only [evE] at e
  cases e1 : evE Φ a env h with
  | ok x h1 =>
    rw [e1] at e
    simp only [R.bind] at e
    cases e2 : evE Φ b env h1 with
    | ok y h2 =>
      rw [e2] at e
      simp only [R.bind] at e
      split at e
      · cases e3 : evE Φ c env h2 with
        | ok z h3 => rw [e3] at e; exact lift_bool e
        | exc _ _ => rw [e3] at e; cases e
        | stuck => rw [e3] at e; cases e
      · cases e; exact ⟨_, rfl⟩
      · cases e
    | exc _ _ => rw [e2] at e; cases e
    | stuck => rw [e2] at e; cases e
  | exc _ _ => rw [e1] at e; cases e
  | stuck => rw [e1] at e; cases e
/-- a test whose value is a truth value -/
theorem tst_use {σ : L2.St} {e : E} {env : Ev} {Q : Bool → Hp → Prop} (hb : ∀ w h', evE Φ e env h = .ok w h' → ∃ b, w = .d (.bool b)) (A : At T σ F m h env H)
    (R : Run T Wx σ F m H ((evE Φ e env h).bind fun x h => Mi.lift (truV x h) h) fun b _ _ _ H' => Q b H') : tE T Φ Wx e σ H fun x H' => ∃ k, x = .bl k ∧ Q k H' :=
  ⟨F, m, h, env, A, R.bind.impE fun w F1 m1 h1 H1 ew S1 X1 R1 x r => by
    obtain ⟨b, rfl⟩ := hb w h1 ew
    exact ⟨b, bool_inv r, Run.here S1 R1⟩⟩
theorem pt_cmp' {op : CmpOp} (hK : X.K = T.K) (hu : X.A.units + 150 < cLine) (ha : PE X xa (tE T Φ Wx a)) (hb : PE X xb (tE T Φ Wx b)) (hm : behindInMarks op xb = false) : PT X (.Compare xa [op] [xb] pos) (tT T Φ Wx (.val (.cmp op a b))) :=
  (pt_cmpR (or_cmp hK hu) ha hb hm).imp fun σ H Q ⟨F, m, h, env, A, R⟩ => by
    obtain ⟨F, m, h, env, A, R⟩ := tst_use (e := .cmp op a b) (fun _ _ e => cmp_bool e) A R
    exact tE_two A (f := fun x y h => Mi.lift ((cmpV op x y h).map fun c => W.d (.bool c)) h) R fun w1 w2 x y F' m' h' H' A' r1 r2 R' => cmp_use A'.sim r1 r2 R'
theorem pe_one' {x : V} {d : PyData} {e : E} (he : ∀ Φ env h, evE Φ e env h = .ok (.d d) h) (hx : ∀ F, Dq T.K F x d) {σ : L2.St} {Q : VK} : tE T Φ Wx e σ H Q → Q x H := fun ⟨F, m, h, env, A, R⟩ => by
  rw [he] at R
  exact Run.here A.sim R x (hx _)
theorem lit_ok {d : PyData} {k : Const} {j : Nat} (hl : litB d k = true) : PE X (.Constant k j pos) (tE T Φ Wx (.lit d)) := by
  unfold litB at hl
  split at hl
  · exact pe_non.imp fun σ H Q q => pe_one' (fun _ _ _ => rfl) (fun _ => .non) q
  · rename_i a b
    have e : a = b := by simpa using hl
    subst e
    exact pe_bl.imp fun σ H Q q => pe_one' (fun _ _ _ => rfl) (fun _ => .bl _) q
  · rename_i a b
    have e : a = b := by simpa using hl
    subst e
    exact pe_int.imp fun σ H Q q => pe_one' (fun _ _ _ => rfl) (fun _ => .int _) q
  · rename_i a b
    have e : a = b := by simpa using hl
    subst e
    exact pe_str.imp fun σ H Q q => pe_one' (fun _ _ _ => rfl) (fun _ => .str _) q
  · cases hl
theorem visB_iff {sc : Scope} {x : Str} (hv : visB sc x = true) : Vis sc x := by
  unfold visB at hv
  split at hv
  · exact .inl (by assumption)
  · exact .inr (.inl (by assumption))
  · exact .inr (.inr (by assumption))
  · cases hv
theorem locB_iff {sc : Scope} {x : Str} (hv : locB sc x = true) : Loc sc x := by
  unfold locB at hv
  split at hv
  · exact .inl (by assumption)
  · exact .inr (by assumption)
  · cases hv
theorem loc1_iff {sc : Scope} {x : Str} (hv : loc1 sc x = true) : sc.names.lookup x = some .local := by
  unfold loc1 at hv
  split at hv
  · assumption
  · cases hv
theorem glB_iff {sc : Scope} {x : Str} (hv : glB sc x = true) : sc.names.lookup x = some .globalImplicit := by
  unfold glB at hv
  split at hv
  · assumption
  · cases hv
theorem dbg_iff {x : Str} (hv : dbg x = true) : (x == ("__debug__" : Str)) = false ∧ (x == ("__classdict__" : Str)) = false ∧ x ≠ "__name__" := by
  unfold dbg at hv
  simp only [Bool.and_eq_true, Bool.not_eq_true', decide_eq_false_iff_not] at hv
  exact ⟨hv.1.1, hv.1.2, hv.2⟩
theorem var_ok {i : Nat} {x : Str} {N : List Str} (hN : X.N = N) (hl : varB N X.env.scope i x = true) : PE X (.Name x pos) (tE T Φ Wx (.var i)) := by
  unfold varB at hl
  simp only [Bool.and_eq_true, decide_eq_true_eq] at hl
  obtain ⟨d1, d2, _⟩ := dbg_iff hl.2
  refine (pe_var (i := i) (by rw [hN]; exact hl.1.1) (visB_iff hl.1.2) d1 d2).imp fun σ H Q ⟨F, m, h, env, A, R⟩ => ?_
  obtain ⟨w, e, k⟩ := Run.lift A.sim R
  have e' : env[i]? = some (some w) := by
    cases q : env[i]? with
    | none => rw [q] at e; cases e
    | some o =>
      rw [q] at e
      cases o with
      | none => cases e
      | some u => cases e; rfl
  obtain ⟨v, e1, r⟩ := A.env.2 i w e'
  exact ⟨v, e1, k v r⟩
theorem neg_ok (ha : PE X xa (tE T Φ Wx a)) : PE X (.UnaryOp .USub xa pos) (tE T Φ Wx (.neg a)) :=
  (pe_un un_neg ha).imp fun σ H Q ⟨F, m, h, env, A, R⟩ => ⟨F, m, h, env, A, R.bind.imp fun w F1 m1 h1 H1 S1 X1 R1 x r => by
    revert R1
    split
    · intro R1
      cases int_inv r
      exact ⟨_, rfl, Run.here S1 R1 _ (.int _)⟩
    · intro R1; exact R1.elim⟩
/-! ### tests -/
variable {t u : Mi.T}
theorem not_t (ha : PT X xa (tT T Φ Wx t)) : PT X (.UnaryOp .Not xa pos) (tT T Φ Wx (.not t)) :=
  (pt_not ha).imp fun σ H Q ⟨F, m, h, env, A, R⟩ => ⟨F, m, h, env, A, R.bind.imp fun b F1 m1 h1 H1 S1 X1 R1 => Run.here S1 R1⟩
theorem not_ok (hK : X.K = T.K) (ha : PE X xa (tE T Φ Wx a)) : PE X (.UnaryOp .Not xa pos) (tE T Φ Wx (.not a)) :=
  (pe_notT ha).imp fun σ H Q ⟨F, m, h, env, A, R⟩ => ⟨F, m, h, env, A, R.bind.imp fun w F1 m1 h1 H1 S1 X1 R1 x r => by
    obtain ⟨b, e, k⟩ := Run.liftM S1 R1
    exact ⟨b, tru_ok' hK S1 r e, k _ (.bl _)⟩⟩
theorem _root_.L2.PT.pw {e : Expr} {tt : TT} (p : PT X e tt) (he : ∀ w w', isTrue e X.env w = isTrue e X.env w') : PW X e tt := ⟨fun whole pins s σ H Q I h => by
  rw [he whole (eval e X.env)]
  exact p.run pins s σ H Q I h⟩
theorem and_use {σ : L2.St} {Q : Bool → Hp → Prop} : tT T Φ Wx (.and t u) σ H Q → tAnd (tT T Φ Wx t) (tT T Φ Wx u) σ H Q := fun ⟨F, m, h, env, A, R⟩ => ⟨F, m, h, env, A, R.bind.imp fun b F1 m1 h1 H1 S1 X1 R1 => by
  cases b with
  | true => exact ⟨F1, m1, h1, env, A.step S1 X1, R1⟩
  | false => exact Run.here S1 R1⟩
theorem or_use {σ : L2.St} {Q : Bool → Hp → Prop} : tT T Φ Wx (.or t u) σ H Q → tOr (tT T Φ Wx t) (tT T Φ Wx u) σ H Q := fun ⟨F, m, h, env, A, R⟩ => ⟨F, m, h, env, A, R.bind.imp fun b F1 m1 h1 H1 S1 X1 R1 => by
  cases b with
  | true => exact Run.here S1 R1
  | false => exact ⟨F1, m1, h1, env, A.step S1 X1, R1⟩⟩
theorem and_t1 (ha : PT X xa (tT T Φ Wx t)) (hb : PT X xb (tT T Φ Wx u)) : PT X (.BoolOp .And [xa, xb] pos) (tT T Φ Wx (.and t u)) := (PW.pt (pw_and ha (pw_and1 hb))).imp fun _ _ _ => and_use
theorem or_t1 (ha : PT X xa (tT T Φ Wx t)) (hb : PT X xb (tT T Φ Wx u)) : PT X (.BoolOp .Or [xa, xb] pos) (tT T Φ Wx (.or t u)) := (PW.pt (pw_or ha (pw_or1 hb))).imp fun _ _ _ => or_use
theorem and_t {r : List Expr} (ha : PT X xa (tT T Φ Wx t)) (hb : PT X (.BoolOp .And (xb :: r) pos) (tT T Φ Wx u)) : PT X (.BoolOp .And (xa :: xb :: r) pos) (tT T Φ Wx (.and t u)) :=
  (PW.pt (pw_and ha (hb.pw fun _ _ => rfl))).imp fun _ _ _ => and_use
theorem or_t {r : List Expr} (ha : PT X xa (tT T Φ Wx t)) (hb : PT X (.BoolOp .Or (xb :: r) pos) (tT T Φ Wx u)) : PT X (.BoolOp .Or (xa :: xb :: r) pos) (tT T Φ Wx (.or t u)) :=
  (PW.pt (pw_or ha (hb.pw fun _ _ => rfl))).imp fun _ _ _ => or_use
theorem val_t (hK : X.K = T.K) (ha : PE X xa (tE T Φ Wx a)) (hp : plainT xa = true) (ht : ∀ env h, evT Φ (.val a) env h = (evE Φ a env h).bind fun x h => Mi.lift (truV x h) h := by intros; rfl) : PT X xa (tT T Φ Wx (.val a)) := by
  refine (pt_truth ha (fun w => ?_)).imp fun σ H Q ⟨F, m, h, env, A, R⟩ => ?_
  · cases xa <;> first | rfl | (cases hp)
  · rw [ht] at R
    exact ⟨F, m, h, env, A, R.bind.imp fun w F1 m1 h1 H1 S1 X1 R1 x r => by
      obtain ⟨b, e, k⟩ := Run.lift S1 R1
      exact ⟨b, tru_ok' hK S1 r e, k⟩⟩
/-! ### and, or as values -/
theorem andv_use {σ : L2.St} {Q : VK} (hK : X.K = T.K) : tE T Φ Wx (.and a b) σ H Q → tAndT X.K (tE T Φ Wx a) (tE T Φ Wx b) σ H Q := fun ⟨F, m, h, env, A, R⟩ => ⟨F, m, h, env, A, R.bind.imp fun w F1 m1 h1 H1 S1 X1 R1 x r => by
  cases e : truV w h1 with
  | none => rw [e] at R1; exact R1.elim
  | some k =>
    rw [e] at R1
    refine ⟨k, tru_ok' hK S1 r e, ?_⟩
    cases k with
    | true => exact ⟨F1, m1, h1, env, A.step S1 X1, R1⟩
    | false => exact Run.here S1 R1 x r⟩
theorem orv_use {σ : L2.St} {Q : VK} (hK : X.K = T.K) : tE T Φ Wx (.or a b) σ H Q → tOrT X.K (tE T Φ Wx a) (tE T Φ Wx b) σ H Q := fun ⟨F, m, h, env, A, R⟩ => ⟨F, m, h, env, A, R.bind.imp fun w F1 m1 h1 H1 S1 X1 R1 x r => by
  cases e : truV w h1 with
  | none => rw [e] at R1; exact R1.elim
  | some k =>
    rw [e] at R1
    refine ⟨k, tru_ok' hK S1 r e, ?_⟩
    cases k with
    | true => exact Run.here S1 R1 x r
    | false => exact ⟨F1, m1, h1, env, A.step S1 X1, R1⟩⟩
theorem and_v1 (hK : X.K = T.K) (ha : PE X xa (tE T Φ Wx a)) (hb : PE X xb (tE T Φ Wx b)) : PE X (.BoolOp .And [xa, xb] pos) (tE T Φ Wx (.and a b)) := (pe_andT ha (pe_one hb)).imp fun _ _ _ => andv_use hK
theorem or_v1 (hK : X.K = T.K) (ha : PE X xa (tE T Φ Wx a)) (hb : PE X xb (tE T Φ Wx b)) : PE X (.BoolOp .Or [xa, xb] pos) (tE T Φ Wx (.or a b)) := (pe_orT ha (pe_one hb)).imp fun _ _ _ => orv_use hK
theorem and_v {r : List Expr} (hK : X.K = T.K) (ha : PE X xa (tE T Φ Wx a)) (hb : PE X (.BoolOp .And (xb :: r) pos) (tE T Φ Wx b)) : PE X (.BoolOp .And (xa :: xb :: r) pos) (tE T Φ Wx (.and a b)) := (pe_andT ha hb).imp fun _ _ _ => andv_use hK
theorem or_v {r : List Expr} (hK : X.K = T.K) (ha : PE X xa (tE T Φ Wx a)) (hb : PE X (.BoolOp .Or (xb :: r) pos) (tE T Φ Wx b)) : PE X (.BoolOp .Or (xa :: xb :: r) pos) (tE T Φ Wx (.or a b)) := (pe_orT ha hb).imp fun _ _ _ => orv_use hK
theorem ite_ok (hc : PT X xc (tT T Φ Wx t)) (ha : PE X xa (tE T Φ Wx a)) (hb : PE X xb (tE T Φ Wx b)) : PE X (.IfExp xc xa xb pos) (tE T Φ Wx (.ite t a b)) :=
  (pe_ifExp hc ha hb).imp fun σ H Q ⟨F, m, h, env, A, R⟩ => ⟨F, m, h, env, A, R.bind.imp fun k F1 m1 h1 H1 S1 X1 R1 => by
    cases k with
    | true => exact ⟨F1, m1, h1, env, A.step S1 X1, R1⟩
    | false => exact ⟨F1, m1, h1, env, A.step S1 X1, R1⟩⟩
theorem chain_use {σ : L2.St} {op op' : CmpOp} {Q : VK} : tE T Φ Wx (.chain op op' a b c) σ H Q → tChain (rCmp T op) (rCmp T op') (tE T Φ Wx a) (tE T Φ Wx b) (tE T Φ Wx c) σ H Q := fun ⟨F, m, h, env, A, R⟩ =>
  ⟨F, m, h, env, A, R.bind.imp fun w1 F1 m1 h1 H1 S1 X1 R1 x r1 => ⟨F1, m1, h1, env, A.step S1 X1, R1.bind.imp fun w2 F2 m2 h2 H2 S2 X2 R2 y r2 => by
    have A2 := (A.step S1 X1).step S2 X2
    cases e : cmpV op w1 w2 h2 with
    | none => rw [e] at R2; exact R2.elim
    | some k =>
      rw [e] at R2
      refine ⟨F2, m2, h2, w1, w2, k, S2, r1.ext X2, r2, e, k, rfl, ?_⟩
      cases k with
      | true => exact ⟨F2, m2, h2, env, A2, R2.bind.imp fun w3 F3 m3 h3 H3 S3 X3 R3 z r3 => cmp_use S3 (r2.ext X3) r3 R3⟩
      | false => exact Run.here S2 R2 _ (.bl false)⟩⟩
theorem chain_ok {op op' : CmpOp} (hK : X.K = T.K) (hu : X.A.units + 150 < cLine) (ha : PE X xa (tE T Φ Wx a)) (hb : PE X xb (tE T Φ Wx b)) (hc : PE X xc (tE T Φ Wx c)) (hm : lastMarks [op, op'] [xb, xc] = false) :
    PE X (.Compare xa [op, op'] [xb, xc] pos) (tE T Φ Wx (.chain op op' a b c)) := (pe_chain (or_cmp hK hu) (or_cmp hK hu) ha hb hc hm).imp fun _ _ _ => chain_use
theorem chain_t {op op' : CmpOp} (hK : X.K = T.K) (hu : X.A.units + 150 < cLine) (ha : PE X xa (tE T Φ Wx a)) (hb : PE X xb (tE T Φ Wx b)) (hc : PE X xc (tE T Φ Wx c)) (hm : lastMarks [op, op'] [xb, xc] = false) :
    PT X (.Compare xa [op, op'] [xb, xc] pos) (tT T Φ Wx (.val (.chain op op' a b c))) :=
  (pt_chain (or_cmp hK hu) (or_cmp hK hu) ha hb hc hm).imp fun σ H Q ⟨F, m, h, env, A, R⟩ => chain_use (tst_use (e := .chain op op' a b c) (fun _ _ e => chain_bool e) A R)
end
end Mi

set_option maxRecDepth 100000
set_option maxHeartbeats 2000000
/-! Mi, ninth part: displays, places, calls, comprehensions. -/
namespace Mi
open PySem PySem.Spec PyProof.Rows L2
variable {T : Top} {F F' F0 F1 : Hp} {m m' m0 m1 : List Addr} {h h' : MH} {H H' H0 H1 : Hp} {Wx : WX} {σ0 : L2.St}

/-! ### arguments -/
theorem star_cons {e : Expr} {es : List Expr} {env : Env} (he : starB e = false) : starEach (e :: es) env = (false, eval e env) :: starEach es env := by
  cases e <;> first | rfl | (cases he)
theorem star_any {env : Env} {pos : Pos} : ∀ {es : List Expr}, (es.all fun e => !starB e) = true → (backTo pos (starEach es env)).any (·.1) = false
  | [], _ => rfl
  | e :: es, h => by
    simp only [List.all_cons, Bool.and_eq_true, Bool.not_eq_true'] at h
    rw [star_cons h.1]
    exact (show (false || (backTo pos (starEach es env)).any (·.1)) = false from by rw [star_any h.2]; rfl)
section
variable {Φ : Nat → List W → M W} {X : Cx} {pos : Pos} {a b c : E} {xa xb xc : Expr} {es : Es} {xs : List Expr}
theorem es_nil : PA X [] (tEs T Φ Wx .nil) := pa_nil.imp fun σ H Q ⟨F, m, h, env, A, R⟩ => Run.here A.sim R [] .nil
theorem es_cons (ha : PE X xa (tE T Φ Wx a)) (hr : PA X xs (tEs T Φ Wx es)) (hs : starB xa = false) : PA X (xa :: xs) (tEs T Φ Wx (.cons a es)) :=
  (pa_cons ha hr (star_cons hs)).imp fun σ H Q ⟨F, m, h, env, A, R⟩ => ⟨F, m, h, env, A, R.bind.imp fun w F1 m1 h1 H1 S1 X1 R1 x r => ⟨F1, m1, h1, env, A.step S1 X1, R1.bind.imp fun ws F2 m2 h2 H2 S2 X2 R2 vs r2 =>
    Run.here S2 R2 (x :: vs) (.cons (r.ext X2) r2)⟩⟩
theorem evEs_len {env : Ev} : ∀ {es : Es} {h h' : MH} {ws : List W}, evEs Φ es env h = .ok ws h' → ∃ n, ws.length = n ∧ ∀ xs : List Expr, ∀ I N sc, chkEs I N es sc xs = true → xs.length = n
  | .nil, h, h', ws, e => by
    cases e
    exact ⟨0, rfl, fun xs I N sc c => by
      simp only [chkEs] at c
      cases xs with
      | nil => rfl
      | cons _ _ => cases c⟩
  | .cons a r, h, h', ws, e => by
    simp only [evEs] at e
    cases e1 : evE Φ a env h with
    | ok w h1 =>
      rw [e1] at e
      simp only [R.bind] at e
      cases e2 : evEs Φ r env h1 with
      | ok us h2 =>
        rw [e2] at e
        cases e
        obtain ⟨n, l, g⟩ := evEs_len e2
        refine ⟨n + 1, by simp [l], fun xs I N sc c => ?_⟩
        cases xs with
        | nil => cases c
        | cons y ys =>
          simp only [chkEs, Bool.and_eq_true] at c
          simp [g ys I N sc c.2]
      | exc _ _ => rw [e2] at e; cases e
      | stuck => rw [e2] at e; cases e
    | exc _ _ => rw [e1] at e; cases e
    | stuck => rw [e1] at e; cases e
theorem tup_e {k : Nat} (hr : PA X xs (tEs T Φ Wx es)) (hl : xs.length < 1000) (hn : ∀ env h ws h', evEs Φ es env h = .ok ws h' → ws.length = xs.length) : PE X (.Tuple xs k pos) (tE T Φ Wx (.tup es)) :=
  (pe_tup hr).imp fun σ H Q ⟨F, m, h, env, A, R⟩ => ⟨F, m, h, env, A, R.bind.impE fun ws F1 m1 h1 H1 ew S1 X1 R1 vs r => by
    have e := hn _ _ _ _ ew
    have l := r.len
    refine ⟨by rw [sizeLine_eq]; omega, ?_⟩
    cases q : toDs ws with
    | none => rw [q] at R1; exact R1.elim
    | some ds =>
      rw [q] at R1
      exact tup_ok S1 (wrs_toDs q r) R1⟩
theorem lst_e {nw : Bool} (hr : PA X xs (tEs T Φ Wx es)) (hl : xs.length < 1000) (hn : ∀ env h ws h', evEs Φ es env h = .ok ws h' → ws.length = xs.length) : PE X (.List xs pos) (tE T Φ Wx (.lst nw es)) :=
  (pe_lst hr).imp fun σ H Q ⟨F, m, h, env, A, R⟩ => ⟨F, m, h, env, A, R.bind.impE fun ws F1 m1 h1 H1 ew S1 X1 R1 vs r => by
    have e := hn _ _ _ _ ew
    have l := r.len
    exact ⟨by rw [sizeLine_eq]; omega, mkL_ok S1 r R1⟩⟩
theorem idx_e (hK : X.K = T.K) (ha : PE X xa (tE T Φ Wx a)) (hb : PE X xb (tE T Φ Wx b)) (hs : sliceB xb = false) : PE X (.Subscript xa xb pos) (tE T Φ Wx (.idx a b)) := by
  refine (pe_ix (ix_ok hK) ha hb (fun o i => ?_)).imp fun σ H Q ⟨F, m, h, env, A, R⟩ => tE_two A (f := fun x y h => Mi.lift (idxV x y h) h) R fun w1 w2 x y F' m' h' H' A' r1 r2 R' => by
    obtain ⟨w, e, k⟩ := Run.lift A'.sim R'
    exact ⟨F', m', h', w1, w2, w, A'.sim, r1, r2, e, k⟩
  cases xb <;> first | rfl | (cases hs)
/-- a slice's end: told or not -/
def tP (Φ : Nat → List W → M W) (Wx : WX) (T : Top) (p : Pt) : TO := fun σ H Q => ∃ F m h env, At T σ F m h env H ∧ Run T Wx σ F m H (evP Φ p env h) fun o _ _ _ H' => Q o H'
theorem _root_.L2.PO.imp {X : Cx} {e : Option Expr} {t t' : TO} (p : PO X e t) (f : ∀ σ H Q, t' σ H Q → t σ H Q) : PO X e t' := ⟨fun pins s σ H Q I h => p.run pins s σ H Q I (f _ _ _ h)⟩
theorem no_p : PO X none (tP Φ Wx T .no) := po_none.imp fun σ H Q ⟨F, m, h, env, A, R⟩ => Run.here A.sim R
theorem at_p (ha : PE X xa (tE T Φ Wx a)) : PO X (some xa) (tP Φ Wx T (.at a)) := (po_some ha).imp fun σ H Q ⟨F, m, h, env, A, R⟩ => ⟨F, m, h, env, A, R.bind.imp fun w F1 m1 h1 H1 S1 X1 R1 x r => by
  revert R1
  split
  · exact fun R1 => ⟨_, int_inv r, Run.here S1 R1⟩
  · exact fun R1 => R1.elim⟩
theorem slice_e {l u : Pt} {xl xu : Option Expr} {p2 : Pos} (hK : X.K = T.K) (ha : PE X xa (tE T Φ Wx a)) (hl : PO X xl (tP Φ Wx T l)) (hu : PO X xu (tP Φ Wx T u)) :
    PE X (.Subscript xa (.Slice xl xu none p2) pos) (tE T Φ Wx (.slice a l u)) :=
  (pe_slice (sl_ok hK) ha hl hu).imp fun σ H Q ⟨F, m, h, env, A, R⟩ => ⟨F, m, h, env, A, R.bind.imp fun w1 F1 m1 h1 H1 S1 X1 R1 x r1 => ⟨F1, m1, h1, env, A.step S1 X1, R1.bind.imp fun lo F2 m2 h2 H2 S2 X2 R2 =>
    ⟨F2, m2, h2, env, (A.step S1 X1).step S2 X2, R2.bind.imp fun hi F3 m3 h3 H3 S3 X3 R3 => ⟨Wx, σ, F3, m3, h3, w1, S3, (r1.ext X2).ext X3, R3⟩⟩⟩⟩
/-! ### built-ins, methods -/
theorem blt_e {b : Blt} {n : Str} {p : Pos} (hK : X.K = T.K) (hc : X.calm = true) (hg : X.A.guards = some []) (hu : X.A.units + 150 < cLine) (hn : n = bltN b) (gl : Gl X n) (hm : X.mg n = none) (ha : PA X (xa :: xs) (tEs T Φ Wx es)) (hs : ((xa :: xs).all fun e => !starB e) = true) :
    PE X (.Call (.Name n p) (xa :: xs) [] pos) (tE T Φ Wx (.blt b es)) := by
  have s1 : starB xa = false := by simpa using (List.all_eq_true.mp hs xa List.mem_cons_self)
  have s2 : (xs.all fun e => !starB e) = true := List.all_eq_true.mpr fun e he => List.all_eq_true.mp hs e (List.mem_cons_of_mem _ he)
  have use : ∀ σ H Q, tE T Φ Wx (.blt b es) σ H Q → tCB (rWs T (bltV b)) (tEs T Φ Wx es) σ H Q := fun σ H Q ⟨F, m, h, env, A, R⟩ => ⟨F, m, h, env, A, R.bind.imp fun ws F1 m1 h1 H1 S1 X1 R1 vs r => ⟨Wx, σ, F1, m1, h1, ws, S1, r, R1⟩⟩
  have B := blt_ok (T := T) (b := b) hK hc hg hu
  subst hn
  cases b with
  | len => exact (pe_callB (id := "len") B gl hm (by decide +kernel) ha (by decide) (by decide) (star_cons s1) (star_any s2)).imp use
  | int => exact (pe_callTy (T := "int") B gl hm (by decide +kernel) ha (by decide) (by decide) (star_cons s1) (star_any s2)).imp use
  | str => exact (pe_callTy (T := "str") B gl hm (by decide +kernel) ha (by decide) (by decide) (star_cons s1) (star_any s2)).imp use
  | repr => exact (pe_callB (id := "repr") B gl hm (by decide +kernel) ha (by decide) (by decide) (star_cons s1) (star_any s2)).imp use
  | all => exact (pe_callB (id := "all") B gl hm (by decide +kernel) ha (by decide) (by decide) (star_cons s1) (star_any s2)).imp use
  | any => exact (pe_callB (id := "any") B gl hm (by decide +kernel) ha (by decide) (by decide) (star_cons s1) (star_any s2)).imp use
  | tuple => exact (pe_callTy (T := "tuple") B gl hm (by decide +kernel) ha (by decide) (by decide) (star_cons s1) (star_any s2)).imp use
  | list nw => exact (pe_callTy (x := "list") (T := "list") B gl hm (by decide +kernel) ha (by decide) (by decide) (star_cons s1) (star_any s2)).imp use
  | abs => exact (pe_callB (id := "abs") B gl hm (by decide +kernel) ha (by decide) (by decide) (star_cons s1) (star_any s2)).imp use
  | max => exact (pe_callB (id := "max") B gl hm (by decide +kernel) ha (by decide) (by decide) (star_cons s1) (star_any s2)).imp use
  | min => exact (pe_callB (id := "min") B gl hm (by decide +kernel) ha (by decide) (by decide) (star_cons s1) (star_any s2)).imp use
  | sum => exact (pe_callB (id := "sum") B gl hm (by decide +kernel) ha (by decide) (by decide) (star_cons s1) (star_any s2)).imp use
/-- isinstance, by a built-in class -/
theorem tyx_d {K : PySem.W.Frag} {d : PyData} {x : V} (sub : ∀ a o, F a = some o → H a = some o) (r : Dq K F x d) : ∃ n, TyX K H x (.type n) ∧ (n, d) ∈ ([] : List (String × PyData)) ∨ TyX K H x (.type n) ∧ (match d with
    | .none => n = "NoneType" | .bool _ => n = "bool" | .int _ => n = "int" | .str _ => n = "str" | .list _ => n = "list" | .tuple _ => n = "tuple" | .dict _ => False) := by
  cases r with
  | non => exact ⟨_, .inr ⟨.base .non, rfl⟩⟩
  | bl b => exact ⟨_, .inr ⟨.base (.bl b), rfl⟩⟩
  | int i => exact ⟨_, .inr ⟨.base (.int i), rfl⟩⟩
  | str z => exact ⟨_, .inr ⟨.base (.str z), rfl⟩⟩
  | lst q _ => exact ⟨_, .inr ⟨.base (.lst (sub _ _ q)), rfl⟩⟩
  | tup q _ =>
    rcases q with (q | ⟨o, q⟩) | ⟨o, its, n, q, hc, _⟩
    · exact ⟨_, .inr ⟨.base (.tup (sub _ _ q)), rfl⟩⟩
    · exact ⟨_, .inr ⟨.fTuple (sub _ _ q), rfl⟩⟩
    · exact ⟨_, .inr ⟨.kTuple q hc, rfl⟩⟩
def tyS : Ty → String
  | .int => "int"
  | .str => "str"
  | .tuple => "tuple"
  | .list => "list"
theorem isi_e {t : Ty} {n tn : Str} {p p2 : Pos} (hK : X.K = T.K) (gl : Gl X n) (hm : X.mg n = none) (hn : n = "isinstance") (htn : tn = tyN t) (gt : Gl X tn) (hmt : X.mg tn = none) (ha : PE X xa (tE T Φ Wx a)) (hs : starB xa = false) :
    PE X (.Call (.Name n p) [xa, .Name tn p2] [] pos) (tE T Φ Wx (.isi a t)) := by
  subst hn
  have hb : bootBuiltins tn = some (.type (tyS t)) := by subst htn; cases t <;> decide +kernel
  have hd : (tn == ("__debug__" : Str)) = false ∧ tn ≠ "__name__" := by subst htn; cases t <;> exact ⟨by decide, by decide⟩
  refine (pe_callB call_isi gl hm (by decide +kernel) (pa_cons ha (pa_cons (pe_bltn (v := .ty (tyS t)) gt hmt hb rfl hd.2 hd.1) pa_nil) (star_cons hs)) (by decide) (by decide) (star_cons hs) rfl).imp fun σ H Q ⟨F, m, h, env, A, R⟩ => ⟨F, m, h, env, A, R.bind.imp fun w F1 m1 h1 H1 S1 X1 R1 x r => ?_⟩
  obtain ⟨b, e, k⟩ := Run.liftM S1 R1
  have kq := k _ (.bl b)
  cases w with
  | d y =>
    obtain ⟨nm, z | ⟨ty, z⟩⟩ := tyx_d S1.sub r
    · exact absurd z.2 (by simp)
    · refine ⟨x, .ty (tyS t), .type nm, .type (tyS t), b, rfl, .ty _, by rw [hK]; exact ty, kit_ty ?_, kq⟩
      cases y with
      | none => cases z; cases t <;> (cases e; decide +kernel)
      | bool _ => cases z; cases t <;> (cases e; decide +kernel)
      | int _ => cases z; cases t <;> (cases e; decide +kernel)
      | str _ => cases z; cases t <;> (cases e; decide +kernel)
      | list _ => cases z; cases t <;> (cases e; decide +kernel)
      | tuple _ => cases z; cases t <;> (cases e; decide +kernel)
      | dict _ => exact z.elim
  | _ => cases e
end
end Mi

set_option maxRecDepth 100000
set_option maxHeartbeats 2000000
/-! Mi, tenth part: methods, what is walked, comprehensions, calls of defs. -/
namespace Mi
open PySem PySem.Spec PyProof.Rows L2
variable {T : Top} {F F' F0 F1 : Hp} {m m' m0 m1 : List Addr} {h h' : MH} {H H' H0 H1 : Hp} {Wx : WX} {σ0 : L2.St}
section
variable {Φ : Nat → List W → M W} {X : Cx} {pos : Pos} {a b c : E} {xa xb xc : Expr} {es : Es} {xs : List Expr}
theorem ab_of {o : Expr} {name : Str} {env : Env} (hc : callB o = false) : attributeBase o name env (eval o env) = eval o env := by
  cases o <;> first | rfl | (cases hc)
/-- the type that a method asks of its receiver -/
def mthT : Mth → String
  | .split => "str"
  | .join => "str"
  | _ => "list"
theorem ty_list {w : W} {x : V} (hK : X.K = T.K) (S : Sim T F m h H) (e : (listOf w h).isSome = true) (r : WR T F m w x) : tyV X.K "list" x H := by
  obtain ⟨ws, e⟩ := Option.isSome_iff_exists.mp e
  obtain ⟨p, vs, rfl, g, _⟩ := listOf_ok S e r
  exact .inl ⟨rfl, vs, .inl (.inl g)⟩
theorem mth_ty {k : Mth} {w : W} {x : V} (hK : X.K = T.K) (S : Sim T F m h H) (r : WR T F m w x) (e : recvOk k w h = true) : tyV X.K (mthT k) x H := by
  have str : ∀ {w : W} {x : V}, WR T F m w x → recvOk .split w h = true → tyV X.K "str" x H := fun {w x} r e => by
    cases w with
    | d y => cases y with
      | str z => cases str_inv r; rfl
      | _ => cases e
    | _ => cases e
  cases k with
  | split => exact str r e
  | join => exact str r e
  | append => exact ty_list hK S e r
  | extend => exact ty_list hK S e r
  | reverse => exact ty_list hK S e r
  | pop => exact ty_list hK S e r
  | count => exact ty_list hK S e r
  | index => exact ty_list hK S e r
theorem meth_use {k : Mth} {σ : L2.St} {Q : VK} (hK : X.K = T.K) : tE T Φ Wx (.meth k a es) σ H Q → (tE T Φ Wx a) σ H fun x H1 => tyV X.K (mthT k) x H1 ∧ (tEs T Φ Wx es) σ H1 fun xs H2 => rMth T (mthV k) x xs H2 Q := fun ⟨F, m, h, env, A, R⟩ =>
  ⟨F, m, h, env, A, R.bind.imp fun w F1 m1 h1 H1 S1 X1 R1 x r => by
    split at R1
    · rename_i e
      exact ⟨mth_ty hK S1 r e, F1, m1, h1, env, A.step S1 X1, R1.bind.imp fun ws F2 m2 h2 H2 S2 X2 R2 vs rs => ⟨Wx, σ, F2, m2, h2, w, ws, S2, r.ext X2, rs, R2⟩⟩
    · exact R1.elim⟩
theorem few_ok {e : Expr} {cpos : Pos} {env : Env} (hs : starB e = false) : ((backTo cpos (starEach [e] env)).all (fun x => !x.1) && (backToKw cpos (keywordEach [] env)).all (fun x => x.1.isSome)
      && decide ([e].length + ([] : List Keyword).length + (if ([] : List Keyword).isEmpty then 0 else 1) < 30)) = true := by
  rw [star_cons hs]
  rfl
theorem meth1_e {k : Mth} {nm : Str} {apos : Pos} (hK : X.K = T.K) (hu : X.A.units + 150 < cLine) (hn : nm = mthN k) (hk : mthA k = true) (ho : PE X xa (tE T Φ Wx a)) (hb : PA X [xb] (tEs T Φ Wx es)) (hc : callB xa = false) (hl : (apos.endLine == pos.line) = true) (hs : starB xb = false) :
    PE X (.Call (.Attribute xa nm apos) [xb] [] pos) (tE T Φ Wx (.meth k a es)) := by
  subst hn
  have st := star_cons (e := xb) (es := []) (env := X.env) hs
  cases k with
  | append => exact (pe_bm PySem.F.plainAttrs_list PySem.F.slot_list_append PySem.F.type_list_append app_ok' ho hb (ab_of hc) (few_ok hs) hl st rfl).imp fun _ _ _ => meth_use hK
  | extend => exact (pe_bm PySem.F.plainAttrs_list PySem.F.slot_list_extend PySem.F.type_list_extend ext_ok' ho hb (ab_of hc) (few_ok hs) hl st rfl).imp fun _ _ _ => meth_use hK
  | split => exact (pe_bm PySem.F.plainAttrs_str PySem.F.slot_str_split PySem.F.type_str_split split_ok' ho hb (ab_of hc) (few_ok hs) hl st rfl).imp fun _ _ _ => meth_use hK
  | join => exact (pe_bm PySem.F.plainAttrs_str PySem.F.slot_str_join PySem.F.type_str_join (join_ok' hK) ho hb (ab_of hc) (few_ok hs) hl st rfl).imp fun _ _ _ => meth_use hK
  | count => exact (pe_bm PySem.F.plainAttrs_list PySem.F.slot_list_count PySem.F.type_list_count (count_ok' hK hu) ho hb (ab_of hc) (few_ok hs) hl st rfl).imp fun _ _ _ => meth_use hK
  | index => exact (pe_bm PySem.F.plainAttrs_list PySem.F.slot_list_index PySem.F.type_list_index (index_ok' hK hu) ho hb (ab_of hc) (few_ok hs) hl st rfl).imp fun _ _ _ => meth_use hK
  | reverse => cases hk
  | pop => cases hk
theorem meth0_use {k : Mth} {σ : L2.St} {Q : VK} (hK : X.K = T.K) : tE T Φ Wx (.meth k a .nil) σ H Q → (tE T Φ Wx a) σ H fun x H1 => tyV X.K (mthT k) x H1 ∧ rMth T (mthV k) x [] H1 Q := fun ⟨F, m, h, env, A, R⟩ =>
  ⟨F, m, h, env, A, R.bind.imp fun w F1 m1 h1 H1 S1 X1 R1 x r => by
    split at R1
    · rename_i e
      exact ⟨mth_ty hK S1 r e, Wx, σ, F1, m1, h1, w, [], S1, r, .nil, R1⟩
    · exact R1.elim⟩
theorem meth0_e {k : Mth} {nm : Str} {apos : Pos} (hK : X.K = T.K) (hn : nm = mthN k) (hk : mthA k = false) (ho : PE X xa (tE T Φ Wx a)) (hc : callB xa = false) (hl : (apos.endLine == pos.line) = true) :
    PE X (.Call (.Attribute xa nm apos) [] [] pos) (tE T Φ Wx (.meth k a .nil)) := by
  subst hn
  cases k with
  | reverse => exact (pe_bm0 PySem.F.plainAttrs_list PySem.F.slot_list_reverse PySem.F.type_list_reverse rev_ok' ho (ab_of hc) hl).imp fun _ _ _ => meth0_use hK
  | pop => exact (pe_bm0 PySem.F.plainAttrs_list PySem.F.slot_list_pop PySem.F.type_list_pop pop_ok' ho (ab_of hc) hl).imp fun _ _ _ => meth0_use hK
  | _ => cases hk

/-! ### what is walked -/
theorem beqDs_list {xs ys : List PyData} : beqD (.list xs) (.list ys) = beqDs xs ys := by simp only [beqD]
mutual
theorem beqD_eq : ∀ {x y : PyData}, beqD x y = true → x = y
  | .none, y, e => by cases y <;> simp [beqD] at e <;> rfl
  | .bool a, y, e => by cases y <;> simp [beqD] at e <;> rw [e]
  | .int a, y, e => by cases y <;> simp [beqD] at e <;> rw [e]
  | .str a, y, e => by cases y <;> simp [beqD] at e <;> rw [e]
  | .list a, y, e => by cases y <;> simp [beqD] at e; rw [beqDs_eq e]
  | .tuple a, y, e => by cases y <;> simp [beqD] at e; rw [beqDs_eq e]
  | .dict a, y, e => by cases y <;> simp [beqD] at e
theorem beqDs_eq : ∀ {x y : List PyData}, beqDs x y = true → x = y
  | [], [], _ => rfl
  | x :: xs, y :: ys, e => by
    simp only [beqDs, Bool.and_eq_true] at e
    rw [beqD_eq e.1, beqDs_eq e.2]
  | [], _ :: _, e => by simp [beqDs] at e
  | _ :: _, [], e => by simp [beqDs] at e
end
theorem beqW_eq {x y : W} (e : beqW x y = true) : x = y := by
  cases x <;> cases y <;> simp [beqW] at e
  · rw [beqD_eq e]
  · rw [e]
  · rw [e]
theorem beqWs_eq : ∀ {x y : List W}, beqWs x y = true → x = y
  | [], [], _ => rfl
  | x :: xs, y :: ys, e => by
    simp only [beqWs, Bool.and_eq_true] at e
    rw [beqW_eq e.1, beqWs_eq e.2]
  | [], _ :: _, e => by simp [beqWs] at e
  | _ :: _, [], e => by simp [beqWs] at e
theorem jok_list {K : PySem.W.Frag} {p : Addr} {src : Src} (hK : K = T.K) (g : ∀ F m h H, Sim T F m h H → Ext F0 m0 H0 F m H → srcOk src h = true → ∃ vs, SqL K H p vs ∧ WRs T F m src.1 vs) : JOk T (Itl K p) src F0 m0 H0 := by
  intro i F m h H S X c
  obtain ⟨vs, q, rs⟩ := g F m h H S X c
  have l := rs.len
  refine ⟨fun w e => ?_, fun hi => ⟨vs, q, by omega⟩⟩
  obtain ⟨v, e2, r⟩ := rs.get e
  refine ⟨⟨vs, v, q, e2⟩, fun x H1 ⟨y1, y2⟩ => ?_⟩
  subst y1
  have e3 := y2 vs q
  rw [e2] at e3
  cases e3
  exact ⟨F, S, Ext.refl, r⟩
theorem jok_tup {K : PySem.W.Frag} {p : Addr} {src : Src} (hK : K = T.K) (g : ∀ F m h H, Sim T F m h H → Ext F0 m0 H0 F m H → srcOk src h = true → ∃ vs, SqT K H p vs ∧ WRs T F m src.1 vs) : JOk T (Itt K p) src F0 m0 H0 := by
  intro i F m h H S X c
  obtain ⟨vs, q, rs⟩ := g F m h H S X c
  have l := rs.len
  refine ⟨fun w e => ?_, fun hi => ⟨vs, q, by omega⟩⟩
  obtain ⟨v, e2, r⟩ := rs.get e
  refine ⟨⟨vs, v, q, e2⟩, fun x H1 ⟨y1, y2⟩ => ?_⟩
  subst y1
  have e3 := y2 vs q
  rw [e2] at e3
  cases e3
  exact ⟨F, S, Ext.refl, r⟩
theorem jok_str {z : Str} : JOk T (Its z) (signs z, none) F0 m0 H0 := by
  intro i F m h H S X c
  have l : (signs z).length = z.cps.size := by simp [signs]
  refine ⟨fun w e => ?_, fun hi => by show z.cps.size ≤ i; rw [← l]; exact hi⟩
  have hi : i < z.cps.size := by rw [← l]; exact (List.getElem?_eq_some_iff.mp e).1
  refine ⟨hi, fun x H1 ⟨y1, c', y2, y3⟩ => ?_⟩
  subst y1
  subst y3
  have : (signs z)[i]? = some (.d (.str ⟨#[c']⟩)) := by
    simp only [signs, List.getElem?_map]
    rw [Array.getElem?_toList, y2]
    rfl
  rw [this] at e
  cases e
  exact ⟨F, S, Ext.refl, .str _⟩
theorem rngFrom_get : ∀ (n : Nat) (lo : Int) (i : Nat), (rngFrom lo n)[i]? = if i < n then some (.d (.int (lo + i))) else none
  | 0, lo, i => by simp [rngFrom]
  | n + 1, lo, 0 => by simp [rngFrom]
  | n + 1, lo, i + 1 => by
    simp only [rngFrom, List.getElem?_cons_succ]
    rw [rngFrom_get n (lo + 1) i]
    by_cases hi : i < n
    · rw [if_pos hi, if_pos (by omega)]
      congr 3
      push_cast
      omega
    · rw [if_neg hi, if_neg (by omega)]
theorem rngFrom_len (n : Nat) : ∀ lo : Int, (rngFrom lo n).length = n := by
  induction n with
  | zero => intro lo; rfl
  | succ n ih => intro lo; simp [rngFrom, ih]
theorem jok_rng {lo : Int} {n : Nat} : JOk T (Itr lo n) (rngFrom lo n, none) F0 m0 H0 := by
  intro i F m h H S X c
  refine ⟨fun w e => ?_, fun hi => by rw [rngFrom_len] at hi; exact hi⟩
  rw [rngFrom_get] at e
  split at e
  · rename_i hi
    cases e
    refine ⟨hi, fun x H1 ⟨y1, y2⟩ => ?_⟩
    subst y1
    subst y2
    exact ⟨F, S, Ext.refl, .int _⟩
  · cases e
theorem over_i {tg : Expr} (hK : X.K = T.K) (ha : PE X xa (tE T Φ Wx a)) : PI X tg xa (tIt T Φ Wx (.over a)) := by
  refine ⟨fun pins s σ H R I ⟨F, m, h, env, A, Rn⟩ => ?_⟩
  -- what is walked is known ahead
  have Rn' : Run T Wx σ F m H ((evE Φ a env h).bind fun w h => Mi.lift (srcOf w h) h) fun src F' m' h' H' => srcOk src h' = true ∧ ∀ J, JOk T J src F' m' H' → R J H' := Rn
  cases ev : evE Φ a env h with
  | stuck => rw [ev] at Rn'; exact Rn'.elim
  | exc e h1 =>
    rw [ev] at Rn'
    exact (pi_list ha).run pins s σ H R I ⟨F, m, h, env, A, by rw [ev]; exact Rn'⟩
  | ok w h1 =>
    rw [ev] at Rn'
    have Rn' : Run T Wx σ F m H (Mi.lift (srcOf w h1) h1) fun src F' m' h' H' => srcOk src h' = true ∧ ∀ J, JOk T J src F' m' H' → R J H' := Rn'
    cases es : srcOf w h1 with
    | none => rw [es] at Rn'; exact Rn'.elim
    | some src =>
      rw [es] at Rn'
      have R0 : ∀ F' m' H', Sim T F' m' h1 H' → Ext F m H F' m' H' → srcOk src h1 = true ∧ ∀ J, JOk T J src F' m' H' → R J H' := Rn'
      have fz : ∀ {F' : Hp} {m' : List Addr} {H' : Hp} {p : Addr} {vs : List V} {ds : List PyData}, F' p = some (.lst vs) → DqAll T.K F' vs ds → JOk T (Itl X.K p) (ds.map .d, none) F' m' H' := fun {F' m' H' p vs ds} q d => jok_list hK fun F2 m2 h2 H2 S2 X2 _ => ⟨vs, .inl (.inl (S2.sub _ _ (X2.sub _ _ q))), d_wrs (DqAll.up X2.sub d)⟩
      cases w with
      | d y =>
        cases y with
        | str z =>
          cases es
          refine (pi_str ha).run pins s σ H R I ⟨F, m, h, env, A, ?_⟩
          rw [ev]
          intro F' m' H' S' X' x r
          cases str_inv r
          exact ⟨z, rfl, (R0 F' m' H' S' X').2 _ jok_str⟩
        | list ds =>
          cases es
          refine (pi_list ha).run pins s σ H R I ⟨F, m, h, env, A, ?_⟩
          rw [ev]
          intro F' m' H' S' X' x r
          cases r with
          | @lst p vs _ q d => exact ⟨p, rfl, ⟨vs, .inl (.inl (S'.sub _ _ q))⟩, (R0 F' m' H' S' X').2 _ (fz q d)⟩
        | tuple ds =>
          cases es
          refine (pi_tup ha).run pins s σ H R I ⟨F, m, h, env, A, ?_⟩
          rw [ev]
          intro F' m' H' S' X' x r
          cases r with
          | @tup p vs _ q d =>
            exact ⟨p, rfl, ⟨vs, by rw [hK]; exact SqT.up S'.sub q⟩, (R0 F' m' H' S' X').2 _ (jok_tup hK fun F2 m2 h2 H2 S2 X2 _ => ⟨vs, by rw [hK]; exact SqT.up S2.sub (SqT.up X2.sub q), d_wrs (DqAll.up X2.sub d)⟩)⟩
        | _ => cases es
      | ro ds =>
        cases es
        refine (pi_list ha).run pins s σ H R I ⟨F, m, h, env, A, ?_⟩
        rw [ev]
        intro F' m' H' S' X' x r
        obtain ⟨p, vs, rfl, q, d⟩ := r
        exact ⟨p, rfl, ⟨vs, by rw [hK]; exact SqL.up S'.sub q⟩, (R0 F' m' H' S' X').2 _ (jok_list hK fun F2 m2 h2 H2 S2 X2 _ => ⟨vs, by rw [hK]; exact SqL.up S2.sub (SqL.up X2.sub q), d_wrs (DqAll.up X2.sub d)⟩)⟩
      | ref i =>
        refine (pi_list ha).run pins s σ H R I ⟨F, m, h, env, A, ?_⟩
        rw [ev]
        intro F' m' H' S' X' x r
        obtain ⟨p, ep, rfl⟩ := r
        simp only [srcOf] at es
        split at es
        · rename_i ws e1
          cases es
          obtain ⟨_, vs, q, rs⟩ := S'.cell i _ p e1 ep
          refine ⟨p, rfl, ⟨vs, .inl (.inl q)⟩, (R0 F' m' H' S' X').2 _ (jok_list hK fun F2 m2 h2 H2 S2 X2 c => ?_)⟩
          simp only [srcOk] at c
          split at c
          · rename_i ws2 e2
            cases beqWs_eq c
            obtain ⟨t, et, _⟩ := X2.pre
            have ep2 : m2[i]? = some p := by
              rw [et, List.getElem?_append_left (List.getElem?_eq_some_iff.mp ep).1]
              exact ep
            obtain ⟨_, vs2, q2, rs2⟩ := S2.cell i _ p (cellL_eq e2) ep2
            exact ⟨vs2, .inl (.inl q2), rs2⟩
          · cases c
        · rename_i ds e1
          cases es
          obtain ⟨_, d⟩ := S'.cell i _ p e1 ep
          cases d with
          | @lst _ vs _ q d => exact ⟨p, rfl, ⟨vs, .inl (.inl (S'.sub _ _ q))⟩, (R0 F' m' H' S' X').2 _ (fz q d)⟩
        · cases es
      | _ => cases es
theorem rngOk_iff {i : Int} (e : rngOk i = true) : -(2 ^ 62) ≤ i ∧ i < 2 ^ 62 := by
  unfold rngOk at e
  have := Nat.le_of_ble_eq_true e
  omega
theorem rng1_i {tg : Expr} {n : Str} {p : Pos} (hn : n = "range") (gl : Gl X n) (hm : X.mg n = none) (ha : PE X xa (tE T Φ Wx a)) (hs : starB xa = false) : PI X tg (.Call (.Name n p) [xa] [] pos) (tIt T Φ Wx (.rng1 a)) := by
  subst hn
  refine ⟨fun pins s σ H R I ⟨F, m, h, env, A, Rn⟩ => ?_⟩
  refine (pi_range1 gl hm (pa_cons ha pa_nil (star_cons hs)) (star_cons hs)).run pins s σ H R I ⟨F, m, h, env, A, Rn.bind.imp fun w F1 m1 h1 H1 S1 X1 R1 x r => ?_⟩
  revert R1
  split
  · intro R1
    cases int_inv r
    split at R1
    · rename_i c
      obtain ⟨g1, g2⟩ := rngOk_iff c
      exact ⟨_, rfl, g1, g2, (Run.here S1 R1).2 _ jok_rng⟩
    · exact R1.elim
  · exact fun R1 => R1.elim
theorem rng2_i {tg : Expr} {n : Str} {p : Pos} (hn : n = "range") (gl : Gl X n) (hm : X.mg n = none) (ha : PE X xa (tE T Φ Wx a)) (hb : PE X xb (tE T Φ Wx b)) (hs : starB xa = false) (hs2 : starB xb = false) : PI X tg (.Call (.Name n p) [xa, xb] [] pos) (tIt T Φ Wx (.rng2 a b)) := by
  subst hn
  refine ⟨fun pins s σ H R I ⟨F, m, h, env, A, Rn⟩ => ?_⟩
  refine (pi_range2 gl hm (pa_cons ha (pa_cons hb pa_nil (star_cons hs2)) (star_cons hs)) (by rw [star_cons hs, star_cons hs2]; rfl) (star_cons hs2)).run pins s σ H R I ⟨F, m, h, env, A, Rn.bind.imp fun w F1 m1 h1 H1 S1 X1 R1 x r =>
    ⟨F1, m1, h1, env, A.step S1 X1, R1.bind.imp fun w2 F2 m2 h2 H2 S2 X2 R2 y r2 => ?_⟩⟩
  have r := r.ext X2
  revert R2
  split
  · intro R2
    cases int_inv r
    cases int_inv r2
    split at R2
    · rename_i c
      simp only [Bool.and_eq_true] at c
      obtain ⟨g1, g2⟩ := rngOk_iff c.1
      obtain ⟨g3, g4⟩ := rngOk_iff c.2
      exact ⟨_, _, rfl, ⟨g1, g2, g3, g4⟩, (Run.here S2 R2).2 _ jok_rng⟩
    · exact R2.elim
  · exact fun R2 => R2.elim
end
end Mi

set_option maxRecDepth 100000
set_option maxHeartbeats 4000000
/-! Mi: a list comprehension that an exception may leave. -/
namespace MiX
open PySem PySem.Spec PyProof.Rows L2
abbrev St := L2.St
/-- what is asked of a comprehension's end, the block's own scope told -/
def post2 (M : Model) (A : Around) (E : Value → Shared → Prop) (use : Option (Value → Sem Unit)) (Q : Value → Shared → Prop) (acc : Value) (cenv : Env) (r : Result) (s' : Shared) : Prop :=
  match r, use with
  | .ok _, none => ∃ m, s'.heap.Ns cenv.locals m ∧ ∀ h', Heap.SameBut cenv.locals s'.heap h' → Q acc { s' with heap := h' }
  | .ok _, some u => wpAny M A (u acc) (fun _ s'' => ∃ m, s''.heap.Ns cenv.locals m ∧ ∀ h', Heap.SameBut cenv.locals s''.heap h' → Q .none { s'' with heap := h' }) E s'
  | .error x, _ => ∃ m, s'.heap.Ns cenv.locals m ∧ ∀ h', Heap.SameBut cenv.locals s'.heap h' → wpAny M A (passOn "comprehension.variables-let-go" x cenv : Sem Value) (fun _ _ => False) E { s' with heap := h' }
section
variable {M : Model} {A : Around} {E : Value → Shared → Prop} {s : Shared} {env : Env}
theorem compr_free {e : Expr} {scope : Scope} {pos : Pos} {newAcc first : Sem Value} {g : Comprehension} {gs : List Comprehension} {cl : List (Str × Addr)} {use : Option (Value → Sem Unit)}
    {Q : Value → Shared → Prop}
    (hcl : clausesOf e = g :: gs) (hs : ∀ x, foldedSetIterable g.iter env x = pure x) (hclos : closureFor scope env = pure cl)
    (hkind : scope.kind = .function) (hnames : ∀ x ∈ scope.names, x.2 = .local → scope.names.lookup x.1 = some .local)
    (h : wpAny M A first (fun x s₁ => wpAny M A (pyIter x) (fun it s₂ => wpAny M A newAcc (fun acc s₃ =>
      wpAny M A (newFunctionEnv scope env.globals cl [] env.qual none .none (some env)) (fun cenv s₄ =>
        codeAny M A (.compStart e 0 it acc { cenv with scope := relabel scope env }) (post2 M A E use Q acc { cenv with scope := relabel scope env }) s₄) E s₃) E s₂) E s₁) E s) :
    wpAny M A (comprehension e scope env pos newAcc false first use) Q E s := by
  unfold comprehension
  rw [hclos, hcl]
  refine wpAny_bind (wpAny_mono h (fun x s₁ h₁ => wpAny_bind (wpAny_standAt (wpAny_bind (wpAny_of_eq (hs x) (wpAny_bind (wpAny_holding (wpAny_mono h₁ (fun it s₂ h₂ =>
    wpAny_standIf (wpAny_bind (wpAny_mono h₂ (fun acc s₃ h₃ => wpAny_bind (wpAny_pure (wpAny_bind (wpAny_mono h₃ (fun cenv s₄ h₄ => ?_) fun _ _ h' => h')))) fun _ _ h' => h')))
      fun _ _ h' => h'))))))) fun _ _ h' => h')
  dsimp only
  have hv : ∀ x ∈ (scope.names.filter fun x => (x.2 == .local || x.2 == .cell) && x.1 != (".0" : Str)).reverse, x.2 = .local →
      Env.kindOf { cenv with scope := relabel scope env } x.1 = some .local := fun x hx hl => lookup_relabel_local (hnames x (List.mem_filter.mp (List.mem_reverse.mp hx)).1 hl)
  have hv' : ∀ x ∈ (scope.names.filter fun x => (x.2 == .local || x.2 == .cell) && x.1 != (".0" : Str)).reverse.drop 1 ++ (scope.names.filter fun x => (x.2 == .local || x.2 == .cell) && x.1 != (".0" : Str)).reverse.take 1,
      x.2 = .local → Env.kindOf { cenv with scope := relabel scope env } x.1 = some .local := fun x hx hl => by
    rcases List.mem_append.mp hx with h1 | h1
    · exact hv x (List.mem_of_mem_drop h1) hl
    · exact hv x (List.mem_of_mem_take h1) hl
  refine wpAny_holding (wpAny_bind (wpAny_attempt (wpAny_holding (wpAny_run (codeAny_mono h₄ fun r s' hr => ?_)))))
  cases r with
  | ok f =>
    cases use with
    | none =>
      obtain ⟨m, hn, hr⟩ := hr
      exact wpAny_bind (wpAny_holding (wpAny_comp_letGo (cenv := { cenv with scope := relabel scope env }) hkind _ s' m hv hn fun h' m' _ hs' => wpAny_pure (hr h' hs')))
    | some u =>
      refine wpAny_bind (wpAny_rule (wpAny_bind (wpAny_holding (wpAny_mono hr (fun _ s'' hr' => ?_) fun _ _ h' => h'))))
      obtain ⟨m, hn, hr'⟩ := hr'
      exact wpAny_bind (wpAny_comp_letGo (cenv := { cenv with scope := relabel scope env }) hkind _ s'' m hv' hn fun h' m' _ hs' => wpAny_pure (hr' h' hs'))
  | error x =>
    have hr' : ∃ m, s'.heap.Ns cenv.locals m ∧ ∀ h', Heap.SameBut cenv.locals s'.heap h' → wpAny M A (passOn "comprehension.variables-let-go" x { cenv with scope := relabel scope env } : Sem Value) (fun _ _ => False) E { s' with heap := h' } := by cases use <;> exact hr
    obtain ⟨m, hn, hr⟩ := hr'
    exact wpAny_bind (wpAny_holding (wpAny_comp_letGo (cenv := { cenv with scope := relabel scope env }) hkind _ s' m hv hn fun h' m' _ hs' => wpAny_mono (hr h' hs') (fun _ _ f => f.elim) fun _ _ y => y))
/-! ### the frame notes an exception, whatever it was in before -/
theorem note_same {e : Value} {env' : Env} (hf : env'.frame = env.frame) : noteFrame e env' = noteFrame e env := by
  unfold noteFrame PySem.frameOf
  rw [hf]
open HandSPX in
theorem look_other {outer : List Env} {L L' e : Addr} {Z : Obj → Prop} {base : Heap} {Q : Unit → Shared → Prop} (hZ : PXN.Steady1 Z) (hfr : A.frames = some (env :: outer)) (hf : env.frame = some L) (ne : L' ≠ L) (hfl : HeldZ base (env :: outer) e Z L' s.heap)
    (hQ : ∀ h', HeldZ base (env :: outer) e Z L h' → s.heap.UpToSlots h' → Q () { s with heap := h' }) : wpAny M A (noteFrame (.ref e) env) Q E s := by
  obtain ⟨hkb, hen, hl, oe, vs, T, oT, ts, he, hz, hd, h1, hnT, hTe, hT, hdT, h3⟩ := hfl
  unfold noteFrame
  simp only [hf]
  refine wpAny_bind (wpAny_field he hd h1 ?_)
  rw [if_pos (show (Value.ref T != Value.none) = true from by simp)]
  refine wpAny_bind (wpAny_field hT hdT h3 ?_)
  rw [if_neg (show ¬ ((rawInt L' == rawInt L) = true) from by simp [rawInt]; exact fun z => ne (Int.ofNat.inj z))]
  refine wpAny_bind (wpAny_setField hT hdT (Array.getElem?_eq_some_iff.mp h3).1 ?_)
  have other : ∀ b, b ≠ T → (s.heap.update T (Obj.mapFields (·.setIfInBounds 3 Value.none))).get? b = s.heap.get? b := fun b hb => Heap.get?_update_other _ _ (Ne.symm hb)
  have noRecord : ∀ b o, s.heap.get? b = some o → (∀ vs, o.data ≠ .fields vs) → b ≠ T := fun b o hb hnf q => by
    rw [q, hT] at hb; injection hb with hb; subst hb; exact hnf ts hdT
  refine PXN.wpAny_entryZ hZ hfr (hl.of_keeps fun b o hb hnf => ⟨o, (other b (noRecord b o hb hnf)).trans hb, rfl⟩) hf ((other e (Ne.symm hTe)).trans he)
    (fun b o hbo => (other b fun q => by rw [q, hnT] at hbo; cases hbo).trans (hkb b o hbo)) hen hd (Array.getElem?_eq_some_iff.mp h1).1 hz fun h' hN => ?_
  obtain ⟨x1, x2, x3, x4⟩ := hN
  exact hQ h' ⟨x1, hen, x2, x3⟩ fun b o hb hnf => x4 b o ((other b (noRecord b o hb hnf)).trans hb) hnf
end
section
variable {X : Cx}
/-- the context of a block out of which an exception may go: what is wanted there -/
abbrev blkX (X : Cx) (s : Shared) (H : Hp) (scope : Scope) (cenv : Env) (fp : List Addr) (xe : Value → Shared → Prop) : Cx := { X.blk s H scope cenv fp with xe := xe }
theorem blkX_ok {s : Shared} {H : Hp} {scope : Scope} {cenv : Env} {fp : List Addr} {xe : Value → Shared → Prop} (k : (X.blk s H scope cenv fp).Ok) : (blkX X s H scope cenv fp xe).Ok :=
  ⟨k.mod, k.kind, k.glob, k.blt, k.above, k.inj, k.has, k.cab, k.hd, k.frames, k.stk, k.exf, k.bs, k.bsz, k.noex, k.exfs, k.funs, k.frf⟩
theorem blkX_inv {s s' : Shared} {H H' : Hp} {scope : Scope} {cenv : Env} {fp : List Addr} {xe : Value → Shared → Prop} {pins : List (Addr × Obj)} {σ : St} (I : Inv (X.blk s H scope cenv fp) pins σ H' s') : Inv (blkX X s H scope cenv fp xe) pins σ H' s' :=
  ⟨blkX_ok I.ok, I.os, I.bare, I.base, I.loc, I.cell, I.free, I.freeC, I.pin, I.hok, I.len⟩
theorem inv_blk {s s' : Shared} {H H' : Hp} {scope : Scope} {cenv : Env} {fp : List Addr} {xe : Value → Shared → Prop} {pins : List (Addr × Obj)} {σ : St} (I : Inv (blkX X s H scope cenv fp xe) pins σ H' s') : Inv (X.blk s H scope cenv fp) pins σ H' s' :=
  ⟨⟨I.ok.mod, I.ok.kind, I.ok.glob, I.ok.blt, I.ok.above, I.ok.inj, I.ok.has, I.ok.cab, I.ok.hd, I.ok.frames, I.ok.stk, I.ok.exf, I.ok.bs, I.ok.bsz, I.ok.noex, I.ok.exfs, I.ok.funs, I.ok.frf⟩, I.os, I.bare, I.base, I.loc, I.cell, I.free, I.freeC, I.pin, I.hok, I.len⟩
theorem funFrames_same {h h' base : Heap} : ∀ {l : List Env}, h.FunFrames base l → (∀ L ∈ frs l, h'.get? L = h.get? L) → h'.FunFrames base l
  | [], _, _ => trivial
  | env :: l, h, hn => by
    obtain ⟨hk, ⟨L, o, hf, hb, ho, hd⟩, hr⟩ := h
    exact ⟨hk, ⟨L, o, hf, hb, (hn L (List.mem_filterMap.mpr ⟨env, List.mem_cons_self, hf⟩)).trans ho, hd⟩, funFrames_same hr fun b hb => by
      obtain ⟨e, he, q⟩ := List.mem_filterMap.mp hb
      exact hn b (List.mem_filterMap.mpr ⟨e, List.mem_cons_of_mem _ he, q⟩)⟩
/-- what a block's exception is: it leaves the comprehension, and is then the def's -/
theorem takes_blk {pins : List (Addr × Obj)} {σ : St} {H3 : Hp} {s3 : Shared} {scope : Scope} {ce : Env} {fp : List Addr} {Wx : WX} {use : Option (Value → Sem Unit)} {Qf : Value → Shared → Prop} {acc : Value} {xe : Value → Shared → Prop}
    (top : X.stack = X.env :: X.outer ∧ X.env.frame = some X.env.locals) (tk : L2N.Takes X Wx) (I3 : Inv X pins σ H3 s3) (cL : ce.locals = s3.heap.objs.size) (cF : ce.frame = X.env.frame) (f3 : ∀ b ∈ fp, FpOk X pins H3 b)
    (hxe : xe = notedBy (model X.prog X.w) X.A ce fun e s' => post2 (model X.prog X.w) X.A X.xe use Qf acc ce (.error e) s') :
    L2N.Takes (blkX X s3 H3 scope ce fp xe) fun cls d _ H' => Wx cls d σ H' := by
  rintro u s' ⟨a, B, sI, pins', σ8, H8, cls, d, rfl, I8, nb, up, sky, na, os, ag, w⟩
  rw [hxe]
  have hfr : X.A.frames = some (X.env :: X.outer) := by rw [I3.ok.frames, top.1]
  -- the block's own dict
  obtain ⟨mC, nsC, _⟩ := I8.loc
  have nsC : sI.heap.Ns ce.locals mC := nsC
  have nI : s3.heap.get? ce.locals = none := by
    rw [cL]
    cases q : s3.heap.get? s3.heap.objs.size with
    | none => rfl
    | some o => exact absurd (Heap.lt_size q) (Nat.lt_irrefl _)
  have Lfr : X.env.locals ∈ frs X.stack := List.mem_filterMap.mpr ⟨X.env, by rw [top.1]; exact List.mem_cons_self, top.2⟩
  have frOld : ∀ b ∈ frs X.stack, b ≠ ce.locals := fun b hb z => by
    obtain ⟨_, o, e, _⟩ := I3.stack.mem hb
    rw [z, nI] at e; cases e
  have nC : ce.locals ∉ frs X.stack := fun hm => frOld _ hm rfl
  obtain ⟨oC, esC, epC, eC, dC, rC⟩ := id nsC
  have BC : B.get? ce.locals = some oC := nb _ _ eC nC
  have aC : a ≠ ce.locals := fun z => by
    have hB : B.get? a = none := by
      rcases sky with ⟨_, h, _⟩ | h | h
      · exact h
      · exact h.2.1
      · exact h.2.1
    rw [z, BC] at hB; cases hB
  have H8C : H8 ce.locals = none := I8.free
  -- behind the note
  have fin : ∀ h1, HandSPX.HeldZ B (X.env :: X.outer) a (L2N.Zn cls d) X.env.locals h1 → s'.heap.UpToSlots h1 → post2 (model X.prog X.w) X.A X.xe use Qf acc ce (.error (.ref a)) { s' with heap := h1 } := fun h1 hh up1 => by
    have keep1 : h1.get? ce.locals = some oC := hh.1 _ _ BC
    have ns1 : h1.Ns ce.locals mC := ⟨oC, esC, epC, keep1, dC, rC⟩
    have go : ∃ m, h1.Ns ce.locals m ∧ ∀ h', Heap.SameBut ce.locals h1 h' → wpAny (model X.prog X.w) X.A (passOn "comprehension.variables-let-go" (.ref a) ce : Sem Value) (fun _ _ => False) X.xe { s' with heap := h' } := by
      refine ⟨mC, ns1, fun h' sb => ?_⟩
      obtain ⟨B', b1, b2⟩ := restrict B fun b => decide (b ≠ ce.locals)
      have bk : ∀ b, b ≠ ce.locals → B'.get? b = B.get? b := fun b hb => b1 b (decide_eq_true hb)
      have bC : B'.get? ce.locals = none := b2 _ (by simp)
      obtain ⟨k1, k2, k3, oe, vs, T, oT, ts, he, hz, hd, h1', hnT, hTe, hT, hdT, h3⟩ := hh
      have TC : T ≠ ce.locals := fun z => by rw [z, BC] at hnT; cases hnT
      have sbo : ∀ b, b ≠ ce.locals → h'.get? b = h1.get? b := fun b hb => sb.2 b hb
      have hh' : HandSPX.HeldZ B' (X.env :: X.outer) a (L2N.Zn cls d) X.env.locals h' := by
        have frC : ∀ L ∈ frs (X.env :: X.outer), L ≠ ce.locals := fun L hL => frOld L (by rw [top.1]; exact hL)
        refine ⟨fun b o e => ?_, by rw [bk a aC]; exact k2, funFrames_none (funFrames_same k3 fun L hL => sbo L (frC L hL)) fun L hL => ?_, oe, vs, T, oT, ts, (sbo a aC).trans he, hz, hd, h1', by rw [bk T TC]; exact hnT, hTe, (sbo T TC).trans hT, hdT, h3⟩
        · by_cases hb : b = ce.locals
          · rw [hb, bC] at e; cases e
          · rw [bk b hb] at e
            exact (sbo b hb).trans (k1 b o e)
        · rw [bk L (frC L hL)]
          exact (k3.mem hL).1
      unfold PySem.passOn
      obtain ⟨q1, q2, q3, q4⟩ := id hh'
      have he' := (sbo a aC).trans he
      refine wpAny_bind (wpAny_field he' hd h1' ?_)
      rw [if_neg (show ¬ ((Value.ref T == Value.none) = true) from by simp)]
      rw [cF, top.2]
      refine wpAny_bind (HandSPX.setFlight_onZ (s := { s' with heap := h' }) hh' fun h'' hh'' up'' => wpAny_throw ?_)
      refine tk _ _ ?_
      -- the state without the exception and without the block's dict
      obtain ⟨G, g1, g2⟩ := restrict sI.heap fun b => decide (b ≠ ce.locals)
      have gk : ∀ b, b ≠ ce.locals → G.get? b = sI.heap.get? b := fun b hb => g1 b (decide_eq_true hb)
      have gC : G.get? ce.locals = none := g2 _ (by simp)
      have U8 : Un (frs X.stack) fp H3 H8 s3.heap sI.heap := I8.base
      have old : ∀ {b : Addr} {o : Obj}, s3.heap.get? b = some o → b ≠ ce.locals := fun {b o} e z => by rw [z, nI] at e; cases e
      have U : Un (frs X.stack) fp H3 H8 s3.heap G := {
        keep := fun b o e n hf hx => by rw [gk b (old e)]; exact U8.keep b o e n hf hx
        slot := fun b o e n hf hx => by rw [gk b (old e)]; exact U8.slot b o e n hf hx
        free := fun b o e n hx => U8.free b o e n hx
        there := fun b o e hx => by rw [gk b (old e)]; exact U8.there b o e hx
        tups := U8.tups
        frzs := U8.frzs
        tbls := U8.tbls }
      have hok : HOk X.prog X.w H8 G := fun b o z => by
        have hbC : b ≠ ce.locals := fun e => by rw [e, H8C] at z; cases z
        have noC : ∀ {c : Addr}, H8 c = some (.own b) → c ≠ ce.locals := fun {c} hc e => by rw [e, H8C] at hc; cases hc
        exact (I8.hok b o z).stay (fun c v hc y => by
            have hcC : c ≠ ce.locals := by
              rcases hc with hc | hc
              · rw [hc]; exact hbC
              · exact noC hc
            rw [gk c hcC]
            exact y) (fun c hc => hc) fun c xs hc => hc
      have os8 : sI.os = s3.os := I8.os
      have J : Inv X pins σ H8 { sI with heap := G } := I3.call' (ch := fp) os8 U hok I8.bare fun b hb => ⟨(f3 b hb).2.2.2.1, (f3 b hb).2.1, (f3 b hb).2.2.2.2.1, (f3 b hb).2.2.2.2.2⟩
      refine ⟨a, B', { sI with heap := G }, pins, σ, H8, cls, d, rfl, J, fun b o e hb => ?_, fun b o e dn => ?_, .inr (.inr (by rw [top.1]; exact hh'')), na, os, ag, w⟩
      · by_cases hbC : b = ce.locals
        · rw [hbC] at e
          rw [show (G.get? ce.locals) = none from gC] at e; cases e
        · rw [bk b hbC]
          exact nb b o (by rw [← gk b hbC]; exact e) hb
      · by_cases hbC : b = ce.locals
        · rw [hbC] at e
          rw [show (G.get? ce.locals) = none from gC] at e; cases e
        · obtain ⟨sl1, e1⟩ := up b o (by rw [← gk b hbC]; exact e) dn
          obtain ⟨sl2, e2⟩ := up1 b _ e1 dn
          obtain ⟨sl3, e3⟩ := up'' b _ ((sbo b hbC).trans e2) dn
          exact ⟨sl3, e3⟩
    cases use <;> exact go
  show wpAny (model X.prog X.w) X.A (noteFrame (.ref a) ce) _ _ s'
  rw [note_same cF]
  have sky' : Sky B (X.env :: X.outer) a (L2N.Zn cls d) ce.locals s'.heap := by rw [← top.1]; exact sky
  rcases sky' with ⟨hB, hn, hl, oe, vs, he, hz, hd, h1⟩ | fl | hh
  · exact PXN.look_newZ L2N.Zn.steady hfr hl top.2 he hB hn hd h1 hz fin
  · exact PXN.looks_onZ L2N.Zn.steady hfr top.2 fl fin
  · exact look_other L2N.Zn.steady hfr top.2 (frOld _ Lfr).symm hh fin
/-- [elt for target in iter if ..]: the element may raise -/
theorem lc_coreX {pins : List (Addr × Obj)} {s : Shared} {σ : St} {H : Hp} {Q : VK} {elt tg iter : Expr} {ifs : List Expr} {scope : Scope} {own : List (Str × Nat)} {pos pos' : Pos} {wi : TI} {g : TG} {tt : TT} {te : TE} {use : Option (Value → Sem Unit)} {Qf : Value → Shared → Prop} {Wx : WX}
    (top : X.stack = X.env :: X.outer ∧ X.env.frame = some X.env.locals) (tk : L2N.Takes X Wx)
    (hc : X.calm = true) (hN : X.N.Nodup) (I : Inv X pins σ H s) (hi : PI X tg iter wi) (ok : BlkOk X.N X.env.scope scope own)
    (hg : ∀ (s : Shared) (H : Hp) (C : Addr) (cl : List (Str × Addr)) (fp : List Addr) (xe : Value → Shared → Prop), PG (blkX X s H scope (compEnvC scope cl C X.env) fp xe) tg g)
    (ht : ∀ (s : Shared) (H : Hp) (C : Addr) (cl : List (Str × Addr)) (fp : List Addr) (xe : Value → Shared → Prop), L2N.Takes (blkX X s H scope (compEnvC scope cl C X.env) fp xe) (fun cls d _ H' => Wx cls d σ H') → PTs (blkX X s H scope (compEnvC scope cl C X.env) fp xe) ifs tt)
    (he : ∀ (s : Shared) (H : Hp) (C : Addr) (cl : List (Str × Addr)) (fp : List Addr) (xe : Value → Shared → Prop), L2N.Takes (blkX X s H scope (compEnvC scope cl C X.env) fp xe) (fun cls d _ H' => Wx cls d σ H') → PE (blkX X s H scope (compEnvC scope cl C X.env) fp xe) elt te) (hs : ∀ x, foldedSetIterable iter X.env x = pure x)
    (h : tLc wi g tt te (own.map (·.2)) σ H Q)
    (hRR : ∀ D C s' m H', Inv X pins σ H' s' → Q (.ref D) H' → s'.heap.Ns C m → FpOk X pins H' C → compPost (model X.prog X.w) X.A X.xe use Qf (.ref D) C (.ok .next) s') :
    wpAny (model X.prog X.w) X.A (comprehension (.ListComp elt [⟨tg, iter, ifs, 0⟩] scope pos) scope X.env pos' (newList []) false (eval iter X.env) use) Qf X.xe s := by
  have hfree : ∀ y ∈ scope.names, y.2 = .free → ∃ c, X.env.cells.lookup y.1 = some c := fun y hy e => by
    rcases ok.free y hy e with k | k
    · exact I.ok.has _ (.inl k)
    · exact I.ok.has _ (.inr k)
  refine compr_free (use := use) rfl hs (closure_ok hfree) ok.kind (fun y hy e => by rw [ok.uniq y hy, e])
    (thn (hi.run pins s σ H _ I h) fun xv s1 hx => thn hx fun itv s2 h2 => ?_)
  obtain ⟨it, fp, tn, J, H2, e, I2, T, st2, f2, q⟩ := h2
  subst e
  refine wpAny_newObj_type (newEnv_comp ?_) (by show 0 ≤ sizeLine; decide)
  generalize hD : s2.heap.objs.size = D
  have hDn : H2 D = none := I2.hok.fresh (Nat.le_of_eq hD)
  obtain ⟨W, ⟨m0, w0⟩, turn⟩ := q D hDn
  -- the new list
  generalize hs3 : ({ s2 with heap := s2.heap.push { cls := .type "list", data := .seq ([] : List Value).toArray } } : Shared) = s3
  have I3 : Inv X pins σ (upd H2 D (.lst [])) s3 := by
    rw [← hs3]
    refine I2.laid (t' := s2.toks) (fun b o e => Heap.get?_push_of_some _ e) (Nat.le_of_eq hD) ⟨Nat.zero_le _, [], 0, .nil, ?_⟩
    rw [← hD]
    exact Heap.get?_push_size _ rfl
  have h3 : s3.heap = s2.heap.push { cls := .type "list", data := .seq ([] : List Value).toArray } := by rw [← hs3]
  have sz : ∀ b ∈ fp, b < s2.heap.objs.size := fun b hb => by
    obtain ⟨o, e, _⟩ := T.obj _ _ st2 b hb
    exact Heap.lt_size e
  have f3 : ∀ b ∈ fp, FpOk X pins (upd H2 D (.lst [])) b ∧ b < s3.heap.objs.size := fun b hb => by
    have hlt := sz b hb
    refine ⟨⟨?_, (f2 b hb).2⟩, by rw [h3, Heap.size_push]; exact Nat.lt_succ_of_lt hlt⟩
    rw [upd_ne (by rw [← hD]; exact Nat.ne_of_lt hlt)]
    exact (f2 b hb).1
  have st3 : tn 0 s3.heap := T.keep _ _ _ st2 fun b _ o e => by rw [h3]; exact Heap.get?_push_of_some _ e
  have I4 := block_start I3 ok hN f3
  generalize hxe : notedBy (model X.prog X.w) X.A (compEnvC scope (cellsFrom (s3.heap.objs.size + 1) scope.names (cloFrom X.env.cells scope.names [])) s3.heap.objs.size X.env) (fun e s' => post2 (model X.prog X.w) X.A X.xe use Qf (.ref D) (compEnvC scope (cellsFrom (s3.heap.objs.size + 1) scope.names (cloFrom X.env.cells scope.names [])) s3.heap.objs.size X.env) (.error e) s') = xe
  have tkB := takes_blk (H3 := upd H2 D (.lst [])) (scope := scope) (use := use) (Qf := Qf) (acc := .ref D) (xe := xe) (ce := compEnvC scope (cellsFrom (s3.heap.objs.size + 1) scope.names (cloFrom X.env.cells scope.names [])) s3.heap.objs.size X.env) top tk I3 rfl rfl (fun b hb => (f3 b hb).1) hxe.symm
  have pg := hg s3 (upd H2 D (.lst [])) s3.heap.objs.size (cellsFrom (s3.heap.objs.size + 1) scope.names (cloFrom X.env.cells scope.names [])) fp xe
  have pt := ht s3 (upd H2 D (.lst [])) s3.heap.objs.size (cellsFrom (s3.heap.objs.size + 1) scope.names (cloFrom X.env.cells scope.names [])) fp xe tkB
  have pe := he s3 (upd H2 D (.lst [])) s3.heap.objs.size (cellsFrom (s3.heap.objs.size + 1) scope.names (cloFrom X.env.cells scope.names [])) fp xe tkB
  show codeAny _ _ (.compStart (.ListComp elt [⟨tg, iter, ifs, 0⟩] scope pos) 0 (.ref it) (.ref D) (compEnvC scope (cellsFrom (s3.heap.objs.size + 1) scope.names (cloFrom X.env.cells scope.names [])) s3.heap.objs.size X.env)) (post2 (model X.prog X.w) X.A X.xe use Qf (.ref D) (compEnvC scope (cellsFrom (s3.heap.objs.size + 1) scope.names (cloFrom X.env.cells scope.names [])) s3.heap.objs.size X.env)) { s3 with heap := pushCells (s3.heap.push { cls := .type "dict", data := .dict #[] }) scope.names }
  have nfp : ∀ b ∈ fp, (upd H2 D (.lst [])) b = none := fun b hb => (f3 b hb).1.1
  generalize hce : compEnvC scope (cellsFrom (s3.heap.objs.size + 1) scope.names (cloFrom X.env.cells scope.names [])) s3.heap.objs.size X.env = ce at I4 pg pt pe hxe ⊢
  have cL : ce.locals = s3.heap.objs.size := by subst hce; rfl
  generalize hH3 : upd H2 D (.lst []) = H3 at I3 I4 pg pt pe w0 nfp f3
  generalize hs4 : ({ s3 with heap := pushCells (s3.heap.push { cls := .type "dict", data := .dict #[] }) scope.names } : Shared) = s4 at I4 ⊢
  have st4 : tn 0 s4.heap := T.keep _ _ _ st3 fun b _ o e => by rw [← hs4]; exact pushCells_keeps _ _ _ _ (Heap.get?_push_of_some _ e)
  have stat : ∀ {σ' : St} {H' : Hp} {s' : Shared}, Inv (X.blk s3 H3 scope ce fp) [] σ' H' s' → (∀ b ∈ fp, H' b = none) → ∀ b ∈ fp, FpOk (X.blk s3 H3 scope ce fp) [] H' b := fun {σ' H' s'} I' hn b hb =>
    ⟨hn b hb, (I'.ok.exf b hb).1, I'.ok.exfs b hb, .inl hb, fun x c e => (I'.ok.exf b hb).2 x c e, fun p hp => absurd (show p ∈ ([] : List (Addr × Obj)) ++ [] from hp) (by simp)⟩
  have loop : codeAny (model X.prog X.w) X.A (.compLoop (.ListComp elt [⟨tg, iter, ifs, 0⟩] scope pos) 0 (.ref it) (.ref D) ce) (post2 (model X.prog X.w) X.A X.xe use Qf (.ref D) ce) s4 := by
    refine compLoop_any (fun n s' => ∃ i H', Inv (X.blk s3 H3 scope ce fp) [] (wipe σ (own.map (·.2))) H' s' ∧ tn i s'.heap ∧ (∀ b ∈ fp, H' b = none) ∧ W i n H') ?_ m0 ⟨0, H3, I4, st4, nfp, w0⟩
    rintro n s5 ⟨i, H5, I5, st5, n5, w5⟩
    rw [hxe]
    rcases turn i n H5 w5 with ⟨stop, qq⟩ | ⟨go, Nx, hNx, step⟩
    · have td := T.done (X.blk s3 H3 scope ce fp) rfl rfl rfl hc i [] s5 _ H5 (fun _ _ => False) I5 (stat I5 n5) st5 stop
      refine thnF td fun r s6 ⟨hr, I6⟩ => ?_
      subst hr
      -- back in the def's context
      have I7 : Inv X pins σ H5 s6 := I3.call' (ch := fp) I6.os I6.base I6.hok I6.bare fun b hb => ⟨(f3 b hb).1.2.2.2.1, (f3 b hb).1.2.1, (f3 b hb).1.2.2.2.2.1, (f3 b hb).1.2.2.2.2.2⟩
      have nC : H5 s3.heap.objs.size = none := by
        have z : H5 ce.locals = none := I6.free
        rw [cL] at z
        exact z
      obtain ⟨m, hn, _⟩ := I6.loc
      have hn : s6.heap.Ns ce.locals m := hn
      rw [cL] at hn
      have z := hRR D s3.heap.objs.size s6 m H5 I7 qq hn (I3.fpOk (Nat.le_refl _) nC)
      rw [← cL] at z
      cases use <;> exact z
    · have ti := T.item (X.blk s3 H3 scope ce fp) rfl rfl rfl hc i [] s5 _ H5 (fun _ _ => False) I5 (stat I5 n5) st5 go
      refine thnF ti fun r s6 ⟨u, hr, h6⟩ => ?_
      subst hr
      refine thnF h6 fun _ s7 ⟨x, H7, I7, r7, y7, st7, n7⟩ => ?_
      have I7' := I7.pinned (stat I7 n7) (T.obj _ _ st7)
      refine wpAny_mono (pg.run _ s7 _ H7 x u _ (blkX_inv I7') r7 (step x H7 y7)) (fun _ s8 ⟨σ8, H8, I8, hw8, q8⟩ => ?_) fun _ _ z => z
      refine wpAny_mono (pt.run _ s8 σ8 H8 _ I8 q8) (fun b s9 ⟨H9, I9, q9⟩ => ?_) fun _ _ z => z
      -- the turn's end
      have fin : ∀ {s' : Shared} {H' : Hp}, Inv (X.blk s3 H3 scope ce fp) ([] ++ pinsAt fp s7.heap) σ8 H' s' → Nx H' → ∃ m, m < n ∧ ∃ i H', Inv (X.blk s3 H3 scope ce fp) [] (wipe σ (own.map (·.2))) H' s' ∧ tn i s'.heap ∧ (∀ b ∈ fp, H' b = none) ∧ W i m H' := fun {s' H'} I' nx => by
        obtain ⟨m', hm, w'⟩ := hNx H' nx
        have pin' : ∀ b ∈ fp, ∀ o, s7.heap.get? b = some o → s'.heap.get? b = some o ∧ H' b = none := fun b hb o e =>
          let z := I'.pin (b, o) (List.mem_append_right _ (List.mem_append_right _ (mem_pinsAt hb e)))
          ⟨z.1, z.2.1⟩
        have hl : (wipe σ (own.map (·.2))).length = σ8.length := by rw [← hw8, wipe_length]
        refine ⟨m', hm, i + 1, H', (I'.unpinned (pins := [])).weak hl (fun j v e => ?_), T.keep _ _ _ st7 fun b hb o e => (pin' b hb o e).1, fun b hb => ?_, w'⟩
        · rw [← hw8] at e
          exact (wipe_some e).1
        · obtain ⟨o, e, _⟩ := T.obj _ _ st7 b hb
          exact (pin' b hb o e).2
      cases b with
      | false =>
        simp only [Bool.false_eq_true, if_false] at q9 ⊢
        exact fin (inv_blk I9) q9
      | true =>
        simp only [if_true] at q9 ⊢
        refine wpAny_mono (pe.run _ s9 σ8 H9 _ I9 q9) (fun z s10 ⟨yv, H10, I10, r10, acc, hD10, hz10, nx⟩ => ?_) fun _ _ z => z
        exact app_ok (X := X.blk s3 H3 scope ce fp) (inv_blk I10) hD10 hz10 r10 fun s11 I11 => fin I11 nx
  exact codeAny_compStart_list loop (T.self X.A 0 _ _ _ st4 loop)
/-- .. as a value -/
theorem pe_lcX {elt tg iter : Expr} {ifs : List Expr} {scope : Scope} {own : List (Str × Nat)} {pos : Pos} {wi : TI} {g : TG} {tt : St → TT} {te : St → TE} {Wx : WX} (top : X.stack = X.env :: X.outer ∧ X.env.frame = some X.env.locals) (tk : L2N.Takes X Wx)
    (hc : X.calm = true) (hN : X.N.Nodup) (hi : PI X tg iter wi) (ok : BlkOk X.N X.env.scope scope own)
    (hg : ∀ (s : Shared) (H : Hp) (C : Addr) (cl : List (Str × Addr)) (fp : List Addr) (xe : Value → Shared → Prop), PG (blkX X s H scope (compEnvC scope cl C X.env) fp xe) tg g)
    (ht : ∀ (σ : St) (s : Shared) (H : Hp) (C : Addr) (cl : List (Str × Addr)) (fp : List Addr) (xe : Value → Shared → Prop), L2N.Takes (blkX X s H scope (compEnvC scope cl C X.env) fp xe) (fun cls d _ H' => Wx cls d σ H') → PTs (blkX X s H scope (compEnvC scope cl C X.env) fp xe) ifs (tt σ))
    (he : ∀ (σ : St) (s : Shared) (H : Hp) (C : Addr) (cl : List (Str × Addr)) (fp : List Addr) (xe : Value → Shared → Prop), L2N.Takes (blkX X s H scope (compEnvC scope cl C X.env) fp xe) (fun cls d _ H' => Wx cls d σ H') → PE (blkX X s H scope (compEnvC scope cl C X.env) fp xe) elt (te σ)) (hs : ∀ x, foldedSetIterable iter X.env x = pure x := by intro _; rfl) :
    PE X (.ListComp elt [⟨tg, iter, ifs, 0⟩] scope pos) (fun σ H Q => tLc wi g (tt σ) (te σ) (own.map (·.2)) σ H Q) := by
  refine ⟨fun pins s σ H Q I h => ?_⟩
  rw [eval_ListComp]
  refine lc_coreX top tk hc hN I hi ok hg (ht σ) (he σ) hs h fun D C s' m H' I' q hn f => ⟨m, hn, fun h'' sb => ?_⟩
  obtain ⟨f0, f1, f2, f3, f4, f5⟩ := f
  exact ⟨.ref D, H', I'.turned (t' := s'.toks) (fun b o hb e => (sb.2 b hb).trans e) f0 f1 f3 f4 f5, rfl, q⟩
/-- name = [..] on one line, the name a local -/
theorem ps_setLcX {i : Nat} {y : Str} {py : Pos} {elt tg iter : Expr} {ifs : List Expr} {scope : Scope} {own : List (Str × Nat)} {pos spos : Pos} {wi : TI} {g : TG} {tt : St → TT} {te : St → TE} {Wx : WX} (top : X.stack = X.env :: X.outer ∧ X.env.frame = some X.env.locals) (tk : L2N.Takes X Wx)
    (hc : X.calm = true) (hN : X.N.Nodup) (hy : X.N[i]? = some y) (hyl : X.env.scope.names.lookup y = some .local)
    (hsw : swapsWith (.ListComp elt [⟨tg, iter, ifs, 0⟩] scope pos) (some (.Name y py)) spos.line X.env = pure true) (hi : PI X tg iter wi) (ok : BlkOk X.N X.env.scope scope own)
    (hg : ∀ (s : Shared) (H : Hp) (C : Addr) (cl : List (Str × Addr)) (fp : List Addr) (xe : Value → Shared → Prop), PG (blkX X s H scope (compEnvC scope cl C X.env) fp xe) tg g)
    (ht : ∀ (σ : St) (s : Shared) (H : Hp) (C : Addr) (cl : List (Str × Addr)) (fp : List Addr) (xe : Value → Shared → Prop), L2N.Takes (blkX X s H scope (compEnvC scope cl C X.env) fp xe) (fun cls d _ H' => Wx cls d σ H') → PTs (blkX X s H scope (compEnvC scope cl C X.env) fp xe) ifs (tt σ))
    (he : ∀ (σ : St) (s : Shared) (H : Hp) (C : Addr) (cl : List (Str × Addr)) (fp : List Addr) (xe : Value → Shared → Prop), L2N.Takes (blkX X s H scope (compEnvC scope cl C X.env) fp xe) (fun cls d _ H' => Wx cls d σ H') → PE (blkX X s H scope (compEnvC scope cl C X.env) fp xe) elt (te σ)) (hs : ∀ x, foldedSetIterable iter X.env x = pure x := by intro _; rfl) :
    PS X (.Assign [.Name y py] (.ListComp elt [⟨tg, iter, ifs, 0⟩] scope pos) spos) (tAsg (fun σ H Q => tLc wi g (tt σ) (te σ) (own.map (·.2)) σ H Q) (gName i)) := by
  refine ⟨fun pins s σ H D I h => ?_⟩
  rw [exec_Assign_Name_used _ _ _ _ hsw]
  refine wpAny_bind (wpAny_standAt (wpAny_bind ?_))
  show wpAny _ X.A (do let _ ← comprehension (.ListComp elt [⟨tg, iter, ifs, 0⟩] scope pos) scope X.env (firstIterPos [⟨tg, iter, ifs, 0⟩] pos) (newList []) false (eval iter X.env) (some (assign (.Name y py) X.env))) _ _ s
  have h : tLc wi g (tt σ) (te σ) (own.map (·.2)) σ H (fun x H1 => gName i x σ H1 D.nx) := h
  refine wpAny_bind (thn (lc_coreX (Qf := fun _ s' => SP X pins D .next s') top tk hc hN I hi ok hg (ht σ) (he σ) hs h fun L C s' m H' I' q hn f => ?_) fun _ s' hq => wpAny_pure (wpAny_pure hq))
  show wpAny _ _ (assign (.Name y py) X.env (.ref L)) _ _ _
  refine wpAny_assign_Name (store_ok2 (v := V.ref L) I' hN hy (.inl hyl) rfl (fun s2 I2 ⟨a, sb, ha⟩ => ?_) (.inr hyl))
  obtain ⟨f0, f1, f2, f3, f4, f5⟩ := f
  have haC : C ≠ a := by
    rcases ha with z | z
    · rw [z]; exact f1
    · exact fun e => f4 y a z e.symm
  refine ⟨m, hn.sameBut sb haC, fun h3 sb3 => ?_⟩
  exact ⟨_, H', I2.turned (t' := s2.toks) (fun b o hb e => (sb3.2 b hb).trans e) f0 f1 f3 f4 f5, q⟩
end
end MiX

set_option maxRecDepth 100000
set_option maxHeartbeats 2000000
/-! Mi, eleventh part: targets, comprehensions, calls of defs. -/
namespace Mi
open PySem PySem.Spec PyProof.Rows L2
variable {T : Top} {F F' F0 F1 : Hp} {m m' m0 m1 : List Addr} {h h' : MH} {H H' H0 H1 : Hp} {Wx : WX} {σ0 : L2.St} {D : Addr}

/-! ### an object beside -/
theorem Sim.side {o : HO} (S : Sim T F m h H) (nF : F D = none) (nM : D ∉ m) : Sim T F m h (upd H D o) := by
  refine ⟨fun a u e => by rw [upd_ne (ne_of_none e nF)]; exact S.sub _ _ e, S.len, S.nd, fun i c a e1 e2 => ?_⟩
  have ne : a ≠ D := fun z => nM (z ▸ List.mem_of_getElem? e2)
  have r := S.cell i c a e1 e2
  cases c with
  | lst ws =>
    obtain ⟨z, vs, q, rs⟩ := r
    exact ⟨z, vs, by rw [upd_ne ne]; exact q, rs⟩
  | frz x => exact r
  | ins _ _ =>
    obtain ⟨z, dx, gs, q, rs⟩ := r
    exact ⟨z, dx, gs, by rw [upd_ne ne]; exact q, rs⟩
theorem Ext.side {o : HO} (X : Ext F0 m0 H0 F m H) (n : H0 D = none) : Ext F0 m0 H0 F m (upd H D o) :=
  ⟨X.sub, X.pre, fun a u e z => by rw [upd_ne (ne_of_none e n)]; exact X.keep a u e z, X.new⟩
theorem Ext.notin {o : HO} (X : Ext F m H F' m' H') (e : H D = some o) (n : D ∉ m) : D ∉ m' := by
  obtain ⟨t, et, nt⟩ := X.pre
  rw [et, List.mem_append]
  rintro (z | z)
  · exact n z
  · rw [nt D z] at e; cases e
theorem Ext.free {o : HO} (X : Ext F m H F' m' H') (e : H D = some o) (n : D ∉ m) (nF : F D = none) : F' D = none := by
  cases q : F' D with
  | none => rfl
  | some u =>
    rcases X.new D u q nF with z | z
    · rw [z] at e; cases e
    · exact absurd z n
theorem Sim.addC {ws : List W} {vs : List V} (S : Sim T F m h H) (nF : F D = none) (nM : D ∉ m) (e : H D = some (.lst vs)) (r : WRs T F m ws vs) : Sim T F (m ++ [D]) (h ++ [.lst ws]) H := by
  refine ⟨S.sub, by simp [S.len], ?_, fun i c b e3 e4 => ?_⟩
  · rw [List.nodup_append]
    exact ⟨S.nd, by simp, fun b hb c hc => by simp at hc; subst hc; exact fun e => nM (e ▸ hb)⟩
  · by_cases hi : i < h.length
    · rw [List.getElem?_append_left hi] at e3
      rw [List.getElem?_append_left (by rw [S.len]; exact hi)] at e4
      have q := S.cell i c b e3 e4
      cases c with
      | lst us =>
        obtain ⟨z, xs, q, rs2⟩ := q
        exact ⟨z, xs, q, rs2.up (fun _ _ e => e) ⟨[D], rfl⟩⟩
      | frz y => exact q
      | ins _ _ =>
        obtain ⟨z, dx, gs, q, rs2⟩ := q
        exact ⟨z, dx, gs, q, rs2.up (fun _ _ e => e) ⟨[D], rfl⟩⟩
    · have hl : i < (h ++ [Cell.lst ws]).length := (List.getElem?_eq_some_iff.mp e3).1
      rw [List.length_append] at hl
      have hi' : i = h.length := by simp at hl; omega
      subst hi'
      rw [List.getElem?_append_right (Nat.le_refl _), Nat.sub_self] at e3
      rw [List.getElem?_append_right (by rw [S.len]; exact Nat.le_refl _), S.len, Nat.sub_self] at e4
      cases e3
      cases e4
      exact ⟨nF, vs, e, r.up (fun _ _ e => e) ⟨[D], rfl⟩⟩
theorem Sim.addF {vs : List V} (S : Sim T F m h H) (nF : F D = none) (nM : D ∉ m) (e : H D = some (.lst vs)) : Sim T (upd F D (.lst vs)) m h H := by
  have sF : ∀ b o, F b = some o → upd F D (.lst vs) b = some o := fun b o q => by rw [upd_ne (ne_of_none q nF)]; exact q
  refine ⟨fun b o q => ?_, S.len, S.nd, fun i c b e3 e4 => ?_⟩
  · by_cases hb : b = D
    · subst hb; rw [upd_same] at q; cases q; exact e
    · rw [upd_ne hb] at q; exact S.sub _ _ q
  · have hb : b ≠ D := fun z => nM (z ▸ List.mem_of_getElem? e4)
    have q := S.cell i c b e3 e4
    cases c with
    | lst us =>
      obtain ⟨z, xs, q, rs2⟩ := q
      exact ⟨by rw [upd_ne hb]; exact z, xs, q, rs2.up sF ⟨[], by simp⟩⟩
    | frz y =>
      obtain ⟨⟨o, q⟩, d⟩ := q
      exact ⟨⟨o, sF _ _ q⟩, Dq.up sF d⟩
    | ins _ _ =>
      obtain ⟨z, dx, gs, q, rs2⟩ := q
      exact ⟨by rw [upd_ne hb]; exact z, dx, gs, q, rs2.up sF ⟨[], by simp⟩⟩
/-- a list beside becomes the program's own -/
theorem mkL_side {nw : Bool} {ws : List W} {vs : List V} {Q : VK} (S : Sim T F m h H) (X : Ext F0 m0 H0 F m H) (n0 : H0 D = none) (nF : F D = none) (nM : D ∉ m) (e : H D = some (.lst vs)) (r : WRs T F m ws vs)
    (x : Run T Wx σ0 F0 m0 H0 (mkL nw ws h) fun w F' m' _ H' => ∀ v, WR T F' m' w v → Q v H') : Q (.ref D) H := by
  unfold mkL at x
  split at x
  · refine x F (m ++ [D]) H (S.addC nF nM e r) ⟨X.sub, ?_, X.keep, X.new⟩ (.ref D) ⟨D, ?_, rfl⟩
    · obtain ⟨t, et, nt⟩ := X.pre
      refine ⟨t ++ [D], by rw [et, List.append_assoc], fun a ha => ?_⟩
      rcases List.mem_append.mp ha with ha | ha
      · exact nt a ha
      · simp at ha; subst ha; exact n0
    · rw [← S.len, List.getElem?_append_right (Nat.le_refl _), Nat.sub_self]
      rfl
  · split at x
    · rename_i ds e2
      have sF : ∀ b o, F b = some o → upd F D (.lst vs) b = some o := fun b o q => by rw [upd_ne (ne_of_none q nF)]; exact q
      refine x (upd F D (.lst vs)) m H (S.addF nF nM e) ⟨fun b o q => sF b o (X.sub _ _ q), X.pre, X.keep, fun b o q n => ?_⟩ (.ref D) (.lst upd_same (DqAll.up sF (wrs_toDs e2 r)))
      by_cases hb : b = D
      · exact .inl (hb ▸ n0)
      · rw [upd_ne hb] at q; exact X.new b o q n
    · exact x.elim

/-! ### targets -/
def setVs : List Nat → List V → L2.St → L2.St
  | i :: is, v :: vs, σ => setVs is vs (σ.set i (some v))
  | _, _, σ => σ
def gsOf : List Nat → TGs
  | [] => gNil
  | i :: is => gCons (gName i) (gsOf is)
def gOf (K : PySem.W.Frag) (tg : List Nat) (tup : Bool) : TG := match tup, tg with
  | false, [i] => gName i
  | true, is => gTup K is.length (gsOf is)
  | _, _ => fun _ _ _ _ => False
theorem gs_use : ∀ {is : List Nat} {vs : List V} {σ : L2.St} {Q : L2.St → Hp → Prop}, vs.length = is.length → Q (setVs is vs σ) H → gsOf is vs σ H Q
  | [], [], σ, Q, _, q => ⟨rfl, q⟩
  | i :: is, v :: vs, σ, Q, l, q => ⟨v, vs, rfl, gs_use (by simpa using l) q⟩
  | [], _ :: _, _, _, l, _ => by simp at l
  | _ :: _, [], _, _, l, _ => by simp at l
theorem setAll_env : ∀ {is : List Nat} {ws : List W} {vs : List V} {env env' : Ev} {σ : L2.St}, setAll env is ws = some env' → WRs T F m ws vs → EnvR T F m env σ → vs.length = is.length ∧ EnvR T F m env' (setVs is vs σ)
  | [], [], _, env, env', σ, e, .nil, r => by cases e; exact ⟨rfl, r⟩
  | i :: is, w :: ws, _, env, env', σ, e, .cons q t, r => by
    obtain ⟨l, r'⟩ := setAll_env (is := is) (ws := ws) e t (r.set i q)
    exact ⟨by simp [l], r'⟩
  | [], _ :: _, _, _, _, _, e, _, _ => by cases e
  | _ :: _, [], _, _, _, _, e, _, _ => by cases e
/-- what a store to a target makes of the slots -/
def setTs (tg : List Nat) (tup : Bool) (v : V) (σ σ' : L2.St) : Prop := (tup = false ∧ ∃ i, tg = [i] ∧ σ' = σ.set i (some v)) ∨ (tup = true ∧ ∃ vs, vs.length = tg.length ∧ σ' = setVs tg vs σ)
theorem tg_use {tg : List Nat} {tup : Bool} {w : W} {v : V} {env env' : Ev} {σ : L2.St} {K : PySem.W.Frag} {Q : L2.St → Hp → Prop} (hK : K = T.K) (S : Sim T F m h H) (e : setTg tg tup w env = some env') (r : WR T F m w v) (q : EnvR T F m env σ)
    (k : ∀ σ', setTs tg tup v σ σ' → EnvR T F m env' σ' → Q σ' H) : gOf K tg tup v σ H Q := by
  unfold setTg at e
  split at e
  · cases e
    exact k _ (.inl ⟨rfl, _, rfl, rfl⟩) (q.set _ r)
  · split at e
    · cases r with
      | @tup a vs xs g d =>
        obtain ⟨l, q'⟩ := setAll_env e (d_wrs d) q
        exact ⟨a, vs, rfl, by rw [hK]; exact SqT.up S.sub g, l, gs_use l (k _ (.inr ⟨rfl, vs, l, rfl⟩) q')⟩
    · cases e
  · cases e
section
variable {X : Cx} {N : List Str} {sc : Scope} {fb : Str → Bool}
theorem nm_pg {i : Nat} {x : Str} {p : Pos} (hN : X.N = N) (nd : N.Nodup) (hs : X.env.scope = sc) (hf : ∀ y, fb y = true → X.fn y = true) (c : nmB N sc fb i x = true) : PG X (.Name x p) (gName i) := by
  unfold nmB at c
  simp only [Bool.and_eq_true, decide_eq_true_eq, Bool.or_eq_true] at c
  refine pg_name (by rw [hN]; exact nd) (by rw [hN]; exact c.1.1.1) (by rw [hs]; exact locB_iff c.1.1.2) ?_
  rcases c.1.2 with z | z
  · exact .inl (hf x z)
  · exact .inr (by rw [hs]; exact loc1_iff z)
theorem nms_pg (hN : X.N = N) (nd : N.Nodup) (hs : X.env.scope = sc) (hf : ∀ y, fb y = true → X.fn y = true) : ∀ {is : List Nat} {es : List Expr}, nmsB N sc fb is es = true →
    PGs X es (gsOf is) ∧ (assignEach es X.env).length = is.length ∧ (assignEach es X.env).findIdx? (·.1) = none
  | [], [], _ => ⟨pgs_nil, rfl, rfl⟩
  | i :: is, e :: es, c => by
    cases e with
    | Name x p =>
      simp only [nmsB, Bool.and_eq_true] at c
      obtain ⟨h1, h2, h3⟩ := nms_pg hN nd hs hf c.2
      refine ⟨pgs_cons (nm_pg hN nd hs hf c.1) h1, by show (assignEach es X.env).length + 1 = _; rw [h2]; rfl, ?_⟩
      show ((false, _) :: assignEach es X.env).findIdx? (·.1) = none
      rw [List.findIdx?_cons]
      simp [h3]
    | _ => cases c
  | [], _ :: _, c => by cases c
  | _ :: _, [], c => by cases c
theorem tg_pg {tg : List Nat} {tup : Bool} {x : Expr} (hc : X.calm = true) (hN : X.N = N) (nd : N.Nodup) (hs : X.env.scope = sc) (hf : ∀ y, fb y = true → X.fn y = true) (c : tgB N sc fb tg tup x = true) : PG X x (gOf X.K tg tup) := by
  unfold tgB at c
  split at c
  · exact nm_pg hN nd hs hf c
  · obtain ⟨h1, h2, h3⟩ := nms_pg hN nd hs hf c
    exact pg_tup hc h1 h2 h3
  · cases c
end
/-! ### slots forgotten -/
theorem wipe_get (σ : L2.St) : ∀ (vs : List Nat) (j : Nat), (wipe σ vs)[j]? = if j ∈ vs ∧ j < σ.length then some none else σ[j]?
  | [], j => by simp [wipe]
  | v :: vs, j => by
    unfold wipe
    by_cases hj : v = j
    · subst hj
      by_cases hl : v < σ.length
      · rw [List.getElem?_set_self (by rw [wipe_length]; exact hl), if_pos ⟨by simp, hl⟩]
      · rw [List.getElem?_eq_none (by rw [List.length_set, wipe_length]; omega), if_neg (fun z => hl z.2), List.getElem?_eq_none (by omega)]
    · rw [List.getElem?_set_ne hj, wipe_get σ vs j]
      have : j ∈ v :: vs ↔ j ∈ vs := by simp [Ne.symm hj, eq_comm, hj]
      simp only [this]
theorem setVs_len : ∀ (is : List Nat) (vs : List V) (σ : L2.St), (setVs is vs σ).length = σ.length
  | [], _, _ => rfl
  | _ :: _, [], _ => rfl
  | i :: is, v :: vs, σ => by
    unfold setVs
    rw [setVs_len, List.length_set]
theorem setVs_get : ∀ (is : List Nat) (vs : List V) (σ : L2.St) (j : Nat), j ∉ is → (setVs is vs σ)[j]? = σ[j]?
  | [], _, _, _, _ => rfl
  | _ :: _, [], _, _, _ => rfl
  | i :: is, v :: vs, σ, j, n => by
    unfold setVs
    rw [setVs_get is vs _ j (fun z => n (List.mem_cons_of_mem _ z)), List.getElem?_set_ne (fun z => n (by rw [z]; exact List.mem_cons_self))]
theorem wipe_again {tg : List Nat} {tup : Bool} {v : V} {σ σ' : L2.St} (s : setTs tg tup v (wipe σ tg) σ') : wipe σ' tg = wipe σ tg := by
  have key : σ'.length = σ.length ∧ ∀ j, j ∉ tg → σ'[j]? = (wipe σ tg)[j]? := by
    rcases s with ⟨_, i, rfl, rfl⟩ | ⟨_, vs, _, rfl⟩
    · refine ⟨by rw [List.length_set, wipe_length], fun j n => ?_⟩
      rw [List.getElem?_set_ne (fun z => n (by simp [z]))]
    · exact ⟨by rw [setVs_len, wipe_length], fun j n => setVs_get _ _ _ j n⟩
  apply List.ext_getElem?
  intro j
  rw [wipe_get, wipe_get, key.1]
  by_cases hj : j ∈ tg ∧ j < σ.length
  · rw [if_pos hj, if_pos hj]
  · rw [if_neg hj, if_neg hj]
    by_cases hm : j ∈ tg
    · have hl : ¬ j < σ.length := fun z => hj ⟨hm, z⟩
      rw [List.getElem?_eq_none (by rw [key.1]; omega), List.getElem?_eq_none (by omega)]
    · rw [key.2 j hm, wipe_get, if_neg (fun z => hm z.1)]
/-! ### comprehensions -/
def W0 : WX := fun _ _ _ _ => False
/-- what is wanted within a comprehension's block -/
abbrev Wb (Wx : WX) (σ : L2.St) : WX := fun cls d _ H' => Wx cls d σ H'
def compF (Φ : Nat → List W → M W) (own tg : List Nat) (tup : Bool) (c : Mi.T) (e : E) (env : Ev) : W → M (Option W) := fun w h => match setTg tg tup w (wipeE env own) with
  | some env1 => (evT Φ c env1 h).bind fun k h => if k then (evE Φ e env1 h).bind fun y h => .ok (some y) h else .ok none h
  | none => .stuck
section
variable {Φ : Nat → List W → M W} {X : Cx} {pos : Pos} {a b c : E} {xa xb xc : Expr} {es : Es} {xs : List Expr}
theorem lc_use {nw : Bool} {own tg : List Nat} {tup : Bool} {it : Mi.It} {t : Mi.T} {e : E} {σ : L2.St} {Q : VK} (hK : X.K = T.K) (ho : own = tg) : tE T Φ Wx (.comp nw own tg tup it t e) σ H Q →
    tLc (tIt T Φ Wx it) (gOf X.K tg tup) (tT T Φ (Wb Wx σ) t) (tE T Φ (Wb Wx σ) e) own σ H Q := by
  subst ho
  rintro ⟨F, m, h, env, A, R⟩
  refine ⟨F, m, h, env, A, R.bind.imp fun src F1 m1 h1 H1 S1 X1 R1 => ?_⟩
  have A1 := A.step S1 X1
  have c1 : srcOk src h1 = true := by
    cases q : srcOk src h1 with
    | true => rfl
    | false =>
      exfalso
      cases q2 : src.1 with
      | nil => simp only [q2, compL, q, Bool.false_eq_true, if_false, Mi.R.bind] at R1; exact R1.elim
      | cons w ws => simp only [q2, compL, q, Bool.false_eq_true, if_false, Mi.R.bind] at R1; exact R1.elim
  refine ⟨c1, fun J jok D nD => ?_⟩
  have R1 : Run T Wx σ F1 m1 H1 ((compL src (compF Φ own own tup t e env) src.1 [] h1).bind fun ws h => mkL nw ws h) fun w F' m' _ H' => ∀ v, WR T F' m' w v → Q v H' := R1
  refine ⟨fun i n Hc => ∃ F m h acc vs, Sim T F m h Hc ∧ Ext F1 m1 H1 F m Hc ∧ Hc D = some (.lst vs) ∧ F D = none ∧ D ∉ m ∧ WRs T F m acc.reverse vs ∧ i + n = src.1.length ∧
    Run T Wx σ F1 m1 H1 ((compL src (compF Φ own own tup t e env) (src.1.drop i) acc h).bind fun ws h => mkL nw ws h) fun w F' m' _ H' => ∀ v, WR T F' m' w v → Q v H',
    ⟨src.1.length, ?_⟩, ?_⟩
  · exact ⟨F1, m1, h1, [], [], S1.side (S1.notF nD) (S1.notM nD), Ext.refl.side nD, upd_same, S1.notF nD, S1.notM nD, .nil, by omega, R1⟩
  rintro i n Hc ⟨F2, m2, h2, acc, vs, S2, X2, eD, nF, nM, rs, hn, R2⟩
  by_cases hi : i < src.1.length
  · have ew : src.1[i]? = some src.1[i] := List.getElem?_eq_getElem hi
    rw [List.drop_eq_getElem_cons hi] at R2
    simp only [compL] at R2
    cases c2 : srcOk src h2 with
    | false => rw [c2] at R2; simp only [Bool.false_eq_true, if_false, Mi.R.bind] at R2; exact R2.elim
    | true =>
      rw [c2] at R2
      simp only [if_true] at R2
      obtain ⟨go, _⟩ := jok i F2 m2 h2 Hc S2 X2 c2
      obtain ⟨go, yl⟩ := go _ ew
      refine .inr ⟨go, fun Hn => ∃ n', n' < n ∧ ∃ F m h acc vs, Sim T F m h Hn ∧ Ext F1 m1 H1 F m Hn ∧ Hn D = some (.lst vs) ∧ F D = none ∧ D ∉ m ∧ WRs T F m acc.reverse vs ∧ (i + 1) + n' = src.1.length ∧
        Run T Wx σ F1 m1 H1 ((compL src (compF Φ own own tup t e env) (src.1.drop (i + 1)) acc h).bind fun ws h => mkL nw ws h) fun w F' m' _ H' => ∀ v, WR T F' m' w v → Q v H', fun Hn z => z, fun x H3 hy => ?_⟩
      obtain ⟨F3, S3, X3, r3⟩ := yl x H3 hy
      have X13 := X2.trans X3 S3.nd
      have eD3 := X3.keep D _ eD nM
      have nF3 := X3.free eD nM nF
      have en : EnvR T F3 m2 (wipeE env own) (wipe σ own) := (A1.env.ext X13).wipe own
      cases es : setTg own tup src.1[i] (wipeE env own) with
      | none =>
        rw [show compF Φ own own tup t e env src.1[i] h2 = .stuck by simp only [compF, es]] at R2
        exact R2.elim
      | some env1 =>
        refine tg_use hK S3 es r3 en fun σ2 st en2 => ⟨wipe_again st, F3, m2, h2, env1, ⟨S3, en2⟩, ?_⟩
        -- the test
        cases et : evT Φ t env1 h2 with
        | stuck =>
          rw [show compF Φ own own tup t e env src.1[i] h2 = .stuck by simp only [compF, es, et, Mi.R.bind]] at R2
          exact R2.elim
        | exc x h4 =>
          rw [show compF Φ own own tup t e env src.1[i] h2 = .exc x h4 by simp only [compF, es, et, Mi.R.bind]] at R2
          exact fun F4 m4 H4 cls d S4 X4 ex => R2 F4 m4 H4 cls d S4 (X13.trans X4 S4.nd) ex
        | ok k h4 =>
          intro F4 m4 H4 S4 X4
          have X14 := X13.trans X4 S4.nd
          have eD4 := X4.keep D _ eD3 nM
          have nM4 := X4.notin eD3 nM
          have nF4 := X4.free eD3 nM nF3
          cases k with
          | false =>
            rw [show compF Φ own own tup t e env src.1[i] h2 = .ok none h4 by simp only [compF, es, et, Mi.R.bind, Bool.false_eq_true, if_false]] at R2
            simp only [Bool.false_eq_true, if_false]
            exact ⟨n - 1, by omega, F4, m4, h4, acc, vs, S4, X14, eD4, nF4, nM4, (rs.ext X3).ext X4, by omega, R2⟩
          | true =>
            simp only [if_true]
            refine ⟨F4, m4, h4, env1, ⟨S4, en2.ext X4⟩, ?_⟩
            cases ee : evE Φ e env1 h4 with
            | stuck =>
              rw [show compF Φ own own tup t e env src.1[i] h2 = .stuck by simp only [compF, es, et, ee, Mi.R.bind, if_true]] at R2
              exact R2.elim
            | exc x h5 =>
              rw [show compF Φ own own tup t e env src.1[i] h2 = .exc x h5 by simp only [compF, es, et, ee, Mi.R.bind, if_true]] at R2
              exact fun F5 m5 H5 cls d S5 X5 ex => R2 F5 m5 H5 cls d S5 (X14.trans X5 S5.nd) ex
            | ok y h5 =>
              rw [show compF Φ own own tup t e env src.1[i] h2 = .ok (some y) h5 by simp only [compF, es, et, ee, Mi.R.bind, if_true]] at R2
              intro F5 m5 H5 S5 X5 v rv
              have X15 := X14.trans X5 S5.nd
              have eD5 := X5.keep D _ eD4 nM4
              have nM5 := X5.notin eD4 nM4
              have nF5 := X5.free eD4 nM4 nF4
              dsimp only at R2
              split at R2
              · rename_i cl
                have rs5 := ((rs.ext X3).ext X4).ext X5
                have l := rs5.len
                rw [List.length_reverse] at l
                refine ⟨vs, eD5, by rw [sizeLine_eq, ← l]; exact Nat.le_of_ble_eq_true cl, n - 1, by omega, F5, m5, h5, y :: acc, vs ++ [v], S5.side nF5 nM5, X15.side nD, upd_same, nF5, nM5, ?_, by omega, R2⟩
                rw [List.reverse_cons]
                exact rs5.app (.cons rv .nil)
              · exact R2.elim
  · have hd : src.1.drop i = [] := List.drop_eq_nil_iff.mpr (by omega)
    rw [hd] at R2
    simp only [compL] at R2
    cases c2 : srcOk src h2 with
    | false => rw [c2] at R2; simp only [Bool.false_eq_true, if_false, Mi.R.bind] at R2; exact R2.elim
    | true =>
      rw [c2] at R2
      simp only [if_true, Mi.R.bind] at R2
      obtain ⟨_, stop⟩ := jok i F2 m2 h2 Hc S2 X2 c2
      exact .inl ⟨stop (by omega), mkL_side S2 X2 nD nF nM eD rs R2⟩
end
end Mi

set_option maxRecDepth 100000
set_option maxHeartbeats 2000000
/-! Mi: instances: made, asked, changed; their methods. -/
namespace Mi
open PySem PySem.Spec PyProof.Rows L2
variable {T : Top} {F F' F0 F1 : Hp} {m m' m0 m1 : List Addr} {h h' : MH} {H H' H0 H1 : Hp} {Wx : WX} {σ0 : L2.St}
theorem putF_len_some {f : Str} {v : V} : ∀ {gs : List (Str × V)} {u : V}, gs.lookup f = some u → (putF f v gs).length = gs.length
  | [], _, e => by cases e
  | (g, x) :: r, u, e => by
    show (if g = f then (g, v) :: r else (g, x) :: putF f v r).length = _
    by_cases hg : g = f
    · rw [if_pos hg]; rfl
    · rw [if_neg hg]
      have e2 : r.lookup f = some u := by
        have hb : (f == g) = false := beq_eq_false_iff_ne.mpr (Ne.symm hg)
        simpa [List.lookup, hb] using e
      simp [putF_len_some e2]
theorem putF_len_none {f : Str} {v : V} : ∀ {gs : List (Str × V)}, gs.lookup f = none → (putF f v gs).length = gs.length + 1
  | [], _ => rfl
  | (g, x) :: r, e => by
    show (if g = f then (g, v) :: r else (g, x) :: putF f v r).length = _
    have hg : g ≠ f := fun z => by subst z; simp [List.lookup] at e
    rw [if_neg hg]
    have e2 : r.lookup f = none := by
      have hb : (f == g) = false := beq_eq_false_iff_ne.mpr (Ne.symm hg)
      simpa [List.lookup, hb] using e
    simp [putF_len_none e2]
theorem filter_set : ∀ {fs : List (Option W)} {j : Nat} {w : W}, j < fs.length → ((fs.set j (some w)).filter Option.isSome).length = (fs.filter Option.isSome).length + (match fs[j]? with | some none => 1 | _ => 0)
  | [], j, w, hj => by simp at hj
  | o :: r, 0, w, _ => by cases o <;> simp
  | o :: r, j + 1, w, hj => by
    have ih := filter_set (fs := r) (j := j) (w := w) (by simpa using hj)
    simp only [List.set_cons_succ, List.filter_cons, List.getElem?_cons_succ]
    cases o <;> simp [ih] <;> omega
/-- a field is written -/
theorem Sim.putI {i c j : Nat} {a dx : Addr} {fs : List (Option W)} {gs : List (Str × V)} {f : Str} {w : W} {v : V} (nd : (T.fl c).Nodup) (S : Sim T F m h H) (e : h[i]? = some (.ins c fs)) (ea : m[i]? = some a) (eH : H a = some (.ins (T.ia c) dx gs)) (hj : j < fs.length) (hf : (T.fl c)[j]? = some f) (r : WR T F m w v) :
    Sim T F m (h.set i (.ins c (fs.set j (some w)))) (upd H a (.ins (T.ia c) dx (putF f v gs))) ∧ Ext F m H F m (upd H a (.ins (T.ia c) dx (putF f v gs))) := by
  obtain ⟨nF, dx', gs', eH', R⟩ := S.cell i _ a e ea
  rw [eH] at eH'
  cases eH'
  have hi : i < h.length := (List.getElem?_eq_some_iff.mp e).1
  refine ⟨⟨fun b u q => by rw [upd_ne (ne_of_none q nF)]; exact S.sub _ _ q, by rw [List.length_set]; exact S.len, S.nd, fun k cc b e1 e2 => ?_⟩, ⟨fun _ _ q => q, ⟨[], by simp, by simp⟩, fun b u q n => by rw [upd_ne (fun z : b = a => n (by rw [z]; exact List.mem_of_getElem? ea))]; exact q, fun b u q z => by rw [z] at q; cases q⟩⟩
  by_cases hk : i = k
  · subst hk
    rw [List.getElem?_set_self hi] at e1
    rw [ea] at e2
    cases e1
    cases e2
    refine ⟨nF, dx, _, upd_same, by rw [List.length_set]; exact R.short, ?_, fun k o e3 => ?_, fun n hn => ?_⟩
    · rw [filter_set hj, ← R.cnt]
      obtain ⟨n, h1, h2⟩ := R.nm j _ (List.getElem?_eq_getElem hj)
      rw [hf] at h1
      cases h1
      rw [List.getElem?_eq_getElem hj]
      cases q : fs[j] with
      | none =>
        rw [q] at h2
        exact putF_len_none h2
      | some u =>
        rw [q] at h2
        obtain ⟨z, h3, _⟩ := h2
        exact putF_len_some h3
    · by_cases hk : j = k
      · subst hk
        rw [List.getElem?_set_self hj] at e3
        cases e3
        exact ⟨f, hf, v, by rw [lookup_putF, if_pos rfl], r⟩
      · rw [List.getElem?_set_ne hk] at e3
        obtain ⟨n, h1, h2⟩ := R.nm k o e3
        have nf : n ≠ f := fun z => hk (ix_inj nd hf (by rw [← z]; exact h1))
        refine ⟨n, h1, ?_⟩
        cases o with
        | none => show (putF f v gs).lookup n = none; rw [lookup_putF, if_neg nf]; exact h2
        | some u =>
          obtain ⟨z, h3, h4⟩ := h2
          exact ⟨z, by rw [lookup_putF, if_neg nf]; exact h3, h4⟩
    · have nf : n ≠ f := fun z => hn (by rw [z]; exact List.mem_of_getElem? hf)
      rw [lookup_putF, if_neg nf]
      exact R.out n hn
  · rw [List.getElem?_set_ne hk] at e1
    have ne : b ≠ a := fun z => by
      subst z
      exact hk (ix_inj S.nd ea e2)
    have q := S.cell k cc b e1 e2
    cases cc with
    | lst _ =>
      obtain ⟨z, xs, q, rs⟩ := q
      exact ⟨z, xs, by rw [upd_ne ne]; exact q, rs⟩
    | frz x => exact q
    | ins _ _ =>
      obtain ⟨z, dx, gs, q, rs⟩ := q
      exact ⟨z, dx, gs, by rw [upd_ne ne]; exact q, rs⟩
/-- a new instance -/
theorem Sim.newI {c nf : Nat} {x dx : Addr} (S : Sim T F m h H) (nx : H x = none) (nd : H dx = none) (ne : dx ≠ x) (hl : (T.fl c).length = nf) (hs : nf < 900) :
    Sim T F (m ++ [x]) (h ++ [.ins c (List.replicate nf none)]) (upd (upd H dx (.own x)) x (.ins (T.ia c) dx [])) ∧ Ext F m H F (m ++ [x]) (upd (upd H dx (.own x)) x (.ins (T.ia c) dx [])) := by
  have nF := S.notF nx
  have nM := S.notM nx
  have nF2 := S.notF nd
  have nM2 := S.notM nd
  have at_ : ∀ {b : Addr} {o : HO}, b ≠ x → b ≠ dx → H b = some o → upd (upd H dx (.own x)) x (.ins (T.ia c) dx []) b = some o := fun h1 h2 e => by rw [upd_ne h1, upd_ne h2]; exact e
  refine ⟨⟨fun a u e => at_ (ne_of_none e nF) (ne_of_none e nF2) (S.sub _ _ e), by simp [S.len], ?_, fun i cc a e1 e2 => ?_⟩, ⟨fun _ _ e => e, ⟨[x], rfl, by simpa using nx⟩, fun a u e _ => at_ (ne_of_none e nx) (ne_of_none e nd) e, fun a u e z => by rw [z] at e; cases e⟩⟩
  · rw [List.nodup_append]
    exact ⟨S.nd, by simp, fun a ha b hb => by simp at hb; subst hb; exact fun e => nM (e ▸ ha)⟩
  · by_cases hi : i < h.length
    · rw [List.getElem?_append_left hi] at e1
      rw [List.getElem?_append_left (by rw [S.len]; exact hi)] at e2
      have ne1 : a ≠ x := fun z => nM (z ▸ List.mem_of_getElem? e2)
      have ne2 : a ≠ dx := fun z => nM2 (z ▸ List.mem_of_getElem? e2)
      have q := S.cell i cc a e1 e2
      cases cc with
      | lst us =>
        obtain ⟨z, xs, q, rs⟩ := q
        exact ⟨z, xs, at_ ne1 ne2 q, rs.up (fun _ _ e => e) ⟨[x], rfl⟩⟩
      | frz y => exact q
      | ins _ _ =>
        obtain ⟨z, d', gs, q, rs⟩ := q
        exact ⟨z, d', gs, at_ ne1 ne2 q, rs.up (fun _ _ e => e) ⟨[x], rfl⟩⟩
    · have hl' : i < (h ++ [Cell.ins c (List.replicate nf none)]).length := (List.getElem?_eq_some_iff.mp e1).1
      rw [List.length_append] at hl'
      have hi' : i = h.length := by simp at hl'; omega
      subst hi'
      rw [List.getElem?_append_right (Nat.le_refl _), Nat.sub_self] at e1
      rw [List.getElem?_append_right (by rw [S.len]; exact Nat.le_refl _), S.len, Nat.sub_self] at e2
      cases e1
      cases e2
      refine ⟨nF, dx, [], upd_same, by simpa using hs, by simp, fun j o e3 => ?_, fun n _ => rfl⟩
      rw [List.getElem?_replicate] at e3
      split at e3
      · rename_i hj
        cases e3
        exact ⟨(T.fl c)[j]'(by omega), List.getElem?_eq_getElem _, rfl⟩
      · cases e3
section
variable {X : Cx} {k : Nat} {f C : Addr} {fd : FuncData} {ps : List Str} {sp : Sp}
/-- the class's __init__ runs -/
theorem run_mkG {pins : List (Addr × Obj)} {σ : L2.St} {s : Shared} {Q : VK} {us : List Value} {vs : List V} (M : Mk X.K C f) (G : FnG X.prog X.w X.K X.mg X.base k f fd ps sp) (hr : Room k (X.A.under (.builtin "type.__call__" ⟨.ref C :: us, []⟩)))
    (hg : (X.A.under (.builtin "type.__call__" ⟨.ref C :: us, []⟩)).guards = some []) (hb : Binds X.K fd ps []) (tk : L2N.Takes X Wx) (I : Inv X pins σ H s) (r : Vals vs us)
    (h : ∀ x dx, H x = none → H dx = none → dx ≠ x → sp (.ref x :: vs) (upd (upd H dx (.own x)) x (.ins C dx [])) (fun v H2 => v = .non ∧ Q (.ref x) H2) fun cls d H' => Wx cls d σ H') :
    wpAny (model X.prog X.w) X.A (PySem.call (.ref C) us) (EP X pins σ Q) X.xe s := by
  have hq := h (s.heap.objs.size + 1) s.heap.objs.size (I.hok.fresh (Nat.le_succ _)) (I.hok.fresh (Nat.le_refl _)) (Nat.ne_of_lt (Nat.lt_succ_self _))
  have I2 := Inv.made (C := C) I
  have r2 : Vals (V.ref (s.heap.objs.size + 1) :: vs) (Value.ref (s.heap.objs.size + 1) :: us) := .cons rfl r
  have hl : (Value.ref (s.heap.objs.size + 1) :: us).length = ps.length := by
    have e := r2.length
    rw [G.len _ _ _ _ hq] at e
    exact e.symm
  have bt := hb _ (Value.ref (s.heap.objs.size + 1) :: us) I2.kIn (by rw [List.append_nil]; exact hl)
  rw [List.append_nil] at bt
  refine wpAny_call (make_map (f := f) I.kIn M.makes M.init (beq_iff_eq.mp M.fn) (codeAny_mono (G.run _ X.stack _ _ ⟨Value.ref (s.heap.objs.size + 1) :: us, []⟩ (Value.ref (s.heap.objs.size + 1) :: us) _ _ _ hr hg
    (I2.env0.make C us []) bt r2 hq) fun r s' hq' => ?_))
  cases r with
  | error e => exact tk e s' (L2N.XE.of_call I2 (fun _ _ _ z => z) hq')
  | ok fl =>
    cases fl with
    | ret u =>
      obtain ⟨v, H', I3, rv, ev, q3⟩ := I2.after hq'
      subst ev
      exact ⟨rv, ⟨V.ref (s.heap.objs.size + 1), H', I3, rfl, q3⟩⟩
    | next => exact False.elim hq'
    | brk => exact False.elim hq'
    | cont => exact False.elim hq'
end
/-- what the class of instances number c is -/
structure IcOk (T : Top) (X : Cx) (c : Nat) (ic : Ic) : Prop where
  cls : Cls X.K (T.ia c)
  mg : X.mg ic.name = some (.ref (T.ia c))
  fl : T.fl c = ic.fields
  nd : ic.fields.Nodup
  noat : ∀ f ∈ ic.fields, NoAttr X.K (T.ia c) f
  meth : ∀ m g, lookS m ic.meths = some g → Meth X.K (T.ia c) m (T.fa g)
  mak : Mk X.K (T.ia c) (T.fa ic.init)
section
variable {Φ : Nat → List W → M W} {X : Cx} {pos : Pos} {a : E} {xa xe : Expr} {es : Es} {xs : List Expr} {c j : Nat} {ic : Ic} {fn : Str}
theorem fldV_at {w y : W} (S : Sim T F m h H) (e : fldV c j w h = some y) {x : V} (r : WR T F m w x) : ∃ i p dx gs fs n v, w = .ref i ∧ x = .ref p ∧ h[i]? = some (.ins c fs) ∧ m[i]? = some p ∧ H p = some (.ins (T.ia c) dx gs) ∧ j < fs.length ∧ (T.fl c)[j]? = some n ∧ gs.lookup n = some v ∧ WR T F m y v ∧ InsR T F m c fs gs := by
  cases w with
  | ref i =>
    obtain ⟨p, ep, rfl⟩ := r
    simp only [fldV] at e
    split at e
    · rename_i c' fs e1
      split at e
      · rename_i ec
        have ec : c' = c := by simpa using ec
        subst ec
        have hj : fs[j]? = some (some y) := by
          cases q : fs[j]? with
          | none => rw [q] at e; cases e
          | some o => rw [q] at e; cases o with
            | none => cases e
            | some u => cases e; rfl
        obtain ⟨nF, dx, gs, eH, R⟩ := S.cell i _ p e1 ep
        obtain ⟨n, h1, v, h2, h3⟩ := R.nm j _ hj
        exact ⟨i, p, dx, gs, fs, n, v, rfl, rfl, e1, ep, eH, (List.getElem?_eq_some_iff.mp hj).1, h1, h2, h3, R⟩
      · cases e
    · cases e
  | _ => cases e
theorem fld_e (hK : X.K = T.K) (K : IcOk T X c ic) (hf : ic.fields[j]? = some fn) (ha : PE X xa (tE T Φ Wx a)) (hc : callB xa = false) : PE X (.Attribute xa fn pos) (tE T Φ Wx (.fld c a j)) := by
  refine (pe_fld ha (ab_of hc)).imp fun σ H Q ⟨F, m, h, env, A, R⟩ => ⟨F, m, h, env, A, R.bind.imp fun w F1 m1 h1 H1 S1 X1 R1 x r => ?_⟩
  obtain ⟨y, ey, kk⟩ := Run.lift S1 R1
  obtain ⟨i, p, dx, gs, fs, n, v, rfl, rfl, e1, e2, e3, hj, e4, e5, e6, RR⟩ := fldV_at S1 ey r
  rw [K.fl, hf] at e4
  cases e4
  exact ⟨p, _, dx, gs, v, rfl, e3, K.cls, K.noat _ (List.mem_of_getElem? hf), e5, kk v e6⟩
theorem mk_e {f nf np : Nat} {n : Str} {p : Pos} {fd : FuncData} {ps : List Str} {k : Nat} (K : IcOk T X c ic) (gl : Gl X n) (hn : ic.name = n) (hi : ic.init = f) (hnf : ic.fields.length = nf) (hs9 : nf < 900)
    (G : FnG X.prog X.w X.K X.mg X.base k (T.fa f) fd ps (spF T Φ f np)) (hb : Binds X.K fd ps []) (hr : ∀ (C : Addr) us, Room k (X.A.under (.builtin "type.__call__" ⟨.ref C :: us, []⟩))) (hg : ∀ (C : Addr) us, (X.A.under (.builtin "type.__call__" ⟨.ref C :: us, []⟩)).guards = some []) (tk : L2N.Takes X Wx)
    (ha : PA X (xa :: xs) (tEs T Φ Wx es)) (hs : ((xa :: xs).all fun e => !starB e) = true) (hd : (n == ("__debug__" : Str)) = false)
    (hna : ∀ env h ws h', evEs Φ es env h = .ok ws h' → ws.length + 1 = np) : PE X (.Call (.Name n p) (xa :: xs) [] pos) (tE T Φ Wx (.mk c f nf es)) := by
  have s1 : starB xa = false := by simpa using (List.all_eq_true.mp hs xa List.mem_cons_self)
  have s2 : (xs.all fun e => !starB e) = true := List.all_eq_true.mpr fun e he => List.all_eq_true.mp hs e (List.mem_cons_of_mem _ he)
  subst hi
  refine ⟨fun pins s σ H Q I ⟨F, m, h, env, A, Rn⟩ => ?_⟩
  refine wpAny_Call_Name_kw (ld_glob I gl (by rw [← hn]; exact K.mg) ?_ hd)
  have go := ha.run pos pins s σ H (fun vs H1 => ∀ x dx, H1 x = none → H1 dx = none → dx ≠ x → spF T Φ ic.init np (.ref x :: vs) (upd (upd H1 dx (.own x)) x (.ins (T.ia c) dx [])) (fun v H2 => v = .non ∧ Q (.ref x) H2) fun cls d H' => Wx cls d σ H') I
    ⟨F, m, h, env, A, Rn.bind.impE fun ws F1 m1 h1 H1 ew S1 X1 R1 vs r x dx nx ndx ne => by
      obtain ⟨S2, X2⟩ := S1.newI (c := c) (nf := nf) nx ndx ne (by rw [K.fl]; exact hnf) hs9
      have r2 : WRs T F1 (m1 ++ [x]) (.ref h1.length :: ws) (.ref x :: vs) := .cons ⟨x, by rw [← S1.len, List.getElem?_append_right (Nat.le_refl _), Nat.sub_self]; rfl, rfl⟩ (r.ext X2)
      refine call_sp (mu := false) (Wx := Wx) (by show vs.length + 1 = np; rw [← r.len]; exact hna _ _ _ _ ew) S2 r2 ?_
      unfold mkV at R1
      revert R1
      cases callW Φ false ic.init (.ref h1.length :: ws) (h1 ++ [.ins c (List.replicate nf none)]) with
      | ok w h2 =>
        intro R1 F3 m3 H3 S3 X3 v rv
        cases w with
        | d y => cases y with
          | none =>
            cases rv with
            | non => exact ⟨rfl, R1 F3 m3 H3 S3 (X2.trans X3 S3.nd) (.ref x) ⟨x, by
                obtain ⟨t, et⟩ := X3.p
                rw [et, List.getElem?_append_left (by simp [S1.len]), ← S1.len, List.getElem?_append_right (Nat.le_refl _), Nat.sub_self]
                rfl, rfl⟩⟩
          | _ => exact R1.elim
        | _ => exact R1.elim
      | exc e h2 => exact fun R1 F3 m3 H3 cls d S3 X3 ex => R1 F3 m3 H3 cls d S3 (X2.trans X3 S3.nd) ex
      | stuck => exact fun R1 => R1⟩
  exact PySem.W.callWith_K (h₀ := X.base) I.ok.mod.kin K.mak.kp (thn go fun us s1 ⟨vs, H1, I1, r, q⟩ => ⟨I1.kIn, run_mkG K.mak G (hr _ us) (hg _ us) hb tk I1 r q⟩) (star_cons s1) (star_any s2)
/-- a method is called -/
theorem mcall_use {f np : Nat} {mu : Bool} {nm : Str} {σ : L2.St} {Q : VK} (K : IcOk T X c ic) (hm : nm ∉ ic.fields) (hna : ∀ env h ws h', evEs Φ es env h = .ok ws h' → ws.length + 1 = np) : tE T Φ Wx (.mcall f c mu a es) σ H Q →
    tE T Φ Wx a σ H fun x H1 => ∃ p dx gs, x = .ref p ∧ H1 p = some (.ins (T.ia c) dx gs) ∧ gs.lookup nm = none ∧ tEs T Φ Wx es σ H1 fun vs H2 => spF T Φ f np (x :: vs) H2 Q fun cls d H' => Wx cls d σ H' := by
  rintro ⟨F, m, h, env, A, R⟩
  refine ⟨F, m, h, env, A, R.bind.imp fun w F1 m1 h1 H1 S1 X1 R1 x r => ?_⟩
  split at R1
  · rename_i e
    cases w with
    | ref i =>
      obtain ⟨p, ep, rfl⟩ := id r
      simp only [insAt] at e
      split at e
      · rename_i c' fs e1
        have ec : c' = c := by simpa using e
        subst ec
        obtain ⟨nF, dx, gs, eH, RR⟩ := S1.cell i _ p e1 ep
        refine ⟨p, dx, gs, rfl, eH, RR.out nm (by rw [K.fl]; exact hm), F1, m1, h1, env, A.step S1 X1, R1.bind.impE fun ws F2 m2 h2 H2 ew S2 X2 R2 vs rs => ?_⟩
        exact call_sp (by show vs.length + 1 = np; rw [← rs.len]; exact hna _ _ _ _ ew) S2 (.cons (r.ext X2) rs) R2
      · cases e
    | _ => cases e
  · exact R1.elim
theorem few_all {cpos : Pos} {env : Env} (hs : (xs.all fun e => !starB e) = true) (hn : xs.length < 28) : methodCallForm (xs.length + ([] : List Keyword).length) (backTo cpos (starEach xs env)) (backToKw cpos (keywordEach [] env)) = true := by
  have h1 : (backTo cpos (starEach xs env)).any (·.1) = false := star_any hs
  have h2 : (backTo cpos (starEach xs env)).all (fun x => !x.1) = true := by
    rw [List.all_eq_true]
    intro y hy
    have := (List.any_eq_false.mp h1) y hy
    simpa using this
  have h3 : backToKw cpos (keywordEach [] env) = [] := rfl
  unfold methodCallForm
  rw [h2, h3]
  simp
  omega
theorem methCall_any {env : Env} {A : Around} {prog : Program} {w : World} {E : Value → Shared → Prop} {s : Shared} {o : Expr} {name : Str} {apos : Pos} {args : List Expr} {Q : Value → Shared → Prop} (hbase : attributeBase o name env (eval o env) = eval o env)
    (hform : methodCallForm (args.length + ([] : List Keyword).length) (backTo pos (starEach args env)) (backToKw pos (keywordEach [] env)) = true) (hline : (apos.endLine == pos.line) = true)
    (h : wpAny (model prog w) A (eval o env) (fun ov s₁ => ∀ pl, wpAny (model prog w) A (getMethod ov name pl) (fun fx s₂ => wpAny (model prog w) A (callWith pos fx.1 fx.2 (backTo pos (starEach args env)) []) Q E s₂) E s₁) E s) :
    wpAny (model prog w) A (eval (.Call (.Attribute o name apos) args [] pos) env) Q E s := by
  rw [arm_eval_Call, hbase]
  refine wpAny_bind (wpAny_mono h (fun ov s₁ h₁ => ?_) fun _ _ e => e)
  refine wpAny_bind (wpAny_standAt ?_)
  have hpos : methodCallPos true o env apos pos = pure pos := by unfold methodCallPos; simp [hline]
  unfold methodCall
  rw [hform]
  refine wpAny_bind (wpAny_holding (wpAny_mono (h₁ _) (fun fx s2 h2 => ?_) fun _ _ e => e))
  exact wpAny_bind (wpAny_of_eq hpos h2)
theorem mcall_e {f np : Nat} {mu : Bool} {nm : Str} {apos : Pos} {fd : FuncData} {ps : List Str} {k : Nat} (K : IcOk T X c ic) (hl : lookS nm ic.meths = some f) (hm : nm ∉ ic.fields)
    (G : FnG X.prog X.w X.K X.mg X.base k (T.fa f) fd ps (spF T Φ f np)) (hb : Binds X.K fd ps []) (hr : Room k X.A) (hg : X.A.guards = some []) (tk : L2N.Takes X Wx)
    (ho : PE X xe (tE T Φ Wx a)) (hcb : callB xe = false) (hln : (apos.endLine == pos.line) = true) (ha : PA X xs (tEs T Φ Wx es)) (hs : (xs.all fun e => !starB e) = true) (hn : xs.length < 28) (hnil : xs = [] → es = .nil)
    (hna : ∀ env h ws h', evEs Φ es env h = .ok ws h' → ws.length + 1 = np) : PE X (.Call (.Attribute xe nm apos) xs [] pos) (tE T Φ Wx (.mcall f c mu a es)) := by
  have Hm := K.meth _ _ hl
  refine ⟨fun pins s σ H Q I q0 => ?_⟩
  refine methCall_any (ab_of hcb) (few_all hs hn) hln (thn (ho.run pins s σ H _ I (mcall_use K hm hna q0)) fun u s1' ⟨x, H1, I1, rx, p, dx, gs, ex, ea, l, q⟩ => fun pl => ?_)
  subst ex
  obtain rfl : u = Value.ref p := rx
  refine getmeth_ok I1 ea K.cls Hm l ?_
  cases xs with
  | nil =>
    refine PySem.W.callWith_K0 (first := [.ref p]) I1.kIn Hm.kp ?_
    have q2 : spF T Φ f np [.ref p] H1 Q fun cls d H' => Wx cls d σ H' := by
      rw [hnil rfl] at q
      obtain ⟨F, m, h, env, A, R⟩ := q
      exact Run.here A.sim R [] .nil
    exact runG (us := [.ref p]) (vs := [.ref p]) G hr hg hb tk I1 (.cons rfl .nil) q2
  | cons xa xs =>
    have s1 : starB xa = false := by simpa using (List.all_eq_true.mp hs xa List.mem_cons_self)
    have s2 : (xs.all fun e => !starB e) = true := List.all_eq_true.mpr fun e he => List.all_eq_true.mp hs e (List.mem_cons_of_mem _ he)
    refine PySem.W.callWith_K (first := [.ref p]) (h₀ := X.base) I.ok.mod.kin Hm.kp (thn (ha.run pos pins s1' σ H1 _ I1 q) fun us s2 ⟨vs, H2, I2, r, q2⟩ => ⟨I2.kIn, ?_⟩) (star_cons s1) (star_any s2)
    exact runG (us := .ref p :: us) (vs := .ref p :: vs) G hr hg hb tk I2 (.cons rfl r) q2
/-- o.f = e -/
theorem fset_s {e : E} {xv : Expr} {p' : Pos} (K : IcOk T X c ic) (hK : X.K = T.K) (hf : ic.fields[j]? = some fn) (ho : PE X xe (tE T Φ Wx a)) (hv : PE X xv (tE T Φ Wx e)) (hsw : swapsWith xv (some (.Attribute xe fn p')) pos.line X.env = pure false) :
    PS X (.Assign [.Attribute xe fn p'] xv pos) (fun D σ H => tE T Φ Wx e σ H fun y H1 => ∃ w F m h env, At T σ F m h env H1 ∧ WR T F m w y ∧ Run T Wx σ F m H1 (evE Φ a env h) fun u F' m' h' H' => ∃ h2, fsetV c j u w h' = some h2 ∧ ∀ F2 H2, Sim T F2 m' h2 H2 → Ext F' m' H' F2 m' H2 → D.nx σ H2) := by
  refine ⟨fun pins s σ H D J q => (ps_fld ho hv hsw).run pins s σ H D J ?_⟩
  obtain ⟨F, m, h, env, A, R⟩ := q
  refine ⟨F, m, h, env, A, R.imp fun w F1 m1 h1 H1 S1 X1 R1 y r => ?_⟩
  obtain ⟨w', F2, m2, h2, env2, A2, r2, R2⟩ := R1 y r
  refine ⟨F2, m2, h2, env2, A2, R2.imp fun u F3 m3 h3 H3 S3 X3 ⟨h4, e4, k4⟩ x rx => ?_⟩
  cases u with
  | ref i =>
    obtain ⟨p, ep, rfl⟩ := rx
    simp only [fsetV] at e4
    split at e4
    · rename_i c' fs e1
      split at e4
      · rename_i ec
        cases e4
        simp only [Bool.and_eq_true, beq_iff_eq] at ec
        obtain ⟨ec, ej⟩ := ec
        subst ec
        obtain ⟨nF, dx, gs, eH, RR⟩ := S3.cell i _ p e1 ep
        have hj : j < fs.length := Nat.le_of_ble_eq_true ej
        obtain ⟨S4, X4⟩ := S3.putI (by rw [K.fl]; exact K.nd) e1 ep eH hj (by rw [K.fl]; exact hf) (r2.ext X3)
        have short : gs.length < 1000 := by
          have h9 := RR.short
          have h8 := RR.cnt
          have h7 := List.length_filter_le Option.isSome fs
          omega
        exact ⟨p, _, dx, gs, rfl, eH, K.cls, K.noat _ (List.mem_of_getElem? hf), short, k4 _ _ S4 X4⟩
      · cases e4
    · cases e4
  | _ => cases e4
/-- o.f += e -/
theorem faug_s {e : E} {xv : Expr} {p' : Pos} (K : IcOk T X c ic) (hK : X.K = T.K) (hf : ic.fields[j]? = some fn) (ho : PE X xe (tE T Φ Wx a)) (hv : PE X xv (tE T Φ Wx e)) :
    PS X (.AugAssign (.Attribute xe fn p') .Add xv pos) (fun D σ H => tE T Φ Wx a σ H fun x H1 => ∃ u i F m h env, At T σ F m h env H1 ∧ WR T F m u x ∧ fldV c j u h = some (.d (.int i)) ∧ Run T Wx σ F m H1 (evE Φ e env h) fun w F' m' h' H' => ∃ k h2, w = .d (.int k) ∧ fsetV c j u (.d (.int (i + k))) h' = some h2 ∧ ∀ F2 H2, Sim T F2 m' h2 H2 → Ext F' m' H' F2 m' H2 → D.nx σ H2) := by
  refine ⟨fun pins s σ H D J q => (ps_fldaug ho hv in_add).run pins s σ H D J ?_⟩
  obtain ⟨F, m, h, env, A, R⟩ := q
  refine ⟨F, m, h, env, A, R.imp fun w F1 m1 h1 H1 S1 X1 R1 x r => ?_⟩
  obtain ⟨u, i, F2, m2, h2, env2, A2, r2, ef, R2⟩ := R1 x r
  obtain ⟨i0, p, dx, gs, fs, n, v, rfl, rfl, e1, e2, e3, hj, e4, e5, e6, RR⟩ := fldV_at A2.sim ef r2
  have en : n = fn := by
    rw [K.fl, hf] at e4
    cases e4
    rfl
  subst en
  obtain rfl := int_inv e6
  refine ⟨p, _, dx, gs, .int i, rfl, e3, K.cls, K.noat _ (List.mem_of_getElem? hf), e5, F2, m2, h2, env2, A2, R2.imp fun w2 F3 m3 h3 H3 S3 X3 ⟨k, h4, ew, e7, k4⟩ y ry => ?_⟩
  subst ew
  obtain rfl := int_inv ry
  refine ⟨i, k, rfl, rfl, ?_⟩
  simp only [fsetV] at e7
  split at e7
  · rename_i c' fs' e8
    split at e7
    · rename_i ec
      cases e7
      simp only [Bool.and_eq_true, beq_iff_eq] at ec
      obtain ⟨ec, ej⟩ := ec
      subst ec
      have ep : m3[i0]? = some p := by
        obtain ⟨t, et⟩ := X3.p
        rw [et, List.getElem?_append_left (List.getElem?_eq_some_iff.mp e2).1]
        exact e2
      obtain ⟨nF, dx', gs', eH, RR'⟩ := S3.cell i0 _ p e8 ep
      have hj' : j < fs'.length := Nat.le_of_ble_eq_true ej
      obtain ⟨S4, X4⟩ := S3.putI (w := .d (.int (i + k))) (by rw [K.fl]; exact K.nd) e8 ep eH hj' (by rw [K.fl]; exact hf) (.int _)
      have short : gs'.length < 1000 := by
        have h9 := RR'.short
        have h8 := RR'.cnt
        have h7 := List.length_filter_le Option.isSome fs'
        omega
      exact ⟨dx', gs', eH, short, k4 _ _ S4 X4⟩
    · cases e7
  · cases e7
end
end Mi

set_option maxRecDepth 100000
set_option maxHeartbeats 2000000
/-! Mi: own errors with one value: made by an __init__ of two rows, raised, asked in an except suite. -/
namespace Mi
open PySem PySem.Spec PyProof.Rows L2
variable {T : Top} {F F' F0 F1 : Hp} {m m' m0 m1 : List Addr} {h h' : MH} {H H' H0 H1 : Hp} {Wx : WX} {σ0 : L2.St}
/-- an own class whose __init__ is ValueError's -/
structure BiOk (K : PySem.W.Frag) (B : Addr) : Prop where
  rd : PySem.W.readsIn K B (.type "type") = true
  ga : PySem.W.specialIn K (.ref B) "__getattribute__" = some (some (.builtin "type.__getattribute__"))
  at_ : PySem.W.findCls K (.ref B) (.type "type") "__init__" = some (.val (.builtin "ValueError.__init__"))
section
variable {X : Cx} {o e : Expr} {es : List Expr} {to te : TE} {ta : TA} {f : Str} {p p' p1 p2 pos : Pos}
theorem methCall_any' {A : Around} {prog : Program} {w : World} {E : Value → Shared → Prop} {s : Shared} {env : Env} {o : Expr} {name : Str} {apos pos : Pos} {args : List Expr} {Q : Value → Shared → Prop} (hbase : attributeBase o name env (eval o env) = eval o env)
    (hform : methodCallForm (args.length + ([] : List Keyword).length) (backTo pos (starEach args env)) (backToKw pos (keywordEach [] env)) = true) (hline : (apos.endLine == pos.line) = true)
    (h : wpAny (model prog w) A (eval o env) (fun ov s₁ => ∀ pl, wpAny (model prog w) A (getMethod ov name pl) (fun fx s₂ => wpAny (model prog w) A (callWith pos fx.1 fx.2 (backTo pos (starEach args env)) []) Q E s₂) E s₁) E s) :
    wpAny (model prog w) A (eval (.Call (.Attribute o name apos) args [] pos) env) Q E s := methCall_any hbase hform hline h
/-- B.__init__(self, ..), B an own class -/
theorem pe_binit {x : Str} {B : Addr} (hg : Gl X x) (hm : X.mg x = some (.ref B)) (b : BiOk X.K B) (hd : (x == ("__debug__" : Str)) = false) (ha : PA X (e :: es) ta) (hs : ((e :: es).all fun e => !starB e) = true) (hn : (e :: es).length < 28) (hl : (p2.endLine == pos.line) = true) :
    PE X (.Call (.Attribute (.Name x p1) "__init__" p2) (e :: es) [] pos) (tVeI X.K ta) := by
  have s1 : starB e = false := by simpa using (List.all_eq_true.mp hs e List.mem_cons_self)
  have s2 : (es.all fun e => !starB e) = true := List.all_eq_true.mpr fun e he => List.all_eq_true.mp hs e (List.mem_cons_of_mem _ he)
  refine ⟨fun pins s σ H Q I h => ?_⟩
  refine methCall_any (o := .Name x p1) rfl (few_all hs hn) hl (ld_glob I hg hm (fun pl => ?_) hd)
  refine PySem.W.method_cls I.kIn b.ga (PySem.W.cls_value I.kIn b.rd b.at_ (by decide +kernel) ?_)
  show wpAny _ _ (callWith pos (Value.builtin "ValueError.__init__") [] (backTo pos (starEach (e :: es) X.env)) []) _ _ _
  refine PyProof.Rows.callWith_method1 (thn (ha.run pos pins _ σ H _ (I.tok _) h) fun us s1 ⟨vs, H1, I1, r1, a, C, ws, ev, hl, T, ea, q⟩ => ?_) (star_cons s1) (star_any s2)
  subst ev
  cases r1 with
  | @cons _ u0 _ ur ra rw' =>
    obtain rfl : u0 = Value.ref a := ra
    have hlen : ur.length ≤ sizeLine := by
      rw [← Paired.length rw', sizeLine_eq]
      omega
    exact oinit_ok T I1 ea hlen fun s' J => ⟨.non, H1, J, rfl, q⟩
end
/-- what such an __init__ promises -/
def spXi (K : PySem.W.Frag) (C : Addr) (f : Str) : Sp := fun vs H Q _ => ∃ (a : Addr) (v : V), vs = [.ref a, v] ∧ H a = some (exo a C none) ∧ ∀ dx, H dx = none → dx ≠ a → Q .non (upd (upd H dx (exd dx [(f, v)])) a (exo a C (some dx)))
/-- the text of such an __init__ -/
def xiB (body : List Stmt) (sc : Scope) (b sf ar f : Str) : Bool := match body with
  | [.Expr (.Call (.Attribute (.Name x _) nm ap) [.Name s1 _, .Constant (.str _) _ _] [] cp) _, .Assign [.Attribute (.Name s2 _) g _] (.Name y _) _] =>
    decide (x = b) && decide (nm = "__init__") && decide (s1 = sf) && decide (s2 = sf) && decide (g = f) && decide (y = ar) && (ap.endLine == cp.line) && glB sc b && dbg b && varB [sf, ar] sc 0 sf && varB [sf, ar] sc 1 ar
  | _ => false
theorem fn_xi {P : Program} {w : World} {K : PySem.W.Frag} {mg : Str → Option Value} {base : Heap} {CX : CXT} {fa C B : Addr} {nm qual b sf ar f : Str} {params : Arguments} {body : List Stmt} {scope : Scope} {fd : FuncData} (Fd : FunD K nm qual params body scope [] [] fa fd) (S : FnScope [sf, ar] [sf, ar] scope)
    (c : xiB body scope b sf ar f = true) (hb : BiOk K B) (hm : mg b = some (.ref B)) (hC : OexC K C) (hno : PySem.W.findIn K (.ref C) f = some none) : FnOk P w K mg base CX 1 fa fd [sf, ar] (spXi K C f) := by
  refine Fd.ok S (fun vs H Q E ⟨a, v, e, _⟩ => by rw [e]; rfl) fun cdv A outer s H vs Q E hr hsp => ?_
  unfold xiB at c
  split at c
  · simp only [Bool.and_eq_true, decide_eq_true_eq] at c
    obtain ⟨⟨⟨⟨⟨⟨⟨⟨⟨⟨c1, c2⟩, c3⟩, c4⟩, c5⟩, c6⟩, c7⟩, c8⟩, c9⟩, c10⟩, c11⟩ := c
    subst c1 c2 c3 c4 c5 c6
    obtain ⟨a, v, ev, ea, q⟩ := hsp
    subst ev
    unfold varB at c10 c11
    simp only [Bool.and_eq_true, decide_eq_true_eq] at c10 c11
    obtain ⟨d1, d2, _⟩ := dbg_iff c10.2
    obtain ⟨d3, d4, _⟩ := dbg_iff c11.2
    refine ⟨_, pss_cons (ps_expr (pe_binit (show Gl _ _ from glB_iff c8) hm hb (dbg_iff c9).1 (pa_cons (pe_var (i := 0) c10.1.1 (visB_iff c10.1.2) d1 d2) (pa_cons pe_str pa_nil)) (by rfl) (by simp) c7) (hs := by rfl))
      (pss_one (ps_ost (pe_var (i := 0) c10.1.1 (visB_iff c10.1.2) d1 d2) (pe_var (i := 1) c11.1.1 (visB_iff c11.1.2) d3 d4) (hs := by rfl))), ?_⟩
    refine ⟨.ref a, rfl, a, C, [_], rfl, by simp, hC, ea, v, rfl, .ref a, rfl, a, C, rfl, hC, hno, .inl ⟨ea, fun dx n ne => q dx n ne⟩⟩
  · cases c
/-- C(e, ..), where nothing is handled: its context is None -/
theorem pmkN_oex {X : Cx} {CX : CXT} {x : Str} {e : Expr} {es : List Expr} {ta : TA} {p pos : Pos} {C fI : Addr} {k : Nat} {fd : FuncData} {ps : List Str} {sp : Sp} (T : OexC X.K C) (iC : PySem.W.findIn X.K (.ref C) "__init__" = some (some (.ref fI))) (tI : PySem.W.typeIn X.K (.ref fI) = some (.type "function"))
    (F1 : FnOk X.prog X.w X.K X.mg X.base CX k fI fd ps sp) (hr : ∀ us, Room k (X.A.under (.builtin "type.__call__" ⟨.ref C :: us, []⟩))) (hb : Binds X.K fd ps []) (hx : Passes CX X (fun _ _ _ => False)) (hg : Gl X x) (hm : X.mg x = some (.ref C)) (ha : PA X (e :: es) ta)
    (hdb : (x == ("__debug__" : Str)) = false) (he : starEach (e :: es) X.env = (false, eval e X.env) :: starEach es X.env) (hpl : (backTo pos (starEach es X.env)).any (·.1) = false) :
    L2N.PMk X (.Call (.Name x p) (e :: es) [] pos) (tMkO C sp [] ta) := by
  intro pins s σ H Q I h
  obtain ⟨nm, q, N, bs, bm, sn, sub, ab, col, dd, k0, k1, k2, k3, k5, hC, hbm⟩ := T.cls
  refine wpAny_Call_Name_kw (ld_glob I hg hm ?_ hdb)
  refine PySem.W.callWith_K (h₀ := X.base) I.ok.mod.kin T.kC (thn (ha.run pos pins s σ H _ I h) fun us s1 ⟨vs, H1, I1, r1, hz, q1⟩ => ⟨I1.kIn, ?_⟩) he hpl
  show wpAny _ _ (PySem.call (.ref C) us) _ _ _
  obtain ⟨hp, g, dr, tk, os⟩ := s1
  have hsz : hp.objs.size ≤ hp.objs.size + 1 := Nat.le_succ _
  have hn : H1 (hp.objs.size + 1) = none := I1.hok.fresh hsz
  have hq := q1 (hp.objs.size + 1) hn
  rw [List.append_nil] at hq
  have kk : ∀ b o, hp.get? b = some o → ((hp.push (PySem.W.kdv_tup us)).push (PySem.HandSPX.excO C hp.objs.size)).get? b = some o := fun b o e => Heap.get?_push_of_some _ (Heap.get?_push_of_some _ e)
  have hget : ((hp.push (PySem.W.kdv_tup us)).push (PySem.HandSPX.excO C hp.objs.size)).get? (hp.objs.size + 1) = some (PySem.HandSPX.excO C hp.objs.size) := by heap_get
  have I2 : Inv X pins σ (upd H1 (hp.objs.size + 1) (exo (hp.objs.size + 1) C none)) ⟨(hp.push (PySem.W.kdv_tup us)).push (PySem.HandSPX.excO C hp.objs.size), g, dr, tk, os⟩ :=
    I1.laid (t' := tk) (a := hp.objs.size + 1) (o := exo (hp.objs.size + 1) C none) (h' := (hp.push (PySem.W.kdv_tup us)).push (PySem.HandSPX.excO C hp.objs.size)) kk hsz (exo_ok hget)
  have r2 : Vals (V.ref (hp.objs.size + 1) :: vs) (Value.ref (hp.objs.size + 1) :: us) := .cons rfl r1
  have hl : (Value.ref (hp.objs.size + 1) :: us ++ []).length = ps.length := by
    have e := r2.length
    rw [F1.len _ _ _ _ hq] at e
    rw [List.append_nil]
    exact e.symm
  have hus : us.length ≤ sizeLine := by
    rw [← Paired.length r1, sizeLine_eq]
    omega
  have b2 := hb _ (Value.ref (hp.objs.size + 1) :: us) I2.kIn hl
  rw [List.append_nil] at b2
  refine wpAny_call (PySem.HandSPX.call_own F.excBase_ValueError (fun Y => PySem.HandSPX.refsVE_contains Y bm hbm) (I1.kIn _ _ hC) (PySem.W.looks_findIn I1.kIn iC) (fun self => PySem.W.bind_fn I1.kIn self tI) hus
    (codeAny_mono (F1.run _ X.stack _ _ ⟨Value.ref (hp.objs.size + 1) :: us, []⟩ (Value.ref (hp.objs.size + 1) :: us) _ _ (fun _ _ _ => False) (hr us) (I2.env0.make C us []) b2 r2 hq) fun r s' hq' => ?_))
  cases r with
  | error er => exact hx pins σ _ _ er s' I2 hq'
  | ok fl =>
    cases fl with
    | ret u =>
      obtain ⟨v, H2, os2, bare2, un2, hok2, rv, ev, d, fs, ea, ed, hd1, q2⟩ := hq'
      subst ev
      obtain ⟨h2, g2, d2, t2, os'⟩ := s'
      obtain ⟨t0, G, J, kG, ge, hoe, na⟩ := mk_end0 (d2 := d2) (t2 := t2) I1 hsz kk un2 hok2 os2 bare2 ea ed hd1
      refine ⟨rv, hp.objs.size + 1, _, _, ⟨G, g2, d2, t2, os'⟩, _, .ref C, some d, rfl, J, kG, ge, hoe, ⟨rfl, rfl, fun vs hv => ?_⟩, rfl, rfl, na, rfl, bare2, raises_own T.exC T.tyC, q2⟩
      cases hv
      rfl
    | next => exact False.elim hq'
    | brk => exact False.elim hq'
    | cont => exact False.elim hq'
/-- what an own error class with one value says -/
structure XiOk (T : Top) (X : Cx) (c : Nat) : Prop where
  oex : OexC X.K (T.ca c)
  no : PySem.W.findIn X.K (.ref (T.ca c)) (T.xf c) = some none
  xf : XfC X.K (T.ca c)
  init : ∃ (CX : CXT) (fI : Addr) (fd : FuncData) (ps : List Str), PySem.W.findIn X.K (.ref (T.ca c)) "__init__" = some (some (.ref fI)) ∧ PySem.W.typeIn X.K (.ref fI) = some (.type "function") ∧ FnOk X.prog X.w X.K X.mg X.base CX 1 fI fd ps (spXi X.K (T.ca c) (T.xf c)) ∧ Binds X.K fd ps [] ∧
    (∀ outer H s e s', ¬ CX outer H s (fun _ _ _ => False) e s')
section
variable {Φ : Nat → List W → M W} {X : Cx} {pos : Pos} {e : E} {xa : Expr} {c : Nat}
/-- the end of the making: a new dict of the exception, nothing else -/
theorem mk_heap {H1 : Hp} {a dx C : Addr} {f : Str} {v : V} (na : H1 a = none) (ne : dx ≠ a) : upd (del (upd (upd (upd H1 a (exo a C none)) dx (exd dx [(f, v)])) a (exo a C (some dx))) a) dx (.xd [(f, v)]) = upd H1 dx (.xd [(f, v)]) := by
  funext b
  by_cases hb : b = dx
  · subst hb; rw [upd_same, upd_same]
  · rw [upd_ne hb, upd_ne hb]
    by_cases ha : b = a
    · subst ha; rw [del_same, na]
    · rw [del_ne ha, upd_ne ha, upd_ne hb, upd_ne ha]
/-- raise C(e) -/
theorem raiseV_pm {n : Str} {p : Pos} (K : XiOk T X c) (hr : ∀ us, Room 1 (X.A.under (.builtin "type.__call__" ⟨.ref (T.ca c) :: us, []⟩))) (hg : Gl X n) (hm : X.mg n = some (.ref (T.ca c))) (hd : (n == ("__debug__" : Str)) = false) (hs : starB xa = false) (ha : PE X xa (tE T Φ Wx e)) :
    L2N.PMk X (.Call (.Name n p) [xa] [] pos) fun σ H Q => tE T Φ Wx e σ H fun v H1 => ∀ dx, H1 dx = none → Q (.ref (T.ca c)) (some dx) (upd H1 dx (.xd [(T.xf c, v)])) := by
  obtain ⟨CX, fI, fd, ps, i1, i2, i3, i4, i5⟩ := K.init
  intro pins s σ H Q I q
  refine pmkN_oex K.oex i1 i2 i3 hr i4 (fun pins σ H s e s' I z => absurd z (i5 _ _ _ _ _)) hg hm (pa_cons ha pa_nil (star_cons hs)) hd (star_cons hs) rfl pins s σ H Q I ?_
  obtain ⟨F, m, h, env, A, R⟩ := q
  refine ⟨F, m, h, env, A, R.imp fun w F1 m1 h1 H1 S1 X1 R1 v r => ⟨by simp, fun a na => ?_⟩⟩
  have k := R1 v r
  refine ⟨a, v, rfl, upd_same, fun dx nd ne => ⟨rfl, dx, [(T.xf c, v)], upd_same, by rw [upd_ne ne, upd_same], by rw [← nd, upd_ne ne], ?_⟩⟩
  rw [mk_heap na ne]
  exact k dx (by rw [← nd, upd_ne ne])
/-- err.f in an except suite -/
theorem pe_xfN {a C : Addr} {oe : Obj} {d : Option Addr} {e : Expr} {te : TE} {n : Str} (hp : (a, oe) ∈ X.pn) (T : XfC X.K C) (hno : PySem.W.findIn X.K (.ref C) n = some none)
    (hz : Zc (.ref C) d oe) (hf : ∃ vs, oe.data = .fields vs) (he : PE X e te) (hb : attributeBase e n X.env (eval e X.env) = eval e X.env) :
    PE X (.Attribute e n pos) (fun σ H Q => te σ H fun x H1 => x = .ref a ∧ ∃ (dd : Addr) (fs : List (Str × V)) (v : V), d = some dd ∧ H1 dd = some (.xd fs) ∧ fs.lookup n = some v ∧ Q v H1) := by
  refine ⟨fun pins s σ H Q I h => ?_⟩
  refine attr_of hb (thn (he.run pins s σ H _ I h) fun u s1 hh => ?_)
  obtain ⟨x, H1, I1, rx, ex, dd, fs, v, ed, ea, l, q⟩ := hh
  subst ex
  obtain rfl : u = Value.ref a := rx
  subst ed
  obtain ⟨ha, _⟩ := I1.pin (a, oe) (List.mem_append_left _ hp)
  obtain ⟨vs, hd⟩ := hf
  have hx : ObjOk X.prog X.w H1 s1.heap dd (.xd fs) := I1.hok dd _ ea
  obtain ⟨mA, hns, hr⟩ := hx
  obtain ⟨od, ho, hl⟩ := lookIn_ns hns
  obtain ⟨u, hu, ru⟩ := RelO.some_of (v := v) (o := mA n) (by rw [← l]; exact hr n)
  have J : PySem.W.InstAt s1.heap a oe C (some od) := ⟨ha, hz.1, by unfold PySem.W.notCls; rw [hd] <;> rfl, by rw [hz.2]; exact ho⟩
  exact HandSPX.exc_get I1.kIn J T.ga T.gg T.exC (PySem.W.findObj_own T.hdC hno rfl (by rw [hl, hu])) (handed_of ru) ⟨v, H1, I1.tok _, ru, q⟩
end
end Mi

set_option maxRecDepth 100000
set_option maxHeartbeats 2000000
/-! Mi, twelfth part: every expression that the check lets through. -/
namespace Mi
open PySem PySem.Spec PyProof.Rows L2
variable {T : Top} {F F' F0 F1 : Hp} {m m' m0 m1 : List Addr} {h h' : MH} {H H' H0 H1 : Hp} {Wx : WX} {σ0 : L2.St}
section
variable {Φ : Nat → List W → M W} {X : Cx} {pos : Pos} {a b c : E} {xa xb xc : Expr} {es : Es} {xs : List Expr} {k : Nat}
/-- a def can be called here -/
def Runs (X : Cx) (T : Top) (Φ : Nat → List W → M W) (Wx : WX) (f np : Nat) : Prop := ∀ (pins : List (Addr × Obj)) (s : Shared) (σ : L2.St) (H : Hp) (us : List Value) (vs : List V) (Q : VK), Inv X pins σ H s → Vals vs us → spF T Φ f np vs H Q (fun cls d H' => Wx cls d σ H') →
  wpAny (model X.prog X.w) X.A (PySem.call (.ref (T.fa f)) us) (EP X pins σ Q) X.xe s
theorem call_e {f np : Nat} {mu : Bool} {n : Str} {p : Pos} (gl : Gl X n) (hm : X.mg n = some (.ref (T.fa f))) (hk : PySem.W.keepIn X.K (.ref (T.fa f)) = true)
    (G : Runs X T Φ Wx f np) (ha : PA X (xa :: xs) (tEs T Φ Wx es)) (hs : ((xa :: xs).all fun e => !starB e) = true) (hd : (n == ("__debug__" : Str)) = false)
    (hn : ∀ env h ws h', evEs Φ es env h = .ok ws h' → ws.length = np) : PE X (.Call (.Name n p) (xa :: xs) [] pos) (tE T Φ Wx (.call f mu es)) := by
  have s1 : starB xa = false := by simpa using (List.all_eq_true.mp hs xa List.mem_cons_self)
  have s2 : (xs.all fun e => !starB e) = true := List.all_eq_true.mpr fun e he => List.all_eq_true.mp hs e (List.mem_cons_of_mem _ he)
  refine ⟨fun pins s σ H Q I ⟨F, m, h, env, A, Rn⟩ => ?_⟩
  refine wpAny_Call_Name_kw (ld_glob I gl hm ?_ hd)
  have go := ha.run pos pins s σ H (fun vs H1 => spF T Φ f np vs H1 Q fun cls d H' => Wx cls d σ H') I
    ⟨F, m, h, env, A, Rn.bind.impE fun ws F1 m1 h1 H1 ew S1 X1 R1 vs r => call_sp (by rw [← r.len]; exact hn _ _ _ _ ew) S1 r R1⟩
  exact PySem.W.callWith_K (h₀ := X.base) I.ok.mod.kin hk (thn go fun us s1 ⟨vs, H1, I1, r, q⟩ => ⟨I1.kIn, G pins s1 σ H1 us vs Q I1 r q⟩) (star_cons s1) (star_any s2)
theorem call_e0 {f : Nat} {mu : Bool} {n : Str} {p : Pos} (gl : Gl X n) (hm : X.mg n = some (.ref (T.fa f))) (hk : PySem.W.keepIn X.K (.ref (T.fa f)) = true)
    (G : Runs X T Φ Wx f 0) (hd : (n == ("__debug__" : Str)) = false) : PE X (.Call (.Name n p) [] [] pos) (tE T Φ Wx (.call f mu .nil)) := by
  refine ⟨fun pins s σ H Q I ⟨F, m, h, env, A, Rn⟩ => ?_⟩
  refine wpAny_Call_Name_kw (ld_glob I gl hm ?_ hd)
  exact PySem.W.callWith_K0 I.kIn hk (G pins s σ H [] [] Q I .nil (call_sp rfl A.sim .nil Rn))
/-- isinstance of the error that the context holds -/
theorem call_isx {D C : Addr} {p : Addr × Obj} {bb : Bool} (hp : p ∈ X.pn) (hf : ∃ vs, p.2.data = .fields vs) (C1 : ExcC X.K D) (C2 : PySem.W.kitOne X.K (.ref D) (.ref C) = some bb) :
    CallR X (.builtin "isinstance") fun xs H Q => L2N.Zn (.ref D) none p.2 ∧ xs = [.ref p.1, .ref C] ∧ Q (.bl bb) H := by
  intro pins s σ H xs us Q I r ⟨hz, ex, q⟩
  subst ex
  cases r with
  | cons r1 rr => cases rr with
    | cons r2 rr =>
      cases rr
      cases r1
      cases r2
      obtain ⟨hget, _⟩ := I.pin p (List.mem_append_left _ hp)
      obtain ⟨vs, hv⟩ := hf
      have J : PySem.W.InstAt s.heap p.1 p.2 D none := by
        obtain ⟨a, oc, od, oda, osl⟩ := p
        obtain ⟨h1, h2, _⟩ := hz
        dsimp only at h1 h2 hv
        subst h1 h2 hv
        exact ⟨hget, rfl, rfl, trivial⟩
      exact PySem.W.kia_one (PySem.W.handS_kitx_exc C1.hg C1.hk C1.hs C1.hd C1.ha C1.hn C1.ht C1.hm) I.kIn J C2 (fun z => nomatch z) fun tk => ⟨.bl bb, H, I.kept (t' := tk) fun _ _ z => z, rfl, q⟩
end
/-- what the own error classes say -/
structure Cls1 (T : Top) (I : Info) (X : Cx) (c : Nat) (n : Str) : Prop where
  mg : X.mg n = some (.ref (T.ca c))
  kp : PySem.W.keepIn X.K (.ref (T.ca c)) = true
  exc : ExcC X.K (T.ca c)
  kit : ∀ c', c' < T.nc → PySem.W.kitOne X.K (.ref (T.ca c')) (.ref (T.ca c)) = some (c' == c || c == 0)
  exm : ∀ c', c' < T.nc → PySem.W.exmOne X.K (.ref (T.ca c')) (.ref (T.ca c)) = some (c' == c || c == 0)
  mak : xiN I c = false → ∃ (B newId initId : String) (bmB : List Value), ExcBaseFacts B newId initId bmB ∧ PySem.W.excIn X.K (T.ca c) bmB newId = true ∧ Raises X (.ref (T.ca c))
/-- what an except suite stands in -/
structure Hot (T : Top) (I : Info) (k : Nat) (Φ : Nat → List W → M W) (X : Cx) (T0 : Top) (p : Addr × Obj) (c : Nat) (x : Option PyData) : Prop where
  top : T = T0.at c x p.1 p.2.dict
  h1 : L2H.Hot1 X.A p
  hp : p ∈ X.pn
  cl : c < T.nc
  zn : L2N.Zn (.ref (T.ca c)) p.2.dict p.2
  z0 : x = none ↔ p.2.dict = none
  fns : ∀ f n np, I.fns[f]? = some (n, np) → I.hfns.contains f = true → ∃ fd ps, ps.length = np ∧ FnK X.prog X.w X.K X.mg X.base T0 Φ k f np fd ps ∧ Binds X.K fd ps []
/-- what a body stands in -/
structure Bod (T : Top) (I : Info) (k : Nat) (Φ : Nat → List W → M W) (N : List Str) (Wx : WX) (X : Cx) : Prop where
  K : X.K = T.K
  calm : I.hot = false → X.calm = true
  names : X.N = N
  nd : N.Nodup
  gd : X.A.guards = some []
  room : I.hot = false → Room k X.A
  roomH : L2H.RoomH k X.A
  takes : L2N.Takes X Wx
  blt : ∀ x, I.blts.contains x = true → X.mg x = none
  gls : ∀ g d, lookS g I.gls = some d → ∃ v u, X.mg g = some u ∧ RelV v u ∧ ∀ F, Dq T.K F v d
  ncl : I.clss.length = T.nc
  clss : ∀ c n, I.clss[c]? = some n → Cls1 T I X c n
  tabs : ∀ g tab, lookS g I.tabs = some tab → ∃ d es n, X.mg g = some (.ref d) ∧ KDict X.K X.w d es n ∧ ∀ z, PySem.W.nsIn X.K d z = some ((lookS z tab).map fun f => .ref (T.fa f))
  fns : ∀ f n np, I.fns[f]? = some (n, np) → (f < I.ng → X.mg n = some (.ref (T.fa f)) ∧ PySem.W.keepIn X.K (.ref (T.fa f)) = true) ∧ (I.hot = false → I.hfns.contains f = false → ∃ fd ps, ps.length = np ∧ FnG X.prog X.w X.K X.mg X.base k (T.fa f) fd ps (spF T Φ f np) ∧ Binds X.K fd ps [])
  hfn : I.hot = false → (∀ c x v, ¬ T.xw c x v) ∧ ∀ f n np, I.fns[f]? = some (n, np) → I.hfns.contains f = true → ∃ fd ps, ps.length = np ∧ FnK X.prog X.w X.K X.mg X.base T Φ k f np fd ps ∧ Binds X.K fd ps []
  roomM : I.hot = false → ∀ (C : Addr) us, Room k (X.A.under (.builtin "type.__call__" ⟨.ref C :: us, []⟩)) ∧ Room 1 (X.A.under (.builtin "type.__call__" ⟨.ref C :: us, []⟩))
  gdM : ∀ (C : Addr) us, (X.A.under (.builtin "type.__call__" ⟨.ref C :: us, []⟩)).guards = some []
  top : I.hot = false → I.inner = false → X.stack = X.env :: X.outer ∧ X.env.frame = some X.env.locals
  ics : ∀ c ic, I.ics[c]? = some ic → IcOk T X c ic
  xis : ∀ c f, (c, f) ∈ I.xis → XiOk T X c
  xf : ∀ c, T.xf c = xfOf I c
  hots : I.hot = true → ∃ T0 p c x, Hot T I k Φ X T0 p c x
variable {I : Info} {k : Nat} {Φ : Nat → List W → M W} {N : List Str} {X : Cx}
theorem Bod.units (C : Bod T I k Φ N Wx X) : X.A.units + 150 < cLine := by
  have := C.roomH.un
  omega
theorem Cls1.of {X' : Cx} {c : Nat} {n : Str} (C : Cls1 T I X c n) (h1 : X'.mg = X.mg) (h2 : X'.K = X.K) : Cls1 T I X' c n := by
  refine ⟨by rw [h1]; exact C.mg, by rw [h2]; exact C.kp, by rw [h2]; exact C.exc, by rw [h2]; exact C.kit, by rw [h2]; exact C.exm, fun hx => ?_⟩
  obtain ⟨B, n1, n2, bm, F, e, r⟩ := C.mak hx
  refine ⟨B, n1, n2, bm, F, by rw [h2]; exact e, ?_⟩
  unfold Raises at r ⊢
  rw [h2]
  exact r
theorem Cls1.inn {b : Bool} {c : Nat} {n : Str} (C : Cls1 T I X c n) : Cls1 T { I with inner := b } X c n := ⟨C.mg, C.kp, C.exc, C.kit, C.exm, C.mak⟩
theorem IcOk.of {X' : Cx} {c : Nat} {ic : Ic} (C : IcOk T X c ic) (h1 : X'.mg = X.mg) (h2 : X'.K = X.K) : IcOk T X' c ic :=
  ⟨by rw [h2]; exact C.cls, by rw [h1]; exact C.mg, C.fl, C.nd, by rw [h2]; exact C.noat, by rw [h2]; exact C.meth, by rw [h2]; exact C.mak⟩
theorem XiOk.of {X' : Cx} {c : Nat} (C : XiOk T X c) (h1 : X'.mg = X.mg) (h2 : X'.K = X.K) (h3 : X'.prog = X.prog) (h4 : X'.w = X.w) (h5 : X'.base = X.base) : XiOk T X' c := by
  refine ⟨by rw [h2]; exact C.oex, by rw [h2]; exact C.no, by rw [h2]; exact C.xf, ?_⟩
  rw [h1, h2, h3, h4, h5]
  exact C.init
theorem Bod.blkX (C : Bod T I k Φ N Wx X) (hh : I.hot = false) {W' : WX} (s : Shared) (H : Hp) (scope : Scope) (ce : Env) (fp : List Addr) (xe : Value → Shared → Prop) (tk : L2N.Takes (MiX.blkX X s H scope ce fp xe) W') : Bod T { I with inner := true } k Φ N W' (MiX.blkX X s H scope ce fp xe) :=
  ⟨C.K, C.calm, C.names, C.nd, C.gd, C.room, C.roomH, tk, C.blt, C.gls, C.ncl, fun c n e => Cls1.inn ((C.clss c n e).of rfl rfl), C.tabs, C.fns, C.hfn, C.roomM, C.gdM, (fun _ z => nomatch z), fun c ic e => (C.ics c ic e).of rfl rfl, fun c f e => (C.xis c f e).of rfl rfl rfl rfl rfl, C.xf, fun z => by rw [hh] at z; cases z⟩
theorem Bod.blk (C : Bod T I k Φ N Wx X) (hh : I.hot = false) (s : Shared) (H : Hp) (scope : Scope) (ce : Env) (fp : List Addr) : Bod T { I with inner := true } k Φ N W0 (X.blk s H scope ce fp) :=
  C.blkX hh s H scope ce fp (fun _ _ => False) fun _ _ ⟨_, _, _, _, _, _, _, _, _, _, _, _, _, _, _, _, z⟩ => z.elim
theorem Bod.run (C : Bod T I k Φ N Wx X) {f np : Nat} {n : Str} (e : I.fns[f]? = some (n, np)) (ok : I.hot = I.hfns.contains f) : Runs X T Φ Wx f np := by
  intro pins s σ H us vs Q J r q
  cases hh : I.hot with
  | false =>
    obtain ⟨_, g⟩ := C.fns f n np e
    obtain ⟨fd, ps, _, G, hb⟩ := g hh (by rw [← ok]; exact hh)
    exact runG G (C.room hh) C.gd hb C.takes J r q
  | true =>
    have ok' : I.hfns.contains f = true := by rw [← ok]; exact hh
    obtain ⟨T0, p, c, x, hot⟩ := C.hots hh
    obtain ⟨fd, ps, l, G, hb⟩ := hot.fns f n np e ok'
    have tp := hot.top
    have q' := q
    rw [tp] at q'
    have ef : T.fa f = T0.fa f := by rw [tp]; rfl
    rw [ef]
    exact runK G l C.roomH C.gd hot.h1 hot.hp (by have := hot.cl; rw [tp] at this; exact this) (by have := hot.zn; rw [tp] at this; exact this) hot.z0 hb C.takes J r q'
theorem evEs_n {N : List Str} {sc : Scope} {es : Es} {xs : List Expr} (c : chkEs I N es sc xs = true) : ∀ env h ws h', evEs Φ es env h = .ok ws h' → ws.length = xs.length := fun env h ws h' e => by
  obtain ⟨n, l, g⟩ := evEs_len e
  rw [l, g xs I N sc c]
theorem chkEs_star {sc : Scope} : ∀ {es : Es} {xs : List Expr}, chkEs I N es sc xs = true → (xs.all fun e => !starB e) = true
  | .nil, xs, c => by
    simp only [chkEs] at c
    cases xs with
    | nil => rfl
    | cons _ _ => cases c
  | .cons e es, xs, c => by
    cases xs with
    | nil => cases c
    | cons y ys =>
      simp only [chkEs, Bool.and_eq_true] at c
      rw [List.all_cons, c.1.1, chkEs_star c.2]
      rfl
theorem noset {op : CmpOp} {x : Expr} (c : setB x = false) : behindInMarks op x = false := by
  cases x <;> first | rfl | (cases c)
theorem nofold {x : Expr} {env : Env} (c : setB x = false) : ∀ v, foldedSetIterable x env v = pure v := by
  intro v
  cases x <;> first | rfl | (cases c)
theorem dbg_blt (b : Blt) : (bltN b == ("__debug__" : Str)) = false := by
  cases b <;> first | decide | (rename_i nw; exact (by decide : (("list" : Str) == ("__debug__" : Str)) = false))
theorem isx_e {a : E} {cc c : Nat} {xa : Expr} {n tn : Str} {p p2 pos : Pos} {T0 : Top} {p0 : Addr × Obj} {x0 : Option PyData} (C : Bod T I k Φ N Wx X) (hot : Hot T I k Φ X T0 p0 c x0) (hn : n = "isinstance") (gl : Gl X n) (hm : X.mg n = none) (gt : Gl X tn) (hd : (tn == ("__debug__" : Str)) = false)
    (hc : I.clss[cc]? = some tn) (ha : PE X xa (tE T Φ Wx a)) (hs : starB xa = false) : PE X (.Call (.Name n p) [xa, .Name tn p2] [] pos) (tE T Φ Wx (.isx a cc)) := by
  subst hn
  have K1 := C.clss cc tn hc
  obtain ⟨hh, vs0, hf, _⟩ := hot.h1
  refine (pe_callB (call_isx hot.hp ⟨_, hf⟩ (C.clss c _ (List.getElem?_eq_getElem (by rw [C.ncl]; exact hot.cl))).exc (K1.kit c hot.cl)) gl hm (by decide +kernel) (pa_cons ha (pa_cons (pe_glob (v := .ref (T.ca cc)) gt K1.mg rfl hd) pa_nil) (star_cons hs)) (by decide) (by decide) (star_cons hs) rfl).imp
    fun σ H Q ⟨F, m, h, env, A, R⟩ => ⟨F, m, h, env, A, R.bind.imp fun w F1 m1 h1 H1 S1 X1 R1 x r => ?_⟩
  cases w with
  | ex c' y => cases y with
    | none =>
      have r' : T.xw c' none x := r.1
      rw [hot.top] at r'
      obtain ⟨e1, e2, e3⟩ := r'
      subst e1
      subst e3
      exact ⟨by have z := hot.zn; rw [hot.z0.mp e2.symm] at z; exact z, rfl, Run.here S1 R1 _ (.bl _)⟩
    | some _ => exact R1.elim
  | _ => exact R1.elim
section
variable {a : E} {es : Es} {xa y : Expr} {ys : List Expr} {g : Str} {tab : List (Str × Nat)} {p p2 p3 pos : Pos}
theorem tabB_at (C : Bod T I k Φ N Wx X) (c : tabB I g tab = true) : ∃ d es n, X.mg g = some (.ref d) ∧ KDict X.K X.w d es n ∧ ∀ z, PySem.W.nsIn X.K d z = some ((lookS z tab).map fun f => .ref (T.fa f)) := by
  unfold tabB at c
  split at c
  · rename_i t e
    have : t = tab := of_decide_eq_true c
    subst this
    exact C.tabs g t e
  · cases c
def rTab (T : Top) (d : Addr) (tab : List (Str × Nat)) (neg : Bool) : R2 := fun x y H Q => ∃ z, x = .str z ∧ y = .ref d ∧ Q (.bl ((lookS z tab).isSome != neg)) H
theorem op_tab {d : Addr} {es : Array DictEntry} {n : Nat} {neg : Bool} (D : KDict X.K X.w d es n) (h : ∀ z, PySem.W.nsIn X.K d z = some ((lookS z tab).map fun f => .ref (T.fa f))) : OpR X (compareOp (inOp neg)) (rTab T d tab neg) := by
  cases neg with
  | false =>
    rintro pins s σ H x y v u Q I rx ry ⟨z, e1, e2, q⟩
    refine op_in_kd D pins s σ H x y v u Q I rx ry ⟨z, _, e1, e2, h z, ?_⟩
    rw [Option.isSome_map]
    simpa using q
  | true =>
    rintro pins s σ H x y v u Q I rx ry ⟨z, e1, e2, q⟩
    refine op_notIn_kd D pins s σ H x y v u Q I rx ry ⟨z, _, e1, e2, h z, ?_⟩
    rw [Option.isSome_map]
    simpa using q
theorem gdin_use {neg : Bool} {d : Addr} {σ : L2.St} {env : Ev} {K : V → Hp → Prop} (A : At T σ F m h env H)
    (R : Run T Wx σ F m H (evE Φ (.gdin neg g tab a) env h) fun w F' m' _ H' => ∀ v, WR T F' m' w v → K v H') : tOp (rTab T d tab neg) (tE T Φ Wx a) (tC (.ref d)) σ H K := by
  refine ⟨F, m, h, env, A, R.bind.imp fun w F1 m1 h1 H1 S1 X1 R1 x r => ?_⟩
  revert R1
  split
  · intro R1
    rename_i z
    cases str_inv r
    exact ⟨z, rfl, rfl, Run.here S1 R1 _ (.bl _)⟩
  · intro R1; exact R1.elim
theorem gdin_e {neg : Bool} (C : Bod T I k Φ N Wx X) (gl : Gl X g) (hd : (g == ("__debug__" : Str)) = false) (c : tabB I g tab = true) (ha : PE X xa (tE T Φ Wx a)) : PE X (.Compare xa [inOp neg] [.Name g p2] pos) (tE T Φ Wx (.gdin neg g tab a)) := by
  obtain ⟨d, es, n, hm, D, hz⟩ := tabB_at C c
  exact (pe_cmpR (op_tab (T := T) D hz) ha (pe_glob (v := .ref d) gl hm rfl hd) (by cases neg <;> rfl)).imp fun σ H Q ⟨F, m, h, env, A, R⟩ => gdin_use A R
theorem gdin_bool {neg : Bool} {env : Ev} {w : W} {h h' : MH} (e : evE Φ (.gdin neg g tab a) env h = .ok w h') : ∃ b, w = .d (.bool b) := by
  simp only [evE] at e
  cases e1 : evE Φ a env h with
  | ok x h1 =>
    rw [e1] at e
    simp only [R.bind] at e
    split at e
    · cases e; exact ⟨_, rfl⟩
    · cases e
  | exc _ _ => rw [e1] at e; cases e
  | stuck => rw [e1] at e; cases e
theorem gdin_t {neg : Bool} (C : Bod T I k Φ N Wx X) (gl : Gl X g) (hd : (g == ("__debug__" : Str)) = false) (c : tabB I g tab = true) (ha : PE X xa (tE T Φ Wx a)) : PT X (.Compare xa [inOp neg] [.Name g p2] pos) (tT T Φ Wx (.val (.gdin neg g tab a))) := by
  obtain ⟨d, es, n, hm, D, hz⟩ := tabB_at C c
  refine (pt_cmpR (op_tab (T := T) D hz) ha (pe_glob (v := .ref d) gl hm rfl hd) (by cases neg <;> rfl)).imp fun σ H Q ⟨F, m, h, env, A, R⟩ => ?_
  obtain ⟨F, m, h, env, A, R⟩ := tst_use (e := .gdin neg g tab a) (fun _ _ e => gdin_bool e) A R
  exact gdin_use A R
theorem lookS_mem {α : Type} {z : Str} {f : α} : ∀ {l : List (Str × α)}, lookS z l = some f → (z, f) ∈ l
  | [], e => by cases e
  | (k, v) :: r, e => by
    unfold lookS at e
    split at e
    · rename_i c
      cases e
      have : k = z := of_decide_eq_true c
      subst this
      exact List.mem_cons_self
    · exact List.mem_cons_of_mem _ (lookS_mem e)
theorem Run.shift {α : Type} {r : R α} {k : α → Hp → List Addr → MH → Hp → Prop} (x : Run T Wx σ0 F m H r k) (X : Ext F m H F' m' H') : Run T Wx σ0 F' m' H' r k := by
  cases r with
  | ok a h1 => exact fun F2 m2 H2 S2 X2 => x F2 m2 H2 S2 (X.trans X2 S2.nd)
  | exc e h1 => exact fun F2 m2 H2 cls d S2 X2 => x F2 m2 H2 cls d S2 (X.trans X2 S2.nd)
  | stuck => exact x
theorem no_sl {i : Expr} (c : sliceB i = false) : NoSl i := by
  intro ov iv
  cases i <;> first | rfl | (cases c)
/-! a display of texts and plain data -/
def litV : PyData → V
  | .bool b => .bl b
  | .int i => .int i
  | .str x => .str x
  | _ => .non
theorem litV_dq {d : PyData} {c : Const} (h : litB d c = true) {K : PySem.W.Frag} {F : Hp} : Dq K F (litV d) d := by
  unfold litB at h
  split at h
  · exact .non
  · exact .bl _
  · exact .int _
  · exact .str _
  · cases h
theorem litV_pe {d : PyData} {c : Const} {j : Nat} (h : litB d c = true) : PE X (.Constant c j pos) (tC (litV d)) := by
  unfold litB at h
  split at h
  · exact pe_non
  · rename_i a b
    have e : a = b := by simpa using h
    subst e
    exact pe_bl
  · rename_i a b
    have e : a = b := by simpa using h
    subst e
    exact pe_int
  · rename_i a b
    have e : a = b := by simpa using h
    subst e
    exact pe_str
  · cases h
def trsOf (ks : List (Str × PyData)) : List (TE × TE) := ks.map fun q => (tC (.str q.1), tC (litV q.2))
theorem dk_pps : ∀ {ks : List (Str × PyData)} {keys : List (Option Expr)} {vals : List Expr}, dkB ks keys vals = true → PPs X pos keys vals (trsOf ks) ∧ keys.all (·.isSome) = true ∧ keys.length = vals.length ∧ keys.length = ks.length ∧ ∀ q ∈ ks, ∀ {K : PySem.W.Frag} {F : Hp}, Dq K F (litV q.2) q.2
  | [], [], [], _ => ⟨pps_nil, rfl, rfl, rfl, by simp⟩
  | (k, d) :: r, some (.Constant (.str k') _ _) :: ks, .Constant c _ _ :: vs, e => by
    simp only [dkB, Bool.and_eq_true, decide_eq_true_eq] at e
    obtain ⟨⟨e1, e2⟩, e3⟩ := e
    subst e1
    obtain ⟨h1, h2, h3, h4, h5⟩ := dk_pps e3
    refine ⟨pps_cons pe_str (litV_pe e2) h1, by simpa using h2, by simp [h3], by simp [h4], fun q hq K F => ?_⟩
    rcases List.mem_cons.mp hq with z | z
    · subst z; exact litV_dq e2
    · exact h5 q z
  | [], _ :: _, _, e => by simp [dkB] at e
  | [], [], _ :: _, e => by simp [dkB] at e
  | _ :: _, [], _, e => by simp [dkB] at e
  | _ :: _, none :: _, _, e => by simp [dkB] at e
  | _ :: _, some x :: _, [], e => by simp [dkB] at e
def kvsOf (ks : List (Str × PyData)) : List (Key × V) := ks.map fun q => (Sum.inr q.1, litV q.2)
theorem dk_pairs {Q : List (V × V) → Hp → Prop} {σ : L2.St} {H : Hp} : ∀ {ks : List (Str × PyData)} {pre : List (V × V)}, Q (pre ++ (kvsOf ks).map fun kv => (kV kv.1, kv.2)) H → tPairs (trsOf ks) σ H (fun ps H2 => Q (pre ++ ps) H2)
  | [], pre, q => by simpa [trsOf, kvsOf, tPairs] using q
  | (k, d) :: r, pre, q => by
    show tPairs (trsOf r) σ H fun ps H2 => Q (pre ++ (V.str k, litV d) :: ps) H2
    have := dk_pairs (Q := Q) (σ := σ) (H := H) (ks := r) (pre := pre ++ [(V.str k, litV d)]) (by simpa [kvsOf, kV] using q)
    simpa using this
theorem merge_fresh : ∀ {more kvs : List (Key × V)}, ((kvs ++ more).map (·.1)).Nodup → mergeK kvs more = kvs ++ more
  | [], kvs, _ => by simp [mergeK]
  | p :: r, kvs, h => by
    have e : putK kvs p.1 p.2 = kvs ++ [p] := by
      unfold putK
      rw [if_neg]
      intro z
      obtain ⟨q, hq, e⟩ := List.any_eq_true.mp z
      have e := of_decide_eq_true e
      rw [List.map_append, List.nodup_append] at h
      exact h.2.2 q.1 (List.mem_map_of_mem hq) p.1 (by simp) e
    have := merge_fresh (more := r) (kvs := kvs ++ [p]) (by simpa using h)
    show mergeK (putK kvs p.1 p.2) r = _
    rw [e, this]
    simp
theorem val_kvs {z : Str} {x : PyData} : ∀ {ks : List (Str × PyData)}, lookS z ks = some x → valV (kvsOf ks) (Sum.inr z) = some (litV x) ∧ ∃ q ∈ ks, q.2 = x
  | [], e => by cases e
  | (k, v) :: r, e => by
    unfold lookS at e
    split at e
    · rename_i c
      cases e
      have : k = z := of_decide_eq_true c
      subst this
      exact ⟨valV_pos rfl, _, List.mem_cons_self, rfl⟩
    · rename_i c
      obtain ⟨h1, q, h2, h3⟩ := val_kvs e
      refine ⟨?_, q, List.mem_cons_of_mem _ h2, h3⟩
      show valV ((Sum.inr k, litV v) :: kvsOf r) (Sum.inr z) = _
      rw [valV_neg, h1]
      intro z'
      have : k = z := Sum.inr.inj z'
      exact c (decide_eq_true this)
theorem dget_e {ks : List (Str × PyData)} {keys : List (Option Expr)} {vals : List Expr} (C : Bod T I k Φ N Wx X) (c1 : dkB ks keys vals = true) (nd : (ks.map (·.1)).Nodup) (h15 : ks.length < 16) (h0 : 0 < ks.length) (ha : PE X xa (tE T Φ Wx a)) (hs : sliceB xa = false) :
    PE X (.Subscript (.Dict keys vals p2) xa pos) (tE T Φ Wx (.dget ks a)) := by
  obtain ⟨h1, h2, h3, h4, h5⟩ := dk_pps (X := X) (pos := p2) c1
  have hu : X.A.units + 1 < cLine := by have := C.units; omega
  refine (pe_dget hu (pe_disp h1 h2 h3 (fun z => by rw [z] at h4; simp at h4; omega) (by omega)) ha (no_sl hs)).imp fun σ H Q ⟨F, m, h, env, A, R⟩ => fun p np => ?_
  have nF := A.sim.notF np
  have nM := A.sim.notM np
  refine dk_pairs (pre := []) (Q := fun ps H2 => H2 p = some (.dK []) ∧ ∃ kvs : List (Key × V), ps = kvs.map (fun kv => (kV kv.1, kv.2)) ∧ kvs.length ≤ 15 ∧ tE T Φ Wx a σ (upd H2 p (.dK (mergeK [] kvs))) fun y H2 => ∃ a v, V.ref p = .ref a ∧ DGet H2 a y (some v) ∧ Q v H2)
    ⟨upd_same, kvsOf ks, by simp, by simp [kvsOf]; omega, ?_⟩
  have ekv : mergeK [] (kvsOf ks) = kvsOf ks := merge_fresh (kvs := []) (by
    have e : (kvsOf ks).map (·.1) = (ks.map (·.1)).map Sum.inr := by simp [kvsOf]
    rw [List.nil_append, e]
    exact List.pairwise_map.mpr (List.Pairwise.imp (fun h z => h (Sum.inr.inj z)) nd : (ks.map (·.1)).Pairwise fun a b => (Sum.inr a : Key) ≠ Sum.inr b))
  rw [ekv]
  have S0 : Sim T F m h (upd (upd H p (.dK [])) p (.dK (kvsOf ks))) := (A.sim.side nF nM).side nF nM
  have X0 : Ext F m H F m (upd (upd H p (.dK [])) p (.dK (kvsOf ks))) := (Ext.refl.side np).side np
  refine ⟨F, m, h, env, ⟨S0, A.env⟩, (Run.shift R.bind X0).imp fun w F1 m1 h1 H1 S1 X1 R1 y r => ?_⟩
  revert R1
  split
  · intro R1
    rename_i z
    cases str_inv r
    obtain ⟨x, e, kk⟩ := Run.liftM S1 R1
    obtain ⟨e1, q, e2, e3⟩ := val_kvs e
    have hp := X1.keep p _ upd_same nM
    refine ⟨p, litV x, rfl, ?_, kk _ (by rw [← e3]; exact h5 q e2)⟩
    have g := DGet.k (k := Sum.inr z) hp
    rw [e1] at g
    exact g
  · intro R1; exact R1.elim
theorem callg_e (C : Bod T I k Φ N Wx X) (gl : Gl X g) (hd : (g == ("__debug__" : Str)) = false) (c : tabB I g tab = true) (ha : PE X xa (tE T Φ Wx a)) (hsl : sliceB xa = false) (hes : PA X (y :: ys) (tEs T Φ Wx es)) (hs : ((y :: ys).all fun e => !starB e) = true)
    (hf : ∀ q ∈ tab, ∃ nm np, I.fns[q.2]? = some (nm, np) ∧ q.2 < I.ng ∧ Runs X T Φ Wx q.2 np ∧ ∀ env h ws h', evEs Φ es env h = .ok ws h' → ws.length = np) :
    PE X (.Call (.Subscript (.Name g p3) xa p2) (y :: ys) [] pos) (tE T Φ Wx (.callg g tab a es)) := by
  have s1 : starB y = false := by simpa using (List.all_eq_true.mp hs y List.mem_cons_self)
  have s2 : (ys.all fun e => !starB e) = true := List.all_eq_true.mpr fun e he => List.all_eq_true.mp hs e (List.mem_cons_of_mem _ he)
  obtain ⟨d, ees, n, hm, D, hz⟩ := tabB_at C c
  refine ⟨fun pins s σ H Q I0 ⟨F, m, h, env, A, Rn⟩ => ?_⟩
  have pf : PE X (.Name g p3) (tC (.ref d)) := pe_glob gl hm rfl hd
  refine Call_ ?_ rfl
  refine subD_of PySem.F.slot_dict_getitem.lookup (no_sl hsl) (thn (pf.run pins s σ H (fun v H1 => v = .ref d ∧ H1 = H) I0 ⟨rfl, rfl⟩) fun u s1' ⟨x1, H1, I1, r1, e1, e2⟩ => ?_)
  subst e1
  subst e2
  obtain rfl : u = Value.ref d := r1
  refine thn (ha.run pins s1' σ H1 (fun v H2 => ∃ z i F2 m2 h2, v = .str z ∧ (z, i) ∈ tab ∧ lookS z tab = some i ∧ At T σ F2 m2 h2 env H2 ∧ Run T Wx σ F2 m2 H2 ((evEs Φ es env h2).bind fun ws h => callW Φ false i ws h) fun w F' m' _ H' => ∀ v, WR T F' m' w v → Q v H') I1
    ⟨F, m, h, env, A, Rn.bind.imp fun w F2 m2 h2 H2 S2 X2 R2 x r => ?_⟩) fun iv s2' ⟨y2, H2, I2, r2, z, i, F2, m2, h2, ey, hmem, hl, A2, R2⟩ => ?_
  · revert R2
    split
    · rename_i z
      split
      · rename_i i hl
        intro R2
        cases str_inv r
        exact ⟨z, i, F2, m2, h2, rfl, lookS_mem hl, hl, A.step S2 X2, R2⟩
      · exact fun R2 => R2.elim
    · exact fun R2 => R2.elim
  subst ey
  obtain ⟨nm, np, e3, lg, run, hn⟩ := hf _ hmem
  obtain ⟨_, kp⟩ := (C.fns _ _ _ e3).1 lg
  refine ⟨kd_type D I2, thn (op_item_kd D pins s2' σ H2 (.ref d) (.str z) (.ref d) iv (fun v H3 => v = .ref (T.fa i) ∧ H3 = H2) I2 rfl r2 ⟨z, .ref (T.fa i), .ref (T.fa i), rfl, rfl, by rw [hz, hl]; rfl, rfl, rfl, rfl⟩) fun fv s3' ⟨v3, H3, I3, r3, e4, e5⟩ => ?_⟩
  subst e4
  subst e5
  obtain rfl : fv = Value.ref (T.fa i) := r3
  have go := hes.run pos pins s3' σ H3 (fun vs H4 => spF T Φ i np vs H4 Q fun cls d H' => Wx cls d σ H') I3
    ⟨F2, m2, h2, env, A2, R2.bind.impE fun ws F4 m4 h4 H4 ew S4 X4 R4 vs r => call_sp (by rw [← r.len]; exact hn _ _ _ _ ew) S4 r R4⟩
  exact PySem.W.callWith_K (h₀ := X.base) I3.ok.mod.kin kp (thn go fun us s4 ⟨vs, H4, I4, r, q⟩ => ⟨I4.kIn, run pins s4 σ H4 us vs Q I4 r q⟩) (star_cons s1) (star_any s2)
end
def cmpB : E → Bool
  | .cmp .. => true
  | .chain .. => true
  | .gdin .. => true
  | _ => false
theorem vE {e : E} {sc : Scope} {x : Expr} (c : chkT I N (.val e) sc x = true) : chkE I N e sc x = true := by
  simp only [chkT, Bool.and_eq_true] at c
  exact c.1
theorem vP {e : E} {sc : Scope} {x : Expr} (c : chkT I N (.val e) sc x = true) (d : cmpB e = false) : plainT x = true := by
  simp only [chkT, Bool.and_eq_true, Bool.or_eq_true] at c
  rcases c.2 with c2 | c2
  · exact c2
  · cases e <;> first | exact Bool.noConfusion (show true = false from d) | exact absurd c2 Bool.false_ne_true
theorem attB_call {x : Expr} (c : attB x = true) : callB x = false := by
  cases x <;> first | rfl | (cases c)
theorem Run.noX {α : Type} {r : R α} {k : α → Hp → List Addr → MH → Hp → Prop} (x : Run T Wx σ0 F m H (Mi.noX r) k) : Run T W0 σ0 F m H r k := by
  cases r with
  | ok a h1 => exact x
  | exc e h1 => exact x.elim
  | stuck => exact x.elim
theorem lc_use0 {Φ : Nat → List W → M W} {nw : Bool} {own tg : List Nat} {tup : Bool} {it : Mi.It} {t : Mi.T} {e : E} {σ : L2.St} {Q : VK} {X : Cx} (hK : X.K = T.K) (ho : own = tg) (q : tE T Φ Wx (.noexc (.comp nw own tg tup it t e)) σ H Q) :
    tLc (tIt T Φ Wx it) (gOf X.K tg tup) (tT T Φ W0 t) (tE T Φ W0 e) own σ H Q := by
  obtain ⟨F, m, h, env, A, R⟩ := q
  have := lc_use (Wx := W0) hK ho ⟨F, m, h, env, A, Run.noX R⟩
  obtain ⟨F, m, h, env, A, R⟩ := this
  refine ⟨F, m, h, env, A, ?_⟩
  revert R
  cases evIt Φ it env h with
  | ok a h1 => exact fun R => R
  | exc e h1 => exact fun R F' m' H' cls d S' X' ex => (R F' m' H' cls d S' X' ex).elim
  | stuck => exact fun R => R
theorem exf_e {a : E} {cc c : Nat} {xa : Expr} {f : Str} {pos : Pos} {T0 : Top} {p0 : Addr × Obj} {x0 : Option PyData} (C : Bod T I k Φ N Wx X) (hot : Hot T I k Φ X T0 p0 c x0) (hc : (decide (xfOf I cc = f) && I.xis.any fun q => q.1 == cc && decide (q.2 = f)) = true) (ha : PE X xa (tE T Φ Wx a)) (hb : callB xa = false) :
    PE X (.Attribute xa f pos) (tE T Φ Wx (.exf cc a)) := by
  simp only [Bool.and_eq_true, decide_eq_true_eq] at hc
  obtain ⟨h1, h2⟩ := hc
  obtain ⟨q, hq, e⟩ := List.any_eq_true.mp h2
  simp only [Bool.and_eq_true, decide_eq_true_eq, beq_iff_eq] at e
  obtain ⟨q1, q2⟩ := q
  obtain ⟨e1, e2⟩ := e
  dsimp only at e1 e2
  subst e1 e2
  have K := C.xis _ _ hq
  have inv : ∀ {F1 : Hp} {m1 : List Addr} {w : W} {x : V} {h1 : MH} {k : W → Hp → List Addr → MH → Hp → Prop} {H1 : Hp} {σ : L2.St}, WR T F1 m1 w x → Run T Wx σ F1 m1 H1 (match w with
      | .ex c' (some v) => if c' == q1 then R.ok (W.d v) h1 else .stuck
      | _ => .stuck) k → c = q1 ∧ ∃ v u dd, x = .ref p0.1 ∧ p0.2.dict = some dd ∧ F1 dd = some (.xd [(q2, u)]) ∧ Dq T.K F1 u v ∧ Run T Wx σ F1 m1 H1 (.ok (.d v) h1) k := by
    intro F1 m1 w x h1' k H1 σ r R
    cases w with
    | ex c' y => cases y with
      | none => exact R.elim
      | some v =>
        obtain ⟨r1, r2⟩ := r
        obtain ⟨u, r3, r4⟩ := r2
        have r1' := r1
        rw [hot.top] at r1'
        obtain ⟨e1, e2, e3⟩ := r1'
        subst e1
        dsimp only at R
        split at R
        · rename_i ec
          have ec : c' = q1 := by simpa using ec
          subst ec
          cases hd : p0.2.dict with
          | none => rw [hot.z0.mpr hd] at e2; cases e2
          | some dd =>
            refine ⟨rfl, v, u, dd, e3, rfl, ?_, r4, R⟩
            have ea : T.xa = dd := by rw [hot.top]; show p0.2.dict.getD 0 = dd; rw [hd]; rfl
            rw [ea, C.xf, h1] at r3
            exact r3
        · exact R.elim
    | _ => exact R.elim
  by_cases hcc : c = q1
  · subst hcc
    obtain ⟨_, vs, hf, _⟩ := hot.h1
    refine (pe_xfN (C := T.ca c) (d := p0.2.dict) (oe := p0.2) (a := p0.1) hot.hp K.xf (by rw [← h1, ← C.xf]; exact K.no) hot.zn.zc ⟨_, hf⟩ ha (ab_of hb)).imp fun σ H Q ⟨F, m, h, env, A, R⟩ => ⟨F, m, h, env, A, R.bind.imp fun w F1 m1 h1 H1 S1 X1 R1 x r => ?_⟩
    obtain ⟨_, v, u, dd, ex, ed, eF, dq, R2⟩ := inv r R1
    exact ⟨ex, dd, _, u, ed, S1.sub _ _ eF, by simp [List.lookup], Run.here S1 R2 u dq⟩
  · refine ⟨fun pins s σ H Q I ⟨F, m, h, env, A, R⟩ => ?_⟩
    refine attr_of (ab_of hb) (thn (ha.run pins s σ H (fun _ _ => False) I ⟨F, m, h, env, A, R.bind.imp fun w F1 m1 h1 H1 S1 X1 R1 x r => hcc (inv r R1).1⟩) fun u s1 ⟨_, _, _, _, z⟩ => z.elim)


mutual
theorem sE : ∀ (e : E) {I : Info} {X : Cx} {Wx : WX} {x : Expr}, Bod T I k Φ N Wx X → chkE I N e X.env.scope x = true → PE X x (tE T Φ Wx e)
  | .var i, I, X, Wx, x, C, c => by
    cases x with
    | Name n p => exact var_ok C.names c
    | _ => cases c
  | .lit d, I, X, Wx, x, C, c => by
    cases x with
    | Constant k j p => exact lit_ok c
    | _ => cases c
  | .gl g d, I, X, Wx, x, C, c => by
    cases x with
    | Name n p =>
      simp only [chkE, Bool.and_eq_true, decide_eq_true_eq] at c
      obtain ⟨⟨⟨c1, c2⟩, c3⟩, c4⟩ := c
      subst c1
      split at c4
      · rename_i d' e
        cases beqD_eq c4
        obtain ⟨v, u, h1, h2, h3⟩ := C.gls _ _ e
        exact (pe_glob (show Gl X n from glB_iff c2) h1 h2 (dbg_iff c3).1).imp fun σ H Q q => pe_one' (fun _ _ _ => rfl) h3 q
      · cases c4
    | _ => cases c
  | .bin nw op a b, I, X, Wx, x, C, c => by
    cases x with
    | BinOp xa op' xb p =>
      simp only [chkE, Bool.and_eq_true, decide_eq_true_eq] at c
      obtain ⟨⟨c1, c2⟩, c3⟩ := c
      subst c1
      exact pe_bin' C.K (sE a C c2) (sE b C c3)
    | _ => cases c
  | .neg a, I, X, Wx, x, C, c => by
    cases x with
    | UnaryOp op xa p => cases op with
      | USub => exact neg_ok (sE a C c)
      | _ => cases c
    | _ => cases c
  | .not a, I, X, Wx, x, C, c => by
    cases x with
    | UnaryOp op xa p => cases op with
      | Not => exact not_ok C.K (sE a C c)
      | _ => cases c
    | _ => cases c
  | .and a b, I, X, Wx, x, C, c => by
    cases x with
    | BoolOp op vs p => cases op with
      | And => match vs, c with
        | [], c => cases c
        | [_], c => cases c
        | [xa, xb], c =>
          simp only [chkE, Bool.and_eq_true] at c
          exact and_v1 C.K (sE a C c.1) (sE b C c.2)
        | xa :: xb :: y :: r, c =>
          simp only [chkE, Bool.and_eq_true] at c
          exact and_v C.K (sE a C c.1) (sE b C c.2)
      | Or => cases c
    | _ => cases c
  | .or a b, I, X, Wx, x, C, c => by
    cases x with
    | BoolOp op vs p => cases op with
      | Or => match vs, c with
        | [], c => cases c
        | [_], c => cases c
        | [xa, xb], c =>
          simp only [chkE, Bool.and_eq_true] at c
          exact or_v1 C.K (sE a C c.1) (sE b C c.2)
        | xa :: xb :: y :: r, c =>
          simp only [chkE, Bool.and_eq_true] at c
          exact or_v C.K (sE a C c.1) (sE b C c.2)
      | And => cases c
    | _ => cases c
  | .cmp op a b, I, X, Wx, x, C, c => by
    cases x with
    | Compare xa ops xs p => match ops, xs, c with
      | [op'], [xb], c =>
        simp only [chkE, Bool.and_eq_true, decide_eq_true_eq, Bool.not_eq_true'] at c
        obtain ⟨⟨⟨c1, c2⟩, c3⟩, c4⟩ := c
        subst c1
        exact pe_cmp' C.K C.units (sE a C c2) (sE b C c3) (noset c4)
      | [], _, c => cases c
      | _ :: _ :: _, _, c => cases c
      | [_], [], c => cases c
      | [_], _ :: _ :: _, c => cases c
    | _ => cases c
  | .chain op op2 a b d, I, X, Wx, x, C, c => by
    cases x with
    | Compare xa ops xs p => match ops, xs, c with
      | [op', op2'], [xb, xd], c =>
        simp only [chkE, Bool.and_eq_true, decide_eq_true_eq, Bool.not_eq_true'] at c
        obtain ⟨⟨⟨⟨⟨c1, c1'⟩, c2⟩, c3⟩, c4⟩, c5⟩ := c
        subst c1
        subst c1'
        exact chain_ok C.K C.units (sE a C c2) (sE b C c3) (sE d C c4) (noset c5)
      | [], _, c => cases c
      | [_], _, c => cases c
      | _ :: _ :: _ :: _, _, c => cases c
      | [_, _], [], c => cases c
      | [_, _], [_], c => cases c
      | [_, _], _ :: _ :: _ :: _, c => cases c
    | _ => cases c
  | .ite t a b, I, X, Wx, x, C, c => by
    cases x with
    | IfExp xc xa xb p =>
      simp only [chkE, Bool.and_eq_true] at c
      exact ite_ok (sT t C c.1.1) (sE a C c.1.2) (sE b C c.2)
    | _ => cases c
  | .tup es, I, X, Wx, x, C, c => by
    cases x with
    | Tuple xs j p =>
      simp only [chkE, Bool.and_eq_true] at c
      exact tup_e (sEs es C c.1) (Nat.le_of_ble_eq_true c.2) (evEs_n c.1)
    | _ => cases c
  | .lst nw es, I, X, Wx, x, C, c => by
    cases x with
    | List xs p =>
      simp only [chkE, Bool.and_eq_true] at c
      exact lst_e (sEs es C c.1) (Nat.le_of_ble_eq_true c.2) (evEs_n c.1)
    | _ => cases c
  | .idx a i, I, X, Wx, x, C, c => by
    cases x with
    | Subscript xa xi p =>
      simp only [chkE, Bool.and_eq_true, Bool.not_eq_true'] at c
      exact idx_e C.K (sE a C c.1.1) (sE i C c.1.2) c.2
    | _ => cases c
  | .slice a l u, I, X, Wx, x, C, c => by
    cases x with
    | Subscript xa xi p => cases xi with
      | Slice xl xu xs p2 => cases xs with
        | none =>
          simp only [chkE, Bool.and_eq_true] at c
          exact slice_e C.K (sE a C c.1.1) (sP l C c.1.2) (sP u C c.2)
        | some _ => cases c
      | _ => cases c
    | _ => cases c
  | .call f mu es, I, X, Wx, x, C, c => by
    cases x with
    | Call fn args kws p => cases fn with
      | Name n p2 => cases kws with
        | nil =>
          simp only [chkE, Bool.and_eq_true, beq_iff_eq] at c
          obtain ⟨⟨⟨⟨⟨c0, cg⟩, c1⟩, c2⟩, c3⟩, c4⟩ := c
          split at c3
          · rename_i g np e
            simp only [Bool.and_eq_true, decide_eq_true_eq, beq_iff_eq] at c3
            obtain ⟨c3, c5⟩ := c3
            subst c3
            obtain ⟨hm, hk⟩ := (C.fns f g np e).1 (Nat.le_of_ble_eq_true cg)
            have G := C.run e c0
            cases args with
            | nil =>
              cases es with
              | nil =>
                have : np = 0 := by simpa using c5.symm
                subst this
                exact call_e0 (show Gl X g from glB_iff c1) hm hk G (dbg_iff c2).1
              | cons _ _ => cases c4
            | cons xa xs =>
              exact call_e (show Gl X g from glB_iff c1) hm hk G (sEs es C c4) (chkEs_star c4) (dbg_iff c2).1 (fun env h ws h' e => by rw [evEs_n c4 env h ws h' e, c5])
          · cases c3
        | cons _ _ => cases c
      | _ => cases c
    | _ => cases c
  | .callg g tab a es, I, X, Wx, x, C, c => by
    cases x with
    | Call fn args kws p => cases fn with
      | Subscript o xi p2 => cases o with
        | Name n p3 => cases args with
          | nil => cases c
          | cons y ys => cases kws with
            | cons _ _ => simp [chkE] at c
            | nil =>
              simp only [chkE, Bool.and_eq_true, decide_eq_true_eq, Bool.not_eq_true'] at c
              obtain ⟨⟨⟨⟨⟨⟨⟨⟨c0, c1⟩, c2⟩, c3⟩, c4⟩, c5⟩, c6⟩, c7⟩, c8⟩ := c
              subst c2
              exact callg_e C (show Gl X n from glB_iff c1) (dbg_iff c3).1 c4 (sE a C c5) c6 (sEs es C c7) (chkEs_star c7) (fun f hf => by
                have := List.all_eq_true.mp c8 _ hf
                split at this
                · rename_i nm np e
                  simp only [Bool.and_eq_true, beq_iff_eq, Bool.not_eq_true'] at this
                  obtain ⟨⟨this, th2⟩, th3⟩ := this
                  exact ⟨nm, np, e, Nat.le_of_ble_eq_true th3, C.run e (by rw [c0]; exact th2.symm), fun env h ws h' e => by rw [evEs_n c7 env h ws h' e, this]⟩
                · cases this)
        | _ => cases c
      | _ => cases c
    | _ => cases c
  | .gdin neg g tab a, I, X, Wx, x, C, c => by
    cases x with
    | Compare xa ops xs p => match ops, xs, c with
      | [op'], [.Name n p2], c =>
        simp only [chkE, Bool.and_eq_true, decide_eq_true_eq] at c
        obtain ⟨⟨⟨⟨⟨c1, c2⟩, c3⟩, c4⟩, c5⟩, c6⟩ := c
        subst c1
        subst c3
        exact gdin_e C (show Gl X n from glB_iff c2) (dbg_iff c4).1 c5 (sE a C c6)
      | [], _, c => cases c
      | _ :: _ :: _, _, c => cases c
      | [_], [], c => cases c
      | [_], _ :: _ :: _, c => simp [chkE] at c
      | [_], [.BoolOp ..], c => cases c
    | _ => cases c
  | .dget ks a, I, X, Wx, x, C, c => by
    cases x with
    | Subscript o xi p => cases o with
      | Dict keys vals p2 =>
        simp only [chkE, Bool.and_eq_true, decide_eq_true_eq, Bool.not_eq_true'] at c
        obtain ⟨⟨⟨⟨⟨c1, c2⟩, c3⟩, c4⟩, c5⟩, c6⟩ := c
        exact dget_e C c1 c2 (Nat.le_of_ble_eq_true c3) (Nat.le_of_ble_eq_true c4) (sE a C c5) c6
      | _ => cases c
    | _ => cases c
  | .isx a cc, I, X, Wx, x, C, c => by
    cases x with
    | Call fn args kws p => cases fn with
      | Name n p2 => cases args with
        | nil => cases c
        | cons xa r => cases r with
          | nil => cases c
          | cons y r => cases r with
            | cons _ _ => simp [chkE] at c
            | nil => cases kws with
              | cons _ _ => simp [chkE] at c
              | nil => cases y with
                | Name tn p3 =>
                  simp only [chkE, Bool.and_eq_true, decide_eq_true_eq, Bool.not_eq_true'] at c
                  obtain ⟨⟨⟨⟨⟨⟨⟨⟨c0, c1⟩, c2⟩, c3⟩, c5⟩, c6⟩, c4⟩, c7⟩, c8⟩ := c
                  obtain ⟨T0, p0, c', x', hot⟩ := C.hots c0
                  exact isx_e C hot c1 (show Gl X n from glB_iff c2) (C.blt n c3) (show Gl X tn from glB_iff c5) (dbg_iff c6).1 c4 (sE a C c7) c8
                | _ => simp [chkE] at c
      | _ => cases c
    | _ => cases c
  | .isi a t, I, X, Wx, x, C, c => by
    cases x with
    | Call fn args kws p => cases fn with
      | Name n p2 => cases args with
        | nil => cases c
        | cons xa r => cases r with
          | nil => cases c
          | cons y r => cases r with
            | cons _ _ => simp [chkE] at c
            | nil => cases kws with
              | cons _ _ => simp [chkE] at c
              | nil => cases y with
                | Name tn p3 =>
                  simp only [chkE, Bool.and_eq_true, decide_eq_true_eq, Bool.not_eq_true'] at c
                  obtain ⟨⟨⟨⟨⟨⟨⟨c1, c2⟩, c3⟩, c4⟩, c5⟩, c6⟩, c7⟩, c8⟩ := c
                  exact isi_e C.K (show Gl X n from glB_iff c2) (C.blt n c3) c1 c4 (show Gl X tn from glB_iff c5) (C.blt tn c6) (sE a C c7) c8
                | _ => simp [chkE] at c
      | _ => cases c
    | _ => cases c
  | .blt b es, I, X, Wx, x, C, c => by
    cases x with
    | Call fn args kws p => cases fn with
      | Name n p2 => match args, kws, c with
        | xa :: xs, [], c =>
          simp only [chkE, Bool.and_eq_true, decide_eq_true_eq, Bool.not_eq_true'] at c
          obtain ⟨⟨⟨⟨c0, c1⟩, c2⟩, c3⟩, c4⟩ := c
          exact blt_e C.K (C.calm c0) C.gd C.units c1 (show Gl X n from glB_iff c2) (C.blt n c3) (sEs es C c4) (chkEs_star c4)
        | [], _, c => cases c
        | _ :: _, _ :: _, c => cases c
      | _ => cases c
    | _ => cases c
  | .meth m a es, I, X, Wx, x, C, c => by
    cases x with
    | Call fn args kws p => cases fn with
      | Attribute o nm ap => cases kws with
        | nil =>
          simp only [chkE, Bool.and_eq_true, decide_eq_true_eq, Bool.not_eq_true'] at c
          obtain ⟨⟨⟨⟨⟨c1, c2⟩, c3⟩, c4⟩, c5⟩, c6⟩ := c
          match args, c5, c6 with
          | [], c5, c6 =>
            cases es with
            | nil => exact meth0_e C.K c1 (by simpa using c6) (sE a C c4) c3 c2
            | cons _ _ => cases c5
          | [xb], c5, c6 =>
            have st := chkEs_star c5
            exact meth1_e C.K C.units c1 c6 (sE a C c4) (sEs es C c5) c3 c2 (by simpa using st)
          | _ :: _ :: _, _, c6 => cases c6
        | cons _ _ => cases c
      | _ => cases c
    | _ => cases c
  | .fld cc a j, I, X, Wx, x, C, c => by
    cases x with
    | Attribute o f p =>
      simp only [chkE, Bool.and_eq_true] at c
      obtain ⟨⟨c1, c2⟩, c3⟩ := c
      unfold fldB at c1
      split at c1
      · rename_i ic e
        exact fld_e C.K (C.ics _ _ e) (of_decide_eq_true c1) (sE a C c3) (attB_call c2)
      · cases c1
    | _ => cases c
  | .mk cc f nf es, I, X, Wx, x, C, c => by
    cases x with
    | Call fn args kws p => cases fn with
      | Name n p2 => match args, kws, c with
        | xa :: xs, [], c =>
          simp only [chkE, Bool.and_eq_true, Bool.not_eq_true'] at c
          obtain ⟨⟨⟨⟨⟨⟨c0, c1⟩, c2⟩, c3⟩, c4⟩, c5⟩, c6⟩ := c
          split at c3
          · rename_i ic e
            simp only [Bool.and_eq_true, decide_eq_true_eq, beq_iff_eq] at c3
            obtain ⟨⟨⟨d1, d2⟩, d3⟩, d4⟩ := c3
            split at c5
            · rename_i gn np e2
              obtain ⟨fd, ps, _, G, hb⟩ := (C.fns _ _ _ e2).2 c0 c4
              exact mk_e (C.ics _ _ e) (show Gl X n from glB_iff c1) d1 d2 d3 (Nat.le_of_ble_eq_true d4) G hb (fun C' us => (C.roomM c0 C' us).1) C.gdM C.takes (sEs es C c6) (chkEs_star c6) (dbg_iff c2).1 (fun env h ws h' e => by rw [evEs_n c6 env h ws h' e]; exact beq_iff_eq.mp c5)
            · cases c5
          · cases c3
        | [], _, c => cases c
        | _ :: _, _ :: _, c => cases c
      | _ => cases c
    | _ => cases c
  | .mcall f cc mu a es, I, X, Wx, x, C, c => by
    cases x with
    | Call fn args kws p => cases fn with
      | Attribute o nm ap => cases kws with
        | nil =>
          simp only [chkE, Bool.and_eq_true, Bool.not_eq_true'] at c
          obtain ⟨⟨⟨⟨⟨⟨⟨⟨c0, c1⟩, c2⟩, c3⟩, c4⟩, c5⟩, c8⟩, c6⟩, c7⟩ := c
          split at c4
          · rename_i ic e
            split at c4
            · rename_i g e3
              simp only [Bool.and_eq_true, beq_iff_eq, Bool.not_eq_true'] at c4
              obtain ⟨d1, d2⟩ := c4
              subst d1
              split at c5
              · rename_i gn np e2
                obtain ⟨fd, ps, _, G, hb⟩ := (C.fns _ _ _ e2).2 c0 c1
                exact mcall_e (C.ics _ _ e) e3 (by simpa using d2) G hb (C.room c0) C.gd C.takes (sE a C c6) c2 c3 (sEs es C c7) (chkEs_star c7) (Nat.le_of_ble_eq_true c8) (fun z => by
                  subst z
                  cases es with
                  | nil => rfl
                  | cons _ _ => cases c7) (fun env h ws h' e => by rw [evEs_n c7 env h ws h' e]; exact beq_iff_eq.mp c5)
              · cases c5
            · cases c4
          · cases c4
        | cons _ _ => cases c
      | _ => cases c
    | _ => cases c
  | .exf cc a, I, X, Wx, x, C, c => by
    cases x with
    | Attribute o f p =>
      simp only [chkE, Bool.and_eq_true, decide_eq_true_eq] at c
      obtain ⟨⟨⟨c1, c2⟩, c3⟩, c4⟩ := c
      obtain ⟨T0, p0, c', x', hot⟩ := C.hots c1
      exact exf_e C hot (by rw [decide_eq_true c3.1, c3.2]; rfl) (sE a C c4) (attB_call c2)
    | _ => cases c
  | .noexc (.comp nw own tg tup it t e), I, X, Wx, x, C, c => by
    cases x with
    | ListComp elt gs scope p => cases gs with
      | nil => cases c
      | cons g r => cases r with
        | cons _ _ => simp [chkE] at c
        | nil =>
          obtain ⟨tgx, itx, ifs, ia⟩ := g
          by_cases hia : ia = 0
          · subst hia
            simp only [chkE, Bool.and_eq_true, decide_eq_true_eq, Bool.not_eq_true'] at c
            obtain ⟨⟨⟨⟨⟨⟨⟨⟨c0, c1⟩, c2⟩, c3⟩, c4⟩, c5⟩, c6⟩, c7⟩, c8⟩ := c
            have ok := blkOk_by (by rw [C.names]; exact c1 : blkC X.N X.env.scope scope (ownN N own) = true)
            have B := fun (s : Shared) (H : Hp) (C' : Addr) (cl : List (Str × Addr)) (fp : List Addr) => C.blk c0 s H scope (compEnvC scope cl C' X.env) fp
            have fin : ∀ {ifs : List Expr}, (∀ (s : Shared) (H : Hp) (C' : Addr) (cl : List (Str × Addr)) (fp : List Addr), PTs (X.blk s H scope (compEnvC scope cl C' X.env) fp) ifs (tT T Φ W0 t)) → PE X (.ListComp elt [⟨tgx, itx, ifs, 0⟩] scope p) (tE T Φ Wx (.noexc (.comp nw own tg tup it t e))) := fun {ifs} hts =>
              (pe_lc (own := ownN N own) (C.calm c0) (by rw [C.names]; exact C.nd) (sIt (Wx := Wx) it C c5) ok
                (fun s H C' cl fp => tg_pg (X := X.blk s H scope (compEnvC scope cl C' X.env) fp) (C.calm c0) C.names C.nd rfl (fun _ z => z) c4) hts (fun s H C' cl fp => sE e (B s H C' cl fp) c8) (nofold c6)).imp fun σ H Q q => by
                rw [c2]
                exact lc_use0 C.K c3 q
            cases ifs with
            | nil =>
              cases t with
              | yes => exact fin fun s H C' cl fp => ⟨fun pins s1 σ H1 Q I ⟨F, m, h, env, A, R⟩ => pts_nil.run pins s1 σ H1 Q I (Run.here A.sim R)⟩
              | _ => cases c7
            | cons i1 r => cases r with
              | nil => exact fin fun s H C' cl fp => pts_one (sT t (B s H C' cl fp) c7)
              | cons _ _ => cases c7
          · simp [chkE, hia] at c
    | _ => cases c
  | .noexc (.var _), I, X, Wx, x, C, c => by cases c
  | .noexc (.lit _), I, X, Wx, x, C, c => by cases c
  | .noexc (.gl _ _), I, X, Wx, x, C, c => by cases c
  | .noexc (.bin _ _ _ _), I, X, Wx, x, C, c => by cases c
  | .noexc (.neg _), I, X, Wx, x, C, c => by cases c
  | .noexc (.not _), I, X, Wx, x, C, c => by cases c
  | .noexc (.and _ _), I, X, Wx, x, C, c => by cases c
  | .noexc (.or _ _), I, X, Wx, x, C, c => by cases c
  | .noexc (.cmp _ _ _), I, X, Wx, x, C, c => by cases c
  | .noexc (.chain _ _ _ _ _), I, X, Wx, x, C, c => by cases c
  | .noexc (.ite _ _ _), I, X, Wx, x, C, c => by cases c
  | .noexc (.tup _), I, X, Wx, x, C, c => by cases c
  | .noexc (.lst _ _), I, X, Wx, x, C, c => by cases c
  | .noexc (.idx _ _), I, X, Wx, x, C, c => by cases c
  | .noexc (.slice _ _ _), I, X, Wx, x, C, c => by cases c
  | .noexc (.call _ _ _), I, X, Wx, x, C, c => by cases c
  | .noexc (.callg _ _ _ _), I, X, Wx, x, C, c => by cases c
  | .noexc (.gdin _ _ _ _), I, X, Wx, x, C, c => by cases c
  | .noexc (.dget _ _), I, X, Wx, x, C, c => by cases c
  | .noexc (.isi _ _), I, X, Wx, x, C, c => by cases c
  | .noexc (.isx _ _), I, X, Wx, x, C, c => by cases c
  | .noexc (.blt _ _), I, X, Wx, x, C, c => by cases c
  | .noexc (.meth _ _ _), I, X, Wx, x, C, c => by cases c
  | .noexc (.fld _ _ _), I, X, Wx, x, C, c => by cases c
  | .noexc (.mk _ _ _ _), I, X, Wx, x, C, c => by cases c
  | .noexc (.mcall _ _ _ _ _), I, X, Wx, x, C, c => by cases c
  | .noexc (.exf _ _), I, X, Wx, x, C, c => by cases c
  | .noexc (.noexc _), I, X, Wx, x, C, c => by cases c
  | .comp nw own tg tup it t e, I, X, Wx, x, C, c => by
    cases x with
    | ListComp elt gs scope p => cases gs with
      | nil => cases c
      | cons g r => cases r with
        | cons _ _ => simp [chkE] at c
        | nil =>
          obtain ⟨tgx, itx, ifs, ia⟩ := g
          by_cases hia : ia = 0
          · subst hia
            simp only [chkE, Bool.and_eq_true, decide_eq_true_eq, Bool.not_eq_true'] at c
            obtain ⟨⟨⟨⟨⟨⟨⟨⟨⟨c0, ci⟩, c1⟩, c2⟩, c3⟩, c4⟩, c5⟩, c6⟩, c7⟩, c8⟩ := c
            have ok := blkOk_by (by rw [C.names]; exact c1 : blkC X.N X.env.scope scope (ownN N own) = true)
            have B := fun (σ : L2.St) (s : Shared) (H : Hp) (C' : Addr) (cl : List (Str × Addr)) (fp : List Addr) (xe : Value → Shared → Prop) (tkB : L2N.Takes (MiX.blkX X s H scope (compEnvC scope cl C' X.env) fp xe) (Wb Wx σ)) => C.blkX c0 s H scope (compEnvC scope cl C' X.env) fp xe tkB
            have fin : ∀ {ifs : List Expr}, (∀ (σ : L2.St) (s : Shared) (H : Hp) (C' : Addr) (cl : List (Str × Addr)) (fp : List Addr) (xe : Value → Shared → Prop), L2N.Takes (MiX.blkX X s H scope (compEnvC scope cl C' X.env) fp xe) (Wb Wx σ) → PTs (MiX.blkX X s H scope (compEnvC scope cl C' X.env) fp xe) ifs (tT T Φ (Wb Wx σ) t)) → PE X (.ListComp elt [⟨tgx, itx, ifs, 0⟩] scope p) (tE T Φ Wx (.comp nw own tg tup it t e)) := fun {ifs} hts =>
              (MiX.pe_lcX (own := ownN N own) (tt := fun σ => tT T Φ (Wb Wx σ) t) (te := fun σ => tE T Φ (Wb Wx σ) e) (C.top c0 ci) C.takes (C.calm c0) (by rw [C.names]; exact C.nd) (sIt it C c5) ok
                (fun s H C' cl fp xe => tg_pg (X := MiX.blkX X s H scope (compEnvC scope cl C' X.env) fp xe) (C.calm c0) C.names C.nd rfl (fun _ z => z) c4) hts (fun σ s H C' cl fp xe tkB => sE e (B σ s H C' cl fp xe tkB) c8) (nofold c6)).imp fun σ H Q q => by
                rw [c2]
                exact lc_use C.K c3 q
            cases ifs with
            | nil =>
              cases t with
              | yes => exact fin fun σ s H C' cl fp xe tkB => ⟨fun pins s1 σ H1 Q I ⟨F, m, h, env, A, R⟩ => pts_nil.run pins s1 σ H1 Q I (Run.here A.sim R)⟩
              | _ => cases c7
            | cons i1 r => cases r with
              | nil => exact fin fun σ s H C' cl fp xe tkB => pts_one (sT t (B σ s H C' cl fp xe tkB) c7)
              | cons _ _ => cases c7
          · simp [chkE, hia] at c
    | _ => cases c
theorem sT : ∀ (t : Mi.T) {I : Info} {X : Cx} {Wx : WX} {x : Expr}, Bod T I k Φ N Wx X → chkT I N t X.env.scope x = true → PT X x (tT T Φ Wx t)
  | .not t, I, X, Wx, x, C, c => by
    cases x with
    | UnaryOp op xa p => cases op with
      | Not => exact not_t (sT t C c)
      | _ => cases c
    | _ => cases c
  | .and a b, I, X, Wx, x, C, c => by
    cases x with
    | BoolOp op vs p => cases op with
      | And => match vs, c with
        | [], c => cases c
        | [_], c => cases c
        | [xa, xb], c =>
          simp only [chkT, Bool.and_eq_true] at c
          exact and_t1 (sT a C c.1) (sT b C c.2)
        | xa :: xb :: y :: r, c =>
          simp only [chkT, Bool.and_eq_true] at c
          exact and_t (sT a C c.1) (sT b C c.2)
      | Or => cases c
    | _ => cases c
  | .or a b, I, X, Wx, x, C, c => by
    cases x with
    | BoolOp op vs p => cases op with
      | Or => match vs, c with
        | [], c => cases c
        | [_], c => cases c
        | [xa, xb], c =>
          simp only [chkT, Bool.and_eq_true] at c
          exact or_t1 (sT a C c.1) (sT b C c.2)
        | xa :: xb :: y :: r, c =>
          simp only [chkT, Bool.and_eq_true] at c
          exact or_t (sT a C c.1) (sT b C c.2)
      | And => cases c
    | _ => cases c
  | .val (.cmp op a b), I, X, Wx, x, C, c => by
    cases x with
    | Compare xa ops xs p => match ops, xs, c with
      | [op'], [xb], c =>
        simp only [chkT, chkE, Bool.and_eq_true, decide_eq_true_eq, Bool.not_eq_true'] at c
        obtain ⟨⟨⟨⟨c1, c2⟩, c3⟩, c4⟩, _⟩ := c
        subst c1
        exact pt_cmp' C.K C.units (sE a C c2) (sE b C c3) (noset c4)
      | [], _, c => cases c
      | _ :: _ :: _, _, c => cases c
      | [_], [], c => cases c
      | [_], _ :: _ :: _, c => cases c
    | _ => cases c
  | .val (.chain op op2 a b d), I, X, Wx, x, C, c => by
    cases x with
    | Compare xa ops xs p => match ops, xs, c with
      | [op', op2'], [xb, xd], c =>
        simp only [chkT, chkE, Bool.and_eq_true, decide_eq_true_eq, Bool.not_eq_true'] at c
        obtain ⟨⟨⟨⟨⟨⟨c1, c1'⟩, c2⟩, c3⟩, c4⟩, c5⟩, _⟩ := c
        subst c1
        subst c1'
        exact chain_t C.K C.units (sE a C c2) (sE b C c3) (sE d C c4) (noset c5)
      | [], _, c => cases c
      | [_], _, c => cases c
      | _ :: _ :: _ :: _, _, c => cases c
      | [_, _], [], c => cases c
      | [_, _], [_], c => cases c
      | [_, _], _ :: _ :: _ :: _, c => cases c
    | _ => cases c
  | .val (.var i), I, X, Wx, x, C, c => val_t C.K (sE (.var i) C (vE c)) (vP c (by rfl))
  | .val (.lit d), I, X, Wx, x, C, c => val_t C.K (sE (.lit d) C (vE c)) (vP c (by rfl))
  | .val (.gl g d), I, X, Wx, x, C, c => val_t C.K (sE (.gl g d) C (vE c)) (vP c (by rfl))
  | .val (.bin nw op a b), I, X, Wx, x, C, c => val_t C.K (sE (.bin nw op a b) C (vE c)) (vP c (by rfl))
  | .val (.neg a), I, X, Wx, x, C, c => val_t C.K (sE (.neg a) C (vE c)) (vP c (by rfl))
  | .val (.not a), I, X, Wx, x, C, c => val_t C.K (sE (.not a) C (vE c)) (vP c (by rfl))
  | .val (.and a b), I, X, Wx, x, C, c => val_t C.K (sE (.and a b) C (vE c)) (vP c (by rfl))
  | .val (.or a b), I, X, Wx, x, C, c => val_t C.K (sE (.or a b) C (vE c)) (vP c (by rfl))
  | .val (.ite t a b), I, X, Wx, x, C, c => val_t C.K (sE (.ite t a b) C (vE c)) (vP c (by rfl))
  | .val (.tup es), I, X, Wx, x, C, c => val_t C.K (sE (.tup es) C (vE c)) (vP c (by rfl))
  | .val (.lst nw es), I, X, Wx, x, C, c => val_t C.K (sE (.lst nw es) C (vE c)) (vP c (by rfl))
  | .val (.idx a i), I, X, Wx, x, C, c => val_t C.K (sE (.idx a i) C (vE c)) (vP c (by rfl))
  | .val (.slice a l u), I, X, Wx, x, C, c => val_t C.K (sE (.slice a l u) C (vE c)) (vP c (by rfl))
  | .val (.call f mu es), I, X, Wx, x, C, c => val_t C.K (sE (.call f mu es) C (vE c)) (vP c (by rfl))
  | .val (.callg g tab a es), I, X, Wx, x, C, c => val_t C.K (sE (.callg g tab a es) C (vE c)) (vP c (by rfl))
  | .val (.gdin neg g tab a), I, X, Wx, x, C, c => by
    cases x with
    | Compare xa ops xs p => match ops, xs, c with
      | [op'], [.Name n p2], c =>
        simp only [chkT, chkE, Bool.and_eq_true, decide_eq_true_eq] at c
        obtain ⟨⟨⟨⟨⟨⟨c1, c2⟩, c3⟩, c4⟩, c5⟩, c6⟩, _⟩ := c
        subst c1
        subst c3
        exact gdin_t C (show Gl X n from glB_iff c2) (dbg_iff c4).1 c5 (sE a C c6)
      | [], _, c => cases c
      | _ :: _ :: _, _, c => cases c
      | [_], [], c => cases c
      | [_], _ :: _ :: _, c => simp [chkT, chkE] at c
    | _ => cases c
  | .val (.dget ks a), I, X, Wx, x, C, c => val_t C.K (sE (.dget ks a) C (vE c)) (vP c (by rfl))
  | .val (.isi a t), I, X, Wx, x, C, c => val_t C.K (sE (.isi a t) C (vE c)) (vP c (by rfl))
  | .val (.isx a i), I, X, Wx, x, C, c => val_t C.K (sE (.isx a i) C (vE c)) (vP c (by rfl))
  | .val (.blt b es), I, X, Wx, x, C, c => val_t C.K (sE (.blt b es) C (vE c)) (vP c (by rfl))
  | .val (.meth m a es), I, X, Wx, x, C, c => val_t C.K (sE (.meth m a es) C (vE c)) (vP c (by rfl))
  | .val (.fld cc a j), I, X, Wx, x, C, c => val_t C.K (sE (.fld cc a j) C (vE c)) (vP c (by rfl))
  | .val (.mk cc f nf es), I, X, Wx, x, C, c => val_t C.K (sE (.mk cc f nf es) C (vE c)) (vP c (by rfl))
  | .val (.mcall f cc mu a es), I, X, Wx, x, C, c => val_t C.K (sE (.mcall f cc mu a es) C (vE c)) (vP c (by rfl))
  | .val (.exf cc a), I, X, Wx, x, C, c => val_t C.K (sE (.exf cc a) C (vE c)) (vP c (by rfl))
  | .val (.noexc e), I, X, Wx, x, C, c => val_t C.K (sE (.noexc e) C (vE c)) (vP c (by rfl))
  | .val (.comp nw own tg tup it t e), I, X, Wx, x, C, c => val_t C.K (sE (.comp nw own tg tup it t e) C (vE c)) (vP c (by rfl))
  | .yes, _, _, _, _, _, c => by cases c
theorem sEs : ∀ (es : Es) {I : Info} {X : Cx} {Wx : WX} {xs : List Expr}, Bod T I k Φ N Wx X → chkEs I N es X.env.scope xs = true → PA X xs (tEs T Φ Wx es)
  | .nil, I, X, Wx, xs, C, c => by
    cases xs with
    | nil => exact es_nil
    | cons _ _ => cases c
  | .cons e es, I, X, Wx, xs, C, c => by
    cases xs with
    | nil => cases c
    | cons x r =>
      simp only [chkEs, Bool.and_eq_true, Bool.not_eq_true'] at c
      exact es_cons (sE e C c.1.2) (sEs es C c.2) c.1.1
theorem sP : ∀ (p : Pt) {I : Info} {X : Cx} {Wx : WX} {x : Option Expr}, Bod T I k Φ N Wx X → chkP I N p X.env.scope x = true → PO X x (tP Φ Wx T p)
  | .no, I, X, Wx, x, C, c => by
    cases x with
    | none => exact no_p
    | some _ => cases c
  | .at e, I, X, Wx, x, C, c => by
    cases x with
    | none => cases c
    | some y => exact at_p (sE e C c)
theorem sIt : ∀ (it : Mi.It) {I : Info} {X : Cx} {Wx : WX} {x tg : Expr}, Bod T I k Φ N Wx X → chkIt I N it X.env.scope x = true → PI X tg x (tIt T Φ Wx it)
  | .over e, I, X, Wx, x, tg, C, c => over_i C.K (sE e C c)
  | .rng1 a, I, X, Wx, x, tg, C, c => by
    cases x with
    | Call fn args kws p => cases fn with
      | Name n p2 => match args, kws, c with
        | [xa], [], c =>
          simp only [chkIt, Bool.and_eq_true, decide_eq_true_eq, Bool.not_eq_true'] at c
          obtain ⟨⟨⟨⟨c1, c2⟩, c3⟩, c4⟩, c5⟩ := c
          exact rng1_i c1 (show Gl X n from glB_iff c2) (C.blt n c3) (sE a C c4) c5
        | [], _, c => cases c
        | _ :: _ :: _, _, c => cases c
        | [_], _ :: _, c => cases c
      | _ => cases c
    | _ => cases c
  | .rng2 a b, I, X, Wx, x, tg, C, c => by
    cases x with
    | Call fn args kws p => cases fn with
      | Name n p2 => match args, kws, c with
        | [xa, xb], [], c =>
          simp only [chkIt, Bool.and_eq_true, decide_eq_true_eq, Bool.not_eq_true'] at c
          obtain ⟨⟨⟨⟨⟨⟨c1, c2⟩, c3⟩, c4⟩, c5⟩, c6⟩, c7⟩ := c
          exact rng2_i c1 (show Gl X n from glB_iff c2) (C.blt n c3) (sE a C c4) (sE b C c5) c6 c7
        | [], _, c => cases c
        | [_], _, c => cases c
        | _ :: _ :: _ :: _, _, c => cases c
        | [_, _], _ :: _, c => cases c
      | _ => cases c
    | _ => cases c
end
end Mi

set_option maxRecDepth 100000
set_option maxHeartbeats 2000000
/-! Mi, thirteenth part: statements. -/
namespace Mi
open PySem PySem.Spec PyProof.Rows L2
variable {T : Top} {F F' F0 F1 : Hp} {m m' m0 m1 : List Addr} {h h' : MH} {H H' H0 H1 : Hp} {Wx : WX} {σ0 : L2.St}
/-! ### the check -/
def tupB : Expr → Bool
  | .Tuple .. => true
  | _ => false
def lcB : Expr → Bool
  | .ListComp .. => true
  | _ => false
/-- name = [.. for ..] on one line -/
def swB (sc : Scope) (n : Str) (pl : Nat) (x : Expr) : Bool := match x with
  | .ListComp _ _ s p => loc1 sc n && pl == p.line && !(s.names.any fun (y, k) => y == n && (k == .local || k == .cell))
  | _ => false
def nxB : E → Bool
  | .noexc _ => true
  | _ => false
mutual
def chkS : S → Info → List Str → Scope → Stmt → Bool
  | .ex e, I, N, sc, x => match x with
    | .Expr y _ => chkE I N e sc y && !compB y
    | _ => false
  | .set i e, I, N, sc, x => match x with
    | .Assign [.Name n np] y _ => nmB N sc (fun _ => true) i n && chkE I N e sc y && (!compB y || swB sc n np.line y && !nxB e)
    | _ => false
  | .setT is e, I, N, sc, x => match x with
    | .Assign [.Tuple ts k tp] y _ => !I.hot && nmsB N sc (fun _ => true) is ts && chkE I N e sc y && !compB y && !tupB y
    | _ => false
  | .setL is e, I, N, sc, x => match x with
    | .Assign [.Tuple ts k tp] y _ => !I.hot && nmsB N sc (fun _ => true) is ts && chkE I N e sc y && !compB y && !tupB y
    | _ => false
  | .fset c a j e, I, N, sc, x => match x with
    | .Assign [.Attribute o f _] y _ => !I.hot && fldB I c j f && chkE I N a sc o && chkE I N e sc y && !compB y
    | _ => false
  | .faug c a j e, I, N, sc, x => match x with
    | .AugAssign (.Attribute o f _) .Add y _ => !I.hot && fldB I c j f && chkE I N a sc o && chkE I N e sc y
    | _ => false
  | .ret e, I, N, sc, x => match x with
    | .Return (some y) _ => chkE I N e sc y
    | .Return none _ => (match e with
      | .lit .none => true
      | _ => false)
    | _ => false
  | .ite c a b, I, N, sc, x => match x with
    | .If y p q _ => chkT I N c sc y && chkSs a I N sc p && chkSs b I N sc q
    | _ => false
  | .for tg tup it b, I, N, sc, x => match x with
    | .For t i body [] _ => !I.hot && tgB N sc (fun _ => true) tg tup t && chkIt I N it sc i && !setB i && chkSs b I N sc body
    | _ => false
  | .while c b, I, N, sc, x => match x with
    | .While y body [] _ => !I.hot && chkT I N c sc y && chkSs b I N sc body
    | _ => false
  | .brk, _, _, _, x => match x with
    | .Break _ => true
    | _ => false
  | .cnt, _, _, _, x => match x with
    | .Continue _ => true
    | _ => false
  | .pass, _, _, _, x => match x with
    | .Pass _ => true
    | _ => false
  | .raise c o, I, N, sc, x => match o, x with
    | none, .Raise (some (.Call (.Name n _) [.Constant (.str _) _ _] [] _)) none _ => !I.hot && glB sc n && dbg n && decide (I.clss[c]? = some n) && !xiN I c
    | some e, .Raise (some (.Call (.Name n _) [y] [] _)) none _ => !I.hot && glB sc n && dbg n && decide (I.clss[c]? = some n) && (I.xis.any fun q => q.1 == c) && !starB y && chkE I N e sc y
    | _, _ => false
  | .try1 b c i hd, I, N, sc, x => match x with
    | .Try body [.ExceptHandler (some (.Name n _)) nm (b0 :: su) _] [] [] _ => !I.hot && glB sc n && dbg n && decide (I.clss[c]? = some n) && (match i, nm with
      | some k, some e => decide (N[k]? = some e) && loc1 sc e
      | none, none => true
      | _, _ => false) && chkSs b I N sc body && chkSs hd { I with hot := true } N sc (b0 :: su)
    | _ => false
def chkSs : Ss → Info → List Str → Scope → List Stmt → Bool
  | .nil, _, _, _, xs => xs.isEmpty
  | .cons s ss, I, N, sc, xs => match xs with
    | x :: r => chkS s I N sc x && chkSs ss I N sc r
    | [] => false
end

/-! ### readings -/
section
variable (T)
def outK (D : Ends) : O → Hp → List Addr → MH → Hp → Prop
  | .nx env, F', m', _, H' => ∀ σ', EnvR T F' m' env σ' → D.nx σ' H'
  | .ret w, F', m', _, H' => ∀ v, WR T F' m' w v → D.rt v H'
  | .brk env, F', m', _, H' => ∀ σ', EnvR T F' m' env σ' → D.bk σ' H'
  | .cnt env, F', m', _, H' => ∀ σ', EnvR T F' m' env σ' → D.ct σ' H'
def RunS (Wx : WX) (F : Hp) (m : List Addr) (H : Hp) (r : RS) (k : O → Hp → List Addr → MH → Hp → Prop) : Prop := match r with
  | .ok o h' => ∀ F' m' H', Sim T F' m' h' H' → Ext F m H F' m' H' → k o F' m' h' H'
  | .exc e env h' => ∀ F' m' H' σ' cls d, Sim T F' m' h' H' → Ext F m H F' m' H' → EnvR T F' m' env σ' → ExnR T F' H' e cls d → Wx cls d σ' H'
  | .stuck => False
def tS (Φ : Nat → List W → M W) (Wx : WX) (s : S) : TS := fun D σ H => ∃ F m h env, At T σ F m h env H ∧ RunS T Wx F m H (evS Φ s env h) (outK T D)
def tSs (Φ : Nat → List W → M W) (Wx : WX) (s : Ss) : TS := fun D σ H => ∃ F m h env, At T σ F m h env H ∧ RunS T Wx F m H (evSs Φ s env h) (outK T D)
end
theorem RunS.shift {r : RS} {k : O → Hp → List Addr → MH → Hp → Prop} (x : RunS T Wx F m H r k) (X : Ext F m H F' m' H') : RunS T Wx F' m' H' r k := by
  cases r with
  | ok o h1 => exact fun F2 m2 H2 S2 X2 => x F2 m2 H2 S2 (X.trans X2 S2.nd)
  | exc e env h1 => exact fun F2 m2 H2 σ2 cls d S2 X2 => x F2 m2 H2 σ2 cls d S2 (X.trans X2 S2.nd)
  | stuck => exact x
theorem RunS.here {o : O} {k : O → Hp → List Addr → MH → Hp → Prop} (S : Sim T F m h H) (x : RunS T Wx F m H (.ok o h) k) : k o F m h H := x F m H S Ext.refl
theorem RunS.imp {r : RS} {k k' : O → Hp → List Addr → MH → Hp → Prop} (x : RunS T Wx F m H r k) (f : ∀ o F' m' h' H', Sim T F' m' h' H' → Ext F m H F' m' H' → k o F' m' h' H' → k' o F' m' h' H') : RunS T Wx F m H r k' := by
  cases r with
  | ok o h1 => exact fun F2 m2 H2 S2 X2 => f _ _ _ _ _ S2 X2 (x F2 m2 H2 S2 X2)
  | exc e env h1 => exact x
  | stuck => exact x
theorem RunS.bindE {α : Type} {r : R α} {env : Ev} {σ : L2.St} {f : α → MH → RS} {k : O → Hp → List Addr → MH → Hp → Prop} (x : RunS T Wx F m H (r.toS env f) k) (en : EnvR T F m env σ) :
    Run T Wx σ F m H r fun a F1 m1 h1 H1 => RunS T Wx F1 m1 H1 (f a h1) k := by
  cases r with
  | ok a h1 => exact fun F1 m1 H1 S1 X1 => (show RunS T Wx F m H (f a h1) k from x).shift X1
  | exc e h1 => exact fun F1 m1 H1 cls d S1 X1 ex => x F1 m1 H1 σ cls d S1 X1 (en.ext X1) ex
  | stuck => exact x

/-! ### what a def's body stands in -/
structure BodS (T : Top) (I : Info) (k : Nat) (Φ : Nat → List W → M W) (N : List Str) (Wx : WX) (X : Cx) : Prop where
  bod : Bod T I k Φ N Wx X
  pass : I.hot = false → PassesOwn (model X.prog X.w) X.A X.env X.xe
  stk : X.stack = X.env :: X.outer
  frm : X.env.frame = some X.env.locals
  fn : ∀ x, X.fn x = true
  kind : X.env.scope.kind = .function
variable {I : Info} {k : Nat} {Φ : Nat → List W → M W} {N : List Str} {X : Cx}
theorem no_sw {y : Expr} {tg : Option Expr} {l : Nat} {env : Env} (c : compB y = false) : swapsWith y tg l env = pure false := by
  cases y <;> first | rfl | (cases c)
theorem sw_yes {n : Str} {np sp p : Pos} {elt : Expr} {gs : List Comprehension} {s : Scope} {env : Env} (hk : env.scope.kind = .function) (c : swB env.scope n np.line (.ListComp elt gs s p) = true) :
    env.scope.names.lookup n = some .local ∧ swapsWith (.ListComp elt gs s p) (some (.Name n np)) sp.line env = pure true := by
  simp only [swB, Bool.and_eq_true] at c
  obtain ⟨⟨c1, c2⟩, c3⟩ := c
  have l := loc1_iff c1
  refine ⟨l, ?_⟩
  have e1 : (env.blockKind == .function) = true := by
    unfold Env.blockKind
    rw [hk]
    rfl
  have e2 : (env.kindOf n == some .local) = true := by
    unfold Env.kindOf
    rw [l]
    rfl
  unfold swapsWith
  show (pure (env.blockKind == .function && env.kindOf n == some .local && np.line == (Expr.ListComp elt gs s p).pos.line && !(s.names.any fun (y, k) => y == n && (k == .local || k == .cell))) : Sem Bool) = pure true
  rw [e1, e2]
  congr 1
  rw [Bool.true_and, Bool.true_and, Bool.and_eq_true]
  exact ⟨c2, c3⟩

/-! ### small statements -/
section
variable {e : E} {xe : Expr} {pos : Pos}
theorem ex_s (he : PE X xe (tE T Φ Wx e)) (hc : compB xe = false) : PS X (.Expr xe pos) (tS T Φ Wx (.ex e)) := by
  refine ⟨fun pins s σ H D J ⟨F, m, h, env, A, R⟩ => (ps_expr he (no_sw hc)).run pins s σ H D J ⟨F, m, h, env, A, (R.bindE A.env).imp fun w F1 m1 h1 H1 S1 X1 R1 v r => ?_⟩⟩
  exact RunS.here S1 R1 σ (A.env.ext X1)
theorem ret_s (he : PE X xe (tE T Φ Wx e)) : PS X (.Return (some xe) pos) (tS T Φ Wx (.ret e)) := by
  refine ⟨fun pins s σ H D J ⟨F, m, h, env, A, R⟩ => (ps_ret he).run pins s σ H D J ⟨F, m, h, env, A, (R.bindE A.env).imp fun w F1 m1 h1 H1 S1 X1 R1 v r => ?_⟩⟩
  exact RunS.here S1 R1 v r
theorem retN_s : PS X (.Return none pos) (tS T Φ Wx (.ret (.lit .none))) := by
  refine ⟨fun pins s σ H D J ⟨F, m, h, env, A, R⟩ => ps_retN.run pins s σ H D J ?_⟩
  exact RunS.here A.sim R .non .non
theorem set_s {i : Nat} {n : Str} {np : Pos} (C : BodS T I k Φ N Wx X) (hn : nmB N X.env.scope (fun _ => true) i n = true) (he : PE X xe (tE T Φ Wx e)) (hc : compB xe = false) : PS X (.Assign [.Name n np] xe pos) (tS T Φ Wx (.set i e)) := by
  unfold nmB at hn
  simp only [Bool.and_eq_true, decide_eq_true_eq] at hn
  refine ⟨fun pins s σ H D J ⟨F, m, h, env, A, R⟩ => (ps_set (i := i) (by rw [C.bod.names]; exact C.bod.nd) (by rw [C.bod.names]; exact hn.1.1.1) (locB_iff hn.1.1.2) he (no_sw hc) (.inl (C.fn n))).run pins s σ H D J ⟨F, m, h, env, A, (R.bindE A.env).imp fun w F1 m1 h1 H1 S1 X1 R1 v r => ?_⟩⟩
  exact RunS.here S1 R1 _ ((A.env.ext X1).set i r)
theorem setT_s {is : List Nat} {ts : List Expr} {tk : Nat} {tp : Pos} (C : BodS T I k Φ N Wx X) (hh : I.hot = false) (hn : nmsB N X.env.scope (fun _ => true) is ts = true) (he : PE X xe (tE T Φ Wx e)) (hc : compB xe = false) (ht : tupB xe = false) :
    PS X (.Assign [.Tuple ts tk tp] xe pos) (tS T Φ Wx (.setT is e)) := by
  have pg := tg_pg (tg := is) (tup := true) (x := .Tuple ts tk tp) (C.bod.calm hh) C.bod.names C.bod.nd rfl (fun y _ => C.fn y) (show tgB N X.env.scope (fun _ => true) is true (.Tuple ts tk tp) = true from hn)
  refine ⟨fun pins s σ H D J ⟨F, m, h, env, A, R⟩ => (ps_asg he pg (hs := ?_) (hw := ?_)).run pins s σ H D J ⟨F, m, h, env, A, (R.bindE A.env).imp fun w F1 m1 h1 H1 S1 X1 R1 v r => ?_⟩⟩
  · cases xe <;> first | rfl | (cases hc)
  · cases xe <;> first | rfl | (cases ht)
  · cases e1 : setTg is true w env with
    | none => simp only [e1] at R1; exact R1.elim
    | some env1 =>
      simp only [e1] at R1
      exact tg_use C.bod.K S1 e1 r (A.env.ext X1) fun σ' _ en => RunS.here S1 R1 σ' en
end
theorem setL_s {e : E} {xe : Expr} {pos : Pos} {is : List Nat} {ts : List Expr} {tk : Nat} {tp : Pos} (C : BodS T I k Φ N Wx X) (hh : I.hot = false) (hn : nmsB N X.env.scope (fun _ => true) is ts = true) (he : PE X xe (tE T Φ Wx e)) (hc : compB xe = false) (ht : tupB xe = false) :
    PS X (.Assign [.Tuple ts tk tp] xe pos) (tS T Φ Wx (.setL is e)) := by
  obtain ⟨h1, h2, h3⟩ := nms_pg (X := X) C.bod.names C.bod.nd rfl (fun y _ => C.fn y) hn
  have pg := pg_lst (k := tk) (pos := tp) (C.bod.calm hh) h1 h2 h3
  refine ⟨fun pins s σ H D J ⟨F, m, h, env, A, R⟩ => (ps_asg he pg (hs := ?_) (hw := ?_)).run pins s σ H D J ⟨F, m, h, env, A, (R.bindE A.env).imp fun w F1 m1 h1 H1 S1 X1 R1 v r => ?_⟩⟩
  · cases xe <;> first | rfl | (cases hc)
  · cases xe <;> first | rfl | (cases ht)
  · cases e1 : setTl is w env with
    | none => simp only [e1] at R1; exact R1.elim
    | some env1 =>
      simp only [e1] at R1
      unfold setTl at e1
      split at e1
      · cases r with
        | @lst a vs xs g d =>
          obtain ⟨l, q'⟩ := setAll_env e1 (d_wrs d) (A.env.ext X1)
          exact ⟨a, vs, rfl, .inl (.inl (S1.sub _ _ g)), l, gs_use l (RunS.here S1 R1 _ q')⟩
      · cases e1
theorem brk_s {pos : Pos} : PS X (.Break pos) (tS T Φ Wx .brk) := ⟨fun pins s σ H D J ⟨F, m, h, env, A, R⟩ => ps_break.run pins s σ H D J (RunS.here A.sim R σ A.env)⟩
theorem cnt_s {pos : Pos} : PS X (.Continue pos) (tS T Φ Wx .cnt) := ⟨fun pins s σ H D J ⟨F, m, h, env, A, R⟩ => ps_continue.run pins s σ H D J (RunS.here A.sim R σ A.env)⟩
theorem pass_s {pos : Pos} : PS X (.Pass pos) (tS T Φ Wx .pass) := ⟨fun pins s σ H D J ⟨F, m, h, env, A, R⟩ => ps_pass.run pins s σ H D J (RunS.here A.sim R σ A.env)⟩
theorem nil_s : PSs X [] (tSs T Φ Wx .nil) := ⟨fun pins s σ H D J ⟨F, m, h, env, A, R⟩ => pss_nil.run pins s σ H D J (RunS.here A.sim R σ A.env)⟩
theorem cons_s {s : S} {ss : Ss} {x : Stmt} {xs : List Stmt} (h1 : PS X x (tS T Φ Wx s)) (h2 : PSs X xs (tSs T Φ Wx ss)) : PSs X (x :: xs) (tSs T Φ Wx (.cons s ss)) := by
  refine ⟨fun pins s' σ H D J ⟨F, m, h, env, A, R⟩ => (pss_cons h1 h2).run pins s' σ H D J ⟨F, m, h, env, A, ?_⟩⟩
  have R' : RunS T Wx F m H (match evS Φ s env h with
    | .ok (.nx env1) h1 => evSs Φ ss env1 h1
    | r => r) (outK T D) := R
  revert R'
  cases evS Φ s env h with
  | ok o h1 =>
    cases o with
    | nx env1 => exact fun R' F1 m1 H1 S1 X1 σ1 en => ⟨F1, m1, h1, env1, ⟨S1, en⟩, R'.shift X1⟩
    | ret w => exact fun R' F1 m1 H1 S1 X1 => R' F1 m1 H1 S1 X1
    | brk env1 => exact fun R' F1 m1 H1 S1 X1 => R' F1 m1 H1 S1 X1
    | cnt env1 => exact fun R' F1 m1 H1 S1 X1 => R' F1 m1 H1 S1 X1
  | exc e env1 h1 => exact fun R' => R'
  | stuck => exact fun R' => R'
theorem if_s {c : Mi.T} {a b : Ss} {xc : Expr} {xa xb : List Stmt} {pos : Pos} (hc : PT X xc (tT T Φ Wx c)) (ha : PSs X xa (tSs T Φ Wx a)) (hb : PSs X xb (tSs T Φ Wx b)) : PS X (.If xc xa xb pos) (tS T Φ Wx (.ite c a b)) := by
  refine ⟨fun pins s' σ H D J ⟨F, m, h, env, A, R⟩ => (ps_if hc ha hb).run pins s' σ H D J ⟨F, m, h, env, A, (R.bindE A.env).imp fun d F1 m1 h1 H1 S1 X1 R1 => ?_⟩⟩
  cases d with
  | true => exact ⟨F1, m1, h1, env, A.step S1 X1, R1⟩
  | false => exact ⟨F1, m1, h1, env, A.step S1 X1, R1⟩
end Mi
set_option maxRecDepth 100000
set_option maxHeartbeats 2000000
/-! Mi, fourteenth part: loops, raise, try; every statement. -/
namespace Mi
open PySem PySem.Spec PyProof.Rows L2
variable {T : Top} {F F' F0 F1 : Hp} {m m' m0 m1 : List Addr} {h h' : MH} {H H' H0 H1 : Hp} {Wx : WX} {σ0 : L2.St}
variable {I : Info} {k : Nat} {Φ : Nat → List W → M W} {N : List Str} {X : Cx}
/-! ### loops -/
theorem for_use {tg : List Nat} {tup : Bool} {it : Mi.It} {b : Ss} {σ : L2.St} {D : Ends} {K : PySem.W.Frag} (hK : K = T.K) : tS T Φ Wx (.for tg tup it b) D σ H → tFor (tIt T Φ Wx it) (gOf K tg tup) (tSs T Φ Wx b) D σ H := by
  rintro ⟨F, m, h, env, A, R⟩
  refine ⟨F, m, h, env, A, (RunS.bindE R A.env).imp fun src F1 m1 h1 H1 S1 X1 R1 => ?_⟩
  have A1 := A.step S1 X1
  have c1 : srcOk src h1 = true := by
    cases q : srcOk src h1 with
    | true => rfl
    | false =>
      exfalso
      cases q2 : src.1 with
      | nil => simp only [q2, forL, q, Bool.false_eq_true, if_false] at R1; exact R1.elim
      | cons w ws => simp only [q2, forL, q, Bool.false_eq_true, if_false] at R1; exact R1.elim
  refine ⟨c1, fun J jok => ?_⟩
  refine ⟨fun i n σ H => ∃ F m h env, At T σ F m h env H ∧ Ext F1 m1 H1 F m H ∧ i + n = src.1.length ∧ RunS T Wx F1 m1 H1 (forL src tg tup (fun env h => evSs Φ b env h) (src.1.drop i) env h) (outK T D), ⟨src.1.length, F1, m1, h1, env, A1, Ext.refl, by omega, R1⟩, ?_⟩
  rintro i n σ2 H2 ⟨F2, m2, h2, env2, A2, X2, hn, R2⟩
  by_cases hi : i < src.1.length
  · have ew : src.1[i]? = some src.1[i] := List.getElem?_eq_getElem hi
    rw [List.drop_eq_getElem_cons hi] at R2
    simp only [forL] at R2
    cases c2 : srcOk src h2 with
    | false => rw [c2] at R2; simp only [Bool.false_eq_true, if_false] at R2; exact R2.elim
    | true =>
      rw [c2] at R2
      simp only [if_true] at R2
      obtain ⟨go, _⟩ := jok i F2 m2 h2 H2 A2.sim X2 c2
      obtain ⟨go, yl⟩ := go _ ew
      refine .inr ⟨go, fun σ H => ∃ F m h env, At T σ F m h env H ∧ Ext F1 m1 H1 F m H ∧ RunS T Wx F1 m1 H1 (forL src tg tup (fun env h => evSs Φ b env h) (src.1.drop (i + 1)) env h) (outK T D), fun σ' H' ⟨F, m, h, env, a1, a2, a3⟩ => ⟨n - 1, by omega, F, m, h, env, a1, a2, by omega, a3⟩, fun x H3 hy => ?_⟩
      obtain ⟨F3, S3, X3, r3⟩ := yl x H3 hy
      have X13 := X2.trans X3 S3.nd
      cases es : setTg tg tup src.1[i] env2 with
      | none => rw [es] at R2; exact R2.elim
      | some env3 =>
        rw [es] at R2
        refine tg_use hK S3 es r3 (A2.env.ext X3) fun σ3 st en3 => ⟨F3, m2, h2, env3, ⟨S3, en3⟩, ?_⟩
        dsimp only at R2
        revert R2
        cases evSs Φ b env3 h2 with
        | ok o h4 =>
          cases o with
          | nx env4 => exact fun R2 F4 m4 H4 S4 X4 σ4 en4 => ⟨F4, m4, h4, env4, ⟨S4, en4⟩, X13.trans X4 S4.nd, R2⟩
          | cnt env4 => exact fun R2 F4 m4 H4 S4 X4 σ4 en4 => ⟨F4, m4, h4, env4, ⟨S4, en4⟩, X13.trans X4 S4.nd, R2⟩
          | brk env4 => exact fun R2 F4 m4 H4 S4 X4 σ4 en4 => R2 F4 m4 H4 S4 (X13.trans X4 S4.nd) σ4 en4
          | ret v => exact fun R2 F4 m4 H4 S4 X4 v4 r4 => R2 F4 m4 H4 S4 (X13.trans X4 S4.nd) v4 r4
        | exc e env4 h4 => exact fun R2 F4 m4 H4 σ4 cls d S4 X4 => R2 F4 m4 H4 σ4 cls d S4 (X13.trans X4 S4.nd)
        | stuck => exact fun R2 => R2
  · have hd : src.1.drop i = [] := List.drop_eq_nil_iff.mpr (by omega)
    rw [hd] at R2
    simp only [forL] at R2
    cases c2 : srcOk src h2 with
    | false => rw [c2] at R2; simp only [Bool.false_eq_true, if_false] at R2; exact R2.elim
    | true =>
      rw [c2] at R2
      simp only [if_true] at R2
      obtain ⟨_, stop⟩ := jok i F2 m2 h2 H2 A2.sim X2 c2
      exact .inl ⟨stop (by omega), R2 F2 m2 H2 A2.sim X2 σ2 A2.env⟩
theorem while_use {c : Mi.T} {b : Ss} {σ : L2.St} {D : Ends} : tS T Φ Wx (.while c b) D σ H → tWhile (tT T Φ Wx c) (tSs T Φ Wx b) D σ H := by
  rintro ⟨F, m, h, env, A, R⟩
  refine ⟨fun n σ H => ∃ F m h env, At T σ F m h env H ∧ RunS T Wx F m H (whileL (fun env h => evT Φ c env h) (fun env h => evSs Φ b env h) n env h) (outK T D), ⟨fuel, F, m, h, env, A, R⟩, ?_⟩
  rintro n σ2 H2 ⟨F2, m2, h2, env2, A2, R2⟩
  cases n with
  | zero => exact R2.elim
  | succ n =>
    simp only [whileL] at R2
    refine ⟨F2, m2, h2, env2, A2, (RunS.bindE R2 A2.env).imp fun k F3 m3 h3 H3 S3 X3 R3 => ?_⟩
    cases k with
    | false =>
      rw [if_neg Bool.false_ne_true]
      simp only [Bool.false_eq_true, if_false] at R3
      exact RunS.here S3 R3 σ2 (A2.env.ext X3)
    | true =>
      rw [if_pos rfl]
      simp only [if_true] at R3
      refine ⟨fun σ H => ∃ F m h env, At T σ F m h env H ∧ RunS T Wx F m H (whileL (fun env h => evT Φ c env h) (fun env h => evSs Φ b env h) n env h) (outK T D), fun σ' H' q => ⟨n, by omega, q⟩, F3, m3, h3, env2, A2.step S3 X3, ?_⟩
      revert R3
      cases evSs Φ b env2 h3 with
      | ok o h4 =>
        cases o with
        | nx env4 => exact fun R3 F4 m4 H4 S4 X4 σ4 en4 => ⟨F4, m4, h4, env4, ⟨S4, en4⟩, RunS.shift R3 X4⟩
        | cnt env4 => exact fun R3 F4 m4 H4 S4 X4 σ4 en4 => ⟨F4, m4, h4, env4, ⟨S4, en4⟩, RunS.shift R3 X4⟩
        | brk env4 => exact fun R3 F4 m4 H4 S4 X4 σ4 en4 => R3 F4 m4 H4 S4 X4 σ4 en4
        | ret v => exact fun R3 F4 m4 H4 S4 X4 v4 r4 => R3 F4 m4 H4 S4 X4 v4 r4
      | exc e env4 h4 => exact fun R3 F4 m4 H4 σ4 cls d S4 X4 => R3 F4 m4 H4 σ4 cls d S4 X4
      | stuck => exact fun R3 => R3
/-! ### raise -/
theorem raise_s {c : Nat} {n s : Str} {j : Nat} {p p2 pos pos' : Pos} (C : BodS T I k Φ N Wx X) (hh : I.hot = false) (gl : Gl X n) (hd : (n == ("__debug__" : Str)) = false) (hc : I.clss[c]? = some n) (hx : xiN I c = false) :
    PS X (.Raise (some (.Call (.Name n p) [.Constant (.str s) j p2] [] pos)) none pos') (tS T Φ Wx (.raise c none)) := by
  have K1 := C.bod.clss c n hc
  obtain ⟨B, n1, n2, bm, Fb, e, r⟩ := K1.mak hx
  refine ⟨fun pins s' σ H D J ⟨F, m, h, env, A, R⟩ => (L2N.ps_raise (C.bod.calm hh) C.bod.takes (L2N.pmk_own Fb e K1.mg K1.kp r gl hd)).run pins s' σ H D J ?_⟩
  exact R F m H σ _ none A.sim Ext.refl A.env ⟨rfl, by rw [← C.bod.ncl]; exact (List.getElem?_eq_some_iff.mp hc).1, rfl⟩
/-! ### try -/
theorem noEx_up {c : Nat} {x : Option PyData} {a : Addr} {d : Option Addr} {w : W} {v : V} (e : noExW w = true) (r : WR (T.at c x a d) F m w v) : WR T F m w v := by
  cases w with
  | ex _ _ => cases e
  | d _ => exact r
  | ref _ => exact r
  | fn _ => exact r
  | ro _ => exact r
theorem noExs_up {c : Nat} {x : Option PyData} {a : Addr} {d : Option Addr} : ∀ {ws : List W} {vs : List V}, ws.all noExW = true → WRs (T.at c x a d) F m ws vs → WRs T F m ws vs
  | [], _, _, .nil => .nil
  | w :: ws, _, e, .cons q t => by
    rw [List.all_cons, Bool.and_eq_true] at e
    exact .cons (noEx_up e.1 q) (noExs_up e.2 t)
theorem noExI_up {c i : Nat} {x : Option PyData} {a : Addr} {d : Option Addr} {fs : List (Option W)} {gs : List (Str × V)} (e : fs.all noExO = true) (r : InsR (T.at c x a d) F m i fs gs) : InsR T F m i fs gs :=
  ⟨r.short, r.cnt, fun j o e1 => by
    obtain ⟨n, h1, h2⟩ := r.nm j o e1
    refine ⟨n, h1, ?_⟩
    cases o with
    | none => exact h2
    | some w =>
      obtain ⟨v, h3, h4⟩ := h2
      exact ⟨v, h3, noEx_up (show noExO (some w) = true from List.all_eq_true.mp e _ (List.mem_of_getElem? e1)) h4⟩, r.out⟩
theorem noExS_up {c : Nat} {x : Option PyData} {a : Addr} {d : Option Addr} (e : noExH h = true) (S : Sim (T.at c x a d) F m h H) : Sim T F m h H := by
  refine ⟨S.sub, S.len, S.nd, fun i cc b e1 e2 => ?_⟩
  have r := S.cell i cc b e1 e2
  have ec : noExC cc = true := List.all_eq_true.mp e cc (List.mem_of_getElem? e1)
  cases cc with
  | lst ws =>
    obtain ⟨z, vs, q, rs⟩ := r
    exact ⟨z, vs, q, noExs_up ec rs⟩
  | frz y => exact r
  | ins _ _ =>
    obtain ⟨z, dx, gs, q, rs⟩ := r
    exact ⟨z, dx, gs, q, noExI_up ec rs⟩
theorem WR.dn {c : Nat} {x : Option PyData} {a : Addr} {d : Option Addr} {w : W} {v : V} (nx : ∀ c x v, ¬ T.xw c x v) (r : WR T F m w v) : WR (T.at c x a d) F m w v := by
  cases w with
  | ex _ _ => exact absurd r.1 (nx _ _ _)
  | d _ => exact r
  | ref _ => exact r
  | fn _ => exact r
  | ro _ => exact r
theorem InsR.dn {c i : Nat} {x : Option PyData} {a : Addr} {d : Option Addr} {fs : List (Option W)} {gs : List (Str × V)} (nx : ∀ c x v, ¬ T.xw c x v) (r : InsR T F m i fs gs) : InsR (T.at c x a d) F m i fs gs :=
  ⟨r.short, r.cnt, fun j o e1 => by
    obtain ⟨n, h1, h2⟩ := r.nm j o e1
    refine ⟨n, h1, ?_⟩
    cases o with
    | none => exact h2
    | some w => obtain ⟨v, h3, h4⟩ := h2; exact ⟨v, h3, h4.dn nx⟩, r.out⟩
theorem Sim.dn {c : Nat} {x : Option PyData} {a : Addr} {d : Option Addr} (nx : ∀ c x v, ¬ T.xw c x v) (S : Sim T F m h H) : Sim (T.at c x a d) F m h H := by
  refine ⟨S.sub, S.len, S.nd, fun i cc b e1 e2 => ?_⟩
  have r := S.cell i cc b e1 e2
  cases cc with
  | lst ws =>
    obtain ⟨z, vs, q, rs⟩ := r
    exact ⟨z, vs, q, Paired.mapP rs fun _ _ q => q.dn nx⟩
  | frz y => exact r
  | ins _ _ =>
    obtain ⟨z, dx, gs, q, rs⟩ := r
    exact ⟨z, dx, gs, q, rs.dn nx⟩
theorem EnvR.dn {c : Nat} {x : Option PyData} {a : Addr} {d : Option Addr} {env : Ev} {σ : L2.St} (nx : ∀ c x v, ¬ T.xw c x v) (r : EnvR T F m env σ) : EnvR (T.at c x a d) F m env σ :=
  ⟨r.1, fun i w e => let ⟨v, h1, h2⟩ := r.2 i w e; ⟨v, h1, h2.dn nx⟩⟩
theorem noExE_up {c : Nat} {x : Option PyData} {a : Addr} {d : Option Addr} {env : Ev} {σ : L2.St} (e : env.all noExO = true) (r : EnvR (T.at c x a d) F m env σ) : EnvR T F m env σ :=
  ⟨r.1, fun i w e1 => let ⟨v, h1, h2⟩ := r.2 i w e1; ⟨v, h1, noEx_up (show noExO (some w) = true from List.all_eq_true.mp e _ (List.mem_of_getElem? e1)) h2⟩⟩
/-- what an except suite does -/
def tSu (T : Top) (Φ : Nat → List W → M W) (hd : Ss) (a : Addr) (cls : Value) (d : Option Addr) : TS := fun D σ H => ∃ (c : Nat) (x : Option PyData), cls = .ref (T.ca c) ∧ c < T.nc ∧ (x = none ↔ d = none) ∧ tSs (T.at c x a d) Φ W0 hd D σ H
theorem exn_iff {o : Option PyData} {d : Option Addr} {c : Nat} (e : match o with
    | none => d = none
    | some x => ∃ dd v, d = some dd ∧ F dd = some (.xd [(T.xf c, v)]) ∧ Dq T.K F v x) : o = none ↔ d = none := by
  cases o with
  | none => exact ⟨fun _ => e, fun _ => rfl⟩
  | some x =>
    obtain ⟨dd, v, e1, _⟩ := e
    rw [e1]
    exact Iff.intro (fun z => nomatch z) fun z => nomatch z
theorem exn_xd {o : Option PyData} {d : Option Addr} {c a : Nat} {x : Option PyData} {c0 : Nat} (e : match o with
    | none => d = none
    | some x => ∃ dd v, d = some dd ∧ F dd = some (.xd [(T.xf c, v)]) ∧ Dq T.K F v x) : XdR (T.at c0 x a d) F c o := by
  cases o with
  | none => exact True.intro
  | some x =>
    obtain ⟨dd, v, e1, e2, e3⟩ := e
    subst e1
    exact ⟨v, e2, e3⟩
theorem endX_none {env env2 : Ev} (e : endX none env = some env2) : env.all noExO = true ∧ env2 = env := by
  have e' : (if env.all noExO = true then some env else none) = some env2 := e
  by_cases c : env.all noExO = true
  · rw [if_pos c] at e'
    cases e'
    exact ⟨c, rfl⟩
  · rw [if_neg c] at e'
    cases e'
theorem tryN_use {c : Nat} {b hd : Ss} {K : PySem.W.Frag} {σ : L2.St} {D : Ends} (nx : ∀ c x v, ¬ T.xw c x v) (hex : ∀ c', c' < T.nc → PySem.W.exmOne K (.ref (T.ca c')) (.ref (T.ca c)) = some (c' == c || c == 0)) :
    tS T Φ Wx (.try1 b c none hd) D σ H → tSs T Φ (wMany K Wx D [(.ref (T.ca c), tSu T Φ hd)]) b D σ H := by
  rintro ⟨F, m, h, env, A, R⟩
  refine ⟨F, m, h, env, A, ?_⟩
  simp only [evS] at R
  revert R
  cases evSs Φ b env h with
  | ok o h1 => exact fun R => R
  | stuck => exact fun R => R
  | exc e env1 h1 =>
    intro R F1 m1 H1 σ1 cls d S1 X1 en1 ex
    obtain ⟨e1, e2, e3⟩ := ex
    subst e1
    refine ⟨_, hex e.cls e2, fun hb a na => ?_, fun hb => ?_⟩
    · dsimp only at R
      rw [if_pos hb] at R
      refine ⟨e.cls, e.arg, rfl, e2, exn_iff e3, F1, m1, h1, env1, ⟨S1.dn nx, en1.dn nx⟩, ?_⟩
      have e0 : setEx none e env1 = env1 := rfl
      rw [e0] at R
      revert R
      cases evSs Φ hd env1 h1 with
      | stuck => exact fun R => R
      | exc _ _ _ => exact fun R => R.elim
      | ok o h2 =>
        dsimp only
        intro R F2 m2 H2 S2 X2
        split at R
        · rename_i cl
          have S2' := noExS_up cl S2
          have X2' := X1.trans X2 S2.nd
          cases o with
          | ret w =>
            simp only [unsetO] at R
            split at R
            · rename_i o2 eo
              split at eo
              · rename_i cw
                cases eo
                exact fun v r => R F2 m2 H2 S2' X2' v (noEx_up cw r)
              · cases eo
            · exact R.elim
          | nx env2 =>
            simp only [unsetO] at R
            cases q : endX none env2 with
            | none => rw [q] at R; exact R.elim
            | some env3 =>
              rw [q] at R
              obtain ⟨ce, rfl⟩ := endX_none q
              exact fun σ2 en2 => R F2 m2 H2 S2' X2' _ (noExE_up ce en2)
          | brk env2 =>
            simp only [unsetO] at R
            cases q : endX none env2 with
            | none => rw [q] at R; exact R.elim
            | some env3 =>
              rw [q] at R
              obtain ⟨ce, rfl⟩ := endX_none q
              exact fun σ2 en2 => R F2 m2 H2 S2' X2' _ (noExE_up ce en2)
          | cnt env2 =>
            simp only [unsetO] at R
            cases q : endX none env2 with
            | none => rw [q] at R; exact R.elim
            | some env3 =>
              rw [q] at R
              obtain ⟨ce, rfl⟩ := endX_none q
              exact fun σ2 en2 => R F2 m2 H2 S2' X2' _ (noExE_up ce en2)
        · exact R.elim
    · dsimp only at R
      rw [if_neg (by rw [hb]; exact Bool.false_ne_true)] at R
      exact R F1 m1 H1 σ1 _ d S1 X1 en1 ⟨rfl, e2, e3⟩
/-- raise C(e) -/
theorem raiseV_s {c : Nat} {n : Str} {e : E} {xa : Expr} {p pos pos' : Pos} (C : BodS T I k Φ N Wx X) (hh : I.hot = false) (gl : Gl X n) (hd : (n == ("__debug__" : Str)) = false) (hc : I.clss[c]? = some n) (hx : (I.xis.any fun q => q.1 == c) = true) (hs : starB xa = false) (ha : PE X xa (tE T Φ Wx e)) :
    PS X (.Raise (some (.Call (.Name n p) [xa] [] pos)) none pos') (tS T Φ Wx (.raise c (some e))) := by
  have K1 := C.bod.clss c n hc
  obtain ⟨q, hq, eq⟩ := List.any_eq_true.mp hx
  obtain ⟨q1, q2⟩ := q
  have eq : q1 = c := by simpa using eq
  subst eq
  have K2 := C.bod.xis _ _ hq
  refine ⟨fun pins s' σ H D J ⟨F, m, h, env, A, R⟩ => (L2N.ps_raise (C.bod.calm hh) C.bod.takes (raiseV_pm K2 (fun us => (C.bod.roomM hh _ us).2) gl K1.mg hd hs ha)).run pins s' σ H D J ?_⟩
  refine ⟨F, m, h, env, A, (R.bindE A.env).imp fun w F1 m1 h1 H1 S1 X1 R1 v r dx nd => ?_⟩
  cases w with
  | d x =>
    obtain ⟨S2, X2⟩ := S1.newF (o := .xd [(T.xf q1, v)]) nd
    exact R1 _ _ _ σ _ (some dx) S2 X2 ((A.env.ext X1).ext X2) ⟨rfl, by rw [← C.bod.ncl]; exact (List.getElem?_eq_some_iff.mp hc).1, dx, v, rfl, upd_same, Dq.up X2.sub r⟩
  | _ => exact R1.elim
/-- o.f = e; o.f += e -/
theorem fset_S {c j : Nat} {a e : E} {xo xv : Expr} {fn : Str} {p pos : Pos} {ic : Ic} (C : BodS T I k Φ N Wx X) (K : IcOk T X c ic) (hf : ic.fields[j]? = some fn) (ho : PE X xo (tE T Φ Wx a)) (hv : PE X xv (tE T Φ Wx e)) (hc : compB xv = false) :
    PS X (.Assign [.Attribute xo fn p] xv pos) (tS T Φ Wx (.fset c a j e)) := by
  refine ⟨fun pins s σ H D J ⟨F, m, h, env, A, R⟩ => (fset_s K C.bod.K hf ho hv (no_sw hc)).run pins s σ H D J ?_⟩
  refine ⟨F, m, h, env, A, (R.bindE A.env).imp fun w F1 m1 h1 H1 S1 X1 R1 y r => ⟨w, F1, m1, h1, env, A.step S1 X1, r, (RunS.bindE R1 (A.env.ext X1)).imp fun u F2 m2 h2 H2 S2 X2 R2 => ?_⟩⟩
  cases e1 : fsetV c j u w h2 with
  | none => rw [e1] at R2; exact R2.elim
  | some h3 =>
    rw [e1] at R2
    exact ⟨h3, rfl, fun F3 H3 S3 X3 => R2 F3 m2 H3 S3 X3 σ (((A.env.ext X1).ext X2).ext X3)⟩
theorem faug_S {c j : Nat} {a e : E} {xo xv : Expr} {fn : Str} {p pos : Pos} {ic : Ic} (C : BodS T I k Φ N Wx X) (K : IcOk T X c ic) (hf : ic.fields[j]? = some fn) (ho : PE X xo (tE T Φ Wx a)) (hv : PE X xv (tE T Φ Wx e)) :
    PS X (.AugAssign (.Attribute xo fn p) .Add xv pos) (tS T Φ Wx (.faug c a j e)) := by
  refine ⟨fun pins s σ H D J ⟨F, m, h, env, A, R⟩ => (faug_s K C.bod.K hf ho hv).run pins s σ H D J ?_⟩
  refine ⟨F, m, h, env, A, (R.bindE A.env).imp fun u F1 m1 h1 H1 S1 X1 R1 x r => ?_⟩
  split at R1
  · rename_i i ef
    refine ⟨u, i, F1, m1, h1, env, A.step S1 X1, r, ef, (RunS.bindE R1 (A.env.ext X1)).imp fun w F2 m2 h2 H2 S2 X2 R2 => ?_⟩
    split at R2
    · rename_i kk
      cases e1 : fsetV c j u (.d (.int (i + kk))) h2 with
      | none => rw [e1] at R2; exact R2.elim
      | some h3 =>
        rw [e1] at R2
        exact ⟨kk, h3, rfl, e1, fun F3 H3 S3 X3 => R2 F3 m2 H3 S3 X3 σ (((A.env.ext X1).ext X2).ext X3)⟩
    · exact R2.elim
  · exact R1.elim
theorem try_use {c kx : Nat} {b hd : Ss} {K : PySem.W.Frag} {σ : L2.St} {D : Ends} (nx : ∀ c x v, ¬ T.xw c x v) (hex : ∀ c', c' < T.nc → PySem.W.exmOne K (.ref (T.ca c')) (.ref (T.ca c)) = some (c' == c || c == 0)) :
    tS T Φ Wx (.try1 b c (some kx) hd) D σ H → tSs T Φ (wAs K (.ref (T.ca c)) kx (tSu T Φ hd) Wx D) b D σ H := by
  rintro ⟨F, m, h, env, A, R⟩
  refine ⟨F, m, h, env, A, ?_⟩
  simp only [evS] at R
  revert R
  cases evSs Φ b env h with
  | ok o h1 => exact fun R => R
  | stuck => exact fun R => R
  | exc e env1 h1 =>
    intro R F1 m1 H1 σ1 cls d S1 X1 en1 ex
    obtain ⟨e1, e2, e3⟩ := ex
    subst e1
    refine ⟨_, hex e.cls e2, fun hb a na => ?_, fun hb => ?_⟩
    · dsimp only at R
      rw [if_pos hb] at R
      refine ⟨e.cls, e.arg, rfl, e2, exn_iff e3, F1, m1, h1, setEx (some kx) e env1, ⟨S1.dn nx, (en1.dn nx).set kx (w := .ex e.cls e.arg) ⟨⟨rfl, rfl, rfl⟩, exn_xd e3⟩⟩, ?_⟩
      revert R
      cases evSs Φ hd (setEx (some kx) e env1) h1 with
      | stuck => exact fun R => R
      | exc _ _ _ => exact fun R => R.elim
      | ok o h2 =>
        dsimp only
        intro R F2 m2 H2 S2 X2
        split at R
        · rename_i cl
          have S2' := noExS_up cl S2
          have X2' := X1.trans X2 S2.nd
          cases o with
          | ret w =>
            simp only [unsetO] at R
            split at R
            · rename_i o2 eo
              split at eo
              · rename_i cw
                cases eo
                exact fun v r => R F2 m2 H2 S2' X2' v (noEx_up cw r)
              · cases eo
            · exact R.elim
          | nx env2 =>
            simp only [unsetO, endX] at R
            split at R
            · rename_i o2 eo
              split at eo
              · rename_i ce
                cases eo
                exact fun σ2 en2 => R F2 m2 H2 S2' X2' _ (noExE_up ce (en2.setN kx none))
              · cases eo
            · exact R.elim
          | brk env2 =>
            simp only [unsetO, endX] at R
            split at R
            · rename_i o2 eo
              split at eo
              · rename_i ce
                cases eo
                exact fun σ2 en2 => R F2 m2 H2 S2' X2' _ (noExE_up ce (en2.setN kx none))
              · cases eo
            · exact R.elim
          | cnt env2 =>
            simp only [unsetO, endX] at R
            split at R
            · rename_i o2 eo
              split at eo
              · rename_i ce
                cases eo
                exact fun σ2 en2 => R F2 m2 H2 S2' X2' _ (noExE_up ce (en2.setN kx none))
              · cases eo
            · exact R.elim
        · exact R.elim
    · dsimp only at R
      rw [if_neg (by rw [hb]; exact Bool.false_ne_true)] at R
      exact R F1 m1 H1 σ1 _ d S1 X1 en1 ⟨rfl, e2, e3⟩
theorem IcOk.at {c0 : Nat} {x : Option PyData} {a : Addr} {d : Option Addr} {c : Nat} {ic : Ic} (C : IcOk T X c ic) : IcOk (T.at c0 x a d) X c ic :=
  ⟨C.cls, C.mg, C.fl, C.nd, C.noat, C.meth, C.mak⟩
theorem XiOk.at {c0 : Nat} {x : Option PyData} {a : Addr} {d : Option Addr} {c : Nat} (C : XiOk T X c) : XiOk (T.at c0 x a d) X c := ⟨C.oex, C.no, C.xf, C.init⟩
theorem Cls1.at {c0 : Nat} {x : Option PyData} {a : Addr} {d : Option Addr} {c : Nat} {n : Str} (C : Cls1 T I X c n) : Cls1 (T.at c0 x a d) { I with hot := true } X c n :=
  ⟨C.mg, C.kp, C.exc, C.kit, C.exm, C.mak⟩
/-- in an except suite -/
theorem BodS.suite (C : BodS T I k Φ N Wx X) (hh : I.hot = false) {a : Addr} {oe : Obj} {pn : List (Addr × Obj)} {c : Nat} {x : Option PyData} {d : Option Addr} (hc : c < T.nc) (hx : x = none ↔ d = none) (hz : L2N.Zn (.ref (T.ca c)) d oe) (hf : ∃ vs, oe.data = .fields vs) :
    BodS (T.at c x a d) { I with hot := true } k Φ N W0 (X.suite a ((a, oe) :: pn)) := by
  obtain ⟨nx, hfn⟩ := C.bod.hfn hh
  have ed : d = oe.dict := hz.2.1.symm
  subst ed
  refine ⟨⟨C.bod.K, (fun z => nomatch z), C.bod.names, C.bod.nd, C.bod.gd, (fun z => nomatch z), ⟨C.bod.roomH.dp, C.bod.roomH.un⟩, fun _ _ ⟨_, _, _, _, _, _, _, _, _, _, _, _, _, _, _, _, z⟩ => z.elim, C.bod.blt, C.bod.gls, C.bod.ncl,
    fun c n e => ((C.bod.clss c n e).of (X' := X.suite a ((a, oe) :: pn)) rfl rfl).at, C.bod.tabs, fun f n np e => ⟨(C.bod.fns f n np e).1, (fun z => nomatch z)⟩, (fun z => nomatch z), (fun z => nomatch z), C.bod.gdM, (fun z => nomatch z),
    fun c ic e => ((C.bod.ics c ic e).of (X' := X.suite a ((a, oe) :: pn)) rfl rfl).at, fun c f e => ((C.bod.xis c f e).of (X' := X.suite a ((a, oe) :: pn)) rfl rfl rfl rfl rfl).at, C.bod.xf, fun _ => ⟨T, (a, oe), c, x, rfl, ⟨rfl, ?_⟩, List.mem_cons_self, hc, hz, hx, hfn⟩⟩,
    (fun z => nomatch z), C.stk, C.frm, C.fn, C.kind⟩
  · obtain ⟨vs, e⟩ := hf
    exact ⟨vs, e, hz.2.2 vs e⟩
/-- in a try's body -/
theorem BodS.tr (C : BodS T I k Φ N Wx X) {W' : WX} {pn : List (Addr × Obj)} {xe : Value → Shared → Prop} (tk : L2N.Takes (X.tr pn xe) W') (pa : PassesOwn (model X.prog X.w) X.A X.env xe) (hh : I.hot = false) : BodS T I k Φ N W' (X.tr pn xe) :=
  ⟨⟨C.bod.K, C.bod.calm, C.bod.names, C.bod.nd, C.bod.gd, C.bod.room, C.bod.roomH, tk, C.bod.blt, C.bod.gls, C.bod.ncl, fun c n e => (C.bod.clss c n e).of rfl rfl, C.bod.tabs, C.bod.fns, C.bod.hfn, C.bod.roomM, C.bod.gdM, fun h1 h2 => C.bod.top h1 h2, fun c ic e => (C.bod.ics c ic e).of rfl rfl, fun c f e => (C.bod.xis c f e).of rfl rfl rfl rfl rfl, C.bod.xf, fun z => by rw [hh] at z; cases z⟩, fun _ => pa, C.stk, C.frm, C.fn, C.kind⟩
end Mi

set_option maxRecDepth 100000
set_option maxHeartbeats 2000000
/-! Mi, fifteenth part: every statement. -/
namespace Mi
open PySem PySem.Spec PyProof.Rows L2
variable {k : Nat} {Φ : Nat → List W → M W} {N : List Str}
theorem setLc_s {T : Top} {I : Info} {Wx : WX} {X : Cx} {i : Nat} {e : E} {n : Str} {np pos : Pos} {y : Expr} (C : BodS T I k Φ N Wx X) (hn : nmB N X.env.scope (fun _ => true) i n = true) (hsw : swB X.env.scope n np.line y = true) (hnx : nxB e = false) (c : chkE I N e X.env.scope y = true) :
    PS X (.Assign [.Name n np] y pos) (tS T Φ Wx (.set i e)) := by
  cases y with
  | ListComp elt gs scope p =>
    cases e with
    | comp nw own tg tup it t e => cases gs with
      | nil => cases c
      | cons g r => cases r with
        | cons _ _ => simp [chkE] at c
        | nil =>
          obtain ⟨tgx, itx, ifs, ia⟩ := g
          by_cases hia : ia = 0
          · subst hia
            simp only [chkE, Bool.and_eq_true, decide_eq_true_eq, Bool.not_eq_true'] at c
            obtain ⟨⟨⟨⟨⟨⟨⟨⟨⟨c0, ci⟩, c1⟩, c2⟩, c3⟩, c4⟩, c5⟩, c6⟩, c7⟩, c8⟩ := c
            have C0 := C.bod
            have ok := blkOk_by (by rw [C0.names]; exact c1 : blkC X.N X.env.scope scope (ownN N own) = true)
            have B := fun (σ : L2.St) (s : Shared) (H : Hp) (C' : Addr) (cl : List (Str × Addr)) (fp : List Addr) (xe : Value → Shared → Prop) (tkB : L2N.Takes (MiX.blkX X s H scope (compEnvC scope cl C' X.env) fp xe) (Wb Wx σ)) => C0.blkX c0 s H scope (compEnvC scope cl C' X.env) fp xe tkB
            obtain ⟨l1, sw⟩ := sw_yes (np := np) (sp := pos) C.kind hsw
            unfold nmB at hn
            simp only [Bool.and_eq_true, decide_eq_true_eq] at hn
            have fin : ∀ {ifs : List Expr}, swapsWith (.ListComp elt [⟨tgx, itx, ifs, 0⟩] scope p) (some (.Name n np)) pos.line X.env = pure true → (∀ (σ : L2.St) (s : Shared) (H : Hp) (C' : Addr) (cl : List (Str × Addr)) (fp : List Addr) (xe : Value → Shared → Prop), L2N.Takes (MiX.blkX X s H scope (compEnvC scope cl C' X.env) fp xe) (Wb Wx σ) → PTs (MiX.blkX X s H scope (compEnvC scope cl C' X.env) fp xe) ifs (tT T Φ (Wb Wx σ) t)) → PS X (.Assign [.Name n np] (.ListComp elt [⟨tgx, itx, ifs, 0⟩] scope p) pos) (tS T Φ Wx (.set i (.comp nw own tg tup it t e))) := fun {ifs} sw hts => by
              have P := MiX.ps_setLcX (g := gOf X.K tg tup) (tt := fun σ => tT T Φ (Wb Wx σ) t) (te := fun σ => tE T Φ (Wb Wx σ) e) (own := ownN N own) (i := i) (y := n) (py := np) (spos := pos) (C0.top c0 ci) C0.takes (C0.calm c0) (by rw [C0.names]; exact C0.nd) (by rw [C0.names]; exact hn.1.1.1) l1 sw (sIt (T := T) (Φ := Φ) (Wx := Wx) it C0 c5) ok
                (fun s H C' cl fp xe => tg_pg (X := MiX.blkX X s H scope (compEnvC scope cl C' X.env) fp xe) (C0.calm c0) C0.names C0.nd rfl (fun _ z => z) c4) hts (fun σ s H C' cl fp xe tkB => sE e (B σ s H C' cl fp xe tkB) c8) (nofold c6)
              refine ⟨fun pins s σ H D J ⟨F, m, h, env, A, R⟩ => P.run pins s σ H D J ?_⟩
              rw [c2]
              unfold tAsg
              refine lc_use C0.K c3 ⟨F, m, h, env, A, (RunS.bindE R A.env).imp fun w F1 m1 h1 H1 S1 X1 R1 v r => ?_⟩
              exact RunS.here S1 R1 _ ((A.env.ext X1).set i r)
            cases ifs with
            | nil =>
              cases t with
              | yes => exact fin sw fun σ s H C' cl fp xe tkB => ⟨fun pins s1 σ H1 Q I ⟨F, m, h, env, A, R⟩ => pts_nil.run pins s1 σ H1 Q I (Run.here A.sim R)⟩
              | _ => cases c7
            | cons i1 r => cases r with
              | nil => exact fin sw fun σ s H C' cl fp xe tkB => pts_one (sT t (B σ s H C' cl fp xe tkB) c7)
              | cons _ _ => cases c7
          · simp [chkE, hia] at c
    | noexc _ => cases hnx
    | _ => cases c
  | _ => cases hsw
mutual
theorem sS : ∀ (s : S) {T : Top} {I : Info} {Wx : WX} {X : Cx} {x : Stmt}, BodS T I k Φ N Wx X → chkS s I N X.env.scope x = true → PS X x (tS T Φ Wx s)
  | .ex e, T, I, Wx, X, x, C, c => by
    cases x with
    | Expr y p =>
      simp only [chkS, Bool.and_eq_true, Bool.not_eq_true'] at c
      exact ex_s (sE e C.bod c.1) c.2
    | _ => cases c
  | .set i e, T, I, Wx, X, x, C, c => by
    cases x with
    | Assign ts y p => cases ts with
      | nil => cases c
      | cons t r => cases t with
        | Name n np => cases r with
          | cons _ _ => simp [chkS] at c
          | nil =>
            simp only [chkS, Bool.and_eq_true, Bool.or_eq_true, Bool.not_eq_true'] at c
            rcases c.2 with c2 | c2
            · exact set_s C c.1.1 (sE e C.bod c.1.2) c2
            · exact setLc_s C c.1.1 c2.1 c2.2 c.1.2
        | _ => simp [chkS] at c
    | _ => cases c
  | .setT is e, T, I, Wx, X, x, C, c => by
    cases x with
    | Assign ts y p => cases ts with
      | nil => cases c
      | cons t r => cases t with
        | Tuple es tk tp => cases r with
          | cons _ _ => simp [chkS] at c
          | nil =>
            simp only [chkS, Bool.and_eq_true, Bool.not_eq_true'] at c
            obtain ⟨⟨⟨⟨c1, c2⟩, c3⟩, c4⟩, c5⟩ := c
            exact setT_s C c1 c2 (sE e C.bod c3) c4 c5
        | _ => simp [chkS] at c
    | _ => cases c
  | .setL is e, T, I, Wx, X, x, C, c => by
    cases x with
    | Assign ts y p => match ts, c with
      | [.Tuple es k tp], c =>
        simp only [chkS, Bool.and_eq_true, Bool.not_eq_true'] at c
        obtain ⟨⟨⟨⟨c1, c2⟩, c3⟩, c4⟩, c5⟩ := c
        exact setL_s C c1 c2 (sE e C.bod c3) c4 c5
      | [], c => cases c
      | _ :: _ :: _, c => simp [chkS] at c
    | _ => cases c
  | .fset cc a j e, T, I, Wx, X, x, C, c => by
    cases x with
    | Assign ts y p => match ts, c with
      | [.Attribute o f ap], c =>
        simp only [chkS, Bool.and_eq_true, Bool.not_eq_true'] at c
        obtain ⟨⟨⟨⟨c1, c2⟩, c3⟩, c4⟩, c5⟩ := c
        unfold fldB at c2
        split at c2
        · rename_i ic e0
          exact fset_S C (C.bod.ics _ _ e0) (of_decide_eq_true c2) (sE a C.bod c3) (sE e C.bod c4) c5
        · cases c2
      | [], c => cases c
      | _ :: _ :: _, c => simp [chkS] at c
    | _ => cases c
  | .faug cc a j e, T, I, Wx, X, x, C, c => by
    cases x with
    | AugAssign tg op y p => cases tg with
      | Attribute o f ap => cases op with
        | Add =>
          simp only [chkS, Bool.and_eq_true, Bool.not_eq_true'] at c
          obtain ⟨⟨⟨c1, c2⟩, c3⟩, c4⟩ := c
          unfold fldB at c2
          split at c2
          · rename_i ic e0
            exact faug_S C (C.bod.ics _ _ e0) (of_decide_eq_true c2) (sE a C.bod c3) (sE e C.bod c4)
          · cases c2
        | _ => cases c
      | _ => cases c
    | _ => cases c
  | .ret e, T, I, Wx, X, x, C, c => by
    cases x with
    | Return o p => cases o with
      | some y => exact ret_s (sE e C.bod c)
      | none =>
        simp only [chkS] at c
        split at c
        · exact retN_s
        · cases c
    | _ => cases c
  | .ite t a b, T, I, Wx, X, x, C, c => by
    cases x with
    | If y p q ps =>
      simp only [chkS, Bool.and_eq_true] at c
      exact if_s (sT t C.bod c.1.1) (sSs a C c.1.2) (sSs b C c.2)
    | _ => cases c
  | .for tg tup it b, T, I, Wx, X, x, C, c => by
    cases x with
    | For t i body oe p => cases oe with
      | cons _ _ => cases c
      | nil =>
        simp only [chkS, Bool.and_eq_true, Bool.not_eq_true'] at c
        obtain ⟨⟨⟨⟨c1, c2⟩, c3⟩, c4⟩, c5⟩ := c
        have P := ps_for (pos := p) (C.pass c1) (C.bod.calm c1) (sIt (T := T) (Φ := Φ) (Wx := Wx) it C.bod c3) (tg_pg (C.bod.calm c1) C.bod.names C.bod.nd rfl (fun y _ => C.fn y) c2) (sSs b C c5) (nofold c4)
        exact ⟨fun pins s σ H D J q => P.run pins s σ H D J (for_use C.bod.K q)⟩
    | _ => cases c
  | .while t b, T, I, Wx, X, x, C, c => by
    cases x with
    | While y body oe p => cases oe with
      | cons _ _ => cases c
      | nil =>
        simp only [chkS, Bool.and_eq_true, Bool.not_eq_true'] at c
        have P := ps_while (pos := p) (C.pass c.1.1) (sT t C.bod c.1.2) (sSs b C c.2)
        exact ⟨fun pins s σ H D J q => P.run pins s σ H D J (while_use q)⟩
    | _ => cases c
  | .brk, T, I, Wx, X, x, C, c => by
    cases x with
    | Break p => exact brk_s
    | _ => cases c
  | .cnt, T, I, Wx, X, x, C, c => by
    cases x with
    | Continue p => exact cnt_s
    | _ => cases c
  | .pass, T, I, Wx, X, x, C, c => by
    cases x with
    | Pass p => exact pass_s
    | _ => cases c
  | .raise cc o, T, I, Wx, X, x, C, c => by
    simp only [chkS] at c
    split at c
    · simp only [Bool.and_eq_true, decide_eq_true_eq, Bool.not_eq_true'] at c
      obtain ⟨⟨⟨⟨c1, c2⟩, c3⟩, c4⟩, c5⟩ := c
      exact raise_s C c1 (show Gl X _ from glB_iff c2) (dbg_iff c3).1 c4 c5
    · simp only [Bool.and_eq_true, decide_eq_true_eq, Bool.not_eq_true'] at c
      obtain ⟨⟨⟨⟨⟨⟨c1, c2⟩, c3⟩, c4⟩, c5⟩, c6⟩, c7⟩ := c
      exact raiseV_s C c1 (show Gl X _ from glB_iff c2) (dbg_iff c3).1 c4 c5 c6 (sE _ C.bod c7)
    · cases c
  | .try1 b cc i hd, T, I, Wx, X, x, C, c => by
    simp only [chkS] at c
    split at c
    · rename_i body n np nm b0 su hp tp
      simp only [Bool.and_eq_true, decide_eq_true_eq, Bool.not_eq_true'] at c
      obtain ⟨⟨⟨⟨⟨⟨c1, c2⟩, c3⟩, c4⟩, c5⟩, c6⟩, c7⟩ := c
      split at c5
      · simp only [Bool.and_eq_true, decide_eq_true_eq] at c5
        rename_i kx en
        have K1 := C.bod.clss _ _ c4
        have P := L2N.ps_try_as (np := np) (pos' := hp) (pos := tp) (i := kx) (n := en) (ts := tSu T Φ hd) (tb := fun W => tSs T Φ W b) C.stk C.frm (by rw [C.bod.names]; exact C.bod.nd) (by rw [C.bod.names]; exact c5.1) (loc1_iff c5.2) ⟨show Gl X _ from glB_iff c2, (dbg_iff c3).1, .inl K1.mg⟩ C.bod.takes
          (fun W pn xe tk pa => sSs b (C.tr tk pa c1) c6)
          (fun a oe cls d pn hz hf => ⟨fun pins s σ H D J ⟨c', x', e1, e2, e3, q⟩ => by
            subst e1
            exact (sSs hd (C.suite c1 (pn := pn) e2 e3 hz hf) c7).run pins s σ H D J q⟩)
        exact ⟨fun pins s σ H D J q => P.run pins s σ H D J (try_use (C.bod.hfn c1).1 K1.exm q)⟩
      · have K1 := C.bod.clss _ _ c4
        have P := L2N.ps_try_many (pos := tp) (tb := fun W => tSs T Φ W b) C.stk C.frm C.bod.takes
          (fun W pn xe tk pa => sSs b (C.tr tk pa c1) c6)
          (.cons (np := np) (pos' := hp) (ts := tSu T Φ hd) ⟨show Gl X _ from glB_iff c2, (dbg_iff c3).1, .inl K1.mg⟩ (fun a oe cls d pn hz hf => ⟨fun pins s σ H D J ⟨c', x', e1, e2, e3, q⟩ => by
            subst e1
            exact (sSs hd (C.suite c1 (pn := pn) e2 e3 hz hf) c7).run pins s σ H D J q⟩) .nil)
        exact ⟨fun pins s σ H D J q => P.run pins s σ H D J (tryN_use (C.bod.hfn c1).1 K1.exm q)⟩
      · cases c5
    · cases c
theorem sSs : ∀ (s : Ss) {T : Top} {I : Info} {Wx : WX} {X : Cx} {x : List Stmt}, BodS T I k Φ N Wx X → chkSs s I N X.env.scope x = true → PSs X x (tSs T Φ Wx s)
  | .nil, T, I, Wx, X, x, C, c => by
    cases x with
    | nil => exact nil_s
    | cons _ _ => cases c
  | .cons s ss, T, I, Wx, X, x, C, c => by
    cases x with
    | nil => cases c
    | cons y r =>
      simp only [chkSs, Bool.and_eq_true] at c
      exact cons_s (sS s C c.1) (sSs ss C c.2)
end
end Mi

set_option maxRecDepth 100000
set_option maxHeartbeats 2000000
/-! Mi, sixteenth part: every def keeps its promise. -/
namespace Mi
open PySem PySem.Spec PyProof.Rows L2
/-! ### a def, by its body -/
section
variable {P : Program} {w : World} {K : PySem.W.Frag} {mg : Str → Option Value} {base : Heap} {k : Nat} {f : Addr} {nm qual : Str} {params : Arguments} {body : List Stmt} {scope : Scope} {fd : FuncData} {N ps : List Str}
theorem zip_kind {A : Nat} {us : List Value} (S : FnScope N ps scope) : ∀ y ∈ ps.zip us, scope.names.lookup y.1 = some .local ∨ (scope.names.lookup y.1 = some .cell ∧ ((cellsFrom A scope.names []).lookup y.1).isSome = true) := by
  rintro ⟨a, v⟩ hy
  have hp := S.par a (List.of_mem_zip hy).1
  exact hp.imp id fun q => ⟨q, PySem.W.cellsFrom_some _ _ _ (Or.inl q)⟩
/-- where a body ends, its call ends -/
theorem SP.back {X : Cx} {A : Around} {outer : List Env} {s s' : Shared} {H : Hp} {Q : VK} {fl : Flow} (hb : ∀ {σ' : L2.St} {H' : Hp}, Inv X [] σ' H' s' → HOk P w H' s'.heap ∧ s'.os = s.os ∧ AllBare s'.gens ∧ Un (frs outer) [] H H' s.heap s'.heap)
    (hs : SP X [] { nx := fun _ H' => Q .non H', rt := Q } fl s') : (match fl with
      | .ret u => CE outer P w H s Q u s'
      | .next => CE outer P w H s Q .none s'
      | _ => False) := by
  have fin : ∀ {σ' : L2.St} {H' : Hp} {v : V} {u : Value}, Inv X [] σ' H' s' → RelV v u → Q v H' → CE outer P w H s Q u s' := fun {σ' H' v u} J rv q => by
    obtain ⟨h1, h2, h3, h4⟩ := hb J
    exact ⟨v, H', h2, h3, h4, h1, rv, q⟩
  cases fl with
  | ret u => obtain ⟨v, σ', H', J, rv, q⟩ := hs; exact fin J rv q
  | next => obtain ⟨σ', H', J, q⟩ := hs; exact fin (v := V.non) (u := Value.none) J rfl q
  | brk => obtain ⟨_, _, _, q⟩ := hs; exact q
  | cont => obtain ⟨_, _, _, q⟩ := hs; exact q
theorem fnG_of {sp : Sp} (Fd : FunD K nm qual params body scope [] [] f fd) (S : FnScope N ps scope) (len : ∀ vs H Q E, sp vs H Q E → vs.length = ps.length)
    (hbody : ∀ (cdv : Value) (A : Around) (outer : List Env) (s : Shared) (H : Hp) (vs : List V) (Q : VK) (E : XK), Room k (A.deeper (envOfC qual scope s.heap.objs.size f cdv)) → Room (k + 1) A → A.guards = some [] → sp vs H Q E →
      ∃ t, PSs (cxOf (L2N.CX P w) P w K mg base N qual scope f cdv A outer s H E) body t ∧ t { nx := fun _ H' => Q .non H', rt := Q } (L2.start N vs) H) :
    FnG P w K mg base (k + 1) f fd ps sp := by
  obtain ⟨oc, od, dV, kV, doc, pm, an, cdv, ct, osl, rfl, lk, hcd, _, _⟩ := Fd.ex
  refine ⟨len, fun A outer s H args us vs Q E rm hg env0 bt rel hsp => ?_⟩
  have KX : K.In s.heap := env0.mod.kin.keeps fun b o e => (env0.bs b o e).1
  have nolim : s.heap.NoLimit := env0.mod.nolimit.keeps fun b o e => (env0.bs b o e).1
  refine codeAny_call_function rm.depth (KX _ _ lk) rfl S.co S.gen rfl (PySem.W.codeRec_of KX hcd) (bt _ _ _ _ ?_)
  refine wpAny_newFunctionEnv_cells S.kind (zip_kind S) fun env eenv s1 start1 => ?_
  subst eenv
  refine ⟨nolim.keeps start1.toInCall.keep, codeAny_func ?_⟩
  obtain ⟨t, ht, hq⟩ := hbody cdv A outer s H vs Q E (rm.deeper _) rm hg hsp
  have J0 : Inv (cxOf (L2N.CX P w) P w K mg base N qual scope f cdv A outer s H E) [] (L2.start N vs) H s1 := inv_start S rm.hd env0 (len _ _ _ _ hsp) rel start1
  refine wpAny_mono (ht.run [] s1 (L2.start N vs) H _ J0 hq) (fun fl s' hs => ?_) fun e s' hs => hs
  have z := SP.back (P := P) (w := w) (A := A) (outer := outer) (s := s) (H := H) (fun J => ⟨J.hok, J.os, J.bare, J.base⟩) hs
  cases fl with
  | ret u => exact z
  | next => exact z
  | brk => exact False.elim z
  | cont => exact False.elim z
theorem fnK_of {T : Top} {Φ : Nat → List W → M W} {g np : Nat} (hf : f = T.fa g) (hnp : ps.length = np) (Fd : FunD K nm qual params body scope [] [] f fd) (S : FnScope N ps scope)
    (hbody : ∀ (cdv : Value) (A : Around) (outer : List Env) (s : Shared) (H : Hp) (vs : List V) (Q : VK) (E : XK) (p : Addr × Obj) (c : Nat) (x : Option PyData), L2H.RoomH k (A.deeper (envOfC qual scope s.heap.objs.size f cdv)) → A.guards = some [] → L2H.Hot1 A p → c < T.nc → L2N.Zn (.ref (T.ca c)) p.2.dict p.2 → (x = none ↔ p.2.dict = none) →
      spF (T.at c x p.1 p.2.dict) Φ g np vs H Q E → ∃ t, PSs (L2H.cxH (L2N.CX P w) P w K mg base N qual scope f cdv A outer s H E p) body t ∧ t { nx := fun _ H' => Q .non H', rt := Q } (L2.start N vs) H) :
    FnK P w K mg base T Φ (k + 1) g np fd ps := by
  obtain ⟨oc, od, dV, kV, doc, pm, an, cdv, ct, osl, rfl, lk, hcd, _, _⟩ := Fd.ex
  intro A outer s H args us vs Q E p c x rm hg hot hcl hz hz0 hpin env0 bt rel hsp
  rw [← hf]
  have KX : K.In s.heap := env0.mod.kin.keeps fun b o e => (env0.bs b o e).1
  have nolim : s.heap.NoLimit := env0.mod.nolimit.keeps fun b o e => (env0.bs b o e).1
  refine codeAny_call_function rm.depth (KX _ _ lk) rfl S.co S.gen rfl (PySem.W.codeRec_of KX hcd) (bt _ _ _ _ ?_)
  refine wpAny_newFunctionEnv_cells S.kind (zip_kind S) fun env eenv s1 start1 => ?_
  subst eenv
  refine ⟨nolim.keeps start1.toInCall.keep, codeAny_func ?_⟩
  obtain ⟨t, ht, hq⟩ := hbody cdv A outer s H vs Q E p c x (rm.deeper _) hg hot hcl hz hz0 hsp
  have J0 : Inv (L2H.cxH (L2N.CX P w) P w K mg base N qual scope f cdv A outer s H E p) [] (L2.start N vs) H s1 := L2H.inv_startH S hpin env0 (by rw [hsp.1, hnp]) rel start1
  refine wpAny_mono (ht.run [] s1 (L2.start N vs) H _ J0 hq) (fun fl s' hs => ?_) fun e s' hs => hs
  have z := SP.back (P := P) (w := w) (A := A) (outer := outer) (s := s) (H := H) (fun J => ⟨J.hok, J.os, J.bare, J.base⟩) hs
  cases fl with
  | ret u => exact z
  | next => exact z
  | brk => exact False.elim z
  | cont => exact False.elim z
end
/-! ### what is known of the top -/
structure Glob (T : Top) (I : Info) (w : World) (K : PySem.W.Frag) (mg : Str → Option Value) : Prop where
  kk : T.K = K
  hot : I.hot = false
  inn : I.inner = false
  ics : ∀ X : Cx, X.K = K → X.mg = mg → ∀ c ic, I.ics[c]? = some ic → IcOk T X c ic
  xis : ∀ X : Cx, X.K = K → X.mg = mg → ∀ c f, (c, f) ∈ I.xis → XiOk T X c
  xf : ∀ c, T.xf c = xfOf I c
  nx : ∀ c x v, ¬ T.xw c x v
  blt : ∀ x, I.blts.contains x = true → mg x = none
  gls : ∀ g d, lookS g I.gls = some d → ∃ v u, mg g = some u ∧ RelV v u ∧ ∀ F, Dq T.K F v d
  ncl : I.clss.length = T.nc
  clss : ∀ X : Cx, X.K = K → X.mg = mg → ∀ c n, I.clss[c]? = some n → Cls1 T I X c n
  tabs : ∀ g tab, lookS g I.tabs = some tab → ∃ d es n, mg g = some (.ref d) ∧ KDict K w d es n ∧ ∀ z, PySem.W.nsIn K d z = some ((lookS z tab).map fun f => .ref (T.fa f))
  fns : ∀ f n np, I.fns[f]? = some (n, np) → f < I.ng → mg n = some (.ref (T.fa f)) ∧ PySem.W.keepIn K (.ref (T.fa f)) = true
/-- one def of the text, and its small text -/
structure DefOk (T : Top) (I : Info) (P : List FD) (K : PySem.W.Frag) (f : Nat) (nm : Str) (np : Nat) : Prop where
  ok : ∃ (params : Arguments) (body : List Stmt) (scope : Scope) (fd : FuncData) (N ps : List Str) (F : FD) (nm qual : Str), FunD K nm qual params body scope [] [] (T.fa f) fd ∧ Binds K fd ps [] ∧ FnScope N ps scope ∧ ps.length = np ∧ P[f]? = some F ∧ F.np = np ∧ F.ns = N.length ∧
    (I.hfns.contains f = false → chkSs F.body I N scope body = true) ∧ (I.hfns.contains f = true → chkSs F.body { I with hot := true } N scope body = true)
section
variable {T : Top} {I : Info} {PL : List FD} {P : Program} {w : World} {K : PySem.W.Frag} {mg : Str → Option Value} {base : Heap} {m : List Addr} {F : Hp}
theorem start_env {N : List Str} {ws : List W} {vs : List V} (r : WRs T F m ws vs) : EnvR T F m (ws.map some ++ List.replicate (N.length - ws.length) none) (L2.start N vs) := by
  have l := r.len
  unfold L2.start
  refine ⟨by simp [l], fun i w e => ?_⟩
  by_cases hi : i < ws.length
  · rw [List.getElem?_append_left (by simpa using hi), List.getElem?_map] at e
    cases q : ws[i]? with
    | none => rw [q] at e; cases e
    | some u =>
      rw [q] at e
      cases e
      obtain ⟨v, h1, h2⟩ := WRs.get r q
      refine ⟨v, ?_, h2⟩
      rw [List.getElem?_append_left (by rw [List.length_map, ← l]; exact hi), List.getElem?_map, h1]
      rfl
  · rw [List.getElem?_append_right (by simpa using Nat.le_of_not_lt hi), List.getElem?_replicate] at e
    split at e <;> cases e
/-- the body's run, from the def's promise -/
theorem body_use {Φ : Nat → List W → M W} {fd : FD} {N : List Str} {f np : Nat} {vs : List V} {H : Hp} {Q : VK} {E : XK} {Ψ : Nat → List W → M W} (hΨ : ∀ ws h, Ψ f ws h = runF Φ fd ws h) (hn : fd.ns = N.length) (h : spF T Ψ f np vs H Q E) :
    tSs T Φ (fun cls d _ H => E cls d H) fd.body { nx := fun _ H' => Q .non H', rt := Q } (L2.start N vs) H := by
  obtain ⟨_, F, m, h, ws, S, r, x⟩ := h
  refine ⟨F, m, h, _, ⟨S, start_env r⟩, ?_⟩
  rw [hΨ] at x
  unfold runF at x
  cases hc : (ws.length == fd.np) with
  | false => simp only [hc, Bool.false_eq_true, if_false] at x
  | true =>
    simp only [hc, if_true] at x
    rw [← hn]
    revert x
    cases evSs Φ fd.body (ws.map some ++ List.replicate (fd.ns - ws.length) none) h with
    | ok o h1 =>
      cases o with
      | ret w => exact fun x F' m' H' S' X' v rv => x F' m' H' v S' X' rv
      | nx env => exact fun x F' m' H' S' X' σ' en => x F' m' H' .non S' X' .non
      | brk env => exact fun x => x.elim
      | cnt env => exact fun x => x.elim
    | exc e env h1 => exact fun x F' m' H' σ' cls d S' X' en ex => x F' m' H' cls d S' X' ex
    | stuck => exact fun x => x
theorem room_make {k : Nat} {A : Around} (rm : Room (k + 2) A) (env : Env) (C : Addr) (us : List Value) : Room (k + 1) ((A.deeper env).under (.builtin "type.__call__" ⟨.ref C :: us, []⟩)) ∧ Room 1 ((A.deeper env).under (.builtin "type.__call__" ⟨.ref C :: us, []⟩)) := by
  have h : Room (k + 1) ((A.deeper env).under (.builtin "type.__call__" ⟨.ref C :: us, []⟩)) := by
    refine ⟨rm.hd, ?_, ?_⟩
    · have := rm.dp
      rw [make_depth]
      show A.depth + 1 + 1 + 3 * (k + 1) + 5 < _
      omega
    · have := rm.un
      rw [make_units]
      show A.units + 3 + 1 + 16 * (k + 1) + 200 < _
      omega
  exact ⟨h, h.mono (by omega)⟩
theorem all_ok (G : Glob T I w K mg) (D : ∀ f n np, I.fns[f]? = some (n, np) → DefOk T I PL K f n np) : ∀ n : Nat, ∀ f nm np, I.fns[f]? = some (nm, np) →
    (I.hfns.contains f = false → ∃ fd ps, ps.length = np ∧ FnG P w K mg base (n + 1) (T.fa f) fd ps (spF T (callN PL n) f np) ∧ Binds K fd ps []) ∧
    (I.hfns.contains f = true → ∃ fd ps, ps.length = np ∧ FnK P w K mg base T (callN PL n) (n + 1) f np fd ps ∧ Binds K fd ps [])
  | 0, f, nm, np, e => by
    obtain ⟨params, body, scope, fd, N, ps, Fd, nm', qual, h1, h2, h3, h4, _⟩ := (D f nm np e).ok
    have no : ∀ {T' : Top} {vs : List V} {H : Hp} {Q : VK} {E : XK}, ¬ spF T' (callN PL 0) f np vs H Q E := fun ⟨_, _, _, _, _, _, _, x⟩ => x
    exact ⟨fun _ => ⟨fd, ps, h4, ⟨fun vs H Q E h => by rw [h.1, h4], fun _ _ _ _ _ _ _ _ _ _ _ _ _ _ x => (no x).elim⟩, h2⟩,
      fun _ => ⟨fd, ps, h4, fun _ _ _ _ _ _ _ _ _ _ _ _ _ _ _ _ _ _ _ _ _ _ x => (no x).elim, h2⟩⟩
  | n + 1, f, nm, np, e => by
    have ih := all_ok G D n
    obtain ⟨params, body, scope, fd, N, ps, Fd, nm', qual, h1, h2, h3, h4, h5, h6, h7, h8, h9⟩ := (D f nm np e).ok
    have hΨ : ∀ ws h, callN PL (n + 1) f ws h = runF (callN PL n) Fd ws h := fun ws h => by
      show (match PL[f]? with
        | some fd => runF (callN PL n) fd ws h
        | none => .stuck) = _
      rw [h5]
    have gdM : ∀ {A : Around} (_ : A.guards = some []) (env : Env) (C : Addr) (us : List Value), ((A.deeper env).under (.builtin "type.__call__" ⟨.ref C :: us, []⟩)).guards = some [] := fun {A} hg env C us => by
      first
      | exact hg
      | simpa [Around.under, Around.deeper, Code.isGuard, Code.isCaller, Code.isCreation] using hg
    refine ⟨fun hh => ⟨fd, ps, h4, fnG_of h1 h3 (fun vs H Q E h => by rw [h.1, h4]) fun cdv A outer s H vs Q E rm rm1 hg hsp => ⟨_, sSs (k := n + 1) (Φ := callN PL n) (N := N) Fd.body (T := T) (I := I) (Wx := fun cls d _ H => E cls d H) ?_ (h8 hh), body_use hΨ h7 hsp⟩, h2⟩,
      fun hh => ⟨fd, ps, h4, fnK_of rfl h4 h1 h3 fun cdv A outer s H vs Q E p c x rm hg hot hcl hz hz0 hsp => ⟨_, sSs (k := n + 1) (Φ := callN PL n) (N := N) Fd.body (T := T.at c x p.1 p.2.dict) (I := { I with hot := true }) (Wx := fun cls d _ H => E cls d H) ?_ (h9 hh), body_use hΨ h7 hsp⟩, h2⟩⟩
    · have fns := fun f nm np e => (⟨G.fns f nm np e, fun _ hh => (ih f nm np e).1 hh⟩ : (f < I.ng → mg nm = some (.ref (T.fa f)) ∧ PySem.W.keepIn K (.ref (T.fa f)) = true) ∧ (I.hot = false → I.hfns.contains f = false → _))
      exact ⟨⟨G.kk.symm, fun _ => rfl, rfl, h3.nd, hg, fun _ => rm, L2H.roomH_of rm, L2N.takes_of rfl rfl rfl rfl, G.blt, G.gls, G.ncl, G.clss _ rfl rfl, G.tabs, fns, fun _ => ⟨G.nx, fun f nm np e hf => (ih f nm np e).2 hf⟩, fun _ C us => room_make rm1 _ C us, gdM hg _, fun _ _ => ⟨rfl, rfl⟩, G.ics _ rfl rfl, G.xis _ rfl rfl, G.xf, fun z => by rw [G.hot] at z; cases z⟩,
        fun _ => passes_of rfl, rfl, rfl, fun _ => rfl, h3.kind⟩
    · exact ⟨⟨G.kk.symm, (fun z => nomatch z), rfl, h3.nd, hg, (fun z => nomatch z), rm, L2N.takes_of rfl rfl rfl rfl, G.blt, G.gls, G.ncl, fun c n e => (G.clss _ rfl rfl c n e).at, G.tabs, fun f nm np e => ⟨G.fns f nm np e, (fun z => nomatch z)⟩, (fun z => nomatch z),
        (fun z => nomatch z), gdM hg _, (fun z => nomatch z), fun c ic e => (G.ics _ rfl rfl c ic e).at, fun c f e => (G.xis _ rfl rfl c f e).at, G.xf,
        fun _ => ⟨T, p, c, x, rfl, hot, List.mem_cons_self, hcl, hz, hz0, fun f nm np e hf => (ih f nm np e).2 hf⟩⟩, (fun z => nomatch z), rfl, rfl, fun _ => rfl, h3.kind⟩
end
end Mi

set_option maxRecDepth 100000
set_option maxHeartbeats 2000000
/-! Mi, seventeenth part: the head: what a text's top says; the law's end. -/
namespace Mi
open PySem PySem.Spec PyProof.Rows L2
/-! ### one def of a text -/
structure DefS where
  name : Str
  st : Stmt
  N : List Str
  ps : List Str
  F : FD
  qual : Str := name
  at_ : Str × Option Str := (name, none)
def DefS.d (x : DefS) : He.DefD := ⟨x.at_, x.name, x.qual, defArgs x.st, defBody x.st, defScope x.st, [], []⟩
def isLoc (sc : Scope) (x : Str) : Bool := match sc.names.lookup x with
  | some .local => true
  | some .cell => true
  | _ => false
def scB (N ps : List Str) (sc : Scope) : Bool := (match sc.kind with
  | .function => true
  | _ => false) && !sc.isCoroutine && !sc.isGenerator && decide N.Nodup && decide (N.take ps.length = ps) && ps.all (isLoc sc) && sc.names.all fun y => match y.2 with
  | .free => false
  | _ => true
theorem scB_ok {N ps : List Str} {sc : Scope} (c : scB N ps sc = true) : FnScope N ps sc := by
  unfold scB at c
  simp only [Bool.and_eq_true, Bool.not_eq_true', decide_eq_true_eq] at c
  obtain ⟨⟨⟨⟨⟨⟨c1, c2⟩, c3⟩, c4⟩, c5⟩, c6⟩, c7⟩ := c
  refine ⟨?_, c2, c3, c4, c5, fun x hx => ?_, fun y hy e => ?_⟩
  · revert c1
    cases sc.kind <;> first | exact fun _ => rfl | exact fun z => (nomatch z)
  · have := List.all_eq_true.mp c6 x hx
    unfold isLoc at this
    split at this
    · left; assumption
    · right; assumption
    · cases this
  · have := List.all_eq_true.mp c7 y hy
    rw [e] at this
    cases this
def nmF (I : Info) (i : Nat) : Str := match I.fns[i]? with
  | some q => q.1
  | none => Str.empty
/-- where a def stands: a name of the module, a class's method -/
def atF (I : Info) (i : Nat) : Str × Option Str := if Nat.blt i I.ng then (nmF I i, none) else match I.mths[i - I.ng]? with
  | some q => (q.1, some q.2)
  | none => (Str.empty, none)
def defB (I : Info) (i : Nat) (x : DefS) : Bool := scB x.N x.ps (defScope x.st) && (match I.fns[i]? with
  | some (n, np) => decide (x.at_ = atF I i) && x.ps.length == np && x.F.np == np
  | none => false) && x.F.ns == x.N.length && (I.hfns.contains i || chkSs x.F.body I x.N (defScope x.st) (defBody x.st)) && (!I.hfns.contains i || chkSs x.F.body { I with hot := true } x.N (defScope x.st) (defBody x.st))
/-- the parameters are bound one by one -/
def BindOk (x : DefS) : Prop := ∀ (kV doc pm : Value) (an : Option Addr) (cdv ct : Value) (us : List Value), us.length = x.ps.length → bindArgs (PySem.W.fnOf x.name x.qual (defArgs x.st) (defBody x.st) (defScope x.st) .none kV doc pm an cdv ct) ⟨us, []⟩ = pure (x.ps.zip us)
/-! ### what is looked at in the written part -/
def nmC (I : Info) (i : Nat) : Str := match I.clss[i]? with
  | some q => q
  | none => Str.empty
def icN (I : Info) (c : Nat) : Str := match I.ics[c]? with
  | some ic => ic.name
  | none => Str.empty
def icF (I : Info) (c : Nat) : List Str := match I.ics[c]? with
  | some ic => ic.fields
  | none => []
def topOf (I : Info) (K : PySem.W.Frag) : Top := { K := K, fa := fun i => He.fAd K (atF I i), ca := fun i => He.ga K (nmC I i), nc := I.clss.length, xf := xfOf I, xw := fun _ _ _ => False, xa := 0, ia := fun c => He.ga K (icN I c), fl := icF I }
/-- a class of instances is what its text says -/
def icB (I : Info) (ic : Ic) : Bool := decide (atF I ic.init = (ic.name, some ("__init__" : Str))) && (ic.meths.all fun q => decide (atF I q.2 = (ic.name, some q.1))) && decide ic.fields.Nodup
/-- an own error class with its own __init__ -/
def oexB (K : PySem.W.Frag) (C : Addr) : Bool := (match K.lookup C with
  | some ⟨.type "type", _, .cls cd, sl⟩ => (match cd.mro, sl.toList with
    | .ref C' :: bm, [_, _, _, _, some (.builtin n), _] => C' == C && n == "ValueError.__new__" && !cd.hasDel && PySem.HandSPX.refsVE bm && cd.hasDict
    | _, _ => false)
  | _ => false) && He.eqO (PySem.W.findIn K (.ref C) "__setattr__") (some (some (.builtin "object.__setattr__"))) && decide (PySem.W.subIn K (.ref C) (.type "BaseException") = some true) && decide (PySem.W.typeIn K (.ref C) = some (.type "type")) && PySem.W.keepIn K (.ref C)
theorem oexB_ok {K : PySem.W.Frag} {C : Addr} (c : oexB K C = true) : OexC K C := by
  unfold oexB at c
  simp only [Bool.and_eq_true, decide_eq_true_eq] at c
  obtain ⟨⟨⟨⟨q, c2⟩, c3⟩, c4⟩, c5⟩ := c
  refine ⟨?_, He.eqO_ok c2, c3, c4, c5⟩
  split at q
  · rename_i dd cd sl ho
    split at q
    · rename_i C' bm k0 k1 k2 k3 n k5 hm hs
      simp only [Bool.and_eq_true, beq_iff_eq, Bool.not_eq_true'] at q
      obtain ⟨⟨⟨⟨rfl, rfl⟩, hdel⟩, hr⟩, hh⟩ := q
      obtain ⟨nm, bs, mro, ns, qn, hd, sn, sub, ab, col, del⟩ := cd
      dsimp only at hm hdel hh
      subst hm hdel hh
      have hsl : sl = #[k0, k1, k2, k3, some (.builtin "ValueError.__new__"), k5] := by
        obtain ⟨l⟩ := sl
        simp only at hs
        rw [hs]
      subst hsl
      exact ⟨nm, qn, ns, bs, bm, sn, sub, ab, col, dd, k0, k1, k2, k3, k5, ho, hr⟩
    · cases q
  · cases q
def xiC (K : PySem.W.Frag) (I : Info) (q : Nat × Str) : Bool := oexB K (He.ga K (nmC I q.1)) && He.eqO (PySem.W.findIn K (.ref (He.ga K (nmC I q.1))) q.2) (some none) && xfB K (He.ga K (nmC I q.1)) &&
  He.eqO (PySem.W.findIn K (.ref (He.ga K (nmC I q.1))) "__init__") (some (some (.ref (He.fAd K (nmC I q.1, some ("__init__" : Str)))))) && decide (PySem.W.typeIn K (.ref (He.fAd K (nmC I q.1, some ("__init__" : Str)))) = some (.type "function")) && decide (xfOf I q.1 = q.2)
def biB (K : PySem.W.Frag) (B : Addr) : Bool := PySem.W.readsIn K B (.type "type") && He.eqO (PySem.W.specialIn K (.ref B) "__getattribute__") (some (some (.builtin "type.__getattribute__"))) && (match PySem.W.findCls K (.ref B) (.type "type") "__init__" with
  | some (.val (.builtin n)) => n == "ValueError.__init__"
  | _ => false)
theorem biB_ok {K : PySem.W.Frag} {B : Addr} (c : biB K B = true) : BiOk K B := by
  unfold biB at c
  simp only [Bool.and_eq_true] at c
  obtain ⟨⟨c1, c2⟩, c3⟩ := c
  refine ⟨c1, He.eqO_ok c2, ?_⟩
  split at c3
  · rename_i n e
    rw [e, beq_iff_eq.mp c3]
  · cases c3
def excB (K : PySem.W.Frag) (D : Addr) : Bool :=
  He.eqO (PySem.W.findIn K (.ref D) "__getattribute__") (some (some (.builtin "BaseException.__getattribute__"))) && He.eqO (PySem.W.findIn K (.ref D) "__getattr__") (some none) && decide (PySem.W.subIn K (.ref D) (.type "BaseException") = some true) && PySem.W.hasDictIn K D &&
  He.eqO (PySem.W.findIn K (.ref D) "__class__") (some (some (.builtin "object.__class__"))) && He.eqO (PySem.W.specialIn K (.builtin "object.__class__") "__get__") (some (some (.builtin "getset_descriptor.__get__"))) && decide (PySem.W.takesIn K (.builtin "object.__class__") = some true) && decide (PySem.W.mroIn K D (.type "object") = some true)
theorem excB_ok {K : PySem.W.Frag} {D : Addr} (c : excB K D = true) : ExcC K D := by
  unfold excB at c
  simp only [Bool.and_eq_true, decide_eq_true_eq] at c
  obtain ⟨⟨⟨⟨⟨⟨⟨c1, c2⟩, c3⟩, c4⟩, c5⟩, c6⟩, c7⟩, c8⟩ := c
  exact ⟨He.eqO_ok c1, He.eqO_ok c2, c3, c4, He.eqO_ok c5, He.eqO_ok c6, c7, c8⟩
def clsB (K : PySem.W.Frag) (I : Info) (c : Nat) : Bool := excB K (He.ga K (nmC I c)) && (List.range I.clss.length).all fun c' =>
  decide (PySem.W.kitOne K (.ref (He.ga K (nmC I c'))) (.ref (He.ga K (nmC I c))) = some (c' == c || c == 0)) && decide (PySem.W.exmOne K (.ref (He.ga K (nmC I c'))) (.ref (He.ga K (nmC I c))) = some (c' == c || c == 0))
def tabEs (K : PySem.W.Frag) (I : Info) : List (Str × Nat) → List DictEntry → Bool
  | [], [] => true
  | (k, f) :: r, e :: es => (match e.key with
    | .str x _ => decide (x = k)
    | _ => false) && decide (e.val = .ref (He.fAd K (atF I f))) && tabEs K I r es
  | _, _ => false
def tabAt (K : PySem.W.Frag) (I : Info) (g : Str) (tab : List (Str × Nat)) : Bool := match K.lookup (He.ga K g) with
  | some ⟨_, _, .dict es _, _⟩ => tabEs K I tab es.toList
  | _ => false
theorem tabEs_ok {K : PySem.W.Frag} {I : Info} {z : Str} : ∀ {tab : List (Str × Nat)} {es : List DictEntry}, tabEs K I tab es = true →
    (match es.find? (·.key.isStr z) with
      | some e => some (some e.val)
      | none => if es.any (·.refKey) then none else some none) = some ((lookS z tab).map fun f => Value.ref (He.fAd K (atF I f))) ∧ es.any (·.refKey) = false
  | [], [], _ => ⟨rfl, rfl⟩
  | (k, f) :: r, e :: es, c => by
    simp only [tabEs, Bool.and_eq_true, decide_eq_true_eq] at c
    obtain ⟨⟨c1, c2⟩, c3⟩ := c
    obtain ⟨h1, h2⟩ := tabEs_ok (z := z) c3
    obtain ⟨hh, kk, vv⟩ := e
    dsimp only at c1 c2
    split at c1
    · rename_i x t
      have c1 := of_decide_eq_true c1
      subst c1
      have nr : DictEntry.refKey ⟨hh, .str x t, vv⟩ = false := rfl
      refine ⟨?_, by rw [List.any_cons, nr, h2]; rfl⟩
      unfold lookS
      rw [List.find?_cons, List.any_cons, nr]
      have ek : Value.isStr (.str x t) z = decide (x = z) := by
        show (x == z) = _
        rw [Bool.eq_iff_iff]
        simp
      by_cases hz : x = z
      · subst hz
        simp only [ek, decide_true, if_true, c2, Option.map_some]
      · have hz' : decide (x = z) = false := decide_eq_false hz
        simp only [ek, hz', Bool.false_eq_true, if_false, Bool.false_or]
        exact h1
    · cases c1
  | [], _ :: _, c => by cases c
  | _ :: _, [], c => by cases c
def glB1 (K : PySem.W.Frag) (g : Str) (d : PyData) : Bool := match PySem.W.nsIn K mainGlobals g with
  | some (some (.str y _)) => (match d with
    | .str x => decide (x = y)
    | _ => false)
  | some (some (.int j _)) => (match d with
    | .int i => decide (i = j)
    | _ => false)
  | _ => false
def exB (I : Info) (K : PySem.W.Frag) : Bool := I.xis.all (xiC K I) && I.xbs.all (fun b => biB K (He.ga K b)) && (List.range I.clss.length).all (clsB K I) && I.tabs.all (fun q => tabAt K I q.1 q.2) && I.gls.all fun q => glB1 K q.1 q.2
def icFa (ic : Ic) : List He.Fa := .glo ic.name :: .cls ic.name :: .mkr ic.name :: (ic.fields.map fun f => .noat ic.name f) ++ ic.meths.map fun q => .meth ic.name q.1
/-- the error classes that are made by ValueError's own hand -/
def excN (I : Info) : List Str := ((List.range I.clss.length).filter fun c => !xiN I c).map (nmC I)
def faOf (I : Info) : List He.Fa := ((I.fns.take I.ng).map fun q => .glo q.1) ++ (I.clss.map .glo ++ ((excN I).map .exc ++ (I.blts.map .free ++ ((I.tabs.map fun q => .glo q.1) ++ I.ics.flatMap icFa))))
def tsOf (I : Info) : List He.Tab := I.tabs.map fun q => (fun K => He.ga K q.1, q.2.map (·.1))
theorem lookS_at {α : Type} {z : Str} {v : α} : ∀ {l : List (Str × α)}, lookS z l = some v → ∃ i : Nat, l[i]? = some (z, v)
  | [], e => by cases e
  | (k, x) :: r, e => by
    unfold lookS at e
    split at e
    · rename_i c
      cases e
      have : k = z := of_decide_eq_true c
      subst this
      exact ⟨0, rfl⟩
    · obtain ⟨i, h⟩ := lookS_at e
      exact ⟨i + 1, h⟩
/-! ### the Hook: what the module's names reach, and the interpreter's own statics -/
structure SaysM (fa : List He.Fa) (fn : List He.DefD) (ts : List He.Tab) (ex : PySem.W.Frag → Bool) (w : World) (K : PySem.W.Frag) : Prop where
  t : He.SaysT fa fn ts w K
  more : ex K = true
def asM (g : Addr → Option Obj) (n : Nat) : List Addr := He.asD g n ++ [cStatics]
abbrev AlM : Type := He.AlT × Bool
def obsM (n : Nat) (fa : List He.Fa) (fn : List He.DefD) (ts : List He.Tab) (ex : PySem.W.Frag → Bool) (g : Addr → Option Obj) : AlM := (He.obsT fa fn ts (He.frT g (asM g n)), ex (He.frT g (asM g n)))
def hookM (n : Nat) (fa : List He.Fa) (fn : List He.DefD) (ts : List He.Tab) (ex : PySem.W.Frag → Bool) : PySem.W.Hook where
  α := AlM
  obs := fun s => obsM n fa fn ts ex s.heap.get?
  val := fun w => (He.valT fn ts w, true)
  says := fun w h => ∃ K : PySem.W.Frag, K.In h ∧ SaysM fa fn ts ex w K
  of := fun _ _ e => ⟨_, He.frT_in, congrArg (fun z : AlM => z.1) e, congrArg (fun z : AlM => z.2) e⟩
  keeps := fun _ _ _ ⟨K, hK, c⟩ k => ⟨K, PySem.W.Frag.In.keeps hK k, c⟩
theorem obsM_eq {n : Nat} {fa : List He.Fa} {fn : List He.DefD} {ts : List He.Tab} {ex : PySem.W.Frag → Bool} {g : Addr → Option Obj} {s : Shared} (h : ∀ a, g a = s.heap.get? a) : obsM n fa fn ts ex g = (hookM n fa fn ts ex).obs s := by
  have e : g = s.heap.get? := funext h
  rw [e] <;> rfl
/-- the __init__ of an own error class, as its text says -/
def xdB (I : Info) (q : Nat × Str) (b : Str) (x : DefS) : Bool := decide (x.at_ = (nmC I q.1, some ("__init__" : Str))) && (match x.N with
  | [sf, ar] => decide (x.ps = [sf, ar]) && scB [sf, ar] [sf, ar] (defScope x.st) && xiB (defBody x.st) (defScope x.st) b sf ar q.2
  | _ => false)
theorem glob_of {I : Info} {fn : List He.DefD} {w : World} {h : Heap} {K : PySem.W.Frag} {mg : Str → Option Value} (hot : I.hot = false) (inn : I.inner = false) (c : SaysM (faOf I) fn (tsOf I) (exB I) w K) (KX : K.In h) (G : h.Ns mainGlobals mg) (kp : ∀ (f : Nat) (n : Str) (np : Nat), I.fns[f]? = some (n, np) → PySem.W.keepIn K (.ref (He.fAd K (atF I f))) = true)
    (ics : I.ics.all (icB I) = true) (xds : ∀ q ∈ I.xis, ∃ (b : Str) (x : DefS), b ∈ I.xbs ∧ b ∈ I.clss ∧ xdB I q b x = true ∧ x.d ∈ fn ∧ BindOk x) : Glob (topOf I K) I w K mg := by
  have fc : ∀ f ∈ faOf I, f.ok K = true := fun f hf => c.t.d.facts hf
  have ex := c.more
  unfold exB at ex
  simp only [Bool.and_eq_true] at ex
  obtain ⟨⟨⟨⟨x4, x5⟩, x1⟩, x2⟩, x3⟩ := ex
  have efa : ∀ (f : Nat) (n : Str) (np : Nat), I.fns[f]? = some (n, np) → nmF I f = n := fun f n np e => by unfold nmF; rw [e]
  have eca : ∀ (i : Nat) (n : Str), I.clss[i]? = some n → nmC I i = n := fun f n e => by unfold nmC; rw [e]
  have glC : ∀ n ∈ I.clss, mg n = some (.ref (He.ga K n)) := fun n hn => He.glo_ok KX G (fc (.glo n) (by unfold faOf; simp [hn]))
  refine ⟨rfl, hot, inn, fun X hK hm cc ic e => ?_, fun X hK hm cc f hx => ?_, fun _ => rfl, fun _ _ _ z => z, fun x hx => ?_, fun g d e => ?_, rfl, fun X hK hm cc n e => ?_, fun g tab e => ?_, fun f n np e hlt => ?_⟩
  · have hi := List.mem_of_getElem? e
    have b := List.all_eq_true.mp ics _ hi
    unfold icB at b
    simp only [Bool.and_eq_true, decide_eq_true_eq] at b
    obtain ⟨⟨b1, b2⟩, b3⟩ := b
    have ein : icN I cc = ic.name := by unfold icN; rw [e]
    have eif : icF I cc = ic.fields := by unfold icF; rw [e]
    have fi : ∀ f ∈ icFa ic, f.ok K = true := fun f hf => fc f (by
      unfold faOf
      simp only [List.mem_append, List.mem_flatMap]
      exact .inr (.inr (.inr (.inr (.inr ⟨ic, hi, hf⟩)))))
    have ia : (topOf I K).ia cc = He.ga K ic.name := by show He.ga K (icN I cc) = _; rw [ein]
    refine ⟨?_, ?_, eif, b3, fun f hf => ?_, fun m g hl => ?_, ?_⟩
    · rw [hK, ia]; exact He.cls_ok (fi (.cls ic.name) (by unfold icFa; simp))
    · rw [hm, ia]; exact He.glo_ok KX G (fi (.glo ic.name) (by unfold icFa; simp))
    · rw [hK, ia]; exact He.noat_ok (fi (.noat ic.name f) (by unfold icFa; simp [hf]))
    · have hml := lookS_mem hl
      have at_ := of_decide_eq_true (List.all_eq_true.mp b2 _ hml)
      rw [hK, ia]
      have := He.meth_ok (fi (.meth ic.name m) (by unfold icFa; simp; exact ⟨_, hml⟩))
      have e2 : (topOf I K).fa g = He.ma K (He.ga K ic.name) m := by
        show He.fAd K (atF I g) = _
        rw [at_]
        rfl
      rw [e2]; exact this
    · rw [hK, ia]
      have := He.mkr_ok (fi (.mkr ic.name) (by unfold icFa; simp))
      have e2 : (topOf I K).fa ic.init = He.ma K (He.ga K ic.name) "__init__" := by
        show He.fAd K (atF I ic.init) = _
        rw [b1]
        rfl
      rw [e2]; exact this
  · have q := List.all_eq_true.mp x4 _ hx
    unfold xiC at q
    simp only [Bool.and_eq_true, decide_eq_true_eq] at q
    obtain ⟨⟨⟨⟨⟨q1, q2⟩, q3⟩, q4⟩, q5⟩, q6⟩ := q
    obtain ⟨b, x, hb, hbc, hd, hfn, bo⟩ := xds _ hx
    unfold xdB at hd
    simp only [Bool.and_eq_true, decide_eq_true_eq] at hd
    obtain ⟨d1, d2⟩ := hd
    split at d2
    · rename_i sf ar hN
      simp only [Bool.and_eq_true, decide_eq_true_eq] at d2
      obtain ⟨⟨d3, d4⟩, d5⟩ := d2
      obtain ⟨fd, Fd⟩ := c.t.d.defs hfn
      have Fd : FunD K x.name x.qual (defArgs x.st) (defBody x.st) (defScope x.st) [] [] (He.fAd K x.at_) fd := Fd
      rw [d1] at Fd
      have B := biB_ok (List.all_eq_true.mp x5 _ hb)
      have mb := glC b hbc
      refine ⟨by rw [hK]; exact oexB_ok q1, by rw [hK]; show PySem.W.findIn K (.ref (He.ga K (nmC I cc))) (xfOf I cc) = _; rw [q6]; exact He.eqO_ok q2, by rw [hK]; exact xfB_ok q3, L2N.CX X.prog X.w, He.fAd K (nmC I cc, some ("__init__" : Str)), fd, [sf, ar], by rw [hK]; exact He.eqO_ok q4, by rw [hK]; exact q5, ?_, ?_, ?_⟩
      · rw [hK, hm]
        have := fn_xi (P := X.prog) (w := X.w) (base := X.base) (CX := L2N.CX X.prog X.w) (C := He.ga K (nmC I cc)) Fd (scB_ok d4) d5 B mb (oexB_ok q1) (He.eqO_ok q2)
        show FnOk X.prog X.w K mg X.base (L2N.CX X.prog X.w) 1 _ fd [sf, ar] (spXi K (He.ga K (nmC I cc)) (xfOf I cc))
        rw [q6]
        exact this
      · rw [hK]
        refine Fd.bindsN fun kV doc pm an cdv ct us hl => ?_
        have := bo kV doc pm an cdv ct us (by rw [d3]; exact hl)
        rw [d3] at this
        exact this
      · rintro outer H s e s' ⟨_, _, _, _, _, _, _, _, _, _, _, _, _, z⟩
    · cases d2
  · have hx' : x ∈ I.blts := by simpa using hx
    exact He.free_ok KX G (fc _ (by unfold faOf; simp [hx']))
  · have q := List.all_eq_true.mp x3 _ (lookS_mem e)
    unfold glB1 at q
    cases e1 : PySem.W.nsIn K mainGlobals g with
    | none => rw [e1] at q; cases q
    | some o =>
      rw [e1] at q
      cases o with
      | none => cases q
      | some u =>
        have mm := PySem.W.mg_of KX G e1
        cases u with
        | str y t => cases d with
          | str x => exact ⟨.str x, _, mm, ⟨t, by rw [of_decide_eq_true q]⟩, fun F => .str x⟩
          | _ => cases q
        | int y t => cases d with
          | int x => exact ⟨.int x, _, mm, ⟨t, by rw [of_decide_eq_true q]⟩, fun F => .int x⟩
          | _ => cases q
        | _ => cases q
  · have hn : n ∈ I.clss := List.mem_of_getElem? e
    have hi : cc < I.clss.length := (List.getElem?_eq_some_iff.mp e).1
    have q := List.all_eq_true.mp x1 cc (List.mem_range.mpr hi)
    unfold clsB at q
    rw [Bool.and_eq_true] at q
    obtain ⟨q1, q2⟩ := q
    have q2' : ∀ c', c' < I.clss.length → PySem.W.kitOne K (.ref (He.ga K (nmC I c'))) (.ref (He.ga K (nmC I cc))) = some (c' == cc || cc == 0) ∧ PySem.W.exmOne K (.ref (He.ga K (nmC I c'))) (.ref (He.ga K (nmC I cc))) = some (c' == cc || cc == 0) := fun c' hc => by
      have z := List.all_eq_true.mp q2 c' (List.mem_range.mpr hc)
      simp only [Bool.and_eq_true, decide_eq_true_eq] at z
      exact z
    have en := eca cc n e
    have key : xiN I cc = false → PySem.W.excIn K (He.ga K (nmC I cc)) He.veBase "ValueError.__new__" = true ∧ PySem.W.keepIn K (.ref (He.ga K (nmC I cc))) = true ∧ PySem.W.subIn K (.ref (He.ga K (nmC I cc))) (.type "BaseException") = some true ∧ PySem.W.typeIn K (.ref (He.ga K (nmC I cc))) = some (.type "type") := fun hx =>
      He.exc_ok (fc (.exc (nmC I cc)) (by
        unfold faOf
        simp only [List.mem_append, List.mem_map]
        refine .inr (.inr (.inl ⟨_, ?_, rfl⟩))
        unfold excN
        exact List.mem_map.mpr ⟨cc, List.mem_filter.mpr ⟨List.mem_range.mpr hi, by rw [hx]; rfl⟩, rfl⟩))
    have ke : PySem.W.keepIn K (.ref (He.ga K (nmC I cc))) = true := by
      cases hx : xiN I cc with
      | false => exact (key hx).2.1
      | true =>
        obtain ⟨z, hz, ez⟩ := List.any_eq_true.mp hx
        have ez : z.1 = cc := by simpa using ez
        have q := List.all_eq_true.mp x4 _ hz
        unfold xiC at q
        simp only [Bool.and_eq_true] at q
        rw [ez] at q
        exact (oexB_ok q.1.1.1.1.1).kC
    refine ⟨?_, ?_, ?_, fun c' hc => ?_, fun c' hc => ?_, fun hx => ⟨"ValueError", "ValueError.__new__", _, He.veBase, PySem.F.excBase_ValueError, ?_, ?_⟩⟩
    · rw [hm, glC n hn]
      show some (Value.ref (He.ga K n)) = some (.ref (He.ga K (nmC I cc)))
      rw [en]
    · rw [hK]; exact ke
    · rw [hK]; exact excB_ok q1
    · rw [hK]; exact (q2' c' hc).1
    · rw [hK]; exact (q2' c' hc).2
    · rw [hK]; exact (key hx).1
    · refine raises_own ?_ ?_
      · rw [hK]; exact (key hx).2.2.1
      · rw [hK]; exact (key hx).2.2.2
  · obtain ⟨i, hi⟩ := lookS_at e
    have hm := lookS_mem e
    have q := List.all_eq_true.mp x2 _ hm
    have hg := He.glo_ok KX G (fc (.glo g) (by
      unfold faOf
      simp only [List.mem_append, List.mem_map]
      exact .inr (.inr (.inr (.inr (.inl ⟨_, hm, rfl⟩))))))
    obtain ⟨es, n, D⟩ := c.t.tab i (t := (fun K => He.ga K g, tab.map (·.1))) (by unfold tsOf; rw [List.getElem?_map, hi]; rfl)
    refine ⟨He.ga K g, es, n, hg, D, fun z => ?_⟩
    have at_ : K.lookup (He.ga K g) = _ := D.at_
    have q' : tabAt K I g tab = true := q
    unfold tabAt at q'
    rw [at_] at q'
    have t := (tabEs_ok (z := z) q').1
    unfold PySem.W.nsIn
    rw [at_]
    exact t
  · have hm : (n, np) ∈ I.fns.take I.ng := List.mem_of_getElem? (i := f) (by rw [List.getElem?_take, if_pos hlt]; exact e)
    have hg := He.glo_ok KX G (fc (.glo n) (by
      unfold faOf
      simp only [List.mem_append]
      exact .inl (List.mem_map.mpr ⟨_, hm, rfl⟩)))
    have en := efa f n np e
    have ea : (topOf I K).fa f = He.ga K n := by
      show He.fAd K (atF I f) = _
      unfold atF
      rw [if_pos (show f.blt I.ng = true from Nat.ble_eq_true_of_le hlt), en]
      rfl
    refine ⟨by rw [hg, ea], ?_⟩
    exact kp f n np e
end Mi

set_option maxRecDepth 100000
set_option maxHeartbeats 2000000
/-! Mi, eighteenth part: the law's end. -/
namespace Mi
open PySem PySem.Spec PyProof.Rows L2
/-- a law's call, from the promise of its def -/
theorem end_call {P : Program} {w : World} {K : PySem.W.Frag} {mg mb : Str → Option Value} {k : Nat} {fa a : Addr} {sp : Sp} {s₁ : Shared} {vs : List Value} {ns : List Int}
    (KX : K.In s₁.heap) (gm : s₁.heap.Ns mainGlobals mg) (gb : s₁.heap.Ns builtinsNs mb) (bb : ∀ x : Str, x ≠ "__name__" → mb x = bootBuiltins x) (nolim : s₁.heap.NoLimit) (nogen : s₁.gens = #[])
    (obj : s₁.heap.get? a = some { cls := .type "list", data := .seq vs.toArray }) (hints : IntsAre vs ns) (short : ns.length ≤ sizeLine) (rm : Room k callerA)
    (prom : ∀ base : Heap, ∃ (fd : FuncData) (ps : List Str), FnG P w K mg base k fa fd ps sp ∧ BindsTo s₁ fd ⟨[.ref a], []⟩ (ps.zip [.ref a]))
    (give : ∀ H : Hp, Only H → SqL K H a (ns.map V.int) → sp [.ref a] H (fun v _ => v = .bl true) fun _ _ _ => False) :
    codeAny (model P w) callerA (.call (.ref fa) ⟨[.ref a], []⟩) (fun r s' => r = .ok (.ret (.bool true)) ∧ OldK s₁.heap s'.heap ∧ s'.os = s₁.os ∧ AllBare s'.gens) s₁ := by
  have rel := vals_ints hints
  have lens := hints.length
  -- whichever abstract heap tells of the script alone
  have main : ∀ H : Hp, Only H → SqL K H a (ns.map V.int) → HOk P w H s₁.heap → (∀ b, H b ≠ none → b = a) → (H a ≠ none → K.lookup a = none) →
      codeAny (model P w) callerA (.call (.ref fa) ⟨[.ref a], []⟩) (fun r s' => r = .ok (.ret (.bool true)) ∧ OldK s₁.heap s'.heap ∧ s'.os = s₁.os ∧ AllBare s'.gens) s₁ := by
    intro H only seq ok alone out
    have noD : ∀ {b : Addr} {o : Obj} {es : Array DictEntry} {ep : Nat}, s₁.heap.get? b = some o → o.data = .dict es ep → H b = none := fun {b o es ep} e d => by
      by_cases q : H b = none
      · exact q
      · have e' := alone b q
        subst e'
        rw [obj] at e
        cases e
        exact absurd (show Data.seq vs.toArray _ = Data.dict es ep from d) (fun z => nomatch z)
    have nsB : ∀ {b : Addr} {m : Str → Option Value}, s₁.heap.Ns b m → (hidT s₁.heap H).Ns b m := fun {b m} ⟨o, es, ep, e, d, r⟩ => ⟨o, es, ep, hidT_get e (noD e d), d, r⟩
    have kB : K.In (hidT s₁.heap H) := fun b o e => by
      refine hidT_get (KX b o e) ?_
      by_cases q : H b = none
      · exact q
      · have e' := alone b q
        subst e'
        rw [out q] at e
        cases e
    obtain ⟨mc, l1, l2⟩ := nolim
    have env0 : Env0 P w K mg (hidT s₁.heap H) callerA [] s₁ H := ⟨rfl, ⟨kB, nsB gm, ⟨mb, nsB gb, bb⟩, ⟨mc, nsB l1, l2⟩⟩, fun b o e => of_hidT e, Nat.le_of_eq (hidT_size _ _), trivial, fun b hb => absurd (show b ∈ ([] : List Addr) from hb) (by simp), ok, .of_eq nogen⟩
    obtain ⟨fd, ps, gg, bt⟩ := prom (hidT s₁.heap H)
    have go := gg.run callerA [] s₁ H ⟨[.ref a], []⟩ [.ref a] [.ref a] _ _ rm rfl env0 bt (.cons rfl .nil) (give H only seq)
    refine codeAny_mono go fun r s' h => ?_
    match r, h with
    | .error e, ⟨_, _, _, _, _, _, _, _, _, _, _, _, z⟩ => exact z.elim
    | .ok .next, h => exact h.elim
    | .ok .brk, h => exact h.elim
    | .ok .cont, h => exact h.elim
    | .ok (.ret u), ⟨v, H', os, bare, un, ok', rv, q⟩ =>
      have q' : v = .bl true := q
      subst q'
      obtain rfl : u = Value.bool true := rv
      refine ⟨rfl, OldK.of_keep fun b o e => ?_, os, bare⟩
      rcases only b with z | ⟨ob, xs, z⟩
      · exact un.keep b o e z (fun y => absurd (show b ∈ ([] : List Addr) from y) (by simp)) (by simp)
      · obtain ⟨e1, _⟩ := ok b _ z
        obtain ⟨e2, _⟩ := ok' b _ (un.frzs b ob _ z)
        rw [e] at e1
        cases e1
        exact e2
  by_cases hk : K.lookup a = none
  · refine main (fun b => if b = a then some (.frz { cls := .type "list", data := .seq vs.toArray } (.lst (ns.map V.int))) else none) (fun b => ?_) (.inl (.inr ⟨{ cls := .type "list", data := .seq vs.toArray }, if_pos rfl⟩)) (fun b u z => ?_) (fun b z => ?_) fun _ => hk
    · by_cases hb : b = a
      · exact .inr ⟨_, _, if_pos hb⟩
      · exact .inl (if_neg hb)
    · by_cases hb : b = a
      · have z' := (if_pos hb).symm.trans z
        cases z'
        subst hb
        exact ⟨obj, by rw [List.length_map]; exact short, vs, _, rel, obj⟩
      · exact absurd ((if_neg hb).symm.trans z) (fun y => nomatch y)
    · by_cases hb : b = a
      · exact hb
      · exact absurd (if_neg hb) z
  · obtain ⟨o, hk⟩ := Option.ne_none_iff_exists'.mp hk
    have e := KX a o hk
    rw [obj] at e
    cases e
    exact main (fun _ => none) (fun _ => .inl rfl) (.inr ⟨_, vs.toArray, _, hk, rfl, rfl, rfl, by rw [List.size_toArray, lens]; exact short, by simpa using rel⟩) (fun b u z => absurd z (fun y => nomatch y)) (fun b z => absurd rfl z) fun z => absurd rfl z
theorem dq_ints {K : PySem.W.Frag} {F : Hp} : ∀ ns : List Int, DqAll K F (ns.map V.int) (ns.map PyData.int)
  | [] => .nil
  | n :: r => .cons (.int n) (dq_ints r)
theorem mi_walk {l : PySem.W.OpenLaw} {n dep nh lawi : Nat} {q : Program} {loose : List Str} {XP : (Str → Option Value) → Heap → Prop} {d : DefRec} {I : Info} {ds xs : List DefS}
    (hn : l.most = some n) (hn2 : n ≤ sizeLine) (hdf : d.params.defaults = []) (hot : I.hot = false) (inn : I.inner = false) (stat : ∀ (i : Nat) (x : DefS), ds[i]? = some x → defB I i x = true) (len : I.fns.length = ds.length) (bd : ∀ x ∈ ds, BindOk x)
    (ics : I.ics.all (icB I) = true) (xds : ∀ q ∈ I.xis, ∃ (b : Str) (x : DefS), b ∈ I.xbs ∧ b ∈ I.clss ∧ xdB I q b x = true ∧ x ∈ xs ∧ BindOk x)
    (hd : I.fns[lawi]? = some (d.name, 1)) (hl : I.hfns.contains lawi = false) (hlg : lawi < I.ng) (rm : Room (dep + 1) callerA)
    (law : ∀ ns : List Int, ns.length ≤ n → ∃ h', callN (ds.map (·.F)) dep lawi [.ro (ns.map .int)] [] = .ok (.d (.bool true)) h') :
    PySem.W.WalkO q loose XP (hookM nh (faOf I) (ds.map (·.d) ++ xs.map (·.d)) (tsOf I) (exB I)).says l.row.toRowW d [] (fun f vs => PySem.call f vs) := by
  refine Att.attach_call hn hdf fun w s₀ s₁ mg mb fa o pm cd doc a vs ns G Y ho hd' hcd hmg hobj hints hlen hg => ?_
  obtain ⟨K, KX, c⟩ := Y
  have defs : ∀ (i : Nat) (nm : Str) (np : Nat), I.fns[i]? = some (nm, np) → ∃ x, ds[i]? = some x ∧ x.at_ = atF I i ∧ x.ps.length = np ∧ x.F.np = np ∧ ∃ fd, FunD K x.name x.qual (defArgs x.st) (defBody x.st) (defScope x.st) [] [] (He.fAd K (atF I i)) fd := fun i nm np e => by
    have hi : i < ds.length := by rw [← len]; exact (List.getElem?_eq_some_iff.mp e).1
    have ex := List.getElem?_eq_getElem hi
    have b := stat i _ ex
    unfold defB at b
    rw [e] at b
    simp only [Bool.and_eq_true, decide_eq_true_eq, beq_iff_eq] at b
    obtain ⟨⟨⟨⟨_, ⟨b1, b2⟩, b3⟩, _⟩, _⟩, _⟩ := b
    obtain ⟨fd, F⟩ := c.t.d.defs (d := (ds[i]).d) (List.mem_append_left _ (List.mem_map_of_mem (List.getElem_mem hi)))
    refine ⟨_, ex, b1, b2, b3, fd, ?_⟩
    rw [← b1]
    exact F
  have G0 := glob_of hot inn c KX G.T.g (fun f nm np e => by
    obtain ⟨x, _, _, _, _, fd, F⟩ := defs f nm np e
    exact F.kp) ics fun q hq => by
      obtain ⟨b, x, h1, h2, h3, h4, h5⟩ := xds q hq
      exact ⟨b, x, h1, h2, h3, List.mem_append_right _ (List.mem_map_of_mem h4), h5⟩
  have D : ∀ f nm np, I.fns[f]? = some (nm, np) → DefOk (topOf I K) I (ds.map (·.F)) K f nm np := fun f nm np e => by
    obtain ⟨x, ex, e1, e2, e3, fd, F⟩ := defs f nm np e
    have b := stat f x ex
    unfold defB at b
    simp only [Bool.and_eq_true, Bool.or_eq_true, Bool.not_eq_true', beq_iff_eq] at b
    obtain ⟨⟨⟨⟨b1, _⟩, b4⟩, b5⟩, b6⟩ := b
    refine ⟨_, _, _, fd, x.N, x.ps, x.F, x.name, x.qual, F, ?_, scB_ok b1, e2, by rw [List.getElem?_map, ex]; rfl, e3, b4, fun z => ?_, fun z => ?_⟩
    · refine F.bindsN fun kV doc pm an cdv ct us hl => ?_
      exact bd x (List.mem_of_getElem? ex) kV doc pm an cdv ct us hl
    · rcases b5 with y | y
      · rw [z] at y; cases y
      · exact y
    · rcases b6 with y | y
      · rw [z] at y; cases y
      · exact y
  have efa : fa = (topOf I K).fa lawi := by
    have := (G0.fns lawi _ _ hd hlg).1
    rw [hmg] at this
    exact Value.ref.inj (Option.some.inj this)
  have A := fun base => (all_ok (P := l.prog) (w := w) (base := base) G0 D dep lawi _ _ hd).1 hl
  have prom : ∀ base, ∃ (fd : FuncData) (ps : List Str), FnG l.prog w K mg base (dep + 1) fa fd ps (spF (topOf I K) (callN (ds.map (·.F)) dep) lawi 1) ∧ BindsTo s₁ fd ⟨[.ref a], []⟩ (ps.zip [.ref a]) := fun base => by
    obtain ⟨fd, ps, l', gg, bnd⟩ := A base
    have bt := bnd s₁ [.ref a] KX (by simpa using l'.symm)
    rw [List.append_nil] at bt
    exact ⟨fd, ps, by rw [efa]; exact gg, bt⟩
  refine end_call KX G.T.g G.T.b G.T.builtins G.T.nolimit hg hobj hints (Nat.le_trans hlen hn2) rm prom fun H hO hS => ?_
  obtain ⟨h', eL⟩ := law ns hlen
  refine ⟨rfl, H, [], [], [.ro (ns.map .int)], ⟨fun _ _ e => e, rfl, List.nodup_nil, fun i c a e => by simp at e⟩, .cons ⟨a, _, rfl, hS, dq_ints ns⟩ .nil, ?_⟩
  rw [eL]
  intro F' m' H' v S' X' r
  cases r
  rfl
end Mi

set_option maxRecDepth 100000
set_option maxHeartbeats 1000000
/-! Mi, the evaluator's own laws: calls, loops, comprehensions; the defs that every law brings. -/
namespace Mi
open PySem L2
def In (is : List Int) : List W := is.map fun i => .d (.int i)
theorem In_len (is : List Int) : (In is).length = is.length := by simp [In]
theorem In_app (a b : List Int) : In a ++ In b = In (a ++ b) := by simp [In]
theorem In_nil : In [] = [] := rfl
theorem In_one (a : List Int) (x : Int) : In a ++ [.d (.int x)] = In (a ++ [x]) := by simp [In]
theorem In_drop (a : List Int) : (In a).dropLast = In a.dropLast := by simp [In]
theorem In_rev (a : List Int) : (In a).reverse = In a.reverse := by simp [In]
theorem In_emp (a : List Int) : (In a).isEmpty = a.isEmpty := by simp [In]
theorem In_nl (a : List Int) : In a = [] ↔ a = [] := by simp [In]
theorem In_get (a : List Int) (i : Nat) : (In a)[i]? = a[i]?.map fun x => .d (.int x) := by simp [In]
theorem toDs_map : ∀ ds : List PyData, toDs (ds.map .d) = some ds
  | [] => rfl
  | d :: r => by simp [toDs, toDs_map r]
theorem toDs_In (is : List Int) : toDs (In is) = some (is.map .int) := by
  have := toDs_map (is.map .int)
  rw [List.map_map] at this
  exact this
theorem In_map (a : List Int) : (a.map PyData.int).map W.d = In a := by
  rw [List.map_map]
  rfl
theorem callN_eq {P : List FD} {n f : Nat} {fd : FD} {ws : List W} {h : MH} (e : P[f]? = some fd) : callN P (n + 1) f ws h = runF (callN P n) fd ws h := by
  show (match P[f]? with
    | some fd => runF (callN P n) fd ws h
    | none => .stuck) = _
  rw [e]
theorem refs_d : ∀ ds : List PyData, refsOf (ds.map .d) = []
  | [] => rfl
  | d :: r => refs_d r
theorem renum_d : ∀ (k : Nat) (ds : List PyData), renum k (ds.map .d) = ds.map .d
  | _, [] => rfl
  | k, d :: r => by
    show W.d d :: renum k (r.map .d) = _
    rw [renum_d k r]
    rfl
/-- a call with data alone -/
theorem callW_data {Φ : Nat → List W → M W} {mu : Bool} {f : Nat} {ds : List PyData} {y : PyData} {hc : MH} (h : MH) (e : Φ f (ds.map .d) [] = .ok (.d y) hc) : callW Φ mu f (ds.map .d) h = .ok (.d y) h := by
  unfold callW
  simp only [refs_d, nodupN, cellsAt, renum_d, e, putBack, resW, if_true]
/-- .. that hands a new list back -/
theorem callW_lst {Φ : Nat → List W → M W} {f : Nat} {ds ys : List PyData} {hc : MH} {j : Nat} {ws : List W} (h : MH) (e : Φ f (ds.map .d) [] = .ok (.ref j) hc) (ej : hc[j]? = some (.lst ws)) (ey : toDs ws = some ys) : callW Φ false f (ds.map .d) h = .ok (.d (.list ys)) h := by
  unfold callW
  simp only [refs_d, nodupN, cellsAt, renum_d, e, putBack, resW, if_true, List.getElem?_nil, ej, ey, Bool.false_eq_true, if_false]
/-- .. that raises -/
theorem callW_exc {Φ : Nat → List W → M W} {mu : Bool} {f : Nat} {ds : List PyData} {x : Exn} {hc : MH} (h : MH) (e : Φ f (ds.map .d) [] = .exc x hc) : callW Φ mu f (ds.map .d) h = .exc x h := by
  unfold callW
  simp only [refs_d, nodupN, cellsAt, renum_d, e, putBack, if_true]
/-- a call with one cell in front -/
theorem callW_cell {Φ : Nat → List W → M W} {mu : Bool} {f i : Nat} {ds : List PyData} {c c' : Cell} {y : PyData} {h : MH} (hi : h[i]? = some c) (fc : flatC c = true) (e : Φ f (.ref 0 :: ds.map .d) [c] = .ok (.d y) [c']) (fc' : flatC c' = true) :
    callW Φ mu f (.ref i :: ds.map .d) h = .ok (.d y) (h.set i c') := by
  unfold callW
  have e1 : refsOf (.ref i :: ds.map W.d) = [i] := by simp only [refsOf, refs_d]
  have e2 : renum 0 (.ref i :: ds.map W.d) = .ref 0 :: ds.map .d := by simp only [renum, renum_d]
  have e3 : cellsAt h [i] = some [c] := by simp [cellsAt, hi, fc]
  have e4 : nodupN [i] = true := by simp [nodupN]
  simp only [e1, e2, e3, e4, e, if_true, putBack, fc', resW]
/-- the cell of the draws -/
abbrev Dc (is : List Int) : Cell := .lst (In is)
theorem flat_Dc (is : List Int) : flatC (Dc is) = true := by
  show (toDs (In is)).isSome = true
  rw [toDs_In]
  rfl
/-! ### the defs that every law brings -/
def bNext : Ss := .cons (.ite (.val (.var 0)) (.cons (.ret (.meth .pop (.var 0) .nil)) .nil) .nil) (.cons (.ret (.lit (.int 0))) .nil)
def nextI (is : List Int) : Int := is.getLast?.getD 0
theorem next_c {P : List FD} {n f : Nat} (e : P[f]? = some ⟨1, 1, bNext⟩) (is : List Int) : callN P (n + 1) f [.ref 0] [Dc is] = .ok (.d (.int (nextI is))) [Dc is.dropLast] := by
  rw [callN_eq e]
  rcases List.eq_nil_or_concat is with rfl | ⟨l, a, rfl⟩
  · rfl
  · simp [runF, bNext, evSs, evS, evT, evE, evEs, lift, truV, recvOk, listOf, mthV, popV, cellL, nextI, In_nl, In_len, In_drop]
    simp [In]
theorem next_w {P : List FD} {n f i : Nat} {mu : Bool} {h : MH} (e : P[f]? = some ⟨1, 1, bNext⟩) (is : List Int) (hi : h[i]? = some (Dc is)) : callW (callN P (n + 1)) mu f [.ref i] h = .ok (.d (.int (nextI is))) (h.set i (Dc is.dropLast)) :=
  callW_cell (ds := []) hi (flat_Dc is) (next_c e is) (flat_Dc _)
/-- the place of a number in a list that is not empty -/
def placeI (v : Int) (n : Nat) : Nat := (v.fmod n).toNat
theorem place_lt {v : Int} {n : Nat} (h : 0 < n) : placeI v n < n := by
  unfold placeI
  have h1 := Int.fmod_nonneg_of_pos v (show (0 : Int) < n by omega)
  have h2 := Int.fmod_lt_of_pos v (show (0 : Int) < n by omega)
  omega
theorem fmod_place {v : Int} {n : Nat} (h : 0 < n) : v.fmod n = (placeI v n : Int) := by
  unfold placeI
  have h1 := Int.fmod_nonneg_of_pos v (show (0 : Int) < n by omega)
  omega
theorem atI_place {α : Type} {xs : List α} {v : Int} (h : 0 < xs.length) : atI xs (v.fmod xs.length) = some (xs[placeI v xs.length]'(place_lt h)) := by
  rw [fmod_place h]
  exact atI_nat (List.getElem?_eq_getElem (place_lt h))
def bPick (next : Nat) : Ss := .cons (.ret (.idx (.var 1) (.bin false .Mod (.blt .int (.cons (.call next false (.cons (.var 0) .nil)) .nil)) (.blt .len (.cons (.var 1) .nil))))) .nil
theorem pick_c {P : List FD} {n f g : Nat} (e : P[f]? = some ⟨2, 2, bPick g⟩) (eg : P[g]? = some ⟨1, 1, bNext⟩) (is : List Int) {ds : List PyData} (hd : 0 < ds.length) :
    callN P (n + 2) f [.ref 0, .d (.list ds)] [Dc is] = .ok (.d (ds[placeI (nextI is) ds.length]'(place_lt hd))) [Dc is.dropLast] := by
  rw [callN_eq e]
  have hw : callW (callN P (n + 1)) false g [.ref 0] [Dc is] = .ok (.d (.int (nextI is))) [Dc is.dropLast] := next_w (i := 0) (h := [Dc is]) eg is rfl
  have hl : ds ≠ [] := fun z => by rw [z] at hd; exact absurd hd (by decide)
  have ha : atI (ds.map W.d) ((nextI is).fmod ds.length) = some (.d (ds[placeI (nextI is) ds.length]'(place_lt hd))) := by
    have := atI_place (xs := ds.map W.d) (v := nextI is) (by simpa using hd)
    simp only [List.length_map, List.getElem_map] at this
    exact this
  simp [runF, bPick, evSs, evS, evE, evEs, lift, hw, bltV, intV, lenV, seqOf, binV, intOp, idxV, hl, ha]
theorem pick_w {P : List FD} {n f g i : Nat} {mu : Bool} {h : MH} (e : P[f]? = some ⟨2, 2, bPick g⟩) (eg : P[g]? = some ⟨1, 1, bNext⟩) (is : List Int) {ds : List PyData} (hd : 0 < ds.length) (hi : h[i]? = some (Dc is)) :
    callW (callN P (n + 2)) mu f [.ref i, .d (.list ds)] h = .ok (.d (ds[placeI (nextI is) ds.length]'(place_lt hd))) (h.set i (Dc is.dropLast)) :=
  callW_cell (ds := [.list ds]) hi (flat_Dc is) (pick_c e eg is hd) (flat_Dc _)
/-! ### loops -/
/-- a loop over a source that stays, by an invariant of the place -/
theorem forL_inv {src : Src} {tg : List Nat} {tup : Bool} {body : Ev → MH → RS} (Q : Nat → Ev → MH → Prop) : ∀ (ws : List W) (i : Nat) (env : Ev) (h : MH), Q i env h → (∀ i env h, Q i env h → srcOk src h = true) →
    (∀ (j : Nat) (env : Ev) (h : MH) (w : W), ws[j]? = some w → Q (i + j) env h → ∃ env1, setTg tg tup w env = some env1 ∧ ∃ env2 h2, (body env1 h = .ok (.nx env2) h2 ∨ body env1 h = .ok (.cnt env2) h2) ∧ Q (i + j + 1) env2 h2) →
    ∃ env2 h2, forL src tg tup body ws env h = .ok (.nx env2) h2 ∧ Q (i + ws.length) env2 h2
  | [], i, env, h, q, so, _ => ⟨env, h, by simp [forL, so i env h q], by simpa using q⟩
  | w :: ws, i, env, h, q, so, st => by
    obtain ⟨env1, e1, env2, h2, e2, q2⟩ := st 0 env h w rfl (by simpa using q)
    obtain ⟨env3, h3, e3, q3⟩ := forL_inv Q ws (i + 1) env2 h2 (by simpa using q2) so fun j env h u hu q => by
      have := st (j + 1) env h u (by simpa using hu) (by rw [show i + (j + 1) = i + 1 + j by omega]; exact q)
      rw [show i + (j + 1) + 1 = i + 1 + j + 1 by omega] at this
      exact this
    refine ⟨env3, h3, ?_, by rw [List.length_cons, show i + (ws.length + 1) = i + 1 + ws.length by omega]; exact q3⟩
    simp only [forL, so i env h q, if_true, e1]
    rcases e2 with e2 | e2 <;> simp only [e2, e3]
/-- .. that may break off -/
theorem forL_brk {src : Src} {tg : List Nat} {tup : Bool} {body : Ev → MH → RS} (Q : Nat → Ev → MH → Prop) (D : Ev → MH → Prop) : ∀ (ws : List W) (i : Nat) (env : Ev) (h : MH), Q i env h → (∀ i env h, Q i env h → srcOk src h = true) → (∀ env h, Q (i + ws.length) env h → D env h) →
    (∀ (j : Nat) (env : Ev) (h : MH) (w : W), ws[j]? = some w → Q (i + j) env h → ∃ env1, setTg tg tup w env = some env1 ∧ ∃ env2 h2, (body env1 h = .ok (.nx env2) h2 ∧ Q (i + j + 1) env2 h2) ∨ (body env1 h = .ok (.cnt env2) h2 ∧ Q (i + j + 1) env2 h2) ∨ (body env1 h = .ok (.brk env2) h2 ∧ D env2 h2)) →
    ∃ env2 h2, forL src tg tup body ws env h = .ok (.nx env2) h2 ∧ D env2 h2
  | [], i, env, h, q, so, dn, _ => ⟨env, h, by simp [forL, so i env h q], dn env h (by simpa using q)⟩
  | w :: ws, i, env, h, q, so, dn, st => by
    obtain ⟨env1, e1, env2, h2, e2⟩ := st 0 env h w rfl (by simpa using q)
    have go : Q (i + 1) env2 h2 → ∃ env3 h3, forL src tg tup body ws env2 h2 = .ok (.nx env3) h3 ∧ D env3 h3 := fun q2 =>
      forL_brk Q D ws (i + 1) env2 h2 q2 so (fun env h q => dn env h (by rw [List.length_cons, show i + (ws.length + 1) = i + 1 + ws.length by omega]; exact q)) fun j env h u hu q => by
        have := st (j + 1) env h u (by simpa using hu) (by rw [show i + (j + 1) = i + 1 + j by omega]; exact q)
        rw [show i + (j + 1) + 1 = i + 1 + j + 1 by omega] at this
        exact this
    rcases e2 with ⟨e2, q2⟩ | ⟨e2, q2⟩ | ⟨e2, d2⟩
    · obtain ⟨env3, h3, e3, d3⟩ := go (by simpa using q2)
      exact ⟨env3, h3, by simp only [forL, so i env h q, if_true, e1, e2, e3], d3⟩
    · obtain ⟨env3, h3, e3, d3⟩ := go (by simpa using q2)
      exact ⟨env3, h3, by simp only [forL, so i env h q, if_true, e1, e2, e3], d3⟩
    · exact ⟨env2, h2, by simp only [forL, so i env h q, if_true, e1, e2], d2⟩
/-- a comprehension, by an invariant of what was made -/
theorem compL_inv {src : Src} {f : W → M (Option W)} (Q : List W → MH → Prop) : ∀ (ws acc : List W) (h : MH), acc.length + ws.length ≤ 16777216 → Q acc h → (∀ acc h, Q acc h → srcOk src h = true) →
    (∀ (w : W) (acc : List W) (h : MH), w ∈ ws → Q acc h → (∃ y h2, f w h = .ok (some y) h2 ∧ Q (y :: acc) h2) ∨ ∃ h2, f w h = .ok none h2 ∧ Q acc h2) →
    ∃ ys h2, compL src f ws acc h = .ok ys.reverse h2 ∧ Q ys h2
  | [], acc, h, _, q, so, _ => ⟨acc, h, by simp [compL, so acc h q], q⟩
  | w :: ws, acc, h, l, q, so, st => by
    rw [List.length_cons] at l
    have st' := fun u acc h hu => st u acc h (List.mem_cons_of_mem _ hu)
    rcases st w acc h List.mem_cons_self q with ⟨y, h2, e, q2⟩ | ⟨h2, e, q2⟩
    · obtain ⟨ys, h3, e3, q3⟩ := compL_inv Q ws (y :: acc) h2 (by rw [List.length_cons]; omega) q2 so st'
      refine ⟨ys, h3, ?_, q3⟩
      have lt : Nat.blt acc.length 16777216 = true := Nat.ble_eq_true_of_le (by omega)
      simp only [compL, so acc h q, if_true, e, lt, e3]
    · obtain ⟨ys, h3, e3, q3⟩ := compL_inv Q ws acc h2 (by omega) q2 so st'
      exact ⟨ys, h3, by simp only [compL, so acc h q, if_true, e, e3], q3⟩
theorem compL_len {src : Src} {f : W → M (Option W)} : ∀ (ws acc : List W) (h : MH) (ys : List W) (h2 : MH), compL src f ws acc h = .ok ys h2 → ys.length ≤ acc.length + ws.length
  | [], acc, h, ys, h2, e => by
    simp only [compL] at e
    split at e
    · cases e; simp
    · cases e
  | w :: ws, acc, h, ys, h2, e => by
    simp only [compL] at e
    split at e
    · split at e
      · split at e
        · have := compL_len ws _ _ _ _ e
          simp only [List.length_cons] at this ⊢
          omega
        · cases e
      · have := compL_len ws _ _ _ _ e
        simp only [List.length_cons]
        omega
      · cases e
      · cases e
    · cases e
/-- a comprehension that changes nothing and makes one of each -/
theorem compL_map {src : Src} {f : W → M (Option W)} {g : W → W} {h : MH} (so : srcOk src h = true) : ∀ (ws acc : List W), acc.length + ws.length ≤ 16777216 → (∀ w ∈ ws, f w h = .ok (some (g w)) h) → compL src f ws acc h = .ok (acc.reverse ++ ws.map g) h
  | [], acc, _, _ => by simp [compL, so]
  | w :: ws, acc, l, st => by
    rw [List.length_cons] at l
    have lt : Nat.blt acc.length 16777216 = true := Nat.ble_eq_true_of_le (by omega)
    have e3 := compL_map (g := g) so ws (g w :: acc) (by rw [List.length_cons]; omega) fun u hu => st u (List.mem_cons_of_mem _ hu)
    simp only [compL, so, if_true, st w List.mem_cons_self, lt, e3]
    simp

def bNum : Ss := .cons (.ite (.val (.cmp .Lt (.var 0) (.lit (.int 0)))) (.cons (.ret (.bin false .Sub (.lit (.int 0)) (.var 0))) .nil) .nil) (.cons (.ret (.var 0)) .nil)
def absI (i : Int) : Int := if i < 0 then 0 - i else i
theorem num_c {P : List FD} {n f : Nat} (e : P[f]? = some ⟨1, 1, bNum⟩) (i : Int) : callN P (n + 1) f [.d (.int i)] [] = .ok (.d (.int (absI i))) [] := by
  rw [callN_eq e]
  by_cases h : i < 0
  · simp [Mi.runF, Mi.evSs, Mi.evS, Mi.evE, Mi.evT, Mi.evP, Mi.evEs, Mi.evIt, Mi.lift, Mi.bltV, Mi.intV, Mi.lenV, Mi.binV, Mi.intOp, Mi.cmpV, Mi.truV, Mi.mthV, Mi.recvOk, Mi.listOf, Mi.seqOf, Mi.dOf, Mi.cellL, Mi.srcOf, Mi.srcOk, Mi.setTg, Mi.setAll, Mi.mkL, Mi.toDs, Mi.In_len, Mi.In_app, Mi.In_one, Mi.In_drop, Mi.In_rev, Mi.In_emp, Mi.In_nl, Mi.In_get, Mi.toDs_In, bNum, absI, h]
  · simp [Mi.runF, Mi.evSs, Mi.evS, Mi.evE, Mi.evT, Mi.evP, Mi.evEs, Mi.evIt, Mi.lift, Mi.bltV, Mi.intV, Mi.lenV, Mi.binV, Mi.intOp, Mi.cmpV, Mi.truV, Mi.mthV, Mi.recvOk, Mi.listOf, Mi.seqOf, Mi.dOf, Mi.cellL, Mi.srcOf, Mi.srcOk, Mi.setTg, Mi.setAll, Mi.mkL, Mi.toDs, Mi.In_len, Mi.In_app, Mi.In_one, Mi.In_drop, Mi.In_rev, Mi.In_emp, Mi.In_nl, Mi.In_get, Mi.toDs_In, bNum, absI, h]
theorem num_w {P : List FD} {n f : Nat} {mu : Bool} (h : MH) (e : P[f]? = some ⟨1, 1, bNum⟩) (i : Int) : callW (callN P (n + 1)) mu f [.d (.int i)] h = .ok (.d (.int (absI i))) h :=
  callW_data (ds := [.int i]) h (num_c e i)
theorem listOf_In {i : Nat} {h : MH} {is : List Int} (e : h[i]? = some (Dc is)) : listOf (.ref i) h = some (In is) := by
  simp only [listOf, e]
theorem append_c {i : Nat} {h : MH} {is : List Int} {x : Int} (e : h[i]? = some (Dc is)) (l : is.length < 16777216) : appendV (.ref i) [.d (.int x)] h = .ok (.d .none) (h.set i (Dc (is ++ [x]))) := by
  simp [appendV, cellL, e, l, In_len, In_one]
theorem extend_c {i : Nat} {h : MH} {is js : List Int} (e : h[i]? = some (Dc is)) (l : is.length + js.length ≤ 16777216) : extendV (.ref i) [.d (.list (js.map .int))] h = .ok (.d .none) (h.set i (Dc (is ++ js))) := by
  have lt : lineOk (is.length + js.length) = true := Nat.ble_eq_true_of_le l
  simp only [extendV, cellL, e, listOf, In_map, In_len, lt, In_app, if_true]
theorem reverse_c {i : Nat} {h : MH} {is : List Int} (e : h[i]? = some (Dc is)) : reverseV (.ref i) [] h = .ok (.d .none) (h.set i (Dc is.reverse)) := by
  simp [reverseV, cellL, e, In_rev]
def bDrawsIn : Ss :=
  .cons (.ite (.val (.cmp .Eq (.var 3) (.lit (.int 0)))) (.cons .brk .nil) .nil)
  (.cons (.ex (.meth .append (.var 1) (.cons (.bin false .Mod (.blt .int (.cons (.var 3) .nil)) (.lit (.int 1000))) .nil)))
  (.cons (.set 3 (.bin false .FloorDiv (.var 3) (.lit (.int 1000)))) .nil))
def bDrawsOne (num : Nat) : Ss :=
  .cons (.set 3 (.call num false (.cons (.var 2) .nil)))
  (.cons (.ite (.val (.cmp .GtE (.var 3) (.lit (.int 1000000000000000000))))
    (.cons (.for [4] false (.rng1 (.lit (.int 60))) bDrawsIn) .nil)
    (.cons (.set 5 (.bin false .Mod (.blt .int (.cons (.bin false .Add (.bin false .Mult (.var 3) (.lit (.int 48271))) (.lit (.int 11))) .nil)) (.lit (.int 2147483647))))
    (.cons (.set 6 (.bin false .Mod (.blt .int (.cons (.bin false .Add (.bin false .Mult (.var 5) (.lit (.int 69621))) (.var 3)) .nil)) (.lit (.int 2147483629))))
    (.cons (.ex (.meth .extend (.var 1) (.cons (.lst false (.cons (.bin false .Mod (.blt .int (.cons (.var 3) .nil)) (.lit (.int 1000))) (.cons (.bin false .Mod (.blt .int (.cons (.var 5) .nil)) (.lit (.int 1000))) (.cons (.bin false .Mod (.blt .int (.cons (.var 6) .nil)) (.lit (.int 1000))) .nil)))) .nil))) .nil)))) .nil)
def bDraws (num : Nat) : Ss :=
  .cons (.set 1 (.lst true .nil)) (.cons (.for [2] false (.over (.var 0)) (bDrawsOne num)) (.cons (.ex (.meth .reverse (.var 1) .nil)) (.cons (.ret (.var 1)) .nil)))
theorem rng_len : ∀ (n : Nat) (i : Int), (rngFrom i n).length = n
  | 0, _ => rfl
  | n + 1, i => by
    show (rngFrom (i + 1) n).length + 1 = _
    rw [rng_len n]
theorem rng_at : ∀ (n : Nat) (i : Int) (j : Nat) (w : W), (rngFrom i n)[j]? = some w → w = .d (.int (i + j)) ∧ j < n
  | 0, _, _, _, e => by simp [rngFrom] at e
  | n + 1, i, 0, w, e => by
    simp [rngFrom] at e
    exact ⟨by rw [← e]; simp, by omega⟩
  | n + 1, i, j + 1, w, e => by
    obtain ⟨h1, h2⟩ := rng_at n (i + 1) j w (by simpa [rngFrom] using e)
    exact ⟨by rw [h1]; congr 2; omega, by omega⟩
theorem mulOk_r {i j : Int} (h : j < 18446744073709551616) (h2 : -18446744073709551616 < j) : mulOk i j = true := by
  unfold mulOk
  rw [Bool.or_eq_true]
  exact .inr (Nat.ble_eq_true_of_le (by omega))
theorem drawsIn_ok {Φ : Nat → List W → M W} {e0 e2 e5 e6 : Option W} {r : Int} {k : W} {is : List Int} (l : is.length < 16777216) :
    (r = 0 ∧ evSs Φ bDrawsIn [e0, some (.ref 0), e2, some (.d (.int r)), some k, e5, e6] [Dc is] = .ok (.brk [e0, some (.ref 0), e2, some (.d (.int r)), some k, e5, e6]) [Dc is]) ∨
    evSs Φ bDrawsIn [e0, some (.ref 0), e2, some (.d (.int r)), some k, e5, e6] [Dc is] = .ok (.nx [e0, some (.ref 0), e2, some (.d (.int (r.fdiv 1000))), some k, e5, e6]) [Dc (is ++ [r.fmod 1000])] := by
  have ap := append_c (i := 0) (h := [Dc is]) (is := is) (x := r.fmod 1000) rfl l
  by_cases h : r = 0
  · left
    subst h
    exact ⟨rfl, rfl⟩
  · right
    have e : PyData.eqv (.int r) (.int 0) = false := by simp [PyData.eqv, h]
    simp [Mi.runF, Mi.evSs, Mi.evS, Mi.evE, Mi.evT, Mi.evP, Mi.evEs, Mi.evIt, Mi.lift, Mi.bltV, Mi.intV, Mi.lenV, Mi.binV, Mi.intOp, Mi.cmpV, Mi.truV, Mi.mthV, Mi.recvOk, Mi.listOf, Mi.seqOf, Mi.dOf, Mi.cellL, Mi.srcOf, Mi.srcOk, Mi.setTg, Mi.setAll, Mi.mkL, Mi.toDs, Mi.In_len, Mi.In_app, Mi.In_one, Mi.In_drop, Mi.In_rev, Mi.In_emp, Mi.In_nl, Mi.In_get, Mi.toDs_In, bDrawsIn, eqD, depOk, PyData.depth, e, ap]

def Bd (is : List Int) : Prop := ∀ x ∈ is, 0 ≤ x ∧ x < 1000
theorem Bd_nil : Bd [] := fun _ h => absurd h (by simp)
theorem Bd_mod (v : Int) : 0 ≤ v.fmod 1000 ∧ v.fmod 1000 < 1000 := ⟨Int.fmod_nonneg_of_pos v (by decide), Int.fmod_lt_of_pos v (by decide)⟩
theorem Bd_app {a b : List Int} (ha : Bd a) (hb : Bd b) : Bd (a ++ b) := fun x hx => (List.mem_append.mp hx).elim (ha x) (hb x)
theorem Bd_one (v : Int) : Bd [v.fmod 1000] := fun x hx => by
  rw [List.mem_singleton] at hx
  rw [hx]
  exact Bd_mod v
theorem Bd_three (u v w : Int) : Bd [u.fmod 1000, v.fmod 1000, w.fmod 1000] := fun x hx => by
  simp only [List.mem_cons, List.not_mem_nil, or_false] at hx
  rcases hx with rfl | rfl | rfl <;> exact Bd_mod _
theorem Bd_drop {a : List Int} (h : Bd a) : Bd a.dropLast := fun x hx => h x (List.dropLast_subset a hx)
theorem Bd_rev {a : List Int} (h : Bd a) : Bd a.reverse := fun x hx => h x (List.mem_reverse.mp hx)
theorem Bd_next {a : List Int} (h : Bd a) : 0 ≤ nextI a ∧ nextI a < 1000 := by
  unfold nextI
  rcases List.eq_nil_or_concat a with rfl | ⟨l, x, rfl⟩
  · decide
  · have := h x (by simp)
    simpa using this
theorem drawsOne_ok {P : List FD} {n num : Nat} (en : P[num]? = some ⟨1, 1, bNum⟩) {e0 e3 e4 e5 e6 : Option W} {c : Int} {is : List Int} (l : is.length + 60 < 16777216) (bd : Bd is) :
    ∃ e3' e4' e5' e6' is', Bd is' ∧ evSs (callN P (n + 1)) (bDrawsOne num) [e0, some (.ref 0), some (.d (.int c)), e3, e4, e5, e6] [Dc is] = .ok (.nx [e0, some (.ref 0), some (.d (.int c)), e3', e4', e5', e6']) [Dc is'] ∧ is'.length ≤ is.length + 60 := by
  have hn := num_w (n := n) (mu := false) [Dc is] en c
  by_cases h : absI c ≥ 1000000000000000000
  · have key : ∃ env2 h2, forL (rngFrom 0 60, none) [4] false (fun env h => evSs (callN P (n + 1)) bDrawsIn env h) (rngFrom 0 60) [e0, some (.ref 0), some (.d (.int c)), some (.d (.int (absI c))), e4, e5, e6] [Dc is] = .ok (.nx env2) h2 ∧
        ∃ e3' e4' is', env2 = [e0, some (.ref 0), some (.d (.int c)), e3', e4', e5, e6] ∧ h2 = [Dc is'] ∧ is'.length ≤ is.length + 60 ∧ Bd is' := by
      refine forL_brk (fun i env h => ∃ r e4 is', env = [e0, some (.ref 0), some (.d (.int c)), some (.d (.int r)), e4, e5, e6] ∧ h = [Dc is'] ∧ is'.length ≤ is.length + i ∧ Bd is') (fun env h => ∃ e3' e4' is', env = [e0, some (.ref 0), some (.d (.int c)), e3', e4', e5, e6] ∧ h = [Dc is'] ∧ is'.length ≤ is.length + 60 ∧ Bd is')
        (rngFrom 0 60) 0 _ _ ⟨_, _, is, rfl, rfl, by omega, bd⟩ (fun _ _ _ _ => rfl) ?_ ?_
      · rintro env h ⟨r, e4, is', h1, h2, h3, hb⟩
        exact ⟨_, _, _, h1, h2, by rw [rng_len] at h3; omega, hb⟩
      · rintro j env h w hw ⟨r, e4, is', rfl, rfl, h3, hb⟩
        obtain ⟨_, hj⟩ := rng_at _ _ _ _ hw
        refine ⟨_, rfl, ?_⟩
        rcases drawsIn_ok (Φ := callN P (n + 1)) (e0 := e0) (e2 := some (.d (.int c))) (e5 := e5) (e6 := e6) (r := r) (k := w) (is := is') (by omega) with ⟨hr, e⟩ | e
        · exact ⟨_, _, .inr (.inr ⟨e, _, _, is', rfl, rfl, by omega, hb⟩)⟩
        · exact ⟨_, _, .inl ⟨e, _, _, _, rfl, rfl, by simp; omega, Bd_app hb (Bd_one r)⟩⟩
    obtain ⟨env2, h2, ef, e3', e4', is', rfl, rfl, hl, hb⟩ := key
    refine ⟨e3', e4', e5, e6, is', hb, ?_, hl⟩
    have hr : rngOk 60 = true := rfl
    simp [Mi.runF, Mi.evSs, Mi.evS, Mi.evE, Mi.evT, Mi.evP, Mi.evEs, Mi.evIt, Mi.lift, Mi.bltV, Mi.intV, Mi.lenV, Mi.binV, Mi.intOp, Mi.cmpV, Mi.truV, Mi.mthV, Mi.recvOk, Mi.listOf, Mi.seqOf, Mi.dOf, Mi.cellL, Mi.srcOf, Mi.srcOk, Mi.setTg, Mi.setAll, Mi.mkL, Mi.toDs, Mi.In_len, Mi.In_app, Mi.In_one, Mi.In_drop, Mi.In_rev, Mi.In_emp, Mi.In_nl, Mi.In_get, Mi.toDs_In, bDrawsOne, hn, h, hr, ef]
  · refine ⟨some (.d (.int (absI c))), e4, some (.d (.int ((absI c * 48271 + 11).fmod 2147483647))), some (.d (.int (((absI c * 48271 + 11).fmod 2147483647 * 69621 + absI c).fmod 2147483629))), is ++ [(absI c).fmod 1000, ((absI c * 48271 + 11).fmod 2147483647).fmod 1000, (((absI c * 48271 + 11).fmod 2147483647 * 69621 + absI c).fmod 2147483629).fmod 1000], Bd_app bd (Bd_three _ _ _), ?_, by simp⟩
    have m1 : mulOk (absI c) 48271 = true := mulOk_r (by decide) (by decide)
    have m2 : mulOk ((absI c * 48271 + 11).fmod 2147483647) 69621 = true := mulOk_r (by decide) (by decide)
    have ex := extend_c (i := 0) (h := [Dc is]) (is := is) (js := [(absI c).fmod 1000, ((absI c * 48271 + 11).fmod 2147483647).fmod 1000, (((absI c * 48271 + 11).fmod 2147483647 * 69621 + absI c).fmod 2147483629).fmod 1000]) rfl (by simp; omega)
    simp only [List.map_cons, List.map_nil] at ex
    simp [Mi.runF, Mi.evSs, Mi.evS, Mi.evE, Mi.evT, Mi.evP, Mi.evEs, Mi.evIt, Mi.lift, Mi.bltV, Mi.intV, Mi.lenV, Mi.binV, Mi.intOp, Mi.cmpV, Mi.truV, Mi.mthV, Mi.recvOk, Mi.listOf, Mi.seqOf, Mi.dOf, Mi.cellL, Mi.srcOf, Mi.srcOk, Mi.setTg, Mi.setAll, Mi.mkL, Mi.toDs, Mi.In_len, Mi.In_app, Mi.In_one, Mi.In_drop, Mi.In_rev, Mi.In_emp, Mi.In_nl, Mi.In_get, Mi.toDs_In, bDrawsOne, hn, h, m1, m2, ex]
theorem draws_c {P : List FD} {n f num : Nat} (e : P[f]? = some ⟨1, 7, bDraws num⟩) (en : P[num]? = some ⟨1, 1, bNum⟩) (ns : List Int) (hl : ns.length ≤ 10000) :
    ∃ is, is.length ≤ 60 * ns.length ∧ Bd is ∧ callN P (n + 2) f [.ro (ns.map .int)] [] = .ok (.ref 0) [Dc is] := by
  rw [callN_eq e]
  have key : ∃ env2 h2, forL ((ns.map .int).map .d, none) [2] false (fun env h => evSs (callN P (n + 1)) (bDrawsOne num) env h) ((ns.map .int).map .d) [some (.ro (ns.map .int)), some (.ref 0), none, none, none, none, none] [Cell.lst []] = .ok (.nx env2) h2 ∧
      ∃ e2 e3 e4 e5 e6 is, env2 = [some (.ro (ns.map .int)), some (.ref 0), e2, e3, e4, e5, e6] ∧ h2 = [Dc is] ∧ is.length ≤ 60 * ns.length ∧ Bd is := by
    obtain ⟨env2, h2, e1, e2⟩ := forL_inv (src := ((ns.map .int).map .d, none)) (tg := [2]) (tup := false) (body := fun env h => evSs (callN P (n + 1)) (bDrawsOne num) env h)
      (fun i env h => ∃ e2 e3 e4 e5 e6 is, env = [some (.ro (ns.map .int)), some (.ref 0), e2, e3, e4, e5, e6] ∧ h = [Dc is] ∧ is.length ≤ 60 * i ∧ Bd is)
      ((ns.map PyData.int).map W.d) 0 [some (.ro (ns.map .int)), some (.ref 0), none, none, none, none, none] [Cell.lst []] ⟨_, _, _, _, _, [], rfl, rfl, by simp, Bd_nil⟩ (fun _ _ _ _ => rfl) (by
        rintro j env h w hw ⟨e2, e3, e4, e5, e6, is, rfl, rfl, h3, hb⟩
        have hj : j < ns.length := by
          have := (List.getElem?_eq_some_iff.mp hw).1
          simpa using this
        have ew : w = .d (.int (ns[j])) := by
          rw [List.getElem?_map, List.getElem?_map, List.getElem?_eq_getElem hj] at hw
          simpa using hw.symm
        subst ew
        refine ⟨_, rfl, ?_⟩
        obtain ⟨e3', e4', e5', e6', is', hb', q, ql⟩ := drawsOne_ok (n := n) en (e0 := some (.ro (ns.map .int))) (e3 := e3) (e4 := e4) (e5 := e5) (e6 := e6) (c := ns[j]) (is := is) (by omega) hb
        exact ⟨_, _, .inl q, _, _, _, _, _, is', rfl, rfl, by omega, hb'⟩)
    refine ⟨env2, h2, e1, ?_⟩
    simpa using e2
  obtain ⟨env2, h2, ef, e2, e3, e4, e5, e6, is, rfl, rfl, hb, bd⟩ := key
  refine ⟨is.reverse, by simpa using hb, Bd_rev bd, ?_⟩
  have rv := reverse_c (i := 0) (h := [Dc is]) (is := is) rfl
  simp only [List.map_map] at ef
  simp [Mi.runF, Mi.evSs, Mi.evS, Mi.evE, Mi.evT, Mi.evP, Mi.evEs, Mi.evIt, Mi.lift, Mi.bltV, Mi.intV, Mi.lenV, Mi.binV, Mi.intOp, Mi.cmpV, Mi.truV, Mi.mthV, Mi.recvOk, Mi.listOf, Mi.seqOf, Mi.dOf, Mi.cellL, Mi.srcOf, Mi.srcOk, Mi.setTg, Mi.setAll, Mi.mkL, Mi.toDs, Mi.In_len, Mi.In_app, Mi.In_one, Mi.In_drop, Mi.In_rev, Mi.In_emp, Mi.In_nl, Mi.In_get, Mi.toDs_In, bDraws, ef, rv]

/-- the draws' list is made -/
theorem draws_w {P : List FD} {n f num : Nat} (e : P[f]? = some ⟨1, 7, bDraws num⟩) (en : P[num]? = some ⟨1, 1, bNum⟩) (ns : List Int) (hl : ns.length ≤ 10000) :
    ∃ is, is.length ≤ 60 * ns.length ∧ Bd is ∧ callW (callN P (n + 2)) true f [.ro (ns.map .int)] [] = .ok (.ref 0) [Dc is] := by
  obtain ⟨is, h1, hb, h2⟩ := draws_c (n := n) e en ns hl
  refine ⟨is, h1, hb, ?_⟩
  unfold callW
  simp [refsOf, nodupN, cellsAt, renum, h2, putBack, resW, toDs_In]
def bMoreIn : Ss := (.cons (.set 2 (.bin false .Mod (.blt .int (.cons (.bin false .Add (.bin false .Mult (.var 2) (.lit (.int 48271))) (.lit (.int 12345))) .nil)) (.lit (.int 2147483647))))
    (.cons (.ex (.meth .append (.var 3) (.cons (.bin false .Mod (.blt .int (.cons (.bin false .FloorDiv (.var 2) (.lit (.int 7))) .nil)) (.lit (.int 1000))) .nil))) .nil))
def bMore (next : Nat) : Ss :=
  .cons (.set 2 (.bin false .Add (.bin false .Add (.bin false .Mult (.lit (.int 1000)) (.call next false (.cons (.var 0) .nil))) (.call next false (.cons (.var 0) .nil))) (.lit (.int 1))))
  (.cons (.set 3 (.lst true .nil))
  (.cons (.for [4] false (.rng1 (.var 1))
    bMoreIn)
  (.cons (.ret (.bin true .Add (.var 3) (.var 0))) .nil)))
theorem more_c {P : List FD} {n f g : Nat} (e : P[f]? = some ⟨2, 5, bMore g⟩) (eg : P[g]? = some ⟨1, 1, bNext⟩) (is : List Int) (m : Nat) (hm : m ≤ 10000) (hl : is.length ≤ 1000000) (bd : Bd is) :
    ∃ is' bs js, js.length ≤ m + is.length ∧ Bd js ∧ callN P (n + 2) f [.ref 0, .d (.int m)] [Dc is] = .ok (.ref 2) [Dc is', Dc bs, Dc js] := by
  rw [callN_eq e]
  have w1 : callW (callN P (n + 1)) false g [.ref 0] [Dc is] = .ok (.d (.int (nextI is))) [Dc is.dropLast] := next_w (i := 0) (h := [Dc is]) eg is rfl
  have w2 : callW (callN P (n + 1)) false g [.ref 0] [Dc is.dropLast] = .ok (.d (.int (nextI is.dropLast))) [Dc is.dropLast.dropLast] := next_w (i := 0) (h := [Dc is.dropLast]) eg is.dropLast rfl
  obtain ⟨env2, h2, ef, hq⟩ := forL_inv (src := (rngFrom 0 m, none)) (tg := [4]) (tup := false)
    (body := fun env h => evSs (callN P (n + 1)) bMoreIn env h)
    (fun i env h => ∃ s e4 bs, env = [some (.ref 0), some (.d (.int m)), some (.d (.int s)), some (.ref 1), e4] ∧ h = [Dc is.dropLast.dropLast, Dc bs] ∧ bs.length = i ∧ Bd bs)
    (rngFrom 0 m) 0 [some (.ref 0), some (.d (.int m)), some (.d (.int (1000 * nextI is + nextI is.dropLast + 1))), some (.ref 1), none] [Dc is.dropLast.dropLast, Cell.lst []] ⟨_, _, [], rfl, rfl, rfl, Bd_nil⟩ (fun _ _ _ _ => rfl) (by
      rintro j env h w hw ⟨s, e4, bs, rfl, rfl, h3, hb⟩
      obtain ⟨_, hj⟩ := rng_at _ _ _ _ hw
      refine ⟨_, rfl, ?_⟩
      have m1 : mulOk s 48271 = true := mulOk_r (by decide) (by decide)
      have ap := append_c (i := 1) (h := [Dc is.dropLast.dropLast, Dc bs]) (is := bs) (x := (((s * 48271 + 12345).fmod 2147483647).fdiv 7).fmod 1000) rfl (by omega)
      refine ⟨[some (.ref 0), some (.d (.int m)), some (.d (.int ((s * 48271 + 12345).fmod 2147483647))), some (.ref 1), some w], [Dc is.dropLast.dropLast, Dc (bs ++ [(((s * 48271 + 12345).fmod 2147483647).fdiv 7).fmod 1000])], .inl ?_, _, _, _, rfl, rfl, by simp; omega, Bd_app hb (Bd_one _)⟩
      simp [Mi.runF, Mi.evSs, Mi.evS, Mi.evE, Mi.evT, Mi.evP, Mi.evEs, Mi.evIt, Mi.lift, Mi.bltV, Mi.intV, Mi.lenV, Mi.binV, Mi.intOp, Mi.cmpV, Mi.truV, Mi.mthV, Mi.recvOk, Mi.listOf, Mi.seqOf, Mi.dOf, Mi.cellL, Mi.srcOf, Mi.srcOk, Mi.setTg, Mi.setAll, Mi.mkL, Mi.toDs, Mi.In_len, Mi.In_app, Mi.In_one, Mi.In_drop, Mi.In_rev, Mi.In_emp, Mi.In_nl, Mi.In_get, Mi.toDs_In, bMoreIn, m1, ap])
  obtain ⟨s, e4, bs, rfl, rfl, h3, hb⟩ := hq
  rw [rng_len] at h3
  refine ⟨is.dropLast.dropLast, bs, bs ++ is.dropLast.dropLast, by simp; omega, Bd_app hb (Bd_drop (Bd_drop bd)), ?_⟩
  have m1 : mulOk 1000 (nextI is) = true := rfl
  have hr : rngOk (m : Int) = true := Nat.ble_eq_true_of_le (by omega)
  have ln : lineOk (bs.length + (is.length - 1 - 1)) = true := Nat.ble_eq_true_of_le (by omega)
  simp [Mi.runF, Mi.evSs, Mi.evS, Mi.evE, Mi.evT, Mi.evP, Mi.evEs, Mi.evIt, Mi.lift, Mi.bltV, Mi.intV, Mi.lenV, Mi.binV, Mi.intOp, Mi.cmpV, Mi.truV, Mi.mthV, Mi.recvOk, Mi.listOf, Mi.seqOf, Mi.dOf, Mi.cellL, Mi.srcOf, Mi.srcOk, Mi.setTg, Mi.setAll, Mi.mkL, Mi.toDs, Mi.In_len, Mi.In_app, Mi.In_one, Mi.In_drop, Mi.In_rev, Mi.In_emp, Mi.In_nl, Mi.In_get, Mi.toDs_In, bMore, w1, w2, m1, hr, ef, ln]
theorem callW_cellL {Φ : Nat → List W → M W} {f i j : Nat} {ds : List PyData} {c c' : Cell} {hc : MH} {ws : List W} {h : MH} (hi : h[i]? = some c) (fc : flatC c = true) (e : Φ f (.ref 0 :: ds.map .d) [c] = .ok (.ref (j + 1)) (c' :: hc)) (fc' : flatC c' = true)
    (ej : hc[j]? = some (.lst ws)) (ew : (toDs ws).isSome = true) : callW Φ true f (.ref i :: ds.map .d) h = .ok (.ref h.length) (h.set i c' ++ [.lst ws]) := by
  unfold callW
  have e1 : refsOf (.ref i :: ds.map W.d) = [i] := by simp only [refsOf, refs_d]
  have e2 : renum 0 (.ref i :: ds.map W.d) = .ref 0 :: ds.map .d := by simp only [renum, renum_d]
  have e3 : cellsAt h [i] = some [c] := by simp [cellsAt, hi, fc]
  have e4 : nodupN [i] = true := by simp [nodupN]
  obtain ⟨ys, ey⟩ := Option.isSome_iff_exists.mp ew
  simp [e1, e2, e3, e4, e, putBack, fc', resW, ej, ey]
theorem more_w {P : List FD} {n f g : Nat} (e : P[f]? = some ⟨2, 5, bMore g⟩) (eg : P[g]? = some ⟨1, 1, bNext⟩) (is : List Int) (m : Nat) (hm : m ≤ 10000) (hl : is.length ≤ 1000000) (bd : Bd is) :
    ∃ is' js, js.length ≤ m + is.length ∧ Bd js ∧ callW (callN P (n + 2)) true f [.ref 0, .d (.int m)] [Dc is] = .ok (.ref 1) [Dc is', Dc js] := by
  obtain ⟨is', bs, js, h1, hb, h2⟩ := more_c (n := n) e eg is m hm hl bd
  exact ⟨is', js, h1, hb, callW_cellL (i := 0) (h := [Dc is]) (ds := [.int m]) rfl (flat_Dc is) h2 (flat_Dc _) rfl (by rw [toDs_In]; rfl)⟩

/-! ### comprehensions with one name -/
theorem set2 (env : Ev) (i : Nat) (w : W) : (wipeE env [i]).set i (some w) = env.set i (some w) := by
  simp [wipeE]
theorem toDs_of {g : W → PyData} : ∀ ws : List W, toDs (ws.map fun w => .d (g w)) = some (ws.map g)
  | [] => rfl
  | w :: r => by simp [toDs, toDs_of r]
section
variable {Φ : Nat → List W → M W} {it : It} {e : E} {t : T} {i : Nat} {env : Ev} {h h1 : MH} {ws : List W}
/-- nothing changes, one of each -/
theorem comp_data {g : W → PyData} (hi : evIt Φ it env h = .ok (ws, none) h) (hl : ws.length ≤ 16777216) (he : ∀ w ∈ ws, evE Φ e (env.set i (some w)) h = .ok (.d (g w)) h) :
    evE Φ (.comp false [i] [i] false it .yes e) env h = .ok (.d (.list (ws.map g))) h := by
  have q := compL_map (src := (ws, none)) (f := compG (fun env h => evT Φ .yes env h) (fun env h => evE Φ e env h) [i] [i] false env) (g := fun w => .d (g w)) (h := h) rfl ws [] (by simpa using hl) fun w hw => by
    simp only [compG, setTg, set2, evT, bind_ok, if_true, he w hw]
  simp only [evE, hi, bind_ok]
  rw [q]
  simp only [bind_ok, mkL, Bool.false_eq_true, if_false, List.reverse_nil, List.nil_append, toDs_of]
/-- .. the state may change -/
theorem comp_chg (Q : MH → Prop) (P : PyData → Prop) (hi : evIt Φ it env h = .ok (ws, none) h1) (hl : ws.length ≤ 16777216) (q : Q h1) (he : ∀ w ∈ ws, ∀ h, Q h → ∃ d h2, evE Φ e (env.set i (some w)) h = .ok (.d d) h2 ∧ Q h2 ∧ P d) :
    ∃ ds h2, evE Φ (.comp false [i] [i] false it .yes e) env h = .ok (.d (.list ds)) h2 ∧ Q h2 ∧ (∀ d ∈ ds, P d) ∧ ds.length ≤ ws.length := by
  obtain ⟨ys, h2, e1, q2, ds, e2, p2, l2⟩ := compL_inv (src := (ws, none)) (f := compG (fun env h => evT Φ .yes env h) (fun env h => evE Φ e env h) [i] [i] false env) (fun acc h => Q h ∧ ∃ ds : List PyData, acc = ds.map .d ∧ (∀ d ∈ ds, P d) ∧ True) ws [] h1 (by simpa using hl) ⟨q, [], rfl, by simp, trivial⟩ (fun _ _ _ => rfl) fun w acc h hw ⟨q, ds, ea, p, _⟩ => by
    obtain ⟨d, h2, e1, q2, p2⟩ := he w hw h q
    refine .inl ⟨.d d, h2, ?_, q2, d :: ds, by rw [ea]; rfl, fun x hx => ?_, trivial⟩
    · simp only [compG, setTg, set2, evT, bind_ok, if_true, e1]
    · rcases List.mem_cons.mp hx with z | z
      · rw [z]; exact p2
      · exact p x z
  have ll := compL_len ws [] h1 ys.reverse h2 e1
  refine ⟨ds.reverse, h2, ?_, q2, fun d hd => p2 d (List.mem_reverse.mp hd), ?_⟩
  · simp only [evE, hi, bind_ok]
    rw [e1]
    simp only [bind_ok, mkL, Bool.false_eq_true, if_false, e2, ← List.map_reverse, toDs_map]
  · rw [e2] at ll
    simpa using ll
end
end Mi

set_option maxRecDepth 100000
namespace K20
open PySem Mi

def topS (i : Nat) : Stmt := PySem.Challenge.pw_wherewords_k20_texts_of_terms.main.body.getD i (.Pass ⟨0, 0, 0, 0⟩)
def methS (i j : Nat) : Stmt := match topS i with
  | .ClassDef _ _ _ body _ _ _ _ _ _ _ => body.getD j (.Pass ⟨0, 0, 0, 0⟩)
  | _ => .Pass ⟨0, 0, 0, 0⟩
def b_term_text_c1 : E :=
  (.comp false [2] [2] false (.over (.var 0)) .yes (.cmp .In (.var 2) (.gl "SMALL" (.str "abcdefghijklmnopqrstuvwxyz"))))
def b_term_text_c2 : E :=
  (.comp false [1] [1] false (.over (.var 0)) .yes (.call 0 false (.cons (.var 1) .nil)))
def b_term_text : Ss :=
  (.cons (.ite (.val (.cmp .Is (.var 0) (.lit .none)))
  (.cons (.ret (.gl "NOTHING" (.str "none")))
  .nil)
  .nil)
  (.cons (.ite (.val (.isi (.var 0) .int))
  (.cons (.ret (.blt .str (.cons (.var 0) .nil)))
  .nil)
  .nil)
  (.cons (.ite (.val (.isi (.var 0) .str))
  (.cons (.ite (.or (.val (.cmp .Eq (.var 0) (.gl "NOTHING" (.str "none")))) (.not (.val (.blt .all (.cons b_term_text_c1 .nil)))))
  (.cons (.raise 1 none)
  .nil)
  .nil)
  (.cons (.ret (.or (.var 0) (.gl "NOBODY" (.str "."))))
  .nil))
  .nil)
  (.cons (.ret (.bin false .Add (.bin false .Add (.lit (.str "(")) (.meth .join (.lit (.str " ")) (.cons b_term_text_c2 .nil))) (.lit (.str ")"))))
  .nil))))
def s_term_text : DefS := ⟨"term_text", topS 11, ["term", "entry", "sign"], ["term"], ⟨1, 3, b_term_text⟩, "term_text", ("term_text", none)⟩
def b_read_term : Ss :=
  (.cons (.set 1 (.mk 0 16 2 (.cons (.var 0) .nil)))
  (.cons (.set 2 (.mcall 21 0 false (.var 1) (.cons (.lit (.int 0)) .nil)))
  (.cons (.ite (.val (.cmp .Lt (.fld 0 (.var 1) 1) (.blt .len (.cons (.var 0) .nil))))
  (.cons (.raise 2 (some (.fld 0 (.var 1) 1)))
  .nil)
  .nil)
  (.cons (.ret (.var 2))
  .nil))))
def s_read_term : DefS := ⟨"read_term", topS 13, ["text", "reading", "term"], ["text"], ⟨1, 3, b_read_term⟩, "read_term", ("read_term", none)⟩
def b_law_number : Ss :=
  (.cons (.ite (.val (.cmp .Lt (.var 0) (.lit (.int 0))))
  (.cons (.ret (.bin false .Sub (.lit (.int 0)) (.var 0)))
  .nil)
  .nil)
  (.cons (.ret (.var 0))
  .nil))
def s_law_number : DefS := ⟨"_law_number", topS 15, ["cell"], ["cell"], ⟨1, 1, b_law_number⟩, "_law_number", ("_law_number", none)⟩
def b_law_draws_f1 : Ss :=
  (.cons (.ite (.val (.cmp .Eq (.var 3) (.lit (.int 0))))
  (.cons .brk
  .nil)
  .nil)
  (.cons (.ex (.meth .append (.var 1) (.cons (.bin false .Mod (.blt .int (.cons (.var 3) .nil)) (.lit (.int 1000))) .nil)))
  (.cons (.set 3 (.bin false .FloorDiv (.var 3) (.lit (.int 1000))))
  .nil)))
def b_law_draws_f2 : Ss :=
  (.cons (.set 3 (.call 2 false (.cons (.var 2) .nil)))
  (.cons (.ite (.val (.cmp .GtE (.var 3) (.lit (.int 1000000000000000000))))
  (.cons (.for [4] false (.rng1 (.lit (.int 60))) b_law_draws_f1)
  .nil)
  (.cons (.set 5 (.bin false .Mod (.blt .int (.cons (.bin false .Add (.bin false .Mult (.var 3) (.lit (.int 48271))) (.lit (.int 11))) .nil)) (.lit (.int 2147483647))))
  (.cons (.set 6 (.bin false .Mod (.blt .int (.cons (.bin false .Add (.bin false .Mult (.var 5) (.lit (.int 69621))) (.var 3)) .nil)) (.lit (.int 2147483629))))
  (.cons (.ex (.meth .extend (.var 1) (.cons (.lst false (.cons (.bin false .Mod (.blt .int (.cons (.var 3) .nil)) (.lit (.int 1000))) (.cons (.bin false .Mod (.blt .int (.cons (.var 5) .nil)) (.lit (.int 1000))) (.cons (.bin false .Mod (.blt .int (.cons (.var 6) .nil)) (.lit (.int 1000))) .nil)))) .nil)))
  .nil))))
  .nil))
def b_law_draws : Ss :=
  (.cons (.set 1 (.lst true .nil))
  (.cons (.for [2] false (.over (.var 0)) b_law_draws_f2)
  (.cons (.ex (.meth .reverse (.var 1) .nil))
  (.cons (.ret (.var 1))
  .nil))))
def s_law_draws : DefS := ⟨"_law_draws", topS 16, ["script", "draws", "cell", "rest", "k", "once", "twice"], ["script"], ⟨1, 7, b_law_draws⟩, "_law_draws", ("_law_draws", none)⟩
def b_law_next : Ss :=
  (.cons (.ite (.val (.var 0))
  (.cons (.ret (.meth .pop (.var 0) .nil))
  .nil)
  .nil)
  (.cons (.ret (.lit (.int 0)))
  .nil))
def s_law_next : DefS := ⟨"_law_next", topS 17, ["draws"], ["draws"], ⟨1, 1, b_law_next⟩, "_law_next", ("_law_next", none)⟩
def b_law_more_f1 : Ss :=
  (.cons (.set 2 (.bin false .Mod (.blt .int (.cons (.bin false .Add (.bin false .Mult (.var 2) (.lit (.int 48271))) (.lit (.int 12345))) .nil)) (.lit (.int 2147483647))))
  (.cons (.ex (.meth .append (.var 3) (.cons (.bin false .Mod (.blt .int (.cons (.bin false .FloorDiv (.var 2) (.lit (.int 7))) .nil)) (.lit (.int 1000))) .nil)))
  .nil))
def b_law_more : Ss :=
  (.cons (.set 2 (.bin false .Add (.bin false .Add (.bin false .Mult (.lit (.int 1000)) (.call 4 false (.cons (.var 0) .nil))) (.call 4 false (.cons (.var 0) .nil))) (.lit (.int 1))))
  (.cons (.set 3 (.lst true .nil))
  (.cons (.for [4] false (.rng1 (.var 1)) b_law_more_f1)
  (.cons (.ret (.bin true .Add (.var 3) (.var 0)))
  .nil))))
def s_law_more : DefS := ⟨"_law_more", topS 18, ["draws", "many", "seed", "more", "k"], ["draws", "many"], ⟨2, 5, b_law_more⟩, "_law_more", ("_law_more", none)⟩
def b_law_pick : Ss :=
  (.cons (.ret (.idx (.var 1) (.bin false .Mod (.blt .int (.cons (.call 4 false (.cons (.var 0) .nil)) .nil)) (.blt .len (.cons (.var 1) .nil)))))
  .nil)
def s_law_pick : DefS := ⟨"_law_pick", topS 19, ["draws", "some"], ["draws", "some"], ⟨2, 2, b_law_pick⟩, "_law_pick", ("_law_pick", none)⟩
def b_law_term_c1 : E :=
  (.comp false [4] [4] false (.rng1 (.bin false .Mod (.blt .int (.cons (.call 4 false (.cons (.var 0) .nil)) .nil)) (.lit (.int 6)))) .yes (.idx (.lit (.str "abcnoze")) (.bin false .Mod (.blt .int (.cons (.call 4 false (.cons (.var 0) .nil)) .nil)) (.lit (.int 7)))))
def b_law_term_c2 : E :=
  (.comp false [4] [4] false (.rng1 (.bin false .Mod (.blt .int (.cons (.call 4 false (.cons (.var 0) .nil)) .nil)) (.lit (.int 4)))) .yes (.call 7 false (.cons (.var 0) (.cons (.bin false .Add (.var 1) (.lit (.int 1))) .nil))))
def b_law_term : Ss :=
  (.cons (.set 2 (.bin false .Mod (.blt .int (.cons (.call 4 false (.cons (.var 0) .nil)) .nil)) (.ite (.val (.cmp .Lt (.var 1) (.lit (.int 4)))) (.lit (.int 8)) (.lit (.int 5)))))
  (.cons (.ite (.val (.cmp .Eq (.var 2) (.lit (.int 0))))
  (.cons (.set 3 (.meth .join (.lit (.str "")) (.cons b_law_term_c1 .nil)))
  (.cons (.ret (.ite (.val (.cmp .Eq (.var 3) (.lit (.str "none")))) (.lit (.str "zone")) (.var 3)))
  .nil))
  .nil)
  (.cons (.ite (.val (.cmp .Eq (.var 2) (.lit (.int 1))))
  (.cons (.ret (.call 6 false (.cons (.var 0) (.cons (.lst false (.cons (.lit .none) (.cons (.lit (.int 0)) (.cons (.neg (.lit (.int 1))) (.cons (.bin false .Pow (.lit (.int 10)) (.lit (.int 19))) (.cons (.bin false .Add (.bin false .Sub (.lit (.int 0)) (.bin false .Pow (.lit (.int 10)) (.lit (.int 20)))) (.lit (.int 1))) .nil)))))) .nil))))
  .nil)
  .nil)
  (.cons (.ite (.val (.cmp .Lt (.var 2) (.lit (.int 5))))
  (.cons (.ret (.bin false .Sub (.blt .int (.cons (.call 4 false (.cons (.var 0) .nil)) .nil)) (.bin false .Mult (.lit (.int 100)) (.bin false .Mod (.blt .int (.cons (.call 4 false (.cons (.var 0) .nil)) .nil)) (.lit (.int 7))))))
  .nil)
  .nil)
  (.cons (.ret (.blt .tuple (.cons b_law_term_c2 .nil)))
  .nil)))))
def s_law_term : DefS := ⟨"_law_term", topS 20, ["draws", "depth", "kind", "word", "k"], ["draws", "depth"], ⟨2, 5, b_law_term⟩, "_law_term", ("_law_term", none)⟩
def b_law_text_c1 : E :=
  (.comp false [1] [1] false (.over (.var 0)) .yes (.call 8 false (.cons (.var 1) .nil)))
def b_law_text : Ss :=
  (.cons (.ite (.val (.cmp .Is (.var 0) (.lit .none)))
  (.cons (.ret (.lit (.str "none")))
  .nil)
  .nil)
  (.cons (.ite (.val (.isi (.var 0) .int))
  (.cons (.ret (.blt .str (.cons (.var 0) .nil)))
  .nil)
  .nil)
  (.cons (.ite (.val (.isi (.var 0) .str))
  (.cons (.ret (.ite (.val (.cmp .NotEq (.var 0) (.lit (.str "")))) (.var 0) (.lit (.str "."))))
  .nil)
  .nil)
  (.cons (.ret (.bin false .Add (.bin false .Add (.lit (.str "(")) (.meth .join (.lit (.str " ")) (.cons b_law_text_c1 .nil))) (.lit (.str ")"))))
  .nil))))
def s_law_text : DefS := ⟨"_law_text", topS 21, ["term", "entry"], ["term"], ⟨1, 2, b_law_text⟩, "_law_text", ("_law_text", none)⟩
def b_law_integer_f1 : Ss :=
  (.cons (.ite (.and (.val (.cmp .Lt (.var 1) (.blt .len (.cons (.var 0) .nil)))) (.val (.cmp .In (.idx (.var 0) (.var 1)) (.lit (.str "0123456789")))))
  (.cons (.set 1 (.bin false .Add (.var 1) (.lit (.int 1))))
  .nil)
  .nil)
  .nil)
def b_law_integer_s2 : S :=
  (.set 2 (.var 1))
def b_law_integer_s3 : S :=
  (.ite (.val (.cmp .Eq (.slice (.var 0) (.at (.var 1)) (.at (.bin false .Add (.var 1) (.lit (.int 1))))) (.lit (.str "-"))))
  (.cons (.set 1 (.bin false .Add (.var 1) (.lit (.int 1))))
  (.cons (.ite (.val (.cmp .Eq (.slice (.var 0) (.at (.var 1)) (.at (.bin false .Add (.var 1) (.lit (.int 1))))) (.lit (.str "0"))))
  (.cons (.ret (.lst false (.cons (.lit (.str "bad")) (.cons (.var 1) .nil))))
  .nil)
  .nil)
  .nil))
  .nil)
def b_law_integer_s4 : S :=
  (.set 3 (.var 1))
def b_law_integer_s5 : S :=
  (.for [4] false (.rng1 (.blt .len (.cons (.var 0) .nil))) b_law_integer_f1)
def b_law_integer_s6 : S :=
  (.ite (.val (.cmp .Eq (.var 1) (.var 3)))
  (.cons (.ret (.lst false (.cons (.lit (.str "bad")) (.cons (.var 1) .nil))))
  .nil)
  .nil)
def b_law_integer_s7 : S :=
  (.ite (.and (.val (.cmp .Eq (.idx (.var 0) (.var 3)) (.lit (.str "0")))) (.val (.cmp .Gt (.var 1) (.bin false .Add (.var 3) (.lit (.int 1))))))
  (.cons (.ret (.lst false (.cons (.lit (.str "bad")) (.cons (.bin false .Add (.var 3) (.lit (.int 1))) .nil))))
  .nil)
  .nil)
def b_law_integer_s8 : S :=
  (.ite (.val (.cmp .Gt (.bin false .Sub (.var 1) (.var 3)) (.lit (.int 20))))
  (.cons (.ret (.lst false (.cons (.lit (.str "bad")) (.cons (.bin false .Add (.var 3) (.lit (.int 20))) .nil))))
  .nil)
  .nil)
def b_law_integer_s9 : S :=
  (.ret (.lst false (.cons (.blt .int (.cons (.slice (.var 0) (.at (.var 2)) (.at (.var 1))) .nil)) (.cons (.var 1) .nil))))
def b_law_integer : Ss :=
  (.cons b_law_integer_s2
  (.cons b_law_integer_s3
  (.cons b_law_integer_s4
  (.cons b_law_integer_s5
  (.cons b_law_integer_s6
  (.cons b_law_integer_s7
  (.cons b_law_integer_s8
  (.cons b_law_integer_s9
  .nil))))))))
def s_law_integer : DefS := ⟨"_law_integer", topS 22, ["text", "at", "start", "first", "k"], ["text", "at"], ⟨2, 5, b_law_integer⟩, "_law_integer", ("_law_integer", none)⟩
def b_law_read_f1 : Ss :=
  (.cons (.ite (.and (.val (.cmp .Lt (.var 4) (.blt .len (.cons (.var 0) .nil)))) (.val (.cmp .In (.idx (.var 0) (.var 4)) (.lit (.str "abcdefghijklmnopqrstuvwxyz")))))
  (.cons (.set 4 (.bin false .Add (.var 4) (.lit (.int 1))))
  .nil)
  .nil)
  .nil)
def b_law_read : Ss :=
  (.cons (.set 3 (.slice (.var 0) (.at (.var 1)) (.at (.bin false .Add (.var 1) (.lit (.int 1))))))
  (.cons (.ite (.val (.cmp .Eq (.var 3) (.lit (.str "("))))
  (.cons (.ite (.val (.cmp .Eq (.var 2) (.lit (.int 12))))
  (.cons (.ret (.lst false (.cons (.lit (.str "bad")) (.cons (.var 1) .nil))))
  .nil)
  .nil)
  (.cons (.ret (.call 11 false (.cons (.var 0) (.cons (.bin false .Add (.var 1) (.lit (.int 1))) (.cons (.bin false .Add (.var 2) (.lit (.int 1))) .nil)))))
  .nil))
  .nil)
  (.cons (.ite (.val (.cmp .Eq (.var 3) (.lit (.str "."))))
  (.cons (.ret (.lst false (.cons (.lit (.str "")) (.cons (.bin false .Add (.var 1) (.lit (.int 1))) .nil))))
  .nil)
  .nil)
  (.cons (.ite (.and (.val (.cmp .NotEq (.var 3) (.lit (.str "")))) (.val (.cmp .In (.var 3) (.lit (.str "abcdefghijklmnopqrstuvwxyz")))))
  (.cons (.set 4 (.var 1))
  (.cons (.for [5] false (.rng1 (.blt .len (.cons (.var 0) .nil))) b_law_read_f1)
  (.cons (.ret (.lst false (.cons (.ite (.val (.cmp .Eq (.slice (.var 0) (.at (.var 1)) (.at (.var 4))) (.lit (.str "none")))) (.lit .none) (.slice (.var 0) (.at (.var 1)) (.at (.var 4)))) (.cons (.var 4) .nil))))
  .nil)))
  .nil)
  (.cons (.ret (.call 9 false (.cons (.var 0) (.cons (.var 1) .nil))))
  .nil)))))
def s_law_read : DefS := ⟨"_law_read", topS 23, ["text", "at", "depth", "sign", "end", "k"], ["text", "at", "depth"], ⟨3, 6, b_law_read⟩, "_law_read", ("_law_read", none)⟩
def b_law_entries_s1 : S :=
  (.ite (.val (.cmp .Eq (.slice (.var 0) (.at (.var 1)) (.at (.bin false .Add (.var 1) (.lit (.int 1))))) (.lit (.str ")"))))
  (.cons (.ret (.lst false (.cons (.blt .tuple (.cons (.var 3) .nil)) (.cons (.bin false .Add (.var 1) (.lit (.int 1))) .nil))))
  .nil)
  .nil)
def b_law_entries_s2 : S :=
  (.ite (.val (.var 3))
  (.cons (.ite (.val (.cmp .NotEq (.slice (.var 0) (.at (.var 1)) (.at (.bin false .Add (.var 1) (.lit (.int 1))))) (.lit (.str " "))))
  (.cons (.ret (.lst false (.cons (.lit (.str "bad")) (.cons (.var 1) .nil))))
  .nil)
  .nil)
  (.cons (.set 1 (.bin false .Add (.var 1) (.lit (.int 1))))
  .nil))
  .nil)
def b_law_entries_s3 : S :=
  (.setL [5, 6] (.call 10 false (.cons (.var 0) (.cons (.var 1) (.cons (.var 2) .nil)))))
def b_law_entries_s4 : S :=
  (.ite (.and (.val (.cmp .Eq (.var 5) (.lit (.str "bad")))) (.val (.isi (.var 5) .str)))
  (.cons (.ret (.lst false (.cons (.var 5) (.cons (.var 6) .nil))))
  .nil)
  .nil)
def b_law_entries_s5 : S :=
  (.ex (.meth .append (.var 3) (.cons (.var 5) .nil)))
def b_law_entries_s6 : S :=
  (.set 1 (.var 6))
def b_law_entries_f7 : Ss :=
  (.cons b_law_entries_s1
  (.cons b_law_entries_s2
  (.cons b_law_entries_s3
  (.cons b_law_entries_s4
  (.cons b_law_entries_s5
  (.cons b_law_entries_s6
  .nil))))))
def b_law_entries : Ss :=
  (.cons (.set 3 (.lst true .nil))
  (.cons (.for [4] false (.rng1 (.bin false .Add (.blt .len (.cons (.var 0) .nil)) (.lit (.int 1)))) b_law_entries_f7)
  (.cons (.ret (.lst false (.cons (.lit (.str "bad")) (.cons (.var 1) .nil))))
  .nil)))
def s_law_entries : DefS := ⟨"_law_entries", topS 24, ["text", "at", "depth", "found", "turn", "term", "end"], ["text", "at", "depth"], ⟨3, 7, b_law_entries⟩, "_law_entries", ("_law_entries", none)⟩
def b_law_due : Ss :=
  (.cons (.setL [1, 2] (.call 10 false (.cons (.var 0) (.cons (.lit (.int 0)) (.cons (.lit (.int 0)) .nil)))))
  (.cons (.ite (.and (.val (.isi (.var 1) .str)) (.val (.cmp .Eq (.var 1) (.lit (.str "bad")))))
  (.cons (.ret (.lst false (.cons (.lit (.str "bad")) (.cons (.var 2) .nil))))
  .nil)
  .nil)
  (.cons (.ret (.ite (.val (.cmp .Lt (.var 2) (.blt .len (.cons (.var 0) .nil)))) (.lst false (.cons (.lit (.str "bad")) (.cons (.var 2) .nil))) (.lst false (.cons (.lit (.str "term")) (.cons (.var 1) .nil)))))
  .nil)))
def s_law_due : DefS := ⟨"_law_due", topS 25, ["text", "term", "at"], ["text"], ⟨1, 3, b_law_due⟩, "_law_due", ("_law_due", none)⟩
def b_law_told : Ss :=
  (.cons (.try1 (.cons (.ret (.lst false (.cons (.lit (.str "term")) (.cons (.call 1 false (.cons (.var 0) .nil)) .nil))))
  .nil) 2 (some 1)
  (.cons (.ret (.lst false (.cons (.lit (.str "bad")) (.cons (.exf 2 (.var 1)) .nil))))
  .nil))
  .nil)
def s_law_told : DefS := ⟨"_law_told", topS 26, ["text", "error"], ["text"], ⟨1, 2, b_law_told⟩, "_law_told", ("_law_told", none)⟩
def b_law_refused : Ss :=
  (.cons (.try1 (.cons (.ex (.call 0 false (.cons (.var 0) .nil)))
  (.cons (.ret (.lit (.bool false)))
  .nil)) 1 none
  (.cons (.ret (.lit (.bool true)))
  .nil))
  .nil)
def s_law_refused : DefS := ⟨"_law_refused", topS 27, ["term"], ["term"], ⟨1, 1, b_law_refused⟩, "_law_refused", ("_law_refused", none)⟩
def b_law_f1 : Ss :=
  (.cons (.set 9 (.bin false .Mod (.blt .int (.cons (.call 4 false (.cons (.var 1) .nil)) .nil)) (.bin false .Add (.blt .len (.cons (.var 7) .nil)) (.lit (.int 1)))))
  (.cons (.set 10 (.bin false .Mod (.blt .int (.cons (.call 4 false (.cons (.var 1) .nil)) .nil)) (.lit (.int 2))))
  (.cons (.set 11 (.call 6 false (.cons (.var 1) (.cons (.lst false (.cons (.lit (.str "")) (.cons (.lit (.str " ")) (.cons (.lit (.str "(")) (.cons (.lit (.str ")")) (.cons (.lit (.str "-")) (.cons (.lit (.str "0")) (.cons (.lit (.str "7")) (.cons (.lit (.str "a")) (.cons (.lit (.str ".")) (.cons (.lit (.str "A")) (.cons (.lit (.str "_")) (.cons (.lit (.str "\t")) .nil))))))))))))) .nil))))
  (.cons (.set 12 (.bin false .Add (.bin false .Add (.slice (.var 7) .no (.at (.var 9))) (.var 11)) (.slice (.var 7) (.at (.bin false .Add (.var 9) (.var 10))) .no)))
  (.cons (.ite (.and (.val (.cmp .NotIn (.lit (.str "bad")) (.var 12))) (.val (.cmp .NotEq (.blt .repr (.cons (.call 13 false (.cons (.var 12) .nil)) .nil)) (.blt .repr (.cons (.call 12 false (.cons (.var 12) .nil)) .nil)))))
  (.cons (.ret (.lit (.bool false)))
  .nil)
  .nil)
  .nil)))))
def b_law_f2 : Ss :=
  (.cons (.set 6 (.call 7 false (.cons (.var 1) (.cons (.lit (.int 0)) .nil))))
  (.cons (.set 7 (.call 8 false (.cons (.var 6) .nil)))
  (.cons (.ite (.or (.val (.cmp .NotEq (.call 0 false (.cons (.var 6) .nil)) (.var 7))) (.val (.cmp .NotEq (.blt .repr (.cons (.call 13 false (.cons (.var 7) .nil)) .nil)) (.blt .repr (.cons (.lst false (.cons (.lit (.str "term")) (.cons (.var 6) .nil))) .nil)))))
  (.cons (.ret (.lit (.bool false)))
  .nil)
  .nil)
  (.cons (.ite (.and (.val (.isi (.var 6) .tuple)) (.val (.cmp .NotEq (.call 0 false (.cons (.blt (.list false) (.cons (.var 6) .nil)) .nil)) (.var 7))))
  (.cons (.ret (.lit (.bool false)))
  .nil)
  .nil)
  (.cons (.for [8] false (.rng1 (.lit (.int 5))) b_law_f1)
  .nil)))))
def b_law_c3 : E :=
  (.comp false [7] [7] false (.over (.var 5)) .yes (.blt .repr (.cons (.call 13 false (.cons (.var 7) .nil)) .nil)))
def b_law_c4 : E :=
  (.comp false [7] [7] false (.over (.var 5)) .yes (.blt .repr (.cons (.call 12 false (.cons (.var 7) .nil)) .nil)))
def b_law_c5 : E :=
  (.comp false [6] [6] false (.over (.lst false (.cons (.lit (.str "none")) (.cons (.lit (.str "A")) (.cons (.lit (.str "a b")) (.cons (.tup (.cons (.lit (.str "ok")) (.cons (.lit (.str "x1")) .nil))) (.cons (.tup (.cons (.tup (.cons (.lit (.str "none")) .nil)) .nil)) .nil))))))) .yes (.call 14 false (.cons (.var 6) .nil)))
def b_law_s6 : S :=
  (.set 1 (.call 3 true (.cons (.var 0) .nil)))
def b_law_s7 : S :=
  (.set 1 (.call 5 true (.cons (.var 1) (.cons (.lit (.int 120)) .nil))))
def b_law_s8 : S :=
  (.set 2 (.tup (.cons (.lit (.int 3)) (.cons (.tup (.cons (.lit (.int 2)) (.cons (.lit (.int 2)) (.cons (.lit (.int 4)) .nil)))) .nil))))
def b_law_s9 : S :=
  (.ite (.or (.val (.cmp .NotEq (.call 0 false (.cons (.var 2) .nil)) (.lit (.str "(3 (2 2 4))")))) (.val (.cmp .NotEq (.blt .repr (.cons (.call 1 false (.cons (.lit (.str "(. none (-5))")) .nil)) .nil)) (.blt .repr (.cons (.tup (.cons (.lit (.str "")) (.cons (.lit .none) (.cons (.tup (.cons (.neg (.lit (.int 5))) .nil)) .nil)))) .nil)))))
  (.cons (.ret (.lit (.bool false)))
  .nil)
  .nil)
def b_law_s10 : S :=
  (.for [3] false (.rng1 (.lit (.int 4))) b_law_f2)
def b_law_s11 : S :=
  (.set 4 (.bin false .Add (.bin false .Add (.bin false .Mult (.lit (.str "(")) (.lit (.int 12))) (.lit (.str "5"))) (.bin false .Mult (.lit (.str ")")) (.lit (.int 12)))))
def b_law_s12 : S :=
  (.set 5 (.lst false (.cons (.lit (.str "")) (.cons (.lit (.str "(")) (.cons (.lit (.str "()")) (.cons (.lit (.str "( )")) (.cons (.lit (.str "(1 )")) (.cons (.lit (.str "(1  2)")) (.cons (.lit (.str "(1 2")) (.cons (.lit (.str "1 2")) (.cons (.lit (.str "-0")) (.cons (.lit (.str "00")) (.cons (.lit (.str "01")) (.cons (.lit (.str "-")) (.cons (.bin false .Mult (.lit (.str "1")) (.lit (.int 20))) (.cons (.bin false .Mult (.lit (.str "1")) (.lit (.int 21))) (.cons (.bin false .Add (.lit (.str "-")) (.bin false .Mult (.lit (.str "9")) (.lit (.int 21)))) (.cons (.var 4) (.cons (.bin false .Add (.bin false .Add (.lit (.str "(")) (.var 4)) (.lit (.str ")"))) (.cons (.lit (.str "()()")) (.cons (.lit (.str "(a.)")) (.cons (.lit (.str "5a")) (.cons (.lit (.str "a5")) .nil)))))))))))))))))))))))
def b_law_s13 : S :=
  (.set 5 (.bin false .Add (.var 5) (.lst false (.cons (.lit (.str "none")) (.cons (.lit (.str "..")) (.cons (.lit (.str ")")) .nil))))))
def b_law_s14 : S :=
  (.ite (.val (.cmp .NotEq b_law_c3 b_law_c4))
  (.cons (.ret (.lit (.bool false)))
  .nil)
  .nil)
def b_law_s15 : S :=
  (.ret (.cmp .Eq b_law_c5 (.bin false .Mult (.lst false (.cons (.lit (.bool true)) .nil)) (.lit (.int 5)))))
def b_law : Ss :=
  (.cons b_law_s6
  (.cons b_law_s7
  (.cons b_law_s8
  (.cons b_law_s9
  (.cons b_law_s10
  (.cons b_law_s11
  (.cons b_law_s12
  (.cons b_law_s13
  (.cons b_law_s14
  (.cons b_law_s15
  .nil))))))))))
def s_law : DefS := ⟨"law", topS 28, ["script", "draws", "some", "turn", "deep", "texts", "term", "text", "k", "at", "cut", "sign", "spoilt"], ["script"], ⟨1, 13, b_law⟩, "law", ("law", none)⟩
def b_Reading___init__ : Ss :=
  (.cons (.fset 0 (.var 0) 0 (.var 1))
  (.cons (.fset 0 (.var 0) 1 (.lit (.int 0)))
  .nil))
def s_Reading___init__ : DefS := ⟨"__init__", methS 12 0, ["self", "text"], ["self", "text"], ⟨2, 2, b_Reading___init__⟩, "Reading.__init__", ("Reading", some ("__init__" : Str))⟩
def b_Reading_sign : Ss :=
  (.cons (.ret (.slice (.fld 0 (.var 0) 0) (.at (.fld 0 (.var 0) 1)) (.at (.bin false .Add (.fld 0 (.var 0) 1) (.lit (.int 1))))))
  .nil)
def s_Reading_sign : DefS := ⟨"sign", methS 12 1, ["self"], ["self"], ⟨1, 1, b_Reading_sign⟩, "Reading.sign", ("Reading", some ("sign" : Str))⟩
def b_Reading_is_at : Ss :=
  (.cons (.ret (.and (.cmp .NotEq (.mcall 17 0 false (.var 0) .nil) (.lit (.str ""))) (.cmp .In (.mcall 17 0 false (.var 0) .nil) (.var 1))))
  .nil)
def s_Reading_is_at : DefS := ⟨"is_at", methS 12 2, ["self", "signs"], ["self", "signs"], ⟨2, 2, b_Reading_is_at⟩, "Reading.is_at", ("Reading", some ("is_at" : Str))⟩
def b_Reading_take_t1 : Mi.T :=
  (.val (.mcall 18 0 false (.var 0) (.cons (.var 1) .nil)))
def b_Reading_take_w2 : Ss :=
  (.cons (.faug 0 (.var 0) 1 (.lit (.int 1)))
  .nil)
def b_Reading_take : Ss :=
  (.cons (.set 2 (.fld 0 (.var 0) 1))
  (.cons (.while b_Reading_take_t1 b_Reading_take_w2)
  (.cons (.ret (.slice (.fld 0 (.var 0) 0) (.at (.var 2)) (.at (.fld 0 (.var 0) 1))))
  .nil)))
def s_Reading_take : DefS := ⟨"take", methS 12 3, ["self", "signs", "start"], ["self", "signs"], ⟨2, 3, b_Reading_take⟩, "Reading.take", ("Reading", some ("take" : Str))⟩
def b_Reading_integer_s1 : S :=
  (.set 1 (.mcall 18 0 false (.var 0) (.cons (.lit (.str "-")) .nil)))
def b_Reading_integer_s2 : S :=
  (.ite (.val (.var 1))
  (.cons (.faug 0 (.var 0) 1 (.lit (.int 1)))
  .nil)
  .nil)
def b_Reading_integer_s3 : S :=
  (.set 2 (.fld 0 (.var 0) 1))
def b_Reading_integer_s4 : S :=
  (.ite (.or (.not (.val (.mcall 18 0 false (.var 0) (.cons (.gl "FIGURES" (.str "0123456789")) .nil)))) (.and (.val (.var 1)) (.val (.mcall 18 0 false (.var 0) (.cons (.lit (.str "0")) .nil)))))
  (.cons (.raise 2 (some (.fld 0 (.var 0) 1)))
  .nil)
  .nil)
def b_Reading_integer_s5 : S :=
  (.set 3 (.mcall 18 0 false (.var 0) (.cons (.lit (.str "0")) .nil)))
def b_Reading_integer_s6 : S :=
  (.set 4 (.mcall 19 0 false (.var 0) (.cons (.gl "FIGURES" (.str "0123456789")) .nil)))
def b_Reading_integer_s7 : S :=
  (.ite (.and (.val (.var 3)) (.val (.cmp .Gt (.blt .len (.cons (.var 4) .nil)) (.lit (.int 1)))))
  (.cons (.raise 2 (some (.bin false .Add (.var 2) (.lit (.int 1)))))
  .nil)
  .nil)
def b_Reading_integer_s8 : S :=
  (.ite (.val (.cmp .Gt (.blt .len (.cons (.var 4) .nil)) (.gl "MOST_FIGURES" (.int 20))))
  (.cons (.raise 2 (some (.bin false .Add (.var 2) (.gl "MOST_FIGURES" (.int 20)))))
  .nil)
  .nil)
def b_Reading_integer_s9 : S :=
  (.ret (.ite (.val (.var 1)) (.neg (.blt .int (.cons (.var 4) .nil))) (.blt .int (.cons (.var 4) .nil))))
def b_Reading_integer : Ss :=
  (.cons b_Reading_integer_s1
  (.cons b_Reading_integer_s2
  (.cons b_Reading_integer_s3
  (.cons b_Reading_integer_s4
  (.cons b_Reading_integer_s5
  (.cons b_Reading_integer_s6
  (.cons b_Reading_integer_s7
  (.cons b_Reading_integer_s8
  (.cons b_Reading_integer_s9
  .nil)))))))))
def s_Reading_integer : DefS := ⟨"integer", methS 12 4, ["self", "minus", "start", "zero", "figures"], ["self"], ⟨1, 5, b_Reading_integer⟩, "Reading.integer", ("Reading", some ("integer" : Str))⟩
def b_Reading_term : Ss :=
  (.cons (.ite (.val (.mcall 18 0 false (.var 0) (.cons (.lit (.str "(")) .nil)))
  (.cons (.ite (.val (.cmp .Eq (.var 1) (.gl "MOST_OPEN" (.int 12))))
  (.cons (.raise 2 (some (.fld 0 (.var 0) 1)))
  .nil)
  .nil)
  (.cons (.ret (.mcall 22 0 false (.var 0) (.cons (.bin false .Add (.var 1) (.lit (.int 1))) .nil)))
  .nil))
  .nil)
  (.cons (.ite (.val (.mcall 18 0 false (.var 0) (.cons (.gl "NOBODY" (.str ".")) .nil)))
  (.cons (.faug 0 (.var 0) 1 (.lit (.int 1)))
  (.cons (.ret (.lit (.str "")))
  .nil))
  .nil)
  (.cons (.ite (.val (.mcall 18 0 false (.var 0) (.cons (.gl "SMALL" (.str "abcdefghijklmnopqrstuvwxyz")) .nil)))
  (.cons (.set 2 (.mcall 19 0 false (.var 0) (.cons (.gl "SMALL" (.str "abcdefghijklmnopqrstuvwxyz")) .nil)))
  (.cons (.ret (.ite (.val (.cmp .Eq (.var 2) (.gl "NOTHING" (.str "none")))) (.lit .none) (.var 2)))
  .nil))
  .nil)
  (.cons (.ret (.mcall 20 0 false (.var 0) .nil))
  .nil))))
def s_Reading_term : DefS := ⟨"term", methS 12 5, ["self", "depth", "word"], ["self", "depth"], ⟨2, 3, b_Reading_term⟩, "Reading.term", ("Reading", some ("term" : Str))⟩
def b_Reading_entries_t1 : Mi.T :=
  (.not (.val (.mcall 18 0 false (.var 0) (.cons (.lit (.str ")")) .nil))))
def b_Reading_entries_w2 : Ss :=
  (.cons (.ite (.val (.var 2))
  (.cons (.ite (.not (.val (.mcall 18 0 false (.var 0) (.cons (.lit (.str " ")) .nil))))
  (.cons (.raise 2 (some (.fld 0 (.var 0) 1)))
  .nil)
  .nil)
  (.cons (.faug 0 (.var 0) 1 (.lit (.int 1)))
  .nil))
  .nil)
  (.cons (.ex (.meth .append (.var 2) (.cons (.mcall 21 0 false (.var 0) (.cons (.var 1) .nil)) .nil)))
  .nil))
def b_Reading_entries : Ss :=
  (.cons (.faug 0 (.var 0) 1 (.lit (.int 1)))
  (.cons (.set 2 (.lst true .nil))
  (.cons (.while b_Reading_entries_t1 b_Reading_entries_w2)
  (.cons (.faug 0 (.var 0) 1 (.lit (.int 1)))
  (.cons (.ret (.blt .tuple (.cons (.var 2) .nil)))
  .nil)))))
def s_Reading_entries : DefS := ⟨"entries", methS 12 6, ["self", "depth", "found"], ["self", "depth"], ⟨2, 3, b_Reading_entries⟩, "Reading.entries", ("Reading", some ("entries" : Str))⟩
def x_Malformed : DefS := ⟨"__init__", methS 3 0, ["self", "at"], ["self", "at"], ⟨2, 2, .nil⟩, "Malformed.__init__", ("Malformed", some ("__init__" : Str))⟩
def ds : List DefS := [s_term_text, s_read_term, s_law_number, s_law_draws, s_law_next, s_law_more, s_law_pick, s_law_term, s_law_text, s_law_integer, s_law_read, s_law_entries, s_law_due, s_law_told, s_law_refused, s_law, s_Reading___init__, s_Reading_sign, s_Reading_is_at, s_Reading_take, s_Reading_integer, s_Reading_term, s_Reading_entries]
def xs : List DefS := [x_Malformed]
def info : Info := {
  fns := [("term_text", 1), ("read_term", 1), ("_law_number", 1), ("_law_draws", 1), ("_law_next", 1), ("_law_more", 2), ("_law_pick", 2), ("_law_term", 2), ("_law_text", 1), ("_law_integer", 2), ("_law_read", 3), ("_law_entries", 3), ("_law_due", 1), ("_law_told", 1), ("_law_refused", 1), ("law", 1), ("Reading.__init__", 2), ("Reading.sign", 1), ("Reading.is_at", 2), ("Reading.take", 2), ("Reading.integer", 1), ("Reading.term", 2), ("Reading.entries", 2)],
  clss := ["WhereError", "BadNumber", "Malformed"],
  blts := ["all", "int", "isinstance", "len", "list", "range", "repr", "str", "tuple"],
  gls := [("SMALL", (.str "abcdefghijklmnopqrstuvwxyz")), ("FIGURES", (.str "0123456789")), ("MOST_FIGURES", (.int 20)), ("MOST_OPEN", (.int 12)), ("NOBODY", (.str ".")), ("NOTHING", (.str "none"))],
  tabs := [],
  hot := false, hfns := [], ng := 16,
  mths := [("Reading", "__init__"), ("Reading", "sign"), ("Reading", "is_at"), ("Reading", "take"), ("Reading", "integer"), ("Reading", "term"), ("Reading", "entries")],
  ics := [{ name := "Reading", fields := ["text", "at"], init := 16, meths := [("sign", 17), ("is_at", 18), ("take", 19), ("integer", 20), ("term", 21), ("entries", 22)] }],
  xis := [(2, "at")], xbs := ["WhereError"] }
abbrev f_term_text : Nat := 0
abbrev f_read_term : Nat := 1
abbrev f_law_number : Nat := 2
abbrev f_law_draws : Nat := 3
abbrev f_law_next : Nat := 4
abbrev f_law_more : Nat := 5
abbrev f_law_pick : Nat := 6
abbrev f_law_term : Nat := 7
abbrev f_law_text : Nat := 8
abbrev f_law_integer : Nat := 9
abbrev f_law_read : Nat := 10
abbrev f_law_entries : Nat := 11
abbrev f_law_due : Nat := 12
abbrev f_law_told : Nat := 13
abbrev f_law_refused : Nat := 14
abbrev f_law : Nat := 15
abbrev f_Reading___init__ : Nat := 16
abbrev f_Reading_sign : Nat := 17
abbrev f_Reading_is_at : Nat := 18
abbrev f_Reading_take : Nat := 19
abbrev f_Reading_integer : Nat := 20
abbrev f_Reading_term : Nat := 21
abbrev f_Reading_entries : Nat := 22
end K20

set_option maxRecDepth 100000
set_option maxHeartbeats 1000000
namespace K20
open PySem L2 Mi TL
def pr : List FD := ds.map (·.F)
/-! ### the reading, on lists of signs -/
inductive Rd where
  | ok (v : PyData) (q : Nat) (l : List Nat)
  | bad (q : Nat)
def sD : Str := "0123456789"
def sL : Str := "abcdefghijklmnopqrstuvwxyz"
def hdB (s : Str) : List Nat → Bool
  | [] => false
  | c :: _ => decide (c ∈ tl s)
def isD (c : Nat) : Bool := decide (c ∈ tl sD)
def isL (c : Nat) : Bool := decide (c ∈ tl sL)
def pInt2 (m : Bool) (s : Nat) (r : List Nat) : Rd :=
  if (r.takeWhile isD).isEmpty || m && hdB "0" r then .bad s
  else if hdB "0" r && Nat.blt 1 (r.takeWhile isD).length then .bad (s + 1)
  else if Nat.blt 20 (r.takeWhile isD).length then .bad (s + 20)
  else .ok (.int (if m then -((NumText.digitsVal (r.takeWhile isD) : Nat) : Int) else ((NumText.digitsVal (r.takeWhile isD) : Nat) : Int))) (s + (r.takeWhile isD).length) (r.drop (r.takeWhile isD).length)
def pInt (p : Nat) (l : List Nat) : Rd := if hdB "-" l then pInt2 true (p + 1) (l.drop 1) else pInt2 false p l
def wd (w : List Nat) : PyData := if decide ((⟨w.toArray⟩ : Str) = "none") then .none else .str ⟨w.toArray⟩
def pWord (p : Nat) (l : List Nat) : Rd := .ok (wd (l.takeWhile isL)) (p + (l.takeWhile isL).length) (l.drop (l.takeWhile isL).length)
def pLoop (f : Nat → List Nat → Rd) : Nat → Nat → List Nat → List PyData → Rd
  | 0, p, _, _ => .bad p
  | n + 1, p, l, acc => if hdB ")" l then .ok (.tuple acc) (p + 1) (l.drop 1)
    else if !acc.isEmpty && !hdB " " l then .bad p
    else match f (if acc.isEmpty then p else p + 1) (if acc.isEmpty then l else l.drop 1) with
      | .bad q => .bad q
      | .ok v q l' => pLoop f n q l' (acc ++ [v])
def pRest (p : Nat) (l : List Nat) : Rd := if hdB "." l then .ok (.str "") (p + 1) (l.drop 1) else if hdB sL l then pWord p l else pInt p l
def pTerm (F : Nat) : Nat → Nat → List Nat → Rd
  | 0, p, l => if hdB "(" l then .bad p else pRest p l
  | k + 1, p, l => if hdB "(" l then pLoop (pTerm F k) F (p + 1) (l.drop 1) [] else pRest p l
/-! ### what is read is short, and no "bad" -/
def Fine (k n : Nat) (v : PyData) : Prop := v.showable = true ∧ v.depth ≤ k ∧ v.shown.length ≤ 24 * n
def NB (v : PyData) : Prop := PyData.eqv v (.str "bad") = false ∧ ∃ b, isiV (.d v) .str [] = some b
def Fed (k p : Nat) (l : List Nat) (r : Rd) : Prop := ∀ v q l', r = .ok v q l' → ∃ n, 0 < n ∧ n ≤ l.length ∧ q = p + n ∧ l' = l.drop n ∧ Fine k n v ∧ (100 ∉ l → NB v)
theorem hd_cons {s : Str} {l : List Nat} (h : hdB s l = true) : ∃ c r, l = c :: r ∧ c ∈ tl s := by
  cases l with
  | nil => cases h
  | cons c r => exact ⟨c, r, rfl, by simpa [hdB] using h⟩
theorem hd_cons1 {s : Str} {c : Nat} (hs : tl s = [c]) {l : List Nat} (h : hdB s l = true) : ∃ r, l = c :: r := by
  obtain ⟨d, r, rfl, hd⟩ := hd_cons h
  rw [hs] at hd
  simp at hd
  exact ⟨r, by rw [hd]⟩
theorem tw_len {f : Nat → Bool} (l : List Nat) : (l.takeWhile f).length ≤ l.length := by
  have := List.takeWhile_prefix (p := f) (l := l)
  exact this.length_le
theorem tw_take {f : Nat → Bool} (l : List Nat) : l.takeWhile f = l.take (l.takeWhile f).length := by
  have := List.takeWhile_prefix (p := f) (l := l)
  exact (List.prefix_iff_eq_take.mp this)
theorem tw_all {f : Nat → Bool} {l : List Nat} {c : Nat} (h : c ∈ l.takeWhile f) : f c = true := by
  induction l with
  | nil => simp at h
  | cons d r ih =>
    rw [List.takeWhile_cons] at h
    split at h
    · rcases List.mem_cons.mp h with z | z
      · rw [z]; assumption
      · exact ih z
    · simp at h
theorem isD_lt {c : Nat} (h : isD c = true) : 48 ≤ c ∧ c ≤ 57 := by
  have : c ∈ tl sD := by simpa [isD] using h
  have e : tl sD = [48, 49, 50, 51, 52, 53, 54, 55, 56, 57] := by decide +kernel
  rw [e] at this
  simp at this
  omega
theorem isL_lt {c : Nat} (h : isL c = true) : 97 ≤ c ∧ c ≤ 122 := by
  have : c ∈ tl sL := by simpa [isL] using h
  have e : tl sL = [97, 98, 99, 100, 101, 102, 103, 104, 105, 106, 107, 108, 109, 110, 111, 112, 113, 114, 115, 116, 117, 118, 119, 120, 121, 122] := by decide +kernel
  rw [e] at this
  simp at this
  omega
theorem digs_all {l : List Nat} : NumText.AllDigits (l.takeWhile isD) := fun c hc => isD_lt (tw_all hc)
theorem fold_lt : ∀ (cs : List Nat) (a : Nat), NumText.AllDigits cs → cs.foldl (fun acc c => acc * 10 + (c - 48)) a < (a + 1) * 10 ^ cs.length
  | [], a, _ => by simp
  | c :: cs, a, h => by
    have h1 := fold_lt cs (a * 10 + (c - 48)) h.tail
    have h2 := h.head
    have h3 : (a * 10 + (c - 48) + 1) * 10 ^ cs.length ≤ ((a + 1) * 10) * 10 ^ cs.length := Nat.mul_le_mul_right _ (by omega)
    rw [List.foldl_cons, List.length_cons, Nat.pow_succ, Nat.mul_comm (10 ^ cs.length) 10, ← Nat.mul_assoc]
    omega
theorem digitsVal_lt {cs : List Nat} (h : NumText.AllDigits cs) : NumText.digitsVal cs < 10 ^ cs.length := by
  have := fold_lt cs 0 h
  simpa [NumText.digitsVal] using this
theorem tl_neg (m : Nat) (h : 0 < m) : tl (Str.ofString (toString (-((m : Nat) : Int)))) = 45 :: numL m := by
  obtain ⟨k, rfl⟩ : ∃ k, m = k + 1 := ⟨m - 1, by omega⟩
  have e : toString (-((k + 1 : Nat) : Int)) = "-" ++ toString ((k + 1 : Nat) : Int) := rfl
  rw [e, tl_ofString, String.toList_append, List.map_append, ← tl_ofString, ← tl_ofString, tl_num]
  rfl
theorem int_shown {i : Int} {k : Nat} (hk : 0 < k) (h : i.natAbs < 10 ^ k) : (Str.ofString (toString i)).length ≤ k + 1 := by
  rw [len_tl]
  rcases Int.natAbs_eq i with e | e
  · rw [e, tl_num]
    have := numL_len hk h
    omega
  · by_cases z : i.natAbs = 0
    · rw [z] at e
      rw [e]
      exact Nat.le_trans (show _ ≤ 1 by decide +kernel) (by omega)
    · rw [e, tl_neg _ (by omega)]
      have := numL_len hk h
      simp only [List.length_cons]
      omega
theorem log_small {n : Nat} (h : n < 10 ^ 20) : n.log2 < 1919 := by
  by_cases z : n = 0
  · subst z; decide
  · refine (Nat.log2_lt z).mpr (Nat.lt_of_lt_of_le h ?_)
    have : (10 : Nat) ^ 20 ≤ 2 ^ 67 := by decide
    exact Nat.le_trans this (Nat.pow_le_pow_right (by decide) (by decide))
theorem fine_int {i : Int} {k n : Nat} (hn : 0 < n) (h : i.natAbs < 10 ^ 20) : Fine k n (.int i) := by
  have := int_shown (k := 20) (by decide) h
  refine ⟨?_, by simp [PyData.depth], ?_⟩
  · simp only [PyData.showable, decide_eq_true_eq]
    exact Nat.lt_trans (log_small h) (by decide)
  · show (Str.ofString (toString i)).length ≤ _
    omega
theorem fed_int2 {k : Nat} {m : Bool} {s : Nat} {r : List Nat} : Fed k s r (pInt2 m s r) := by
  intro v q l' e
  unfold pInt2 at e
  split at e
  · cases e
  rename_i h1
  split at e
  · cases e
  split at e
  · cases e
  rename_i h3
  simp only [Rd.ok.injEq] at e
  obtain ⟨rfl, rfl, rfl⟩ := e
  have l1 : 0 < (r.takeWhile isD).length := by
    refine List.length_pos_iff.mpr fun z => h1 ?_
    rw [z]; rfl
  have l2 : (r.takeWhile isD).length ≤ 20 := by
    have := h3
    simp only [Nat.blt_eq] at this
    omega
  have lt : NumText.digitsVal (r.takeWhile isD) < 10 ^ 20 := Nat.lt_of_lt_of_le (digitsVal_lt digs_all) (Nat.pow_le_pow_right (by decide) l2)
  refine ⟨_, l1, tw_len r, rfl, rfl, fine_int l1 ?_, fun _ => ?_⟩
  · cases m
    · simpa using lt
    · simpa using lt
  · cases m <;> exact ⟨rfl, _, rfl⟩
theorem fed_one {k p : Nat} {c : Nat} {r : List Nat} {v : PyData} (f : Fine k 1 v) (b : NB v) : Fed k p (c :: r) (.ok v (p + 1) r) := by
  intro v' q l' e
  cases e
  exact ⟨1, by omega, by simp, rfl, rfl, f, fun _ => b⟩
theorem fed_int {k p : Nat} {l : List Nat} : Fed k p l (pInt p l) := by
  unfold pInt
  split
  · rename_i h
    obtain ⟨c, r, rfl, _⟩ := hd_cons h
    intro v q l' e
    obtain ⟨n, h1, h2, h3, h4, ⟨f1, f2, f3⟩, h6⟩ := fed_int2 (k := k) v q l' e
    refine ⟨n + 1, by omega, by simpa using h2, by omega, by simpa using h4, ⟨f1, f2, by omega⟩, fun hb => h6 fun z => hb ?_⟩
    exact List.mem_cons_of_mem _ z
  · exact fed_int2
theorem eqv_str (a b : Str) : PyData.eqv (.str a) (.str b) = decide (a = b) := by
  show (a == b) = _
  rw [Bool.eq_iff_iff]
  simp
theorem fed_word {k p : Nat} {l : List Nat} (h : hdB sL l = true) : Fed k p l (pWord p l) := by
  intro v q l' e
  unfold pWord at e
  simp only [Rd.ok.injEq] at e
  obtain ⟨rfl, rfl, rfl⟩ := e
  have l1 : 0 < (l.takeWhile isL).length := by
    obtain ⟨c, r, rfl, hc⟩ := hd_cons h
    have : isL c = true := by simpa [isL] using hc
    rw [List.takeWhile_cons, this]
    simp
  refine ⟨_, l1, tw_len l, rfl, rfl, ?_, fun hb => ?_⟩
  · unfold wd
    split
    · refine ⟨rfl, by simp [PyData.depth], ?_⟩
      have : (PyData.none.shown).length = 4 := by decide +kernel
      omega
    · refine ⟨rfl, by simp [PyData.depth], ?_⟩
      have := PySem.StrLaws.reprText_len ⟨(l.takeWhile isL).toArray⟩ fun c hc => by
        have : c ∈ l.takeWhile isL := hc
        have := isL_lt (tw_all this)
        omega
      have e2 : (⟨(l.takeWhile isL).toArray⟩ : Str).length = (l.takeWhile isL).length := len_tl _
      show (reprText _).length ≤ _
      omega
  · unfold wd
    split
    · exact ⟨rfl, _, rfl⟩
    · refine ⟨?_, _, rfl⟩
      rw [eqv_str, decide_eq_false_iff_not]
      intro z
      have z2 := congrArg tl z
      have e3 : tl "bad" = [98, 97, 100] := by decide +kernel
      rw [tl_mk, e3] at z2
      apply hb
      have : 100 ∈ l.takeWhile isL := by rw [z2]; decide
      exact (List.takeWhile_prefix (p := isL)).subset this
theorem fed_rest {k p : Nat} {l : List Nat} : Fed k p l (pRest p l) := by
  unfold pRest
  split
  · rename_i h
    obtain ⟨c, r, rfl, _⟩ := hd_cons h
    exact fed_one ⟨rfl, by simp [PyData.depth], by decide +kernel⟩ ⟨by rfl, _, rfl⟩
  · split
    · exact fed_word (by assumption)
    · exact fed_int
/-! ### tuples -/
def Fines (k n : Nat) (acc : List PyData) : Prop := PyData.showableAll acc = true ∧ PyData.depthAll acc ≤ k ∧ piled (PyData.shownAll acc) ≤ 24 * n + 2
theorem showableAll_app : ∀ (a : List PyData) (v : PyData), PyData.showableAll (a ++ [v]) = (PyData.showableAll a && v.showable)
  | [], v => by simp [PyData.showableAll]
  | x :: r, v => by simp [PyData.showableAll, showableAll_app r v, Bool.and_assoc]
theorem depthAll_app : ∀ (a : List PyData) (v : PyData), PyData.depthAll (a ++ [v]) = max (PyData.depthAll a) v.depth
  | [], v => by simp [PyData.depthAll]
  | x :: r, v => by simp [PyData.depthAll, depthAll_app r v, Nat.max_assoc]
theorem shownAll_app : ∀ (a : List PyData) (v : PyData), PyData.shownAll (a ++ [v]) = PyData.shownAll a ++ [v.shown]
  | [], v => by simp [PyData.shownAll]
  | x :: r, v => by simp [PyData.shownAll, shownAll_app r v]
theorem shownAll_len : ∀ (a : List PyData), (PyData.shownAll a).length = a.length
  | [] => rfl
  | x :: r => by simp [PyData.shownAll, shownAll_len r]
theorem tup_len (ts : List Str) : (tupleText ts).length ≤ piled ts + 4 := by
  unfold tupleText
  rw [strLen_append, strLen_append]
  have e1 : ((("(" : String) : Str)).length = 1 := rfl
  have e3 : (((if ts.length == 1 then ",)" else ")" : String) : Str)).length ≤ 2 := by split <;> decide
  by_cases h : ts = []
  · subst h
    have : (Str.join ", " []).length = 0 := by decide +kernel
    omega
  · have := join_length_add ts h
    omega
theorem fed_loop {f : Nat → List Nat → Rd} {k : Nat} (hf : ∀ p l, Fed k p l (f p l)) : ∀ (n p : Nat) (l : List Nat) (acc : List PyData) (m : Nat), Fines k m acc →
    ∀ v q l', pLoop f n p l acc = .ok v q l' → ∃ j, 0 < j ∧ j ≤ l.length ∧ q = p + j ∧ l' = l.drop j ∧ Fine (k + 1) (m + j + 1) v ∧ NB v
  | 0, _, _, _, _, _, _, _, _, e => by cases e
  | n + 1, p, l, acc, m, F, v, q, l', e => by
    unfold pLoop at e
    split at e
    · rename_i h
      obtain ⟨c, r, rfl, _⟩ := hd_cons h
      cases e
      obtain ⟨f1, f2, f4⟩ := F
      refine ⟨1, by omega, by simp, rfl, rfl, ⟨f1, ?_, ?_⟩, ⟨rfl, _, rfl⟩⟩
      · show PyData.depthAll acc + 1 ≤ _
        omega
      · have := tup_len (PyData.shownAll acc)
        show (tupleText (PyData.shownAll acc)).length ≤ _
        omega
    · split at e
      · cases e
      rename_i h1 h2
      have go : ∀ (a : Nat) (v1 : PyData) (q1 : Nat) (l1 : List Nat), (acc.isEmpty = true ∧ a = 0 ∨ acc.isEmpty = false ∧ a = 1 ∧ 0 < l.length) → f (p + a) (l.drop a) = .ok v1 q1 l1 → pLoop f n q1 l1 (acc ++ [v1]) = .ok v q l' →
          ∃ j, 0 < j ∧ j ≤ l.length ∧ q = p + j ∧ l' = l.drop j ∧ Fine (k + 1) (m + j + 1) v ∧ NB v := by
        intro a v1 q1 l1 ha hx e
        obtain ⟨n1, a1, a2, a3, a4, ⟨g1, g2, g3⟩, a6⟩ := hf _ _ v1 q1 l1 hx
        have F' : Fines k (m + n1 + a) (acc ++ [v1]) := by
          obtain ⟨f1, f2, f4⟩ := F
          refine ⟨by rw [showableAll_app, f1, g1]; rfl, by rw [depthAll_app]; omega, ?_⟩
          rw [shownAll_app, piled_append, piled_cons, piled_nil]
          rcases ha with ⟨ha, rfl⟩ | ⟨ha, rfl, _⟩
          · have : acc = [] := List.isEmpty_iff.mp ha
            subst this
            simp only [PyData.shownAll, piled_nil] at f4 ⊢
            omega
          · omega
        rw [List.length_drop] at a2
        obtain ⟨j, b1, b2, b3, b4, b5, b6⟩ := fed_loop hf n q1 l1 (acc ++ [v1]) (m + n1 + a) F' v q l' e
        rw [a4, List.length_drop, List.length_drop] at b2
        refine ⟨a + n1 + j, by omega, by omega, by omega, by rw [b4, a4, List.drop_drop, List.drop_drop, Nat.add_assoc], ?_, b6⟩
        rw [show m + (a + n1 + j) + 1 = m + n1 + a + j + 1 by omega]
        exact b5
      cases ha : acc.isEmpty with
      | true =>
        rw [ha] at e
        simp only [if_true] at e
        cases hx : f p l with
        | bad q => rw [hx] at e; cases e
        | ok v1 q1 l1 => exact go 0 v1 q1 l1 (.inl ⟨ha, rfl⟩) hx (by rw [hx] at e; exact e)
      | false =>
        rw [ha] at e h2
        simp only [Bool.not_false, Bool.true_and, Bool.not_eq_true', Bool.not_eq_false, Bool.false_eq_true, if_false] at e h2
        obtain ⟨c, r, rfl, _⟩ := hd_cons h2
        cases hx : f (p + 1) ((c :: r).drop 1) with
        | bad q => rw [hx] at e; cases e
        | ok v1 q1 l1 => exact go 1 v1 q1 l1 (.inr ⟨ha, rfl, by simp⟩) hx (by rw [hx] at e; exact e)
theorem fed_term (F : Nat) : ∀ (k p : Nat) (l : List Nat), Fed k p l (pTerm F k p l)
  | 0, p, l => by
    unfold pTerm
    split
    · intro v q l' e; cases e
    · exact fed_rest
  | k + 1, p, l => by
    unfold pTerm
    split
    · rename_i h
      obtain ⟨c, r, rfl, _⟩ := hd_cons h
      intro v q l' e
      obtain ⟨j, b1, b2, b3, b4, b5, b6⟩ := fed_loop (fed_term F k) F (p + 1) r [] 0 ⟨rfl, by simp [PyData.depthAll], by simp [PyData.shownAll, piled_nil]⟩ v q l' e
      refine ⟨j + 1, by omega, by simpa using b2, by omega, by simpa using b4, ?_, fun _ => b6⟩
      simpa using b5
    · exact fed_rest
end K20

set_option maxRecDepth 100000
set_option maxHeartbeats 1000000
namespace K20
open PySem L2 Mi TL
/-! ### one sign, a slice -/
def oneS : List Nat → Str
  | [] => ""
  | c :: _ => ⟨#[c]⟩
theorem tl_emp : tl "" = [] := by decide +kernel
theorem one_tl (l : List Nat) : tl (oneS l) = l.take 1 := by
  cases l with
  | nil => exact tl_emp
  | cons c r => rfl
theorem cut_nat {z : Str} {p n : Nat} : cutS z (some (p : Int)) (some ((p : Int) + n)) = ⟨(((tl z).drop p).take n).toArray⟩ := by
  apply ext_tl
  show ((tl z).drop (HT.sIx z.length 0 (some (p : Int)))).take (HT.sIx z.length z.length (some ((p : Int) + n)) - HT.sIx z.length 0 (some (p : Int))) = ((tl z).drop p).take n
  rw [show ((p : Int) + n) = ((p + n : Nat) : Int) by simp, HT.sIx_nat, HT.sIx_nat]
  have e := len_tl z
  by_cases h : p ≤ z.length
  · rw [Nat.min_eq_left h]
    by_cases h2 : p + n ≤ z.length
    · rw [Nat.min_eq_left h2, Nat.add_sub_cancel_left]
    · rw [Nat.min_eq_right (by omega), List.take_of_length_le (by rw [List.length_drop]; omega), List.take_of_length_le (by rw [List.length_drop]; omega)]
  · rw [List.drop_of_length_le (by omega), List.drop_of_length_le (by omega)]
    simp
theorem cut1 {z : Str} {p : Nat} {l : List Nat} (h : l = (tl z).drop p) : cutS z (some (p : Int)) (some ((p : Int) + 1)) = oneS l := by
  have := cut_nat (z := z) (p := p) (n := 1)
  rw [show ((1 : Nat) : Int) = 1 from rfl] at this
  rw [this, ← h]
  apply ext_tl
  rw [one_tl]
theorem one_eq {s : Str} {c : Nat} (hs : tl s = [c]) (l : List Nat) : PyData.eqv (.str (oneS l)) (.str s) = hdB s l := by
  rw [eqv_str]
  cases l with
  | nil =>
    show decide (("" : Str) = s) = false
    rw [decide_eq_false_iff_not]
    intro h
    rw [← h, tl_emp] at hs
    cases hs
  | cons d r =>
    show decide ((⟨#[d]⟩ : Str) = s) = decide (d ∈ tl s)
    rw [hs]
    refine decide_eq_decide.mpr ⟨fun h => ?_, fun h => ?_⟩
    · have := congrArg tl h
      rw [hs] at this
      exact List.mem_singleton.mpr (by injection this)
    · rw [List.mem_singleton] at h
      subst h
      exact ext_tl (by rw [hs])
theorem one_emp (l : List Nat) : PyData.eqv (.str (oneS l)) (.str "") = l.isEmpty := by
  rw [eqv_str]
  cases l with
  | nil => rfl
  | cons d r =>
    rw [decide_eq_false_iff_not.mpr]
    · rfl
    · intro h
      have := congrArg tl h
      rw [tl_emp] at this
      cases this
theorem one_in {l : List Nat} (s : Str) (h : l.isEmpty = false) : strIn (oneS l) s = hdB s l := by
  cases l with
  | nil => cases h
  | cons c r => rfl
theorem tl_minus : tl "-" = [45] := by decide +kernel
theorem tl_zero : tl "0" = [48] := by decide +kernel
theorem tl_open : tl "(" = [40] := by decide +kernel
theorem tl_shut : tl ")" = [41] := by decide +kernel
theorem tl_dot : tl "." = [46] := by decide +kernel
theorem tl_spc : tl " " = [32] := by decide +kernel
theorem slc {z : Str} {h : MH} (hz : z.length ≤ 10000) {p : Nat} {l : List Nat} (e : l = (tl z).drop p) : sliceV (.d (.str z)) (some (p : Int)) (some ((p : Int) + 1)) h = some (.d (.str (oneS l))) := by
  have ln : lineOk z.length = true := Nat.ble_eq_true_of_le (by omega)
  simp only [sliceV, ln, if_true, cut1 e]
theorem slcn {z : Str} {h : MH} (hz : z.length ≤ 10000) {p n : Nat} : sliceV (.d (.str z)) (some (p : Int)) (some ((p : Int) + n)) h = some (.d (.str ⟨(((tl z).drop p).take n).toArray⟩)) := by
  have ln : lineOk z.length = true := Nat.ble_eq_true_of_le (by omega)
  simp only [sliceV, ln, if_true, cut_nat]
theorem eq_s (a b : Str) (h : MH) : cmpV .Eq (.d (.str a)) (.d (.str b)) h = some (PyData.eqv (.str a) (.str b)) := rfl
theorem ne_s (a b : Str) (h : MH) : cmpV .NotEq (.d (.str a)) (.d (.str b)) h = some (!PyData.eqv (.str a) (.str b)) := rfl
theorem in_s (a b : Str) (h : MH) : cmpV .In (.d (.str a)) (.d (.str b)) h = some (strIn a b) := rfl
theorem eq_i (a b : Int) (h : MH) : cmpV .Eq (.d (.int a)) (.d (.int b)) h = some (decide (a = b)) := rfl
/-- where the run ends -/
theorem run_at {f : Nat → Bool} {cs l : List Nat} {s i : Nat} (e : l = cs.drop s) (hi : i < (l.takeWhile f).length) : ∃ c, cs[s + i]? = some c ∧ f c = true := by
  have h1 := tw_len (f := f) l
  have h2 : i < l.length := by omega
  refine ⟨l[i], ?_, ?_⟩
  · have : l[i]? = cs[s + i]? := by rw [e, List.getElem?_drop]
    rw [← this, List.getElem?_eq_getElem h2]
  · have e2 : (l.takeWhile f)[i] = l[i] := List.IsPrefix.getElem (List.takeWhile_prefix f) hi
    rw [← e2]
    exact tw_all (List.getElem_mem hi)
theorem run_end {f : Nat → Bool} {cs l : List Nat} {s : Nat} (e : l = cs.drop s) : cs[s + (l.takeWhile f).length]? = none ∨ ∃ c, cs[s + (l.takeWhile f).length]? = some c ∧ f c = false := by
  have : cs[s + (l.takeWhile f).length]? = l[(l.takeWhile f).length]? := by rw [e, List.getElem?_drop]
  rw [this]
  clear this e
  induction l with
  | nil => left; rfl
  | cons c r ih =>
    rw [List.takeWhile_cons]
    cases h : f c with
    | true =>
      simp only [if_true, List.length_cons, List.getElem?_cons_succ]
      exact ih
    | false => right; exact ⟨c, rfl, h⟩
/-- the loop that goes on over signs of one kind -/
theorem run_loop {Φ : Nat → List W → M W} {b : Ss} {z sg : Str} {f : Nat → Bool} {i : Nat} (hz : z.length ≤ 10000) (hf : ∀ c, f c = decide (c ∈ tl sg)) (mk : Nat → Option W → Ev)
    (hset : ∀ p o w, (mk p o).set i (some w) = mk p (some w))
    (hb : ∀ p o h, evSs Φ b (mk p o) h = if decide (p < z.length) && (match (tl z)[p]? with | some c => decide (c ∈ tl sg) | none => false) then .ok (.nx (mk (p + 1) o)) h else .ok (.nx (mk p o)) h)
    {s : Nat} {l : List Nat} {h : MH} {o : Option W} (e : l = (tl z).drop s) :
    ∃ o', forL (rngFrom 0 z.length, none) [i] false (fun env h => evSs Φ b env h) (rngFrom 0 z.length) (mk s o) h = .ok (.nx (mk (s + (l.takeWhile f).length) o')) h := by
  obtain ⟨env2, h2, e1, o', rfl, rfl⟩ := forL_inv (src := (rngFrom 0 z.length, none)) (tg := [i]) (tup := false) (body := fun env h => evSs Φ b env h)
    (fun j env h' => ∃ o, env = mk (s + min j (l.takeWhile f).length) o ∧ h' = h) (rngFrom 0 z.length) 0 (mk s o) h ⟨o, by simp, rfl⟩ (fun _ _ _ _ => rfl) (by
      rintro j env h' w hw ⟨o, rfl, rfl⟩
      refine ⟨_, rfl, ?_⟩
      rw [hset]
      rw [Nat.zero_add]
      by_cases hj : j < (l.takeWhile f).length
      · obtain ⟨c, hc, hfc⟩ := run_at e hj
        have hlt : s + j < z.length := by rw [len_tl]; exact (List.getElem?_eq_some_iff.mp hc).1
        refine ⟨mk (s + j + 1) (some w), h', .inl ?_, some w, ?_, rfl⟩
        · rw [Nat.min_eq_left (by omega), hb, hc]
          simp only [← hf, hfc, hlt, decide_true, Bool.and_self, if_true]
        · rw [Nat.min_eq_left (by omega)]
          rfl
      · refine ⟨mk (s + (l.takeWhile f).length) (some w), h', .inl ?_, some w, ?_, rfl⟩
        · rw [Nat.min_eq_right (by omega), hb]
          rcases run_end (f := f) e with hn | ⟨c, hc, hfc⟩
          · rw [hn]; simp
          · rw [hc]
            simp only [← hf, hfc, Bool.and_false, Bool.false_eq_true, if_false]
        · rw [Nat.min_eq_right (by omega)])
  refine ⟨o', ?_⟩
  rw [e1]
  rw [rng_len, Nat.zero_add, Nat.min_eq_right]
  have := tw_len (f := f) l
  have h2 := congrArg List.length e
  rw [List.length_drop] at h2
  have := len_tl z
  omega
end K20

set_option maxRecDepth 100000
set_option maxHeartbeats 1000000
namespace K20
open PySem L2 Mi TL
def encR : Rd → PyData
  | .ok v q _ => .list [v, .int q]
  | .bad q => .list [.str "bad", .int q]
theorem len_w {z : Str} {h : MH} (hz : z.length ≤ 10000) : lenV [.d (.str z)] h = .ok (.d (.int z.length)) h := by
  have ln : lineOk z.length = true := Nat.ble_eq_true_of_le (by omega)
  simp [lenV, ln]
theorem idx_s {z : Str} {h : MH} (hz : z.length ≤ 10000) {p c : Nat} (e : (tl z)[p]? = some c) : idxV (.d (.str z)) (.d (.int (p : Int))) h = some (.d (.str ⟨#[c]⟩)) := by
  have ln : lineOk z.length = true := Nat.ble_eq_true_of_le (by omega)
  have := atI_nat e
  simp only [idxV, ln, if_true]
  rw [show z.cps.toList = tl z from rfl, this]
  rfl
theorem int_f1 {Φ : Nat → List W → M W} {z : Str} {e2 e3 : Option W} (hz : z.length ≤ 10000) (p : Nat) (o : Option W) (h : MH) :
    evSs Φ b_law_integer_f1 [some (.d (.str z)), some (.d (.int (p : Int))), e2, e3, o] h = if decide (p < z.length) && (match (tl z)[p]? with | some c => decide (c ∈ tl sD) | none => false) then .ok (.nx [some (.d (.str z)), some (.d (.int ((p + 1 : Nat) : Int))), e2, e3, o]) h else .ok (.nx [some (.d (.str z)), some (.d (.int (p : Int))), e2, e3, o]) h := by
  have lw : lineOk z.length = true := Nat.ble_eq_true_of_le (by omega)
  by_cases hp : p < z.length
  · obtain ⟨c, hc⟩ : ∃ c, (tl z)[p]? = some c := ⟨_, List.getElem?_eq_getElem (show p < (tl z).length by rw [← len_tl]; exact hp)⟩
    have ix := idx_s (h := h) hz hc
    have si : strIn ⟨#[c]⟩ "0123456789" = decide (c ∈ tl sD) := rfl
    rw [hc]
    simp only [hp, decide_true, Bool.true_and]
    generalize decide (c ∈ tl sD) = k at si ⊢
    cases k <;> simp [Mi.runF, Mi.evSs, Mi.evS, Mi.evE, Mi.evT, Mi.evP, Mi.evEs, Mi.evIt, Mi.lift, Mi.bltV, Mi.intV, Mi.lenV, Mi.binV, Mi.intOp, Mi.cmpV, Mi.truV, Mi.mthV, Mi.recvOk, Mi.listOf, Mi.seqOf, Mi.dOf, Mi.cellL, Mi.srcOf, Mi.srcOk, Mi.setTg, Mi.setAll, Mi.mkL, Mi.toDs, Mi.In_len, Mi.In_app, Mi.In_one, Mi.In_drop, Mi.In_rev, Mi.In_emp, Mi.In_nl, Mi.In_get, Mi.toDs_In, b_law_integer_f1, lw, ix, Mi.inV, si, hp]
  · simp [Mi.runF, Mi.evSs, Mi.evS, Mi.evE, Mi.evT, Mi.evP, Mi.evEs, Mi.evIt, Mi.lift, Mi.bltV, Mi.intV, Mi.lenV, Mi.binV, Mi.intOp, Mi.cmpV, Mi.truV, Mi.mthV, Mi.recvOk, Mi.listOf, Mi.seqOf, Mi.dOf, Mi.cellL, Mi.srcOf, Mi.srcOk, Mi.setTg, Mi.setAll, Mi.mkL, Mi.toDs, Mi.In_len, Mi.In_app, Mi.In_one, Mi.In_drop, Mi.In_rev, Mi.In_emp, Mi.In_nl, Mi.In_get, Mi.toDs_In, b_law_integer_f1, lw, hp]
theorem lit_bad {Φ : Nat → List W → M W} {e : E} {env : Ev} {h : MH} {q : Nat} (he : evE Φ e env h = .ok (.d (.int (q : Int))) h) : evE Φ (.lst false (.cons (.lit (.str "bad")) (.cons e .nil))) env h = .ok (.d (encR (.bad q))) h := by
  simp [evE, evEs, he, mkL, toDs, encR]
theorem tk_one {l : List Nat} {c : Nat} {s : Str} (hs : tl s = [c]) (h : hdB s l = true) : l = c :: l.drop 1 := by
  obtain ⟨r, rfl⟩ := hd_cons1 hs h
  rfl
theorem drop1 {z : Str} {p : Nat} {l : List Nat} (e : l = (tl z).drop p) : l.drop 1 = (tl z).drop (p + 1) := by
  rw [e, List.drop_drop]
theorem int_text {m : Bool} {w : List Nat} (h : NumText.AllDigits w) (h1 : w ≠ []) (h2 : w.length ≤ 600) (hp : MH) : intV [.d (.str ⟨(if m then 45 :: w else w).toArray⟩)] hp = .ok (.d (.int (if m then -((NumText.digitsVal w : Nat) : Int) else ((NumText.digitsVal w : Nat) : Int)))) hp := by
  cases m with
  | false =>
    have e := intText_digits (x := ⟨w.toArray⟩) h h1 (by rw [len_tl]; show w.length ≤ _; omega)
    have l : Nat.ble (⟨w.toArray⟩ : Str).length 640 = true := Nat.ble_eq_true_of_le (by rw [len_tl]; show w.length ≤ _; omega)
    simp only [intV, Bool.false_eq_true, if_false, e, l, if_true]
  | true =>
    have e := intText_neg (x := ⟨(45 :: w).toArray⟩) rfl h h1 (by rw [len_tl]; show w.length + 1 ≤ _; omega)
    have l : Nat.ble (⟨(45 :: w).toArray⟩ : Str).length 640 = true := Nat.ble_eq_true_of_le (by rw [len_tl]; show w.length + 1 ≤ _; omega)
    simp only [intV, if_true, e, l]
theorem hd_at {cs r : List Nat} {s : Nat} (e : r = cs.drop s) (h : (r.takeWhile isD).isEmpty = false) : ∃ c, cs[s]? = some c ∧ hdB "0" r = decide (c ∈ tl "0") := by
  cases r with
  | nil => cases h
  | cons c t =>
    have : (c :: t)[0]? = cs[s + 0]? := by rw [e, List.getElem?_drop]
    exact ⟨c, this.symm, rfl⟩
/-- the end of the law's reading of an integer -/
theorem int_end {n : Nat} {z : Str} {m : Bool} {s st : Nat} {r : List Nat} {o : Option W} (hz : z.length ≤ 10000) (e : r = (tl z).drop s) (hm : (m = true ∧ st + 1 = s ∧ ∃ t, (tl z).drop st = 45 :: t) ∨ (m = false ∧ st = s)) (hb : (m && hdB "0" r) = false) :
    evSs (callN pr n) (.cons b_law_integer_s4 (.cons b_law_integer_s5 (.cons b_law_integer_s6 (.cons b_law_integer_s7 (.cons b_law_integer_s8 (.cons b_law_integer_s9 .nil)))))) [some (.d (.str z)), some (.d (.int (s : Int))), some (.d (.int (st : Int))), none, o] [] = .ok (.ret (.d (encR (pInt2 m s r)))) [] := by
  have lw : lineOk z.length = true := Nat.ble_eq_true_of_le (by omega)
  have rl : rngOk (z.length : Int) = true := Nat.ble_eq_true_of_le (by simp; omega)
  obtain ⟨o', lp⟩ := run_loop (Φ := callN pr n) (b := b_law_integer_f1) (z := z) (sg := sD) (f := isD) (i := 4) hz (fun _ => rfl) (fun p o => [some (.d (.str z)), some (.d (.int (p : Int))), some (.d (.int (st : Int))), some (.d (.int (s : Int))), o]) (fun _ _ _ => rfl) (int_f1 hz) (h := []) (o := o) e
  have hdig := digs_all (l := r)
  have hz0 := hd_at e
  have htake := tw_take (f := isD) r
  unfold pInt2
  generalize hw : r.takeWhile isD = w at *
  have E4 : evS (callN pr n) b_law_integer_s4 [some (.d (.str z)), some (.d (.int (s : Int))), some (.d (.int (st : Int))), none, o] [] = .ok (.nx [some (.d (.str z)), some (.d (.int (s : Int))), some (.d (.int (st : Int))), some (.d (.int (s : Int))), o]) [] := by
    simp [Mi.runF, Mi.evSs, Mi.evS, Mi.evE, Mi.evT, Mi.evP, Mi.evEs, Mi.evIt, Mi.lift, Mi.bltV, Mi.intV, Mi.lenV, Mi.binV, Mi.intOp, Mi.cmpV, Mi.truV, Mi.mthV, Mi.recvOk, Mi.listOf, Mi.seqOf, Mi.dOf, Mi.cellL, Mi.srcOf, Mi.srcOk, Mi.setTg, Mi.setAll, Mi.mkL, Mi.toDs, Mi.In_len, Mi.In_app, Mi.In_one, Mi.In_drop, Mi.In_rev, Mi.In_emp, Mi.In_nl, Mi.In_get, Mi.toDs_In, b_law_integer_s4]
  have E5 : evS (callN pr n) b_law_integer_s5 [some (.d (.str z)), some (.d (.int (s : Int))), some (.d (.int (st : Int))), some (.d (.int (s : Int))), o] [] = .ok (.nx [some (.d (.str z)), some (.d (.int ((s + w.length : Nat) : Int))), some (.d (.int (st : Int))), some (.d (.int (s : Int))), o']) [] := by
    simp only [b_law_integer_s5, evSs, evS, evE, evEs, evIt, bltV, len_w hz, lift, List.getElem?_cons_zero, List.getElem?_cons_succ, Option.join_some, bind_ok, toS_ok, List.set_cons_zero, List.set_cons_succ, rl, if_true, Int.toNat_natCast, lp]
  rw [hb, Bool.or_false]
  cases he : w.isEmpty with
  | true =>
    have : w = [] := List.isEmpty_iff.mp he
    subst this
    have q : PyData.eqv (.int (s : Int)) (.int (s : Int)) = true := by simp [PyData.eqv]
    have E6 : evS (callN pr n) b_law_integer_s6 [some (.d (.str z)), some (.d (.int ((s + ([] : List Nat).length : Nat) : Int))), some (.d (.int (st : Int))), some (.d (.int (s : Int))), o'] [] = .ok (.ret (.d (encR (.bad s)))) [] := by
      simp [Mi.runF, Mi.evSs, Mi.evS, Mi.evE, Mi.evT, Mi.evP, Mi.evEs, Mi.evIt, Mi.lift, Mi.bltV, Mi.intV, Mi.lenV, Mi.binV, Mi.intOp, Mi.cmpV, Mi.truV, Mi.mthV, Mi.recvOk, Mi.listOf, Mi.seqOf, Mi.dOf, Mi.cellL, Mi.srcOf, Mi.srcOk, Mi.setTg, Mi.setAll, Mi.mkL, Mi.toDs, Mi.In_len, Mi.In_app, Mi.In_one, Mi.In_drop, Mi.In_rev, Mi.In_emp, Mi.In_nl, Mi.In_get, Mi.toDs_In, b_law_integer_s6, eqD, depOk, PyData.depth, q, encR]
    simp only [evSs, E4, E5, E6, if_true]
  | false =>
    have w0 : w ≠ [] := by rintro rfl; cases he
    have wl : 0 < w.length := List.length_pos_iff.mpr w0
    obtain ⟨c, hc, hz1⟩ := hz0 he
    have q : PyData.eqv (.int ((s : Int) + w.length)) (.int (s : Int)) = false := by simp [PyData.eqv, w0]; omega
    have E6 : evS (callN pr n) b_law_integer_s6 [some (.d (.str z)), some (.d (.int ((s + w.length : Nat) : Int))), some (.d (.int (st : Int))), some (.d (.int (s : Int))), o'] [] = .ok (.nx [some (.d (.str z)), some (.d (.int ((s + w.length : Nat) : Int))), some (.d (.int (st : Int))), some (.d (.int (s : Int))), o']) [] := by
      simp [Mi.runF, Mi.evSs, Mi.evS, Mi.evE, Mi.evT, Mi.evP, Mi.evEs, Mi.evIt, Mi.lift, Mi.bltV, Mi.intV, Mi.lenV, Mi.binV, Mi.intOp, Mi.cmpV, Mi.truV, Mi.mthV, Mi.recvOk, Mi.listOf, Mi.seqOf, Mi.dOf, Mi.cellL, Mi.srcOf, Mi.srcOk, Mi.setTg, Mi.setAll, Mi.mkL, Mi.toDs, Mi.In_len, Mi.In_app, Mi.In_one, Mi.In_drop, Mi.In_rev, Mi.In_emp, Mi.In_nl, Mi.In_get, Mi.toDs_In, b_law_integer_s6, eqD, depOk, PyData.depth, q]
    have ix := idx_s (h := []) hz hc
    have c0 : PyData.eqv (.str ⟨#[c]⟩) (.str "0") = hdB "0" r := by
      rw [hz1]
      exact one_eq tl_zero [c]
    have b1 : Nat.blt 1 w.length = decide (1 < w.length) := by rw [Bool.eq_iff_iff, decide_eq_true_eq, Nat.blt_eq]
    have b2 : Nat.blt 20 w.length = decide (20 < w.length) := by rw [Bool.eq_iff_iff, decide_eq_true_eq, Nat.blt_eq]
    have E7 : evS (callN pr n) b_law_integer_s7 [some (.d (.str z)), some (.d (.int ((s + w.length : Nat) : Int))), some (.d (.int (st : Int))), some (.d (.int (s : Int))), o'] [] = if hdB "0" r && Nat.blt 1 w.length then .ok (.ret (.d (encR (.bad (s + 1))))) [] else .ok (.nx [some (.d (.str z)), some (.d (.int ((s + w.length : Nat) : Int))), some (.d (.int (st : Int))), some (.d (.int (s : Int))), o']) [] := by
      rw [b1]
      generalize hdB "0" r = k2 at c0
      by_cases h : 1 < w.length
      · have h' : (s : Int) + 1 < (s : Int) + w.length := by omega
        have h'' : (1 : Int) < w.length := by omega
        cases k2 <;> simp [b_law_integer_s7, evSs, evS, evE, evEs, evT, lift, cmpV, dOf, truV, binV, intOp, mkL, toDs, eqD, depOk, PyData.depth, ix, c0, h, h', h'', encR]
      · have h' : ¬ (s : Int) + 1 < (s : Int) + w.length := by omega
        have h'' : ¬ (1 : Int) < w.length := by omega
        cases k2 <;> simp [b_law_integer_s7, evSs, evS, evE, evEs, evT, lift, cmpV, dOf, truV, binV, intOp, mkL, toDs, eqD, depOk, PyData.depth, ix, c0, h, h', h'', encR]
    have E8 : evS (callN pr n) b_law_integer_s8 [some (.d (.str z)), some (.d (.int ((s + w.length : Nat) : Int))), some (.d (.int (st : Int))), some (.d (.int (s : Int))), o'] [] = if Nat.blt 20 w.length then .ok (.ret (.d (encR (.bad (s + 20))))) [] else .ok (.nx [some (.d (.str z)), some (.d (.int ((s + w.length : Nat) : Int))), some (.d (.int (st : Int))), some (.d (.int (s : Int))), o']) [] := by
      rw [b2]
      by_cases h : 20 < w.length
      · have h' : (20 : Int) < (s : Int) + w.length - s := by omega
        simp [b_law_integer_s8, evSs, evS, evE, evEs, evT, lift, cmpV, dOf, truV, binV, intOp, mkL, toDs, eqD, depOk, PyData.depth, h, h', encR]
      · have h' : ¬ (20 : Int) < (s : Int) + w.length - s := by omega
        simp [b_law_integer_s8, evSs, evS, evE, evEs, evT, lift, cmpV, dOf, truV, binV, intOp, mkL, toDs, eqD, depOk, PyData.depth, h, h', encR]
    simp only [evSs, E4, E5, E6, E7, E8, Bool.false_eq_true, if_false]
    cases h7 : (hdB "0" r && Nat.blt 1 w.length) with
    | true => simp only [if_true]
    | false =>
      simp only [Bool.false_eq_true, if_false, E8]
      cases h8 : Nat.blt 20 w.length with
      | true => simp only [if_true]
      | false =>
        simp only [Bool.false_eq_true, if_false]
        have l20 : w.length ≤ 20 := by
          rw [b2, decide_eq_false_iff_not] at h8
          omega
        have sl : sliceV (.d (.str z)) (some (st : Int)) (some (((s + w.length : Nat) : Int))) ([] : MH) = some (.d (.str ⟨(if m then 45 :: w else w).toArray⟩)) := by
          rcases hm with ⟨rfl, rfl, t, ht⟩ | ⟨rfl, rfl⟩
          · have := slcn (h := []) hz (p := st) (n := w.length + 1)
            rw [show ((st + 1 + w.length : Nat) : Int) = (st : Int) + ((w.length + 1 : Nat) : Int) by omega, this, ht]
            have et : r = t := by rw [e, ← List.drop_drop, ht]; rfl
            rw [← et, List.take_succ_cons, ← htake]
            rfl
          · have := slcn (h := []) hz (p := st) (n := w.length)
            rw [show ((st + w.length : Nat) : Int) = (st : Int) + ((w.length : Nat) : Int) by omega, this, ← e, ← htake]
            rfl
        have it := int_text (m := m) hdig w0 (by omega) []
        simp only [b_law_integer_s9, evS, evE, evEs, evP, lift, List.getElem?_cons_zero, List.getElem?_cons_succ, Option.join_some, bind_ok, toS_ok, sl, bltV, it, mkL, Bool.false_eq_true, if_false, toDs, Option.map_some, encR]
end K20

set_option maxRecDepth 100000
set_option maxHeartbeats 1000000
namespace K20
open PySem L2 Mi TL
theorem integer_c {n : Nat} {z : Str} {p : Nat} {l : List Nat} (hz : z.length ≤ 10000) (e : l = (tl z).drop p) : callN pr (n + 1) 9 [.d (.str z), .d (.int (p : Int))] [] = .ok (.d (encR (pInt p l))) [] := by
  rw [callN_eq (fd := ⟨2, 5, b_law_integer⟩) rfl]
  have sl := slc (h := []) hz e
  have hm := one_eq tl_minus l
  have E2 : evS (callN pr n) b_law_integer_s2 [some (.d (.str z)), some (.d (.int (p : Int))), none, none, none] [] = .ok (.nx [some (.d (.str z)), some (.d (.int (p : Int))), some (.d (.int (p : Int))), none, none]) [] := by
    simp [Mi.runF, Mi.evSs, Mi.evS, Mi.evE, Mi.evT, Mi.evP, Mi.evEs, Mi.evIt, Mi.lift, Mi.bltV, Mi.intV, Mi.lenV, Mi.binV, Mi.intOp, Mi.cmpV, Mi.truV, Mi.mthV, Mi.recvOk, Mi.listOf, Mi.seqOf, Mi.dOf, Mi.cellL, Mi.srcOf, Mi.srcOk, Mi.setTg, Mi.setAll, Mi.mkL, Mi.toDs, Mi.In_len, Mi.In_app, Mi.In_one, Mi.In_drop, Mi.In_rev, Mi.In_emp, Mi.In_nl, Mi.In_get, Mi.toDs_In, b_law_integer_s2]
  unfold pInt
  cases h : hdB "-" l with
  | false =>
    rw [h] at hm
    have E3 : evS (callN pr n) b_law_integer_s3 [some (.d (.str z)), some (.d (.int (p : Int))), some (.d (.int (p : Int))), none, none] [] = .ok (.nx [some (.d (.str z)), some (.d (.int (p : Int))), some (.d (.int (p : Int))), none, none]) [] := by
      simp [Mi.runF, Mi.evSs, Mi.evS, Mi.evE, Mi.evT, Mi.evP, Mi.evEs, Mi.evIt, Mi.lift, Mi.bltV, Mi.intV, Mi.lenV, Mi.binV, Mi.intOp, Mi.cmpV, Mi.truV, Mi.mthV, Mi.recvOk, Mi.listOf, Mi.seqOf, Mi.dOf, Mi.cellL, Mi.srcOf, Mi.srcOk, Mi.setTg, Mi.setAll, Mi.mkL, Mi.toDs, Mi.In_len, Mi.In_app, Mi.In_one, Mi.In_drop, Mi.In_rev, Mi.In_emp, Mi.In_nl, Mi.In_get, Mi.toDs_In, b_law_integer_s3, sl, eqD, depOk, PyData.depth, hm]
    have E := int_end (n := n) (m := false) (s := p) (st := p) (o := none) hz e (.inr ⟨rfl, rfl⟩) rfl
    simp only [runF, b_law_integer, List.length_cons, List.length_nil, List.map_cons, List.map_nil, List.replicate, List.cons_append, List.nil_append, evSs, E2, E3] at E ⊢
    simp only [E]
    rfl
  | true =>
    rw [h] at hm
    have e1 := drop1 e
    have lt := tk_one tl_minus h
    have sl2 := slc (h := []) hz e1
    have hm2 := one_eq tl_zero (l.drop 1)
    generalize hr : l.drop 1 = r at *
    cases h0 : hdB "0" r with
    | true =>
      rw [h0] at hm2
      have E3 : evS (callN pr n) b_law_integer_s3 [some (.d (.str z)), some (.d (.int (p : Int))), some (.d (.int (p : Int))), none, none] [] = .ok (.ret (.d (encR (.bad (p + 1))))) [] := by
        rw [show ((p + 1 : Nat) : Int) = (p : Int) + 1 from rfl] at sl2
        simp [Mi.runF, Mi.evSs, Mi.evS, Mi.evE, Mi.evT, Mi.evP, Mi.evEs, Mi.evIt, Mi.lift, Mi.bltV, Mi.intV, Mi.lenV, Mi.binV, Mi.intOp, Mi.cmpV, Mi.truV, Mi.mthV, Mi.recvOk, Mi.listOf, Mi.seqOf, Mi.dOf, Mi.cellL, Mi.srcOf, Mi.srcOk, Mi.setTg, Mi.setAll, Mi.mkL, Mi.toDs, Mi.In_len, Mi.In_app, Mi.In_one, Mi.In_drop, Mi.In_rev, Mi.In_emp, Mi.In_nl, Mi.In_get, Mi.toDs_In, b_law_integer_s3, sl, sl2, eqD, depOk, PyData.depth, hm, hm2, encR]
      have : pInt2 true (p + 1) r = .bad (p + 1) := by
        unfold pInt2
        rw [h0]
        simp
      simp only [runF, b_law_integer, List.length_cons, List.length_nil, List.map_cons, List.map_nil, List.replicate, List.cons_append, List.nil_append, evSs, E2, E3, this, if_true]
      rfl
    | false =>
      rw [h0] at hm2
      have E3 : evS (callN pr n) b_law_integer_s3 [some (.d (.str z)), some (.d (.int (p : Int))), some (.d (.int (p : Int))), none, none] [] = .ok (.nx [some (.d (.str z)), some (.d (.int ((p + 1 : Nat) : Int))), some (.d (.int (p : Int))), none, none]) [] := by
        rw [show ((p + 1 : Nat) : Int) = (p : Int) + 1 from rfl] at sl2
        simp [Mi.runF, Mi.evSs, Mi.evS, Mi.evE, Mi.evT, Mi.evP, Mi.evEs, Mi.evIt, Mi.lift, Mi.bltV, Mi.intV, Mi.lenV, Mi.binV, Mi.intOp, Mi.cmpV, Mi.truV, Mi.mthV, Mi.recvOk, Mi.listOf, Mi.seqOf, Mi.dOf, Mi.cellL, Mi.srcOf, Mi.srcOk, Mi.setTg, Mi.setAll, Mi.mkL, Mi.toDs, Mi.In_len, Mi.In_app, Mi.In_one, Mi.In_drop, Mi.In_rev, Mi.In_emp, Mi.In_nl, Mi.In_get, Mi.toDs_In, b_law_integer_s3, sl, sl2, eqD, depOk, PyData.depth, hm, hm2]
      have E := int_end (n := n) (m := true) (s := p + 1) (st := p) (o := none) hz e1 (.inl ⟨rfl, rfl, r, by rw [← e]; exact lt⟩) (by rw [h0]; rfl)
      simp only [runF, b_law_integer, List.length_cons, List.length_nil, List.map_cons, List.map_nil, List.replicate, List.cons_append, List.nil_append, evSs, E2, E3] at E ⊢
      simp only [E]
      rfl
theorem integer_w {n : Nat} {mu : Bool} {z : Str} {p : Nat} {l : List Nat} (h : MH) (hz : z.length ≤ 10000) (e : l = (tl z).drop p) : callW (callN pr (n + 1)) mu 9 [.d (.str z), .d (.int (p : Int))] h = .ok (.d (encR (pInt p l))) h :=
  callW_data (ds := [.str z, .int p]) h (integer_c hz e)
end K20

set_option maxRecDepth 100000
set_option maxHeartbeats 1000000
namespace K20
open PySem L2 Mi TL
theorem read_f1 {Φ : Nat → List W → M W} {z : Str} {e1 e2 e3 : Option W} (hz : z.length ≤ 10000) (p : Nat) (o : Option W) (h : MH) :
    evSs Φ b_law_read_f1 [some (.d (.str z)), e1, e2, e3, some (.d (.int (p : Int))), o] h = if decide (p < z.length) && (match (tl z)[p]? with | some c => decide (c ∈ tl sL) | none => false) then .ok (.nx [some (.d (.str z)), e1, e2, e3, some (.d (.int ((p + 1 : Nat) : Int))), o]) h else .ok (.nx [some (.d (.str z)), e1, e2, e3, some (.d (.int (p : Int))), o]) h := by
  have lw : lineOk z.length = true := Nat.ble_eq_true_of_le (by omega)
  by_cases hp : p < z.length
  · obtain ⟨c, hc⟩ : ∃ c, (tl z)[p]? = some c := ⟨_, List.getElem?_eq_getElem (show p < (tl z).length by rw [← len_tl]; exact hp)⟩
    have ix := idx_s (h := h) hz hc
    have si : strIn ⟨#[c]⟩ "abcdefghijklmnopqrstuvwxyz" = decide (c ∈ tl sL) := rfl
    rw [hc]
    simp only [hp, decide_true, Bool.true_and]
    generalize decide (c ∈ tl sL) = k at si ⊢
    cases k <;> simp [Mi.runF, Mi.evSs, Mi.evS, Mi.evE, Mi.evT, Mi.evP, Mi.evEs, Mi.evIt, Mi.lift, Mi.bltV, Mi.intV, Mi.lenV, Mi.binV, Mi.intOp, Mi.cmpV, Mi.truV, Mi.mthV, Mi.recvOk, Mi.listOf, Mi.seqOf, Mi.dOf, Mi.cellL, Mi.srcOf, Mi.srcOk, Mi.setTg, Mi.setAll, Mi.mkL, Mi.toDs, Mi.In_len, Mi.In_app, Mi.In_one, Mi.In_drop, Mi.In_rev, Mi.In_emp, Mi.In_nl, Mi.In_get, Mi.toDs_In, b_law_read_f1, lw, ix, Mi.inV, si, hp]
  · simp [Mi.runF, Mi.evSs, Mi.evS, Mi.evE, Mi.evT, Mi.evP, Mi.evEs, Mi.evIt, Mi.lift, Mi.bltV, Mi.intV, Mi.lenV, Mi.binV, Mi.intOp, Mi.cmpV, Mi.truV, Mi.mthV, Mi.recvOk, Mi.listOf, Mi.seqOf, Mi.dOf, Mi.cellL, Mi.srcOf, Mi.srcOk, Mi.setTg, Mi.setAll, Mi.mkL, Mi.toDs, Mi.In_len, Mi.In_app, Mi.In_one, Mi.In_drop, Mi.In_rev, Mi.In_emp, Mi.In_nl, Mi.In_get, Mi.toDs_In, b_law_read_f1, lw, hp]
def rA : S := match b_law_read with
  | .cons a _ => a
  | _ => .pass
def rB : S := match b_law_read with
  | .cons _ (.cons a _) => a
  | _ => .pass
def rR : Ss := match b_law_read with
  | .cons _ (.cons _ a) => a
  | _ => .nil
theorem b_read : b_law_read = .cons rA (.cons rB rR) := rfl
theorem read_rest {n : Nat} {z : Str} {p d : Nat} {l : List Nat} (hz : z.length ≤ 10000) (e : l = (tl z).drop p) : evSs (callN pr (n + 1)) rR [some (.d (.str z)), some (.d (.int (p : Int))), some (.d (.int (d : Int))), some (.d (.str (oneS l))), none, none] [] = .ok (.ret (.d (encR (pRest p l)))) [] := by
  have hdot := one_eq tl_dot l
  have lw : lineOk z.length = true := Nat.ble_eq_true_of_le (by omega)
  have rl : rngOk (z.length : Int) = true := Nat.ble_eq_true_of_le (by simp; omega)
  unfold pRest
  cases h1 : hdB "." l with
  | true =>
    rw [h1] at hdot
    simp [Mi.runF, Mi.evSs, Mi.evS, Mi.evE, Mi.evT, Mi.evP, Mi.evEs, Mi.evIt, Mi.lift, Mi.bltV, Mi.intV, Mi.lenV, Mi.binV, Mi.intOp, Mi.cmpV, Mi.truV, Mi.mthV, Mi.recvOk, Mi.listOf, Mi.seqOf, Mi.dOf, Mi.cellL, Mi.srcOf, Mi.srcOk, Mi.setTg, Mi.setAll, Mi.mkL, Mi.toDs, Mi.In_len, Mi.In_app, Mi.In_one, Mi.In_drop, Mi.In_rev, Mi.In_emp, Mi.In_nl, Mi.In_get, Mi.toDs_In, rR, b_law_read, eqD, depOk, PyData.depth, hdot, encR]
  | false =>
    rw [h1] at hdot
    have he := one_emp l
    simp only [Bool.false_eq_true, if_false]
    cases h2 : hdB sL l with
    | true =>
      have hne : l.isEmpty = false := by
        obtain ⟨c, r, rfl, _⟩ := hd_cons h2
        rfl
      rw [hne] at he
      have hin := one_in sL hne
      rw [h2] at hin
      have hin2 : strIn (oneS l) "abcdefghijklmnopqrstuvwxyz" = true := hin
      obtain ⟨o', lp⟩ := run_loop (Φ := callN pr (n + 1)) (b := b_law_read_f1) (z := z) (sg := sL) (f := isL) (i := 5) hz (fun _ => rfl) (fun q o => [some (.d (.str z)), some (.d (.int (p : Int))), some (.d (.int (d : Int))), some (.d (.str (oneS l))), some (.d (.int (q : Int))), o]) (fun _ _ _ => rfl) (read_f1 hz) (h := []) (o := none) e
      have htake := tw_take (f := isL) l
      unfold pWord
      generalize hw : l.takeWhile isL = w at *
      have sl := slcn (h := []) hz (p := p) (n := w.length)
      rw [← e, ← htake] at sl
      have en : PyData.eqv (.str ⟨w.toArray⟩) (.str "none") = decide ((⟨w.toArray⟩ : Str) = "none") := eqv_str _ _
      cases hn : decide ((⟨w.toArray⟩ : Str) = "none") with
      | true =>
        rw [hn] at en
        have wdn : wd w = .none := by unfold wd; rw [hn]; rfl
        rw [wdn]
        simp [Mi.runF, Mi.evSs, Mi.evS, Mi.evE, Mi.evT, Mi.evP, Mi.evEs, Mi.evIt, Mi.lift, Mi.bltV, Mi.intV, Mi.lenV, Mi.binV, Mi.intOp, Mi.cmpV, Mi.truV, Mi.mthV, Mi.recvOk, Mi.listOf, Mi.seqOf, Mi.dOf, Mi.cellL, Mi.srcOf, Mi.srcOk, Mi.setTg, Mi.setAll, Mi.mkL, Mi.toDs, Mi.In_len, Mi.In_app, Mi.In_one, Mi.In_drop, Mi.In_rev, Mi.In_emp, Mi.In_nl, Mi.In_get, Mi.toDs_In, rR, b_law_read, eqD, depOk, PyData.depth, hdot, he, hin2, Mi.inV, lw, rl, lp, sl, en, encR]
      | false =>
        rw [hn] at en
        have wdn : wd w = .str ⟨w.toArray⟩ := by unfold wd; rw [hn]; rfl
        rw [wdn]
        simp [Mi.runF, Mi.evSs, Mi.evS, Mi.evE, Mi.evT, Mi.evP, Mi.evEs, Mi.evIt, Mi.lift, Mi.bltV, Mi.intV, Mi.lenV, Mi.binV, Mi.intOp, Mi.cmpV, Mi.truV, Mi.mthV, Mi.recvOk, Mi.listOf, Mi.seqOf, Mi.dOf, Mi.cellL, Mi.srcOf, Mi.srcOk, Mi.setTg, Mi.setAll, Mi.mkL, Mi.toDs, Mi.In_len, Mi.In_app, Mi.In_one, Mi.In_drop, Mi.In_rev, Mi.In_emp, Mi.In_nl, Mi.In_get, Mi.toDs_In, rR, b_law_read, eqD, depOk, PyData.depth, hdot, he, hin2, Mi.inV, lw, rl, lp, sl, en, encR]
    | false =>
      have iw := integer_w (n := n) (mu := false) [] hz e
      simp only [Bool.false_eq_true, if_false]
      cases hne : l.isEmpty with
      | true =>
        rw [hne] at he
        simp [Mi.runF, Mi.evSs, Mi.evS, Mi.evE, Mi.evT, Mi.evP, Mi.evEs, Mi.evIt, Mi.lift, Mi.bltV, Mi.intV, Mi.lenV, Mi.binV, Mi.intOp, Mi.cmpV, Mi.truV, Mi.mthV, Mi.recvOk, Mi.listOf, Mi.seqOf, Mi.dOf, Mi.cellL, Mi.srcOf, Mi.srcOk, Mi.setTg, Mi.setAll, Mi.mkL, Mi.toDs, Mi.In_len, Mi.In_app, Mi.In_one, Mi.In_drop, Mi.In_rev, Mi.In_emp, Mi.In_nl, Mi.In_get, Mi.toDs_In, rR, b_law_read, eqD, depOk, PyData.depth, hdot, he, iw]
      | false =>
        rw [hne] at he
        have hin := one_in sL hne
        rw [h2] at hin
        have hin2 : strIn (oneS l) "abcdefghijklmnopqrstuvwxyz" = false := hin
        simp [Mi.runF, Mi.evSs, Mi.evS, Mi.evE, Mi.evT, Mi.evP, Mi.evEs, Mi.evIt, Mi.lift, Mi.bltV, Mi.intV, Mi.lenV, Mi.binV, Mi.intOp, Mi.cmpV, Mi.truV, Mi.mthV, Mi.recvOk, Mi.listOf, Mi.seqOf, Mi.dOf, Mi.cellL, Mi.srcOf, Mi.srcOk, Mi.setTg, Mi.setAll, Mi.mkL, Mi.toDs, Mi.In_len, Mi.In_app, Mi.In_one, Mi.In_drop, Mi.In_rev, Mi.In_emp, Mi.In_nl, Mi.In_get, Mi.toDs_In, rR, b_law_read, eqD, depOk, PyData.depth, hdot, he, hin2, Mi.inV, iw]
end K20

set_option maxRecDepth 100000
set_option maxHeartbeats 1000000
namespace K20
open PySem L2 Mi TL
abbrev Ac (acc : List PyData) : MH := [Cell.lst (acc.map .d)]
theorem append_d {h : MH} {i : Nat} {acc : List PyData} {v : PyData} (e : h[i]? = some (Cell.lst (acc.map .d))) (l : acc.length < 16777216) : appendV (.ref i) [.d v] h = .ok (.d .none) (h.set i (.lst ((acc ++ [v]).map .d))) := by
  have lt : Nat.blt (acc.map W.d).length 16777216 = true := Nat.ble_eq_true_of_le (by rw [List.length_map]; omega)
  have : cellL i h = some (acc.map .d) := by simp [cellL, e]
  simp only [appendV, this, lt, if_true]
  simp
section
variable {m : Nat} {z : Str} {d : Nat} {f : Nat → List Nat → Rd} {k : Nat}
theorem ent1 {p : Nat} {l : List Nat} {acc : List PyData} {e4 e5 e6 : Option W} (hz : z.length ≤ 10000) (e : l = (tl z).drop p) :
    evS (callN pr m) b_law_entries_s1 [some (.d (.str z)), some (.d (.int (p : Int))), some (.d (.int (d : Int))), some (.ref 0), e4, e5, e6] (Ac acc) =
      if hdB ")" l then .ok (.ret (.d (encR (.ok (.tuple acc) (p + 1) (l.drop 1))))) (Ac acc) else .ok (.nx [some (.d (.str z)), some (.d (.int (p : Int))), some (.d (.int (d : Int))), some (.ref 0), e4, e5, e6]) (Ac acc) := by
  have sl := slc (h := Ac acc) hz e
  have hs := one_eq tl_shut l
  have td := toDs_map acc
  have tv : tupV [.ref 0] (Ac acc) = .ok (.d (.tuple acc)) (Ac acc) := by
    simp [tupV, Mi.listOf, lift, td]
  cases h : hdB ")" l with
  | true =>
    rw [h] at hs
    simp [Mi.runF, Mi.evSs, Mi.evS, Mi.evE, Mi.evT, Mi.evP, Mi.evEs, Mi.evIt, Mi.lift, Mi.bltV, Mi.intV, Mi.lenV, Mi.binV, Mi.intOp, Mi.cmpV, Mi.truV, Mi.mthV, Mi.recvOk, Mi.listOf, Mi.seqOf, Mi.dOf, Mi.cellL, Mi.srcOf, Mi.srcOk, Mi.setTg, Mi.setAll, Mi.mkL, Mi.toDs, Mi.In_len, Mi.In_app, Mi.In_one, Mi.In_drop, Mi.In_rev, Mi.In_emp, Mi.In_nl, Mi.In_get, Mi.toDs_In, b_law_entries_s1, sl, eqD, depOk, PyData.depth, hs, tv, encR]
  | false =>
    rw [h] at hs
    simp [Mi.runF, Mi.evSs, Mi.evS, Mi.evE, Mi.evT, Mi.evP, Mi.evEs, Mi.evIt, Mi.lift, Mi.bltV, Mi.intV, Mi.lenV, Mi.binV, Mi.intOp, Mi.cmpV, Mi.truV, Mi.mthV, Mi.recvOk, Mi.listOf, Mi.seqOf, Mi.dOf, Mi.cellL, Mi.srcOf, Mi.srcOk, Mi.setTg, Mi.setAll, Mi.mkL, Mi.toDs, Mi.In_len, Mi.In_app, Mi.In_one, Mi.In_drop, Mi.In_rev, Mi.In_emp, Mi.In_nl, Mi.In_get, Mi.toDs_In, b_law_entries_s1, sl, eqD, depOk, PyData.depth, hs]
theorem ent2 {p : Nat} {l : List Nat} {acc : List PyData} {e4 e5 e6 : Option W} (hz : z.length ≤ 10000) (e : l = (tl z).drop p) :
    evS (callN pr m) b_law_entries_s2 [some (.d (.str z)), some (.d (.int (p : Int))), some (.d (.int (d : Int))), some (.ref 0), e4, e5, e6] (Ac acc) =
      if !acc.isEmpty && !hdB " " l then .ok (.ret (.d (encR (.bad p)))) (Ac acc) else .ok (.nx [some (.d (.str z)), some (.d (.int ((if acc.isEmpty then p else p + 1 : Nat) : Int))), some (.d (.int (d : Int))), some (.ref 0), e4, e5, e6]) (Ac acc) := by
  have sl := slc (h := Ac acc) hz e
  have hs := one_eq tl_spc l
  cases acc with
  | nil => simp [Mi.runF, Mi.evSs, Mi.evS, Mi.evE, Mi.evT, Mi.evP, Mi.evEs, Mi.evIt, Mi.lift, Mi.bltV, Mi.intV, Mi.lenV, Mi.binV, Mi.intOp, Mi.cmpV, Mi.truV, Mi.mthV, Mi.recvOk, Mi.listOf, Mi.seqOf, Mi.dOf, Mi.cellL, Mi.srcOf, Mi.srcOk, Mi.setTg, Mi.setAll, Mi.mkL, Mi.toDs, Mi.In_len, Mi.In_app, Mi.In_one, Mi.In_drop, Mi.In_rev, Mi.In_emp, Mi.In_nl, Mi.In_get, Mi.toDs_In, b_law_entries_s2]
  | cons x r =>
    cases h : hdB " " l with
    | true =>
      rw [h] at hs
      simp [Mi.runF, Mi.evSs, Mi.evS, Mi.evE, Mi.evT, Mi.evP, Mi.evEs, Mi.evIt, Mi.lift, Mi.bltV, Mi.intV, Mi.lenV, Mi.binV, Mi.intOp, Mi.cmpV, Mi.truV, Mi.mthV, Mi.recvOk, Mi.listOf, Mi.seqOf, Mi.dOf, Mi.cellL, Mi.srcOf, Mi.srcOk, Mi.setTg, Mi.setAll, Mi.mkL, Mi.toDs, Mi.In_len, Mi.In_app, Mi.In_one, Mi.In_drop, Mi.In_rev, Mi.In_emp, Mi.In_nl, Mi.In_get, Mi.toDs_In, b_law_entries_s2, sl, eqD, depOk, PyData.depth, hs]
    | false =>
      rw [h] at hs
      simp [Mi.runF, Mi.evSs, Mi.evS, Mi.evE, Mi.evT, Mi.evP, Mi.evEs, Mi.evIt, Mi.lift, Mi.bltV, Mi.intV, Mi.lenV, Mi.binV, Mi.intOp, Mi.cmpV, Mi.truV, Mi.mthV, Mi.recvOk, Mi.listOf, Mi.seqOf, Mi.dOf, Mi.cellL, Mi.srcOf, Mi.srcOk, Mi.setTg, Mi.setAll, Mi.mkL, Mi.toDs, Mi.In_len, Mi.In_app, Mi.In_one, Mi.In_drop, Mi.In_rev, Mi.In_emp, Mi.In_nl, Mi.In_get, Mi.toDs_In, b_law_entries_s2, sl, eqD, depOk, PyData.depth, hs, encR]
theorem entries_loop (hz : z.length ≤ 10000) (hd : 100 ∉ tl z) (hf : ∀ p l, Fed k p l (f p l)) (Hr : ∀ p l h, l = (tl z).drop p → callW (callN pr m) false 10 [.d (.str z), .d (.int (p : Int)), .d (.int (d : Int))] h = .ok (.d (encR (f p l))) h) :
    ∀ (ws : List W) (p : Nat) (l : List Nat) (acc : List PyData) (e4 e5 e6 : Option W) (src : List W), l = (tl z).drop p → acc.length + ws.length ≤ 20000 →
    (∃ hc, forL (src, none) [4] false (fun env h => evSs (callN pr m) b_law_entries_f7 env h) ws [some (.d (.str z)), some (.d (.int (p : Int))), some (.d (.int (d : Int))), some (.ref 0), e4, e5, e6] (Ac acc) = .ok (.ret (.d (encR (pLoop f ws.length p l acc)))) hc) ∨
    (∃ x3 x4 x5 x6 hc p', forL (src, none) [4] false (fun env h => evSs (callN pr m) b_law_entries_f7 env h) ws [some (.d (.str z)), some (.d (.int (p : Int))), some (.d (.int (d : Int))), some (.ref 0), e4, e5, e6] (Ac acc) =
      .ok (.nx [some (.d (.str z)), some (.d (.int ((p' : Nat) : Int))), some (.d (.int (d : Int))), x3, x4, x5, x6]) hc ∧ pLoop f ws.length p l acc = .bad p')
  | [], p, l, acc, e4, e5, e6, src, _, _ => .inr ⟨some (.ref 0), e4, e5, e6, Ac acc, p, rfl, rfl⟩
  | w :: ws, p, l, acc, e4, e5, e6, src, e, la => by
    have E1 := ent1 (m := m) (d := d) (acc := acc) (e4 := some w) (e5 := e5) (e6 := e6) hz e
    have E2 := ent2 (m := m) (d := d) (acc := acc) (e4 := some w) (e5 := e5) (e6 := e6) hz e
    rw [List.length_cons] at la ⊢
    have step : ∀ o h, evSs (callN pr m) b_law_entries_f7 [some (.d (.str z)), some (.d (.int (p : Int))), some (.d (.int (d : Int))), some (.ref 0), some w, e5, e6] (Ac acc) = .ok (.ret o) h →
        forL (src, none) [4] false (fun env h => evSs (callN pr m) b_law_entries_f7 env h) (w :: ws) [some (.d (.str z)), some (.d (.int (p : Int))), some (.d (.int (d : Int))), some (.ref 0), e4, e5, e6] (Ac acc) = .ok (.ret o) h := by
      intro o h q
      simp only [forL, srcOk, if_true, setTg, List.set_cons_zero, List.set_cons_succ, q]
    have step2 : ∀ env2 h, evSs (callN pr m) b_law_entries_f7 [some (.d (.str z)), some (.d (.int (p : Int))), some (.d (.int (d : Int))), some (.ref 0), some w, e5, e6] (Ac acc) = .ok (.nx env2) h →
        forL (src, none) [4] false (fun env h => evSs (callN pr m) b_law_entries_f7 env h) (w :: ws) [some (.d (.str z)), some (.d (.int (p : Int))), some (.d (.int (d : Int))), some (.ref 0), e4, e5, e6] (Ac acc) = forL (src, none) [4] false (fun env h => evSs (callN pr m) b_law_entries_f7 env h) ws env2 h := by
      intro env2 h q
      simp only [forL, srcOk, if_true, setTg, List.set_cons_zero, List.set_cons_succ, q]
    unfold pLoop
    cases h1 : hdB ")" l with
    | true =>
      rw [h1] at E1
      left
      refine ⟨Ac acc, step _ _ ?_⟩
      simp only [b_law_entries_f7, evSs, E1, if_true]
    | false =>
      rw [h1] at E1
      simp only [Bool.false_eq_true, if_false] at E1 ⊢
      cases h2 : (!acc.isEmpty && !hdB " " l) with
      | true =>
        rw [h2] at E2
        left
        refine ⟨Ac acc, step _ _ ?_⟩
        simp only [b_law_entries_f7, evSs, E1, E2, if_true]
      | false =>
        rw [h2] at E2
        simp only [Bool.false_eq_true, if_false] at E2 ⊢
        have e' : (if acc.isEmpty then l else l.drop 1) = (tl z).drop (if acc.isEmpty then p else p + 1) := by
          cases acc.isEmpty
          · exact drop1 e
          · exact e
        generalize (if acc.isEmpty then l else l.drop 1) = l2 at e' ⊢
        generalize (if acc.isEmpty then p else p + 1) = p2 at e' E2 ⊢
        have hr := Hr p2 l2 (Ac acc) e'
        cases hx : f p2 l2 with
        | bad q =>
          rw [hx] at hr
          simp only [encR] at hr
          left
          refine ⟨Ac acc, step _ _ ?_⟩
          have E3 : evS (callN pr m) b_law_entries_s3 [some (.d (.str z)), some (.d (.int (p2 : Int))), some (.d (.int (d : Int))), some (.ref 0), some w, e5, e6] (Ac acc) = .ok (.nx [some (.d (.str z)), some (.d (.int (p2 : Int))), some (.d (.int (d : Int))), some (.ref 0), some w, some (.d (.str "bad")), some (.d (.int (q : Int)))]) (Ac acc) := by
            simp [Mi.runF, Mi.evSs, Mi.evS, Mi.evE, Mi.evT, Mi.evP, Mi.evEs, Mi.evIt, Mi.lift, Mi.bltV, Mi.intV, Mi.lenV, Mi.binV, Mi.intOp, Mi.cmpV, Mi.truV, Mi.mthV, Mi.recvOk, Mi.listOf, Mi.seqOf, Mi.dOf, Mi.cellL, Mi.srcOf, Mi.srcOk, Mi.setTg, Mi.setAll, Mi.mkL, Mi.toDs, Mi.In_len, Mi.In_app, Mi.In_one, Mi.In_drop, Mi.In_rev, Mi.In_emp, Mi.In_nl, Mi.In_get, Mi.toDs_In, b_law_entries_s3, hr, setTl]
          have E4 : evS (callN pr m) b_law_entries_s4 [some (.d (.str z)), some (.d (.int (p2 : Int))), some (.d (.int (d : Int))), some (.ref 0), some w, some (.d (.str "bad")), some (.d (.int (q : Int)))] (Ac acc) = .ok (.ret (.d (encR (.bad q)))) (Ac acc) := by
            have : PyData.eqv (.str "bad") (.str "bad") = true := by decide +kernel
            simp [Mi.runF, Mi.evSs, Mi.evS, Mi.evE, Mi.evT, Mi.evP, Mi.evEs, Mi.evIt, Mi.lift, Mi.bltV, Mi.intV, Mi.lenV, Mi.binV, Mi.intOp, Mi.cmpV, Mi.truV, Mi.mthV, Mi.recvOk, Mi.listOf, Mi.seqOf, Mi.dOf, Mi.cellL, Mi.srcOf, Mi.srcOk, Mi.setTg, Mi.setAll, Mi.mkL, Mi.toDs, Mi.In_len, Mi.In_app, Mi.In_one, Mi.In_drop, Mi.In_rev, Mi.In_emp, Mi.In_nl, Mi.In_get, Mi.toDs_In, b_law_entries_s4, eqD, depOk, PyData.depth, this, isiV, encR]
          simp only [b_law_entries_f7, evSs, E1, E2, E3, E4]
        | ok v q l' =>
          rw [hx] at hr
          simp only [encR] at hr
          obtain ⟨n, a1, a2, a3, a4, a5, a6⟩ := hf p2 l2 v q l' hx
          have nb := (a6 (by rw [e']; exact fun z => hd (List.mem_of_mem_drop z))).1
          have E3 : evS (callN pr m) b_law_entries_s3 [some (.d (.str z)), some (.d (.int (p2 : Int))), some (.d (.int (d : Int))), some (.ref 0), some w, e5, e6] (Ac acc) = .ok (.nx [some (.d (.str z)), some (.d (.int (p2 : Int))), some (.d (.int (d : Int))), some (.ref 0), some w, some (.d v), some (.d (.int (q : Int)))]) (Ac acc) := by
            simp [Mi.runF, Mi.evSs, Mi.evS, Mi.evE, Mi.evT, Mi.evP, Mi.evEs, Mi.evIt, Mi.lift, Mi.bltV, Mi.intV, Mi.lenV, Mi.binV, Mi.intOp, Mi.cmpV, Mi.truV, Mi.mthV, Mi.recvOk, Mi.listOf, Mi.seqOf, Mi.dOf, Mi.cellL, Mi.srcOf, Mi.srcOk, Mi.setTg, Mi.setAll, Mi.mkL, Mi.toDs, Mi.In_len, Mi.In_app, Mi.In_one, Mi.In_drop, Mi.In_rev, Mi.In_emp, Mi.In_nl, Mi.In_get, Mi.toDs_In, b_law_entries_s3, hr, setTl]
          have dk : (depOk v || depOk (.str "bad")) = true := by rw [show depOk (.str "bad") = true from rfl, Bool.or_true]
          have E4 : evS (callN pr m) b_law_entries_s4 [some (.d (.str z)), some (.d (.int (p2 : Int))), some (.d (.int (d : Int))), some (.ref 0), some w, some (.d v), some (.d (.int (q : Int)))] (Ac acc) = .ok (.nx [some (.d (.str z)), some (.d (.int (p2 : Int))), some (.d (.int (d : Int))), some (.ref 0), some w, some (.d v), some (.d (.int (q : Int)))]) (Ac acc) := by
            simp [Mi.runF, Mi.evSs, Mi.evS, Mi.evE, Mi.evT, Mi.evP, Mi.evEs, Mi.evIt, Mi.lift, Mi.bltV, Mi.intV, Mi.lenV, Mi.binV, Mi.intOp, Mi.cmpV, Mi.truV, Mi.mthV, Mi.recvOk, Mi.listOf, Mi.seqOf, Mi.dOf, Mi.cellL, Mi.srcOf, Mi.srcOk, Mi.setTg, Mi.setAll, Mi.mkL, Mi.toDs, Mi.In_len, Mi.In_app, Mi.In_one, Mi.In_drop, Mi.In_rev, Mi.In_emp, Mi.In_nl, Mi.In_get, Mi.toDs_In, b_law_entries_s4, eqD, show depOk (.str "bad") = true from rfl, nb]
          have ap := append_d (h := Ac acc) (i := 0) (v := v) rfl (show acc.length < 16777216 by omega)
          have E5 : evS (callN pr m) b_law_entries_s5 [some (.d (.str z)), some (.d (.int (p2 : Int))), some (.d (.int (d : Int))), some (.ref 0), some w, some (.d v), some (.d (.int (q : Int)))] (Ac acc) = .ok (.nx [some (.d (.str z)), some (.d (.int (p2 : Int))), some (.d (.int (d : Int))), some (.ref 0), some w, some (.d v), some (.d (.int (q : Int)))]) (Ac (acc ++ [v])) := by
            have rv : recvOk .append (.ref 0) (Ac acc) = true := rfl
            simp only [b_law_entries_s5, evS, evE, evEs, lift, List.getElem?_cons_zero, List.getElem?_cons_succ, Option.join_some, bind_ok, toS_ok, rv, if_true, mthV, ap]
            rfl
          have E6 : evS (callN pr m) b_law_entries_s6 [some (.d (.str z)), some (.d (.int (p2 : Int))), some (.d (.int (d : Int))), some (.ref 0), some w, some (.d v), some (.d (.int (q : Int)))] (Ac (acc ++ [v])) = .ok (.nx [some (.d (.str z)), some (.d (.int (q : Int))), some (.d (.int (d : Int))), some (.ref 0), some w, some (.d v), some (.d (.int (q : Int)))]) (Ac (acc ++ [v])) := by
            simp only [b_law_entries_s6, evS, evE, lift, List.getElem?_cons_zero, List.getElem?_cons_succ, Option.join_some, bind_ok, toS_ok, List.set_cons_zero, List.set_cons_succ]
          have ih := entries_loop hz hd hf Hr ws q l' (acc ++ [v]) (some w) (some (.d v)) (some (.d (.int (q : Int)))) src (by rw [a4, e', List.drop_drop, a3]) (by rw [List.length_append, List.length_singleton]; omega)
          rw [step2 _ _ (show evSs (callN pr m) b_law_entries_f7 _ _ = _ by simp only [b_law_entries_f7, evSs, E1, E2, E3, E4, E5, E6]; rfl)]
          exact ih
theorem entries_c (hz : z.length ≤ 10000) (hd : 100 ∉ tl z) (hf : ∀ p l, Fed k p l (f p l)) (Hr : ∀ p l h, l = (tl z).drop p → callW (callN pr m) false 10 [.d (.str z), .d (.int (p : Int)), .d (.int (d : Int))] h = .ok (.d (encR (f p l))) h) {p : Nat} {l : List Nat} (e : l = (tl z).drop p) :
    ∃ hc, callN pr (m + 1) 11 [.d (.str z), .d (.int (p : Int)), .d (.int (d : Int))] [] = .ok (.d (encR (pLoop f (z.length + 1) p l []))) hc := by
  have lw : lineOk z.length = true := Nat.ble_eq_true_of_le (by omega)
  have rl : rngOk ((z.length + 1 : Nat) : Int) = true := Nat.ble_eq_true_of_le (by simp; omega)
  have := entries_loop hz hd hf Hr (rngFrom 0 (z.length + 1)) p l [] none none none (rngFrom 0 (z.length + 1)) e (by rw [rng_len]; simp; omega)
  rw [rng_len] at this
  rw [callN_eq (fd := ⟨3, 7, b_law_entries⟩) rfl]
  have it : ∀ h, evIt (callN pr m) (.rng1 (.bin false .Add (.blt .len (.cons (.var 0) .nil)) (.lit (.int 1)))) [some (.d (.str z)), some (.d (.int (p : Int))), some (.d (.int (d : Int))), some (.ref 0), none, none, none] h = .ok (rngFrom 0 (z.length + 1), none) h := by
    intro h
    have e1 : ((z.length : Int) + 1) = ((z.length + 1 : Nat) : Int) := rfl
    simp only [evIt, evE, evEs, lift, List.getElem?_cons_zero, Option.join_some, bind_ok, bltV, len_w hz, binV, intOp, e1, rl, if_true, Int.toNat_natCast]
  have h1 : evS (callN pr m) (.set 3 (.lst true .nil)) [some (.d (.str z)), some (.d (.int (p : Int))), some (.d (.int (d : Int))), none, none, none, none] [] = .ok (.nx [some (.d (.str z)), some (.d (.int (p : Int))), some (.d (.int (d : Int))), some (.ref 0), none, none, none]) (Ac []) := rfl
  have run : ∀ r, forL (rngFrom 0 (z.length + 1), none) [4] false (fun env h => evSs (callN pr m) b_law_entries_f7 env h) (rngFrom 0 (z.length + 1)) [some (.d (.str z)), some (.d (.int (p : Int))), some (.d (.int (d : Int))), some (.ref 0), none, none, none] (Ac []) = r →
      evS (callN pr m) (.for [4] false (.rng1 (.bin false .Add (.blt .len (.cons (.var 0) .nil)) (.lit (.int 1)))) b_law_entries_f7) [some (.d (.str z)), some (.d (.int (p : Int))), some (.d (.int (d : Int))), some (.ref 0), none, none, none] (Ac []) = r := by
    intro r q
    simp only [evS, it, toS_ok, q]
  rcases this with ⟨hc, q⟩ | ⟨e3, e4, e5, e6, hc, p', q, q2⟩
  · refine ⟨hc, ?_⟩
    have E := run _ q
    simp only [runF, b_law_entries, List.length_cons, List.length_nil, List.map_cons, List.map_nil, List.replicate, List.cons_append, List.nil_append, evSs, h1, E]
    rfl
  · refine ⟨hc, ?_⟩
    have E := run _ q
    rw [q2]
    have lb := lit_bad (Φ := callN pr m) (e := .var 1) (env := [some (.d (.str z)), some (.d (.int ((p' : Nat) : Int))), some (.d (.int (d : Int))), e3, e4, e5, e6]) (h := hc) (q := p') rfl
    have E3 : evS (callN pr m) (.ret (.lst false (.cons (.lit (.str "bad")) (.cons (.var 1) .nil)))) [some (.d (.str z)), some (.d (.int ((p' : Nat) : Int))), some (.d (.int (d : Int))), e3, e4, e5, e6] hc = .ok (.ret (.d (encR (.bad p')))) hc := by
      simp only [evS, lb, toS_ok]
    simp only [runF, b_law_entries, List.length_cons, List.length_nil, List.map_cons, List.map_nil, List.replicate, List.cons_append, List.nil_append, evSs, h1, E, E3]
    rfl
end
theorem read_c {z : Str} (hz : z.length ≤ 10000) (hd : 100 ∉ tl z) (n : Nat) : ∀ (k d p : Nat) (l : List Nat), k + d = 12 → l = (tl z).drop p → callN pr (n + 2 * k + 2) 10 [.d (.str z), .d (.int (p : Int)), .d (.int (d : Int))] [] = .ok (.d (encR (pTerm (z.length + 1) k p l))) [] := by
  intro k
  induction k with
  | zero =>
    intro d p l hk e
    have : d = 12 := by omega
    subst this
    rw [callN_eq (fd := ⟨3, 6, b_law_read⟩) rfl, b_read]
    have sl := slc (h := []) hz e
    have ho := one_eq tl_open l
    have R := read_rest (n := n) (d := 12) hz e
    unfold pTerm
    have E1 : evS (callN pr (n + 1)) rA [some (.d (.str z)), some (.d (.int (p : Int))), some (.d (.int 12)), none, none, none] [] = .ok (.nx [some (.d (.str z)), some (.d (.int (p : Int))), some (.d (.int 12)), some (.d (.str (oneS l))), none, none]) [] := by
      simp [Mi.runF, Mi.evSs, Mi.evS, Mi.evE, Mi.evT, Mi.evP, Mi.evEs, Mi.evIt, Mi.lift, Mi.bltV, Mi.intV, Mi.lenV, Mi.binV, Mi.intOp, Mi.cmpV, Mi.truV, Mi.mthV, Mi.recvOk, Mi.listOf, Mi.seqOf, Mi.dOf, Mi.cellL, Mi.srcOf, Mi.srcOk, Mi.setTg, Mi.setAll, Mi.mkL, Mi.toDs, Mi.In_len, Mi.In_app, Mi.In_one, Mi.In_drop, Mi.In_rev, Mi.In_emp, Mi.In_nl, Mi.In_get, Mi.toDs_In, rA, b_law_read, sl]
    cases h : hdB "(" l with
    | true =>
      rw [h] at ho
      have q : PyData.eqv (.int 12) (.int 12) = true := rfl
      have E2 : evS (callN pr (n + 1)) rB [some (.d (.str z)), some (.d (.int (p : Int))), some (.d (.int 12)), some (.d (.str (oneS l))), none, none] [] = .ok (.ret (.d (encR (.bad p)))) [] := by
        simp [Mi.runF, Mi.evSs, Mi.evS, Mi.evE, Mi.evT, Mi.evP, Mi.evEs, Mi.evIt, Mi.lift, Mi.bltV, Mi.intV, Mi.lenV, Mi.binV, Mi.intOp, Mi.cmpV, Mi.truV, Mi.mthV, Mi.recvOk, Mi.listOf, Mi.seqOf, Mi.dOf, Mi.cellL, Mi.srcOf, Mi.srcOk, Mi.setTg, Mi.setAll, Mi.mkL, Mi.toDs, Mi.In_len, Mi.In_app, Mi.In_one, Mi.In_drop, Mi.In_rev, Mi.In_emp, Mi.In_nl, Mi.In_get, Mi.toDs_In, rB, b_law_read, eqD, depOk, PyData.depth, ho, q, encR]
      simp only [runF, List.length_cons, List.length_nil, List.map_cons, List.map_nil, List.replicate, List.cons_append, List.nil_append, evSs]
      rw [show n + 2 * 0 + 1 = n + 1 from rfl]
      simp [E1, E2, evSs]
    | false =>
      rw [h] at ho
      have E2 : evS (callN pr (n + 1)) rB [some (.d (.str z)), some (.d (.int (p : Int))), some (.d (.int 12)), some (.d (.str (oneS l))), none, none] [] = .ok (.nx [some (.d (.str z)), some (.d (.int (p : Int))), some (.d (.int 12)), some (.d (.str (oneS l))), none, none]) [] := by
        simp [Mi.runF, Mi.evSs, Mi.evS, Mi.evE, Mi.evT, Mi.evP, Mi.evEs, Mi.evIt, Mi.lift, Mi.bltV, Mi.intV, Mi.lenV, Mi.binV, Mi.intOp, Mi.cmpV, Mi.truV, Mi.mthV, Mi.recvOk, Mi.listOf, Mi.seqOf, Mi.dOf, Mi.cellL, Mi.srcOf, Mi.srcOk, Mi.setTg, Mi.setAll, Mi.mkL, Mi.toDs, Mi.In_len, Mi.In_app, Mi.In_one, Mi.In_drop, Mi.In_rev, Mi.In_emp, Mi.In_nl, Mi.In_get, Mi.toDs_In, rB, b_law_read, eqD, depOk, PyData.depth, ho]
      rw [show n + 2 * 0 + 1 = n + 1 from rfl]
      have R' : evSs (callN pr (n + 1)) rR [some (.d (.str z)), some (.d (.int (p : Int))), some (.d (.int 12)), some (.d (.str (oneS l))), none, none] [] = .ok (.ret (.d (encR (pRest p l)))) [] := R
      simp [runF, List.replicate, evSs, E1, E2, R']
  | succ k ih =>
    intro d p l hk e
    rw [show n + 2 * (k + 1) + 2 = (n + 2 * k + 2 + 1) + 1 by omega, callN_eq (fd := ⟨3, 6, b_law_read⟩) rfl, b_read]
    have sl := slc (h := []) hz e
    have ho := one_eq tl_open l
    have R := read_rest (n := n + 2 * k + 2) (d := d) hz e
    unfold pTerm
    have E1 : evS (callN pr (n + 2 * k + 2 + 1)) rA [some (.d (.str z)), some (.d (.int (p : Int))), some (.d (.int (d : Int))), none, none, none] [] = .ok (.nx [some (.d (.str z)), some (.d (.int (p : Int))), some (.d (.int (d : Int))), some (.d (.str (oneS l))), none, none]) [] := by
      simp [Mi.runF, Mi.evSs, Mi.evS, Mi.evE, Mi.evT, Mi.evP, Mi.evEs, Mi.evIt, Mi.lift, Mi.bltV, Mi.intV, Mi.lenV, Mi.binV, Mi.intOp, Mi.cmpV, Mi.truV, Mi.mthV, Mi.recvOk, Mi.listOf, Mi.seqOf, Mi.dOf, Mi.cellL, Mi.srcOf, Mi.srcOk, Mi.setTg, Mi.setAll, Mi.mkL, Mi.toDs, Mi.In_len, Mi.In_app, Mi.In_one, Mi.In_drop, Mi.In_rev, Mi.In_emp, Mi.In_nl, Mi.In_get, Mi.toDs_In, rA, b_law_read, sl]
    cases h : hdB "(" l with
    | true =>
      rw [h] at ho
      obtain ⟨hc, ec⟩ := entries_c (m := n + 2 * k + 2) (d := d + 1) (f := pTerm (z.length + 1) k) hz hd (fed_term _ k) (fun p l h e => callW_data (ds := [.str z, .int p, .int ((d + 1 : Nat) : Int)]) h (ih (d + 1) p l (by omega) e)) (drop1 e)
      simp only [if_true]
      generalize l.drop 1 = l1 at ec ⊢
      have q : PyData.eqv (.int (d : Int)) (.int 12) = false := by simp [PyData.eqv]; omega
      have cw : callW (callN pr (n + 2 * k + 2 + 1)) false 11 [.d (.str z), .d (.int ((p : Int) + 1)), .d (.int ((d : Int) + 1))] [] = .ok (.d (encR (pLoop (pTerm (z.length + 1) k) (z.length + 1) (p + 1) l1 []))) [] :=
        callW_data (ds := [.str z, .int ((p : Int) + 1), .int ((d : Int) + 1)]) [] ec
      generalize encR (pLoop (pTerm (z.length + 1) k) (z.length + 1) (p + 1) l1 []) = R at cw ⊢
      have E2 : evS (callN pr (n + 2 * k + 2 + 1)) rB [some (.d (.str z)), some (.d (.int (p : Int))), some (.d (.int (d : Int))), some (.d (.str (oneS l))), none, none] [] = .ok (.ret (.d R)) [] := by
        simp [Mi.runF, Mi.evSs, Mi.evS, Mi.evE, Mi.evT, Mi.evP, Mi.evEs, Mi.evIt, Mi.lift, Mi.bltV, Mi.intV, Mi.lenV, Mi.binV, Mi.intOp, Mi.cmpV, Mi.truV, Mi.mthV, Mi.recvOk, Mi.listOf, Mi.seqOf, Mi.dOf, Mi.cellL, Mi.srcOf, Mi.srcOk, Mi.setTg, Mi.setAll, Mi.mkL, Mi.toDs, Mi.In_len, Mi.In_app, Mi.In_one, Mi.In_drop, Mi.In_rev, Mi.In_emp, Mi.In_nl, Mi.In_get, Mi.toDs_In, rB, b_law_read, eqD, depOk, PyData.depth, ho, q, cw]
      simp only [runF, List.length_cons, List.length_nil, List.map_cons, List.map_nil, List.replicate, List.cons_append, List.nil_append, evSs]
      simp [E1, E2, evSs]
    | false =>
      rw [h] at ho
      have E2 : evS (callN pr (n + 2 * k + 2 + 1)) rB [some (.d (.str z)), some (.d (.int (p : Int))), some (.d (.int (d : Int))), some (.d (.str (oneS l))), none, none] [] = .ok (.nx [some (.d (.str z)), some (.d (.int (p : Int))), some (.d (.int (d : Int))), some (.d (.str (oneS l))), none, none]) [] := by
        simp [Mi.runF, Mi.evSs, Mi.evS, Mi.evE, Mi.evT, Mi.evP, Mi.evEs, Mi.evIt, Mi.lift, Mi.bltV, Mi.intV, Mi.lenV, Mi.binV, Mi.intOp, Mi.cmpV, Mi.truV, Mi.mthV, Mi.recvOk, Mi.listOf, Mi.seqOf, Mi.dOf, Mi.cellL, Mi.srcOf, Mi.srcOk, Mi.setTg, Mi.setAll, Mi.mkL, Mi.toDs, Mi.In_len, Mi.In_app, Mi.In_one, Mi.In_drop, Mi.In_rev, Mi.In_emp, Mi.In_nl, Mi.In_get, Mi.toDs_In, rB, b_law_read, eqD, depOk, PyData.depth, ho]
      simp [runF, List.replicate, evSs, E1, E2, R]
theorem read_w {z : Str} (hz : z.length ≤ 10000) (hd : 100 ∉ tl z) {n : Nat} {mu : Bool} (h : MH) : callW (callN pr (n + 26)) mu 10 [.d (.str z), .d (.int 0), .d (.int 0)] h = .ok (.d (encR (pTerm (z.length + 1) 12 0 (tl z)))) h :=
  callW_data (ds := [.str z, .int 0, .int 0]) h (read_c hz hd n 12 0 0 (tl z) rfl rfl)
/-- what the law says a text is due -/
def dueD (z : Str) : PyData := match pTerm (z.length + 1) 12 0 (tl z) with
  | .bad q => .list [.str "bad", .int q]
  | .ok v q l => if l.isEmpty then .list [.str "term", v] else .list [.str "bad", .int q]
theorem due_w {z : Str} (hz : z.length ≤ 10000) (hd : 100 ∉ tl z) {n : Nat} {mu : Bool} (h : MH) : callW (callN pr (n + 27)) mu 12 [.d (.str z)] h = .ok (.d (dueD z)) h := by
  refine callW_data (ds := [.str z]) (hc := []) h ?_
  rw [callN_eq (fd := ⟨1, 3, b_law_due⟩) rfl]
  have rw1 := read_w hz hd (n := n) (mu := false) []
  have lw : lineOk z.length = true := Nat.ble_eq_true_of_le (by omega)
  unfold dueD
  have F := fed_term (z.length + 1) 12 0 (tl z)
  cases hx : pTerm (z.length + 1) 12 0 (tl z) with
  | bad q =>
    rw [hx] at rw1
    simp only [encR] at rw1
    have : PyData.eqv (.str "bad") (.str "bad") = true := by decide +kernel
    simp [Mi.runF, Mi.evSs, Mi.evS, Mi.evE, Mi.evT, Mi.evP, Mi.evEs, Mi.evIt, Mi.lift, Mi.bltV, Mi.intV, Mi.lenV, Mi.binV, Mi.intOp, Mi.cmpV, Mi.truV, Mi.mthV, Mi.recvOk, Mi.listOf, Mi.seqOf, Mi.dOf, Mi.cellL, Mi.srcOf, Mi.srcOk, Mi.setTg, Mi.setAll, Mi.mkL, Mi.toDs, Mi.In_len, Mi.In_app, Mi.In_one, Mi.In_drop, Mi.In_rev, Mi.In_emp, Mi.In_nl, Mi.In_get, Mi.toDs_In, b_law_due, rw1, setTl, isiV, eqD, depOk, PyData.depth, this]
  | ok v q l =>
    rw [hx] at rw1
    simp only [encR] at rw1
    obtain ⟨j, a1, a2, a3, a4, a5, a6⟩ := F v q l hx
    obtain ⟨nb, b, ib⟩ := a6 hd
    have e1 : q < z.length ↔ l.isEmpty = false := by
      have := len_tl z
      rw [a4]
      cases hl : ((tl z).drop j).isEmpty with
      | true =>
        have hl2 := List.isEmpty_iff.mp hl
        rw [List.drop_eq_nil_iff] at hl2
        simp
        omega
      | false =>
        have hl2 : ¬ ((tl z).length ≤ j) := fun c => by
          rw [List.drop_of_length_le c] at hl
          cases hl
        simp
        omega
    dsimp only
    generalize l.isEmpty = em at e1 ⊢
    have db : depOk (.str "bad") = true := rfl
    cases em with
    | true =>
      have e2 : ¬ q < z.length := fun c => by have := e1.mp c; cases this
      cases b <;> simp [Mi.runF, Mi.evSs, Mi.evS, Mi.evE, Mi.evT, Mi.evP, Mi.evEs, Mi.evIt, Mi.lift, Mi.bltV, Mi.intV, Mi.lenV, Mi.binV, Mi.intOp, Mi.cmpV, Mi.truV, Mi.mthV, Mi.recvOk, Mi.listOf, Mi.seqOf, Mi.dOf, Mi.cellL, Mi.srcOf, Mi.srcOk, Mi.setTg, Mi.setAll, Mi.mkL, Mi.toDs, Mi.In_len, Mi.In_app, Mi.In_one, Mi.In_drop, Mi.In_rev, Mi.In_emp, Mi.In_nl, Mi.In_get, Mi.toDs_In, b_law_due, rw1, setTl, ib, eqD, db, nb, lw, e2]
    | false =>
      have e2 : q < z.length := e1.mpr rfl
      cases b <;> simp [Mi.runF, Mi.evSs, Mi.evS, Mi.evE, Mi.evT, Mi.evP, Mi.evEs, Mi.evIt, Mi.lift, Mi.bltV, Mi.intV, Mi.lenV, Mi.binV, Mi.intOp, Mi.cmpV, Mi.truV, Mi.mthV, Mi.recvOk, Mi.listOf, Mi.seqOf, Mi.dOf, Mi.cellL, Mi.srcOf, Mi.srcOk, Mi.setTg, Mi.setAll, Mi.mkL, Mi.toDs, Mi.In_len, Mi.In_app, Mi.In_one, Mi.In_drop, Mi.In_rev, Mi.In_emp, Mi.In_nl, Mi.In_get, Mi.toDs_In, b_law_due, rw1, setTl, ib, eqD, db, nb, lw, e2]
end K20

set_option maxRecDepth 100000
set_option maxHeartbeats 1000000
namespace K20
open PySem L2 Mi TL
theorem callW_c {Φ : Nat → List W → M W} {mu : Bool} {f i : Nat} {ds : List PyData} {c c' : Cell} {cs : MH} {y : PyData} {h : MH} (hi : h[i]? = some c) (fc : flatC c = true) (e : Φ f (.ref 0 :: ds.map .d) [c] = .ok (.d y) (c' :: cs)) (fc' : flatC c' = true) :
    callW Φ mu f (.ref i :: ds.map .d) h = .ok (.d y) (h.set i c') := by
  unfold callW
  have e1 : refsOf (.ref i :: ds.map W.d) = [i] := by simp only [refsOf, refs_d]
  have e2 : renum 0 (.ref i :: ds.map W.d) = .ref 0 :: ds.map .d := by simp only [renum, renum_d]
  have e3 : cellsAt h [i] = some [c] := by simp [cellsAt, hi, fc]
  have e4 : nodupN [i] = true := by simp [nodupN]
  simp only [e1, e2, e3, e4, e, if_true, putBack, fc', resW]
theorem callW_x {Φ : Nat → List W → M W} {mu : Bool} {f i : Nat} {ds : List PyData} {c c' : Cell} {cs : MH} {x : Exn} {h : MH} (hi : h[i]? = some c) (fc : flatC c = true) (e : Φ f (.ref 0 :: ds.map .d) [c] = .exc x (c' :: cs)) (fc' : flatC c' = true) :
    callW Φ mu f (.ref i :: ds.map .d) h = .exc x (h.set i c') := by
  unfold callW
  have e1 : refsOf (.ref i :: ds.map W.d) = [i] := by simp only [refsOf, refs_d]
  have e2 : renum 0 (.ref i :: ds.map W.d) = .ref 0 :: ds.map .d := by simp only [renum, renum_d]
  have e3 : cellsAt h [i] = some [c] := by simp [cellsAt, hi, fc]
  have e4 : nodupN [i] = true := by simp [nodupN]
  simp only [e1, e2, e3, e4, e, if_true, putBack, fc']
abbrev Rc (z : Str) (p : Nat) : Cell := .ins 0 [some (.d (.str z)), some (.d (.int (p : Int)))]
theorem flat_R (z : Str) (p : Nat) : flatC (Rc z p) = true := rfl
def mal (q : Nat) : Exn := ⟨2, some (.int (q : Int))⟩
section
variable {z : Str} {p : Nat} {l : List Nat} {n : Nat}
theorem ins_R {t : MH} : insAt 0 (.ref 0) (Rc z p :: t) = true := rfl
theorem fld0 {t : MH} : fldV 0 0 (.ref 0) (Rc z p :: t) = some (.d (.str z)) := rfl
theorem fld1 {t : MH} : fldV 0 1 (.ref 0) (Rc z p :: t) = some (.d (.int (p : Int))) := rfl
theorem fset1 {t : MH} : fsetV 0 1 (.ref 0) (.d (.int ((p : Int) + 1))) (Rc z p :: t) = some (Rc z (p + 1) :: t) := rfl
theorem sign_c (hz : z.length ≤ 10000) (e : l = (tl z).drop p) : callN pr (n + 1) 17 [.ref 0] [Rc z p] = .ok (.d (.str (oneS l))) [Rc z p] := by
  rw [callN_eq (fd := ⟨1, 1, b_Reading_sign⟩) rfl]
  have sl := slc (h := [Rc z p]) hz e
  simp [Mi.runF, Mi.evSs, Mi.evS, Mi.evE, Mi.evT, Mi.evP, Mi.evEs, Mi.evIt, Mi.lift, Mi.bltV, Mi.intV, Mi.lenV, Mi.binV, Mi.intOp, Mi.cmpV, Mi.truV, Mi.mthV, Mi.recvOk, Mi.listOf, Mi.seqOf, Mi.dOf, Mi.cellL, Mi.srcOf, Mi.srcOk, Mi.setTg, Mi.setAll, Mi.mkL, Mi.toDs, Mi.In_len, Mi.In_app, Mi.In_one, Mi.In_drop, Mi.In_rev, Mi.In_emp, Mi.In_nl, Mi.In_get, Mi.toDs_In, b_Reading_sign, fldV, sl]
theorem sign_w {mu : Bool} {t : MH} (hz : z.length ≤ 10000) (e : l = (tl z).drop p) : callW (callN pr (n + 1)) mu 17 [.ref 0] (Rc z p :: t) = .ok (.d (.str (oneS l))) (Rc z p :: t) :=
  callW_c (ds := []) (i := 0) rfl (flat_R z p) (sign_c hz e) (flat_R z p)
theorem is_c (hz : z.length ≤ 10000) (e : l = (tl z).drop p) (s : Str) : callN pr (n + 2) 18 [.ref 0, .d (.str s)] [Rc z p] = .ok (.d (.bool (hdB s l))) [Rc z p] := by
  rw [callN_eq (fd := ⟨2, 2, b_Reading_is_at⟩) rfl]
  have sw := sign_w (n := n) (mu := false) (t := []) hz e
  have he := one_emp l
  cases hl : l.isEmpty with
  | true =>
    rw [hl] at he
    have : l = [] := List.isEmpty_iff.mp hl
    subst this
    simp [Mi.runF, Mi.evSs, Mi.evS, Mi.evE, Mi.evT, Mi.evP, Mi.evEs, Mi.evIt, Mi.lift, Mi.bltV, Mi.intV, Mi.lenV, Mi.binV, Mi.intOp, Mi.cmpV, Mi.truV, Mi.mthV, Mi.recvOk, Mi.listOf, Mi.seqOf, Mi.dOf, Mi.cellL, Mi.srcOf, Mi.srcOk, Mi.setTg, Mi.setAll, Mi.mkL, Mi.toDs, Mi.In_len, Mi.In_app, Mi.In_one, Mi.In_drop, Mi.In_rev, Mi.In_emp, Mi.In_nl, Mi.In_get, Mi.toDs_In, b_Reading_is_at, insAt, sw, eqD, depOk, PyData.depth, he, hdB]
  | false =>
    rw [hl] at he
    have si := one_in s hl
    simp [Mi.runF, Mi.evSs, Mi.evS, Mi.evE, Mi.evT, Mi.evP, Mi.evEs, Mi.evIt, Mi.lift, Mi.bltV, Mi.intV, Mi.lenV, Mi.binV, Mi.intOp, Mi.cmpV, Mi.truV, Mi.mthV, Mi.recvOk, Mi.listOf, Mi.seqOf, Mi.dOf, Mi.cellL, Mi.srcOf, Mi.srcOk, Mi.setTg, Mi.setAll, Mi.mkL, Mi.toDs, Mi.In_len, Mi.In_app, Mi.In_one, Mi.In_drop, Mi.In_rev, Mi.In_emp, Mi.In_nl, Mi.In_get, Mi.toDs_In, b_Reading_is_at, insAt, sw, eqD, depOk, PyData.depth, he, Mi.inV, si]
theorem is_w {mu : Bool} {t : MH} (hz : z.length ≤ 10000) (e : l = (tl z).drop p) (s : Str) : callW (callN pr (n + 2)) mu 18 [.ref 0, .d (.str s)] (Rc z p :: t) = .ok (.d (.bool (hdB s l))) (Rc z p :: t) :=
  callW_c (ds := [.str s]) (i := 0) rfl (flat_R z p) (is_c hz e s) (flat_R z p)
theorem take_loop (hz : z.length ≤ 10000) {s : Str} {f : Nat → Bool} (hf : ∀ c, f c = decide (c ∈ tl s)) {o : Option W} : ∀ (l : List Nat) (p m : Nat), l = (tl z).drop p → l.length < m →
    whileL (fun env h => evT (callN pr (n + 2)) b_Reading_take_t1 env h) (fun env h => evSs (callN pr (n + 2)) b_Reading_take_w2 env h) m [some (.ref 0), some (.d (.str s)), o] [Rc z p] = .ok (.nx [some (.ref 0), some (.d (.str s)), o]) [Rc z (p + (l.takeWhile f).length)]
  | l, p, 0, e, lm => by omega
  | [], p, m + 1, e, lm => by
    have iw := is_w (n := n) (mu := false) (t := []) hz e s
    have T : evT (callN pr (n + 2)) b_Reading_take_t1 [some (.ref 0), some (.d (.str s)), o] [Rc z p] = .ok false [Rc z p] := by
      simp [Mi.runF, Mi.evSs, Mi.evS, Mi.evE, Mi.evT, Mi.evP, Mi.evEs, Mi.evIt, Mi.lift, Mi.bltV, Mi.intV, Mi.lenV, Mi.binV, Mi.intOp, Mi.cmpV, Mi.truV, Mi.mthV, Mi.recvOk, Mi.listOf, Mi.seqOf, Mi.dOf, Mi.cellL, Mi.srcOf, Mi.srcOk, Mi.setTg, Mi.setAll, Mi.mkL, Mi.toDs, Mi.In_len, Mi.In_app, Mi.In_one, Mi.In_drop, Mi.In_rev, Mi.In_emp, Mi.In_nl, Mi.In_get, Mi.toDs_In, b_Reading_take_t1, insAt, iw, hdB]
    simp [whileL, T]
  | c :: r, p, m + 1, e, lm => by
    have iw := is_w (n := n) (mu := false) (t := []) hz e s
    rw [List.takeWhile_cons, hf]
    simp only [hdB] at iw
    cases hc : decide (c ∈ tl s) with
    | false =>
      rw [hc] at iw
      have T : evT (callN pr (n + 2)) b_Reading_take_t1 [some (.ref 0), some (.d (.str s)), o] [Rc z p] = .ok false [Rc z p] := by
        simp [Mi.runF, Mi.evSs, Mi.evS, Mi.evE, Mi.evT, Mi.evP, Mi.evEs, Mi.evIt, Mi.lift, Mi.bltV, Mi.intV, Mi.lenV, Mi.binV, Mi.intOp, Mi.cmpV, Mi.truV, Mi.mthV, Mi.recvOk, Mi.listOf, Mi.seqOf, Mi.dOf, Mi.cellL, Mi.srcOf, Mi.srcOk, Mi.setTg, Mi.setAll, Mi.mkL, Mi.toDs, Mi.In_len, Mi.In_app, Mi.In_one, Mi.In_drop, Mi.In_rev, Mi.In_emp, Mi.In_nl, Mi.In_get, Mi.toDs_In, b_Reading_take_t1, insAt, iw]
      simp [whileL, T]
    | true =>
      rw [hc] at iw
      have T : evT (callN pr (n + 2)) b_Reading_take_t1 [some (.ref 0), some (.d (.str s)), o] [Rc z p] = .ok true [Rc z p] := by
        simp [Mi.runF, Mi.evSs, Mi.evS, Mi.evE, Mi.evT, Mi.evP, Mi.evEs, Mi.evIt, Mi.lift, Mi.bltV, Mi.intV, Mi.lenV, Mi.binV, Mi.intOp, Mi.cmpV, Mi.truV, Mi.mthV, Mi.recvOk, Mi.listOf, Mi.seqOf, Mi.dOf, Mi.cellL, Mi.srcOf, Mi.srcOk, Mi.setTg, Mi.setAll, Mi.mkL, Mi.toDs, Mi.In_len, Mi.In_app, Mi.In_one, Mi.In_drop, Mi.In_rev, Mi.In_emp, Mi.In_nl, Mi.In_get, Mi.toDs_In, b_Reading_take_t1, insAt, iw]
      have B : evSs (callN pr (n + 2)) b_Reading_take_w2 [some (.ref 0), some (.d (.str s)), o] [Rc z p] = .ok (.nx [some (.ref 0), some (.d (.str s)), o]) [Rc z (p + 1)] := by
        simp [Mi.runF, Mi.evSs, Mi.evS, Mi.evE, Mi.evT, Mi.evP, Mi.evEs, Mi.evIt, Mi.lift, Mi.bltV, Mi.intV, Mi.lenV, Mi.binV, Mi.intOp, Mi.cmpV, Mi.truV, Mi.mthV, Mi.recvOk, Mi.listOf, Mi.seqOf, Mi.dOf, Mi.cellL, Mi.srcOf, Mi.srcOk, Mi.setTg, Mi.setAll, Mi.mkL, Mi.toDs, Mi.In_len, Mi.In_app, Mi.In_one, Mi.In_drop, Mi.In_rev, Mi.In_emp, Mi.In_nl, Mi.In_get, Mi.toDs_In, b_Reading_take_w2, fldV, fsetV]
      have ih := take_loop hz hf (o := o) r (p + 1) m (by have := drop1 e; simpa using this) (by simpa using lm)
      rw [if_pos rfl, List.length_cons, show p + ((r.takeWhile f).length + 1) = p + 1 + (r.takeWhile f).length by omega]
      simp only [whileL, T, toS_ok, if_true, B, ih]
theorem take_c (hz : z.length ≤ 10000) (e : l = (tl z).drop p) {s : Str} {f : Nat → Bool} (hf : ∀ c, f c = decide (c ∈ tl s)) :
    callN pr (n + 3) 19 [.ref 0, .d (.str s)] [Rc z p] = .ok (.d (.str ⟨(l.takeWhile f).toArray⟩)) [Rc z (p + (l.takeWhile f).length)] := by
  rw [callN_eq (fd := ⟨2, 3, b_Reading_take⟩) rfl]
  have ll : l.length < fuel := by
    have := congrArg List.length e
    rw [List.length_drop, ← len_tl] at this
    show l.length < 1000000
    omega
  have tk := take_loop (n := n) hz hf (o := some (.d (.int (p : Int)))) l p fuel e ll
  have S1 : evS (callN pr (n + 2)) (.set 2 (.fld 0 (.var 0) 1)) [some (.ref 0), some (.d (.str s)), none] [Rc z p] = .ok (.nx [some (.ref 0), some (.d (.str s)), some (.d (.int (p : Int)))]) [Rc z p] := rfl
  have S2 : evS (callN pr (n + 2)) (.while b_Reading_take_t1 b_Reading_take_w2) [some (.ref 0), some (.d (.str s)), some (.d (.int (p : Int)))] [Rc z p] = .ok (.nx [some (.ref 0), some (.d (.str s)), some (.d (.int (p : Int)))]) [Rc z (p + (l.takeWhile f).length)] := by
    simp only [evS, tk]
  have sl := slcn (h := [Rc z (p + (l.takeWhile f).length)]) hz (p := p) (n := (l.takeWhile f).length)
  rw [← e, ← tw_take] at sl
  have S3 : evS (callN pr (n + 2)) (.ret (.slice (.fld 0 (.var 0) 0) (.at (.var 2)) (.at (.fld 0 (.var 0) 1)))) [some (.ref 0), some (.d (.str s)), some (.d (.int (p : Int)))] [Rc z (p + (l.takeWhile f).length)] = .ok (.ret (.d (.str ⟨(l.takeWhile f).toArray⟩))) [Rc z (p + (l.takeWhile f).length)] := by
    generalize hm : (l.takeWhile f).length = m at sl ⊢
    have e2 : ((p + m : Nat) : Int) = (p : Int) + (m : Int) := by omega
    simp only [evS, evE, evP, lift, List.getElem?_cons_zero, List.getElem?_cons_succ, Option.join_some, bind_ok, fld0, fld1, e2, sl, toS_ok]
  simp only [runF, b_Reading_take, List.length_cons, List.length_nil, List.map_cons, List.map_nil, List.replicate, List.cons_append, List.nil_append, evSs, S1, S2, S3]
  rfl
theorem take_w {mu : Bool} {t : MH} (hz : z.length ≤ 10000) (e : l = (tl z).drop p) {s : Str} {f : Nat → Bool} (hf : ∀ c, f c = decide (c ∈ tl s)) :
    callW (callN pr (n + 3)) mu 19 [.ref 0, .d (.str s)] (Rc z p :: t) = .ok (.d (.str ⟨(l.takeWhile f).toArray⟩)) (Rc z (p + (l.takeWhile f).length) :: t) :=
  callW_c (ds := [.str s]) (i := 0) rfl (flat_R z p) (take_c hz e hf) (flat_R z _)
end
end K20

set_option maxRecDepth 100000
set_option maxHeartbeats 1000000
namespace K20
open PySem L2 Mi TL
def ResC (z : Str) (x : R W) : Rd → Prop
  | .ok v q _ => ∃ cs, x = .ok (.d v) (Rc z q :: cs)
  | .bad q => ∃ p' cs, x = .exc (mal q) (Rc z p' :: cs)
def ResW (z : Str) (t : MH) (x : R W) : Rd → Prop
  | .ok v q _ => x = .ok (.d v) (Rc z q :: t)
  | .bad q => ∃ p', x = .exc (mal q) (Rc z p' :: t)
theorem res_w {z : Str} {t : MH} {Φ : Nat → List W → M W} {mu : Bool} {f p : Nat} {ds : List PyData} {r : Rd} (h : ResC z (Φ f (.ref 0 :: ds.map .d) [Rc z p]) r) : ResW z t (callW Φ mu f (.ref 0 :: ds.map .d) (Rc z p :: t)) r := by
  cases r with
  | ok v q l =>
    obtain ⟨cs, e⟩ := h
    exact callW_c (i := 0) rfl (flat_R z p) e (flat_R z q)
  | bad q =>
    obtain ⟨p', cs, e⟩ := h
    exact ⟨p', callW_x (i := 0) rfl (flat_R z p) e (flat_R z p')⟩
theorem tw_hd (l : List Nat) : (l.takeWhile isD).isEmpty = !hdB sD l := by
  cases l with
  | nil => rfl
  | cons c r =>
    rw [List.takeWhile_cons]
    show _ = !isD c
    cases isD c <;> rfl
/-- what a method's end makes of a statement's end -/
def ResS (z : Str) (x : RS) : Rd → Prop
  | .ok v q _ => ∃ cs, x = .ok (.ret (.d v)) (Rc z q :: cs)
  | .bad q => ∃ env p' cs, x = .exc (mal q) env (Rc z p' :: cs)
theorem res_c {z : Str} {n f : Nat} {fd : FD} {ws : List W} {h : MH} {r : Rd} (e : pr[f]? = some fd) (hl : ws.length = fd.np) (hs : ResS z (evSs (callN pr n) fd.body (ws.map some ++ List.replicate (fd.ns - ws.length) none) h) r) : ResC z (callN pr (n + 1) f ws h) r := by
  rw [callN_eq e]
  cases r with
  | ok v q l =>
    obtain ⟨cs, e⟩ := hs
    exact ⟨cs, by simp [runF, hl]; rw [← hl, e]⟩
  | bad q =>
    obtain ⟨env, p', cs, e⟩ := hs
    exact ⟨p', cs, by simp [runF, hl]; rw [← hl, e]⟩
theorem resS_bad {z : Str} {x : RS} {q p' : Nat} {env : Ev} {cs : MH} (h : x = .exc (mal q) env (Rc z p' :: cs)) : ResS z x (.bad q) := ⟨env, p', cs, h⟩
theorem resS_ok {z : Str} {x : RS} {v : PyData} {q : Nat} {l : List Nat} {cs : MH} (h : x = .ok (.ret (.d v)) (Rc z q :: cs)) : ResS z x (.ok v q l) := ⟨cs, h⟩
section
variable {z : Str} {n : Nat}
theorem int_end2 {m : Bool} {s : Nat} {r : List Nat} (hz : z.length ≤ 10000) (e : r = (tl z).drop s) :
    ResS z (evSs (callN pr (n + 3)) (.cons b_Reading_integer_s3 (.cons b_Reading_integer_s4 (.cons b_Reading_integer_s5 (.cons b_Reading_integer_s6 (.cons b_Reading_integer_s7 (.cons b_Reading_integer_s8 (.cons b_Reading_integer_s9 .nil))))))) [some (.ref 0), some (.d (.bool m)), none, none, none] [Rc z s]) (pInt2 m s r) := by
  have iD := is_w (n := n + 1) (mu := false) (t := []) hz e sD
  have i0 := is_w (n := n + 1) (mu := false) (t := []) hz e "0"
  have tk := take_w (n := n) (mu := false) (t := []) hz e (s := sD) (f := isD) fun _ => rfl
  have hdig := digs_all (l := r)
  have hh := tw_hd r
  have hwz : (r.takeWhile isD).length ≤ z.length := by
    have := tw_len (f := isD) r
    have h2 := congrArg List.length e
    rw [List.length_drop, ← len_tl] at h2
    omega
  unfold pInt2
  generalize r.takeWhile isD = w at *
  have E3 : evS (callN pr (n + 3)) b_Reading_integer_s3 [some (.ref 0), some (.d (.bool m)), none, none, none] [Rc z s] = .ok (.nx [some (.ref 0), some (.d (.bool m)), some (.d (.int (s : Int))), none, none]) [Rc z s] := rfl
  rw [hh]
  have E4 : evS (callN pr (n + 3)) b_Reading_integer_s4 [some (.ref 0), some (.d (.bool m)), some (.d (.int (s : Int))), none, none] [Rc z s] = if !hdB sD r || m && hdB "0" r then .exc (mal s) [some (.ref 0), some (.d (.bool m)), some (.d (.int (s : Int))), none, none] [Rc z s] else .ok (.nx [some (.ref 0), some (.d (.bool m)), some (.d (.int (s : Int))), none, none]) [Rc z s] := by
    unfold sD at iD
    rw [show hdB sD r = hdB "0123456789" r from rfl]
    generalize hdB "0123456789" r = k1 at iD ⊢
    generalize hdB "0" r = k2 at i0 ⊢
    cases k1 <;> cases k2 <;> cases m <;> simp [Mi.runF, Mi.evSs, Mi.evS, Mi.evE, Mi.evT, Mi.evP, Mi.evEs, Mi.evIt, Mi.lift, Mi.bltV, Mi.intV, Mi.lenV, Mi.binV, Mi.intOp, Mi.cmpV, Mi.truV, Mi.mthV, Mi.recvOk, Mi.listOf, Mi.seqOf, Mi.dOf, Mi.cellL, Mi.srcOf, Mi.srcOk, Mi.setTg, Mi.setAll, Mi.mkL, Mi.toDs, Mi.In_len, Mi.In_app, Mi.In_one, Mi.In_drop, Mi.In_rev, Mi.In_emp, Mi.In_nl, Mi.In_get, Mi.toDs_In, b_Reading_integer_s4, insAt, iD, i0, fldV, mal]
  cases h4 : (!hdB sD r || m && hdB "0" r) with
  | true =>
    rw [h4] at E4
    exact resS_bad (cs := []) (by simp only [evSs, E3, E4, if_true] <;> rfl)
  | false =>
    rw [h4] at E4 
    simp only [Bool.false_eq_true, if_false] at E4 ⊢
    have E5 : evS (callN pr (n + 3)) b_Reading_integer_s5 [some (.ref 0), some (.d (.bool m)), some (.d (.int (s : Int))), none, none] [Rc z s] = .ok (.nx [some (.ref 0), some (.d (.bool m)), some (.d (.int (s : Int))), some (.d (.bool (hdB "0" r))), none]) [Rc z s] := by
      simp [Mi.runF, Mi.evSs, Mi.evS, Mi.evE, Mi.evT, Mi.evP, Mi.evEs, Mi.evIt, Mi.lift, Mi.bltV, Mi.intV, Mi.lenV, Mi.binV, Mi.intOp, Mi.cmpV, Mi.truV, Mi.mthV, Mi.recvOk, Mi.listOf, Mi.seqOf, Mi.dOf, Mi.cellL, Mi.srcOf, Mi.srcOk, Mi.setTg, Mi.setAll, Mi.mkL, Mi.toDs, Mi.In_len, Mi.In_app, Mi.In_one, Mi.In_drop, Mi.In_rev, Mi.In_emp, Mi.In_nl, Mi.In_get, Mi.toDs_In, b_Reading_integer_s5, insAt, i0]
    have E6 : evS (callN pr (n + 3)) b_Reading_integer_s6 [some (.ref 0), some (.d (.bool m)), some (.d (.int (s : Int))), some (.d (.bool (hdB "0" r))), none] [Rc z s] = .ok (.nx [some (.ref 0), some (.d (.bool m)), some (.d (.int (s : Int))), some (.d (.bool (hdB "0" r))), some (.d (.str ⟨w.toArray⟩))]) [Rc z (s + w.length)] := by
      unfold sD at tk
      simp only [b_Reading_integer_s6, evS, evE, evEs, lift, List.getElem?_cons_zero, List.getElem?_cons_succ, Option.join_some, bind_ok, ins_R, if_true, tk, toS_ok, List.set_cons_zero, List.set_cons_succ]
    have w0 : w ≠ [] := by
      rintro rfl
      rw [← hh] at h4
      simp at h4
    have wl : (⟨w.toArray⟩ : Str).length = w.length := len_tl _
    have wz : w.length ≤ z.length := hwz
    have lo : lineOk w.length = true := Nat.ble_eq_true_of_le (by omega)
    have b1 : Nat.blt 1 w.length = decide (1 < w.length) := by rw [Bool.eq_iff_iff, decide_eq_true_eq, Nat.blt_eq]
    have b2 : Nat.blt 20 w.length = decide (20 < w.length) := by rw [Bool.eq_iff_iff, decide_eq_true_eq, Nat.blt_eq]
    have E7 : evS (callN pr (n + 3)) b_Reading_integer_s7 [some (.ref 0), some (.d (.bool m)), some (.d (.int (s : Int))), some (.d (.bool (hdB "0" r))), some (.d (.str ⟨w.toArray⟩))] [Rc z (s + w.length)] = if hdB "0" r && Nat.blt 1 w.length then .exc (mal (s + 1)) [some (.ref 0), some (.d (.bool m)), some (.d (.int (s : Int))), some (.d (.bool (hdB "0" r))), some (.d (.str ⟨w.toArray⟩))] [Rc z (s + w.length)] else .ok (.nx [some (.ref 0), some (.d (.bool m)), some (.d (.int (s : Int))), some (.d (.bool (hdB "0" r))), some (.d (.str ⟨w.toArray⟩))]) [Rc z (s + w.length)] := by
      generalize Rc z (s + w.length) = C
      rw [b1]
      generalize hdB "0" r = k2
      by_cases h : 1 < w.length
      · have h' : (1 : Int) < w.length := by omega
        cases k2 <;> simp [Mi.runF, Mi.evSs, Mi.evS, Mi.evE, Mi.evT, Mi.evP, Mi.evEs, Mi.evIt, Mi.lift, Mi.bltV, Mi.intV, Mi.lenV, Mi.binV, Mi.intOp, Mi.cmpV, Mi.truV, Mi.mthV, Mi.recvOk, Mi.listOf, Mi.seqOf, Mi.dOf, Mi.cellL, Mi.srcOf, Mi.srcOk, Mi.setTg, Mi.setAll, Mi.mkL, Mi.toDs, Mi.In_len, Mi.In_app, Mi.In_one, Mi.In_drop, Mi.In_rev, Mi.In_emp, Mi.In_nl, Mi.In_get, Mi.toDs_In, b_Reading_integer_s7, lo, wl, h, h', mal]
      · have h' : ¬ (1 : Int) < w.length := by omega
        cases k2 <;> simp [Mi.runF, Mi.evSs, Mi.evS, Mi.evE, Mi.evT, Mi.evP, Mi.evEs, Mi.evIt, Mi.lift, Mi.bltV, Mi.intV, Mi.lenV, Mi.binV, Mi.intOp, Mi.cmpV, Mi.truV, Mi.mthV, Mi.recvOk, Mi.listOf, Mi.seqOf, Mi.dOf, Mi.cellL, Mi.srcOf, Mi.srcOk, Mi.setTg, Mi.setAll, Mi.mkL, Mi.toDs, Mi.In_len, Mi.In_app, Mi.In_one, Mi.In_drop, Mi.In_rev, Mi.In_emp, Mi.In_nl, Mi.In_get, Mi.toDs_In, b_Reading_integer_s7, lo, wl, h, h', mal]
    have E8 : evS (callN pr (n + 3)) b_Reading_integer_s8 [some (.ref 0), some (.d (.bool m)), some (.d (.int (s : Int))), some (.d (.bool (hdB "0" r))), some (.d (.str ⟨w.toArray⟩))] [Rc z (s + w.length)] = if Nat.blt 20 w.length then .exc (mal (s + 20)) [some (.ref 0), some (.d (.bool m)), some (.d (.int (s : Int))), some (.d (.bool (hdB "0" r))), some (.d (.str ⟨w.toArray⟩))] [Rc z (s + w.length)] else .ok (.nx [some (.ref 0), some (.d (.bool m)), some (.d (.int (s : Int))), some (.d (.bool (hdB "0" r))), some (.d (.str ⟨w.toArray⟩))]) [Rc z (s + w.length)] := by
      generalize Rc z (s + w.length) = C
      rw [b2]
      by_cases h : 20 < w.length
      · have h' : (20 : Int) < w.length := by omega
        simp [Mi.runF, Mi.evSs, Mi.evS, Mi.evE, Mi.evT, Mi.evP, Mi.evEs, Mi.evIt, Mi.lift, Mi.bltV, Mi.intV, Mi.lenV, Mi.binV, Mi.intOp, Mi.cmpV, Mi.truV, Mi.mthV, Mi.recvOk, Mi.listOf, Mi.seqOf, Mi.dOf, Mi.cellL, Mi.srcOf, Mi.srcOk, Mi.setTg, Mi.setAll, Mi.mkL, Mi.toDs, Mi.In_len, Mi.In_app, Mi.In_one, Mi.In_drop, Mi.In_rev, Mi.In_emp, Mi.In_nl, Mi.In_get, Mi.toDs_In, b_Reading_integer_s8, lo, wl, h, h', mal]
      · have h' : ¬ (20 : Int) < w.length := by omega
        simp [Mi.runF, Mi.evSs, Mi.evS, Mi.evE, Mi.evT, Mi.evP, Mi.evEs, Mi.evIt, Mi.lift, Mi.bltV, Mi.intV, Mi.lenV, Mi.binV, Mi.intOp, Mi.cmpV, Mi.truV, Mi.mthV, Mi.recvOk, Mi.listOf, Mi.seqOf, Mi.dOf, Mi.cellL, Mi.srcOf, Mi.srcOk, Mi.setTg, Mi.setAll, Mi.mkL, Mi.toDs, Mi.In_len, Mi.In_app, Mi.In_one, Mi.In_drop, Mi.In_rev, Mi.In_emp, Mi.In_nl, Mi.In_get, Mi.toDs_In, b_Reading_integer_s8, lo, wl, h, h', mal]
    simp only [evSs, E3, E4, E5, E6, E7, E8]
    cases h7 : (hdB "0" r && Nat.blt 1 w.length) with
    | true => exact resS_bad (cs := []) (by simp only [if_true] <;> rfl)
    | false =>
      simp only [Bool.false_eq_true, if_false, E8]
      cases h8 : Nat.blt 20 w.length with
      | true => exact resS_bad (cs := []) (by simp only [if_true] <;> rfl)
      | false =>
        simp only [Bool.false_eq_true, if_false]
        have l20 : w.length ≤ 20 := by
          rw [b2, decide_eq_false_iff_not] at h8
          omega
        have it := int_text (m := false) hdig w0 (by omega) [Rc z (s + w.length)]
        simp only [Bool.false_eq_true, if_false] at it
        refine resS_ok (cs := []) ?_
        generalize Rc z (s + w.length) = C at it ⊢
        cases m <;> simp only [b_Reading_integer_s9, evS, evE, evEs, evT, lift, List.getElem?_cons_zero, List.getElem?_cons_succ, Option.join_some, bind_ok, toS_ok, bltV, it, truV, Bool.false_eq_true, if_false, if_true]
theorem integer2_c {p : Nat} {l : List Nat} (hz : z.length ≤ 10000) (e : l = (tl z).drop p) : ResC z (callN pr (n + 4) 20 [.ref 0] [Rc z p]) (pInt p l) := by
  refine res_c (fd := ⟨1, 5, b_Reading_integer⟩) rfl rfl ?_
  have im := is_w (n := n + 1) (mu := false) (t := []) hz e "-"
  have E1 : evS (callN pr (n + 3)) b_Reading_integer_s1 [some (.ref 0), none, none, none, none] [Rc z p] = .ok (.nx [some (.ref 0), some (.d (.bool (hdB "-" l))), none, none, none]) [Rc z p] := by
    simp [Mi.runF, Mi.evSs, Mi.evS, Mi.evE, Mi.evT, Mi.evP, Mi.evEs, Mi.evIt, Mi.lift, Mi.bltV, Mi.intV, Mi.lenV, Mi.binV, Mi.intOp, Mi.cmpV, Mi.truV, Mi.mthV, Mi.recvOk, Mi.listOf, Mi.seqOf, Mi.dOf, Mi.cellL, Mi.srcOf, Mi.srcOk, Mi.setTg, Mi.setAll, Mi.mkL, Mi.toDs, Mi.In_len, Mi.In_app, Mi.In_one, Mi.In_drop, Mi.In_rev, Mi.In_emp, Mi.In_nl, Mi.In_get, Mi.toDs_In, b_Reading_integer_s1, insAt, im]
  unfold pInt
  cases h : hdB "-" l with
  | false =>
    rw [h] at E1
    have E2 : evS (callN pr (n + 3)) b_Reading_integer_s2 [some (.ref 0), some (.d (.bool false)), none, none, none] [Rc z p] = .ok (.nx [some (.ref 0), some (.d (.bool false)), none, none, none]) [Rc z p] := by
      simp [Mi.runF, Mi.evSs, Mi.evS, Mi.evE, Mi.evT, Mi.evP, Mi.evEs, Mi.evIt, Mi.lift, Mi.bltV, Mi.intV, Mi.lenV, Mi.binV, Mi.intOp, Mi.cmpV, Mi.truV, Mi.mthV, Mi.recvOk, Mi.listOf, Mi.seqOf, Mi.dOf, Mi.cellL, Mi.srcOf, Mi.srcOk, Mi.setTg, Mi.setAll, Mi.mkL, Mi.toDs, Mi.In_len, Mi.In_app, Mi.In_one, Mi.In_drop, Mi.In_rev, Mi.In_emp, Mi.In_nl, Mi.In_get, Mi.toDs_In, b_Reading_integer_s2]
    have := int_end2 (n := n) (m := false) hz e
    simp only [Bool.false_eq_true, if_false]
    show ResS z (evSs (callN pr (n + 3)) (.cons b_Reading_integer_s1 (.cons b_Reading_integer_s2 _)) [some (.ref 0), none, none, none, none] [Rc z p]) _
    simp only [evSs, E1, E2] at this ⊢
    exact this
  | true =>
    rw [h] at E1
    have E2 : evS (callN pr (n + 3)) b_Reading_integer_s2 [some (.ref 0), some (.d (.bool true)), none, none, none] [Rc z p] = .ok (.nx [some (.ref 0), some (.d (.bool true)), none, none, none]) [Rc z (p + 1)] := by
      simp [Mi.runF, Mi.evSs, Mi.evS, Mi.evE, Mi.evT, Mi.evP, Mi.evEs, Mi.evIt, Mi.lift, Mi.bltV, Mi.intV, Mi.lenV, Mi.binV, Mi.intOp, Mi.cmpV, Mi.truV, Mi.mthV, Mi.recvOk, Mi.listOf, Mi.seqOf, Mi.dOf, Mi.cellL, Mi.srcOf, Mi.srcOk, Mi.setTg, Mi.setAll, Mi.mkL, Mi.toDs, Mi.In_len, Mi.In_app, Mi.In_one, Mi.In_drop, Mi.In_rev, Mi.In_emp, Mi.In_nl, Mi.In_get, Mi.toDs_In, b_Reading_integer_s2, fldV, fsetV]
    have := int_end2 (n := n) (m := true) hz (drop1 e)
    simp only [if_true]
    show ResS z (evSs (callN pr (n + 3)) (.cons b_Reading_integer_s1 (.cons b_Reading_integer_s2 _)) [some (.ref 0), none, none, none, none] [Rc z p]) _
    simp only [evSs, E1, E2] at this ⊢
    exact this
end
end K20

set_option maxRecDepth 100000
set_option maxHeartbeats 1000000
namespace K20
open PySem L2 Mi TL
section
variable {z : Str} {m d : Nat} {f : Nat → List Nat → Rd} {k : Nat}
def ResL (z : Str) (env : Ev) (x : RS) : Rd → Prop
  | .ok v q _ => ∃ acc p', v = .tuple acc ∧ q = p' + 1 ∧ x = .ok (.nx env) (Rc z p' :: Ac acc)
  | .bad q => ∃ env p' cs, x = .exc (mal q) env (Rc z p' :: cs)
theorem ents2_body1 {p : Nat} {l : List Nat} {acc : List PyData} (hz : z.length ≤ 10000) (e : l = (tl z).drop p) :
    evS (callN pr (m + 2)) (.ite (.val (.var 2)) (.cons (.ite (.not (.val (.mcall 18 0 false (.var 0) (.cons (.lit (.str " ")) .nil)))) (.cons (.raise 2 (some (.fld 0 (.var 0) 1))) .nil) .nil) (.cons (.faug 0 (.var 0) 1 (.lit (.int 1))) .nil)) .nil) [some (.ref 0), some (.d (.int (d : Int))), some (.ref 1)] (Rc z p :: Ac acc) =
      if !acc.isEmpty && !hdB " " l then .exc (mal p) [some (.ref 0), some (.d (.int (d : Int))), some (.ref 1)] (Rc z p :: Ac acc) else .ok (.nx [some (.ref 0), some (.d (.int (d : Int))), some (.ref 1)]) (Rc z (if acc.isEmpty then p else p + 1) :: Ac acc) := by
  have iw := is_w (n := m) (mu := false) (t := Ac acc) hz e " "
  cases acc with
  | nil => simp [Mi.runF, Mi.evSs, Mi.evS, Mi.evE, Mi.evT, Mi.evP, Mi.evEs, Mi.evIt, Mi.lift, Mi.bltV, Mi.intV, Mi.lenV, Mi.binV, Mi.intOp, Mi.cmpV, Mi.truV, Mi.mthV, Mi.recvOk, Mi.listOf, Mi.seqOf, Mi.dOf, Mi.cellL, Mi.srcOf, Mi.srcOk, Mi.setTg, Mi.setAll, Mi.mkL, Mi.toDs, Mi.In_len, Mi.In_app, Mi.In_one, Mi.In_drop, Mi.In_rev, Mi.In_emp, Mi.In_nl, Mi.In_get, Mi.toDs_In, ]
  | cons x r =>
    generalize hdB " " l = b at iw ⊢
    cases b <;> simp [Mi.runF, Mi.evSs, Mi.evS, Mi.evE, Mi.evT, Mi.evP, Mi.evEs, Mi.evIt, Mi.lift, Mi.bltV, Mi.intV, Mi.lenV, Mi.binV, Mi.intOp, Mi.cmpV, Mi.truV, Mi.mthV, Mi.recvOk, Mi.listOf, Mi.seqOf, Mi.dOf, Mi.cellL, Mi.srcOf, Mi.srcOk, Mi.setTg, Mi.setAll, Mi.mkL, Mi.toDs, Mi.In_len, Mi.In_app, Mi.In_one, Mi.In_drop, Mi.In_rev, Mi.In_emp, Mi.In_nl, Mi.In_get, Mi.toDs_In, insAt, iw, fldV, fsetV, mal]
theorem ents2_loop (hz : z.length ≤ 10000) (hf : ∀ p l, Fed k p l (f p l)) (Hr : ∀ p l t, l = (tl z).drop p → ResW z t (callW (callN pr (m + 2)) false 21 [.ref 0, .d (.int (d : Int))] (Rc z p :: t)) (f p l)) :
    ∀ (N p : Nat) (l : List Nat) (acc : List PyData) (M : Nat), l = (tl z).drop p → l.length < N → l.length < M → acc.length + l.length ≤ 20000 →
      ResL z [some (.ref 0), some (.d (.int (d : Int))), some (.ref 1)] (whileL (fun env h => evT (callN pr (m + 2)) b_Reading_entries_t1 env h) (fun env h => evSs (callN pr (m + 2)) b_Reading_entries_w2 env h) M [some (.ref 0), some (.d (.int (d : Int))), some (.ref 1)] (Rc z p :: Ac acc)) (pLoop f N p l acc)
  | 0, p, l, acc, M, e, h1, h2, h3 => by omega
  | N + 1, p, l, acc, 0, e, h1, h2, h3 => by omega
  | N + 1, p, l, acc, M + 1, e, h1, h2, h3 => by
    have iw := is_w (n := m) (mu := false) (t := Ac acc) hz e ")"
    have T : evT (callN pr (m + 2)) b_Reading_entries_t1 [some (.ref 0), some (.d (.int (d : Int))), some (.ref 1)] (Rc z p :: Ac acc) = .ok (!hdB ")" l) (Rc z p :: Ac acc) := by
      generalize hdB ")" l = b at iw ⊢
      cases b <;> simp [Mi.runF, Mi.evSs, Mi.evS, Mi.evE, Mi.evT, Mi.evP, Mi.evEs, Mi.evIt, Mi.lift, Mi.bltV, Mi.intV, Mi.lenV, Mi.binV, Mi.intOp, Mi.cmpV, Mi.truV, Mi.mthV, Mi.recvOk, Mi.listOf, Mi.seqOf, Mi.dOf, Mi.cellL, Mi.srcOf, Mi.srcOk, Mi.setTg, Mi.setAll, Mi.mkL, Mi.toDs, Mi.In_len, Mi.In_app, Mi.In_one, Mi.In_drop, Mi.In_rev, Mi.In_emp, Mi.In_nl, Mi.In_get, Mi.toDs_In, b_Reading_entries_t1, insAt, iw]
    have B1 := ents2_body1 (m := m) (d := d) (acc := acc) hz e
    unfold pLoop
    cases hs : hdB ")" l with
    | true =>
      rw [hs] at T
      exact ⟨acc, p, rfl, rfl, by simp [whileL, T]⟩
    | false =>
      rw [hs] at T
      simp only [Bool.false_eq_true, if_false]
      have hW : ∀ x, evSs (callN pr (m + 2)) b_Reading_entries_w2 [some (.ref 0), some (.d (.int (d : Int))), some (.ref 1)] (Rc z p :: Ac acc) = x →
          whileL (fun env h => evT (callN pr (m + 2)) b_Reading_entries_t1 env h) (fun env h => evSs (callN pr (m + 2)) b_Reading_entries_w2 env h) (M + 1) [some (.ref 0), some (.d (.int (d : Int))), some (.ref 1)] (Rc z p :: Ac acc) = match x with
            | .ok (.nx env2) h2 => whileL (fun env h => evT (callN pr (m + 2)) b_Reading_entries_t1 env h) (fun env h => evSs (callN pr (m + 2)) b_Reading_entries_w2 env h) M env2 h2
            | .ok (.cnt env2) h2 => whileL (fun env h => evT (callN pr (m + 2)) b_Reading_entries_t1 env h) (fun env h => evSs (callN pr (m + 2)) b_Reading_entries_w2 env h) M env2 h2
            | .ok (.brk env2) h2 => .ok (.nx env2) h2
            | .ok (.ret v) h2 => .ok (.ret v) h2
            | .exc e env2 h2 => .exc e env2 h2
            | .stuck => .stuck := by
        intro x hx
        simp only [whileL, T, toS_ok, Bool.not_false, if_true, hx]
        all_goals
          cases x with
          | ok o h => cases o <;> rfl
          | exc => rfl
          | stuck => rfl
      cases hb : (!acc.isEmpty && !hdB " " l) with
      | true =>
        rw [hb] at B1
        have : evSs (callN pr (m + 2)) b_Reading_entries_w2 [some (.ref 0), some (.d (.int (d : Int))), some (.ref 1)] (Rc z p :: Ac acc) = .exc (mal p) [some (.ref 0), some (.d (.int (d : Int))), some (.ref 1)] (Rc z p :: Ac acc) := by
          simp only [b_Reading_entries_w2, evSs, B1, if_true]
        exact ⟨_, p, Ac acc, by rw [hW _ this]⟩
      | false =>
        rw [hb] at B1
        simp only [Bool.false_eq_true, if_false] at B1 ⊢
        have e' : (if acc.isEmpty then l else l.drop 1) = (tl z).drop (if acc.isEmpty then p else p + 1) := by
          cases acc.isEmpty
          · exact drop1 e
          · exact e
        have ll : (if acc.isEmpty then l else l.drop 1).length ≤ l.length := by
          cases acc.isEmpty
          · simp
          · simp
        generalize (if acc.isEmpty then l else l.drop 1) = l2 at e' ll ⊢
        generalize (if acc.isEmpty then p else p + 1) = p2 at e' B1 ⊢
        have hr := Hr p2 l2 (Ac acc) e'
        have rv : recvOk .append (.ref 1) (Rc z p2 :: Ac acc) = true := rfl
        cases hx : f p2 l2 with
        | bad q =>
          rw [hx] at hr
          obtain ⟨p', hr⟩ := hr
          have B2 : evS (callN pr (m + 2)) (.ex (.meth .append (.var 2) (.cons (.mcall 21 0 false (.var 0) (.cons (.var 1) .nil)) .nil))) [some (.ref 0), some (.d (.int (d : Int))), some (.ref 1)] (Rc z p2 :: Ac acc) = .exc (mal q) [some (.ref 0), some (.d (.int (d : Int))), some (.ref 1)] (Rc z p' :: Ac acc) := by
            simp only [evS, evE, evEs, lift, List.getElem?_cons_zero, List.getElem?_cons_succ, Option.join_some, bind_ok, rv, if_true, ins_R, hr, bind_exc, toS_exc]
          have : evSs (callN pr (m + 2)) b_Reading_entries_w2 [some (.ref 0), some (.d (.int (d : Int))), some (.ref 1)] (Rc z p :: Ac acc) = .exc (mal q) [some (.ref 0), some (.d (.int (d : Int))), some (.ref 1)] (Rc z p' :: Ac acc) := by
            simp only [b_Reading_entries_w2, evSs, B1, B2]
          exact ⟨_, p', Ac acc, by rw [hW _ this]⟩
        | ok v q l' =>
          rw [hx] at hr
          obtain ⟨n, a1, a2, a3, a4, a5, a6⟩ := hf p2 l2 v q l' hx
          have hr : callW (callN pr (m + 2)) false 21 [.ref 0, .d (.int (d : Int))] (Rc z p2 :: Ac acc) = .ok (.d v) (Rc z q :: Ac acc) := hr
          have ap := append_d (h := Rc z q :: Ac acc) (i := 1) (v := v) rfl (show acc.length < 16777216 by omega)
          have B2 : evS (callN pr (m + 2)) (.ex (.meth .append (.var 2) (.cons (.mcall 21 0 false (.var 0) (.cons (.var 1) .nil)) .nil))) [some (.ref 0), some (.d (.int (d : Int))), some (.ref 1)] (Rc z p2 :: Ac acc) = .ok (.nx [some (.ref 0), some (.d (.int (d : Int))), some (.ref 1)]) (Rc z q :: Ac (acc ++ [v])) := by
            simp only [evS, evE, evEs, lift, List.getElem?_cons_zero, List.getElem?_cons_succ, Option.join_some, bind_ok, rv, if_true, ins_R, hr, mthV, ap, toS_ok]
            rfl
          have : evSs (callN pr (m + 2)) b_Reading_entries_w2 [some (.ref 0), some (.d (.int (d : Int))), some (.ref 1)] (Rc z p :: Ac acc) = .ok (.nx [some (.ref 0), some (.d (.int (d : Int))), some (.ref 1)]) (Rc z q :: Ac (acc ++ [v])) := by
            simp only [b_Reading_entries_w2, evSs, B1, B2]
          rw [hW _ this]
          have ll2 : l'.length < l.length := by rw [a4, List.length_drop]; omega
          exact ents2_loop hz hf Hr N q l' (acc ++ [v]) M (by rw [a4, e', List.drop_drop, a3]) (by omega) (by omega) (by rw [List.length_append, List.length_singleton]; omega)
theorem entries2_c (hz : z.length ≤ 10000) (hf : ∀ p l, Fed k p l (f p l)) (Hr : ∀ p l t, l = (tl z).drop p → ResW z t (callW (callN pr (m + 2)) false 21 [.ref 0, .d (.int (d : Int))] (Rc z p :: t)) (f p l)) {p : Nat} {l : List Nat} (e : l = (tl z).drop (p + 1)) :
    ResC z (callN pr (m + 3) 22 [.ref 0, .d (.int (d : Int))] [Rc z p]) (pLoop f (z.length + 1) (p + 1) l []) := by
  refine res_c (fd := ⟨2, 3, b_Reading_entries⟩) rfl rfl ?_
  have ll : l.length ≤ z.length := by
    have := congrArg List.length e
    rw [List.length_drop, ← len_tl] at this
    omega
  have L := ents2_loop hz hf Hr (z.length + 1) (p + 1) l [] fuel e (by omega) (by show l.length < 1000000; omega) (by simp; omega)
  have S1 : evS (callN pr (m + 2)) (.faug 0 (.var 0) 1 (.lit (.int 1))) [some (.ref 0), some (.d (.int (d : Int))), none] [Rc z p] = .ok (.nx [some (.ref 0), some (.d (.int (d : Int))), none]) [Rc z (p + 1)] := rfl
  have S2 : evS (callN pr (m + 2)) (.set 2 (.lst true .nil)) [some (.ref 0), some (.d (.int (d : Int))), none] [Rc z (p + 1)] = .ok (.nx [some (.ref 0), some (.d (.int (d : Int))), some (.ref 1)]) (Rc z (p + 1) :: Ac []) := rfl
  have S3 : ∀ x, whileL (fun env h => evT (callN pr (m + 2)) b_Reading_entries_t1 env h) (fun env h => evSs (callN pr (m + 2)) b_Reading_entries_w2 env h) fuel [some (.ref 0), some (.d (.int (d : Int))), some (.ref 1)] (Rc z (p + 1) :: Ac []) = x → evS (callN pr (m + 2)) (.while b_Reading_entries_t1 b_Reading_entries_w2) [some (.ref 0), some (.d (.int (d : Int))), some (.ref 1)] (Rc z (p + 1) :: Ac []) = x := by
    intro x h
    simp only [evS, h]
  cases hx : pLoop f (z.length + 1) (p + 1) l [] with
  | bad q =>
    rw [hx] at L
    obtain ⟨env, p', cs, L⟩ := L
    have S3 := S3 _ L
    refine ⟨env, p', cs, ?_⟩
    simp only [b_Reading_entries, List.length_cons, List.length_nil, List.map_cons, List.map_nil, List.replicate, List.cons_append, List.nil_append, evSs, S1, S2, S3]
  | ok v q l' =>
    rw [hx] at L
    obtain ⟨acc, p', rfl, rfl, L⟩ := L
    have S3 := S3 _ L
    have S4 : evS (callN pr (m + 2)) (.faug 0 (.var 0) 1 (.lit (.int 1))) [some (.ref 0), some (.d (.int (d : Int))), some (.ref 1)] (Rc z p' :: Ac acc) = .ok (.nx [some (.ref 0), some (.d (.int (d : Int))), some (.ref 1)]) (Rc z (p' + 1) :: Ac acc) := rfl
    have td := toDs_map acc
    have S5 : evS (callN pr (m + 2)) (.ret (.blt .tuple (.cons (.var 2) .nil))) [some (.ref 0), some (.d (.int (d : Int))), some (.ref 1)] (Rc z (p' + 1) :: Ac acc) = .ok (.ret (.d (.tuple acc))) (Rc z (p' + 1) :: Ac acc) := by
      simp [evS, evE, evEs, lift, bltV, tupV, Mi.listOf, td]
    refine ⟨Ac acc, ?_⟩
    simp only [b_Reading_entries, List.length_cons, List.length_nil, List.map_cons, List.map_nil, List.replicate, List.cons_append, List.nil_append, evSs, S1, S2, S3, S4, S5]
end
end K20

set_option maxRecDepth 100000
set_option maxHeartbeats 1000000
namespace K20
open PySem L2 Mi TL
def tA : S := match b_Reading_term with
  | .cons a _ => a
  | _ => .pass
def tR : Ss := match b_Reading_term with
  | .cons _ a => a
  | _ => .nil
theorem b_term : b_Reading_term = .cons tA tR := rfl
section
variable {z : Str} {n : Nat}
theorem term_rest {p : Nat} {l : List Nat} {e1 : Option W} (hz : z.length ≤ 10000) (e : l = (tl z).drop p) : ResS z (evSs (callN pr (n + 4)) tR [some (.ref 0), e1, none] [Rc z p]) (pRest p l) := by
  have id := is_w (n := n + 2) (mu := false) (t := []) hz e "."
  have iL := is_w (n := n + 2) (mu := false) (t := []) hz e sL
  unfold sL at iL
  unfold pRest
  cases h1 : hdB "." l with
  | true =>
    rw [h1] at id
    refine resS_ok (cs := []) ?_
    simp [Mi.runF, Mi.evSs, Mi.evS, Mi.evE, Mi.evT, Mi.evP, Mi.evEs, Mi.evIt, Mi.lift, Mi.bltV, Mi.intV, Mi.lenV, Mi.binV, Mi.intOp, Mi.cmpV, Mi.truV, Mi.mthV, Mi.recvOk, Mi.listOf, Mi.seqOf, Mi.dOf, Mi.cellL, Mi.srcOf, Mi.srcOk, Mi.setTg, Mi.setAll, Mi.mkL, Mi.toDs, Mi.In_len, Mi.In_app, Mi.In_one, Mi.In_drop, Mi.In_rev, Mi.In_emp, Mi.In_nl, Mi.In_get, Mi.toDs_In, tR, b_Reading_term, insAt, id, fldV, fsetV]
  | false =>
    rw [h1] at id
    simp only [Bool.false_eq_true, if_false]
    cases h2 : hdB sL l with
    | true =>
      rw [show hdB "abcdefghijklmnopqrstuvwxyz" l = true from h2] at iL
      have tk := take_w (n := n + 1) (mu := false) (t := []) hz e (s := sL) (f := isL) fun _ => rfl
      unfold sL at tk
      unfold pWord
      generalize l.takeWhile isL = w at tk ⊢
      simp only [if_true]
      refine resS_ok (cs := []) ?_
      generalize hC : Rc z (p + w.length) = C at tk ⊢
      have en : PyData.eqv (.str ⟨w.toArray⟩) (.str "none") = decide ((⟨w.toArray⟩ : Str) = "none") := eqv_str _ _
      have iR : insAt 0 (.ref 0) [Rc z p] = true := rfl
      cases hn : decide ((⟨w.toArray⟩ : Str) = "none") with
      | true =>
        rw [hn] at en
        have wdn : wd w = .none := by unfold wd; rw [hn]; rfl
        rw [wdn]
        simp [Mi.runF, Mi.evSs, Mi.evS, Mi.evE, Mi.evT, Mi.evP, Mi.evEs, Mi.evIt, Mi.lift, Mi.bltV, Mi.intV, Mi.lenV, Mi.binV, Mi.intOp, Mi.cmpV, Mi.truV, Mi.mthV, Mi.recvOk, Mi.listOf, Mi.seqOf, Mi.dOf, Mi.cellL, Mi.srcOf, Mi.srcOk, Mi.setTg, Mi.setAll, Mi.mkL, Mi.toDs, Mi.In_len, Mi.In_app, Mi.In_one, Mi.In_drop, Mi.In_rev, Mi.In_emp, Mi.In_nl, Mi.In_get, Mi.toDs_In, tR, b_Reading_term, iR, id, iL, tk, eqD, depOk, PyData.depth, en]
      | false =>
        rw [hn] at en
        have wdn : wd w = .str ⟨w.toArray⟩ := by unfold wd; rw [hn]; rfl
        rw [wdn]
        simp [Mi.runF, Mi.evSs, Mi.evS, Mi.evE, Mi.evT, Mi.evP, Mi.evEs, Mi.evIt, Mi.lift, Mi.bltV, Mi.intV, Mi.lenV, Mi.binV, Mi.intOp, Mi.cmpV, Mi.truV, Mi.mthV, Mi.recvOk, Mi.listOf, Mi.seqOf, Mi.dOf, Mi.cellL, Mi.srcOf, Mi.srcOk, Mi.setTg, Mi.setAll, Mi.mkL, Mi.toDs, Mi.In_len, Mi.In_app, Mi.In_one, Mi.In_drop, Mi.In_rev, Mi.In_emp, Mi.In_nl, Mi.In_get, Mi.toDs_In, tR, b_Reading_term, iR, id, iL, tk, eqD, depOk, PyData.depth, en]
    | false =>
      rw [show hdB "abcdefghijklmnopqrstuvwxyz" l = false from h2] at iL
      have iw := res_w (Φ := callN pr (n + 4)) (mu := false) (t := []) (ds := []) (integer2_c (n := n) hz e)
      have iR : insAt 0 (.ref 0) [Rc z p] = true := rfl
      simp only [Bool.false_eq_true, if_false]
      cases hx : pInt p l with
      | ok v q l' =>
        rw [hx] at iw
        have iw : callW (callN pr (n + 4)) false 20 [.ref 0] [Rc z p] = .ok (.d v) [Rc z q] := iw
        refine resS_ok (cs := []) ?_
        simp [Mi.runF, Mi.evSs, Mi.evS, Mi.evE, Mi.evT, Mi.evP, Mi.evEs, Mi.evIt, Mi.lift, Mi.bltV, Mi.intV, Mi.lenV, Mi.binV, Mi.intOp, Mi.cmpV, Mi.truV, Mi.mthV, Mi.recvOk, Mi.listOf, Mi.seqOf, Mi.dOf, Mi.cellL, Mi.srcOf, Mi.srcOk, Mi.setTg, Mi.setAll, Mi.mkL, Mi.toDs, Mi.In_len, Mi.In_app, Mi.In_one, Mi.In_drop, Mi.In_rev, Mi.In_emp, Mi.In_nl, Mi.In_get, Mi.toDs_In, tR, b_Reading_term, iR, id, iL, iw]
      | bad q =>
        rw [hx] at iw
        obtain ⟨p', iw⟩ := iw
        have iw : callW (callN pr (n + 4)) false 20 [.ref 0] [Rc z p] = .exc (mal q) [Rc z p'] := iw
        refine resS_bad (env := [some (.ref 0), e1, none]) (p' := p') (cs := []) ?_
        simp [Mi.runF, Mi.evSs, Mi.evS, Mi.evE, Mi.evT, Mi.evP, Mi.evEs, Mi.evIt, Mi.lift, Mi.bltV, Mi.intV, Mi.lenV, Mi.binV, Mi.intOp, Mi.cmpV, Mi.truV, Mi.mthV, Mi.recvOk, Mi.listOf, Mi.seqOf, Mi.dOf, Mi.cellL, Mi.srcOf, Mi.srcOk, Mi.setTg, Mi.setAll, Mi.mkL, Mi.toDs, Mi.In_len, Mi.In_app, Mi.In_one, Mi.In_drop, Mi.In_rev, Mi.In_emp, Mi.In_nl, Mi.In_get, Mi.toDs_In, tR, b_Reading_term, iR, id, iL, iw]
theorem term_c (hz : z.length ≤ 10000) (n : Nat) : ∀ (k d p : Nat) (l : List Nat), k + d = 12 → l = (tl z).drop p → ResC z (callN pr (n + 2 * k + 5) 21 [.ref 0, .d (.int (d : Int))] [Rc z p]) (pTerm (z.length + 1) k p l) := by
  intro k
  induction k with
  | zero =>
    intro d p l hk e
    have : d = 12 := by omega
    subst this
    refine res_c (n := n + 4) (fd := ⟨2, 3, b_Reading_term⟩) rfl rfl ?_
    have io := is_w (n := n + 2) (mu := false) (t := []) hz e "("
    have iR : insAt 0 (.ref 0) [Rc z p] = true := rfl
    have R := term_rest (n := n) (e1 := some (.d (.int 12))) hz e
    show ResS z (evSs (callN pr (n + 4)) b_Reading_term [some (.ref 0), some (.d (.int 12)), none] [Rc z p]) _
    rw [b_term]
    unfold pTerm
    cases h : hdB "(" l with
    | true =>
      rw [h] at io
      have q : PyData.eqv (.int 12) (.int 12) = true := rfl
      have E1 : evS (callN pr (n + 4)) tA [some (.ref 0), some (.d (.int 12)), none] [Rc z p] = .exc (mal p) [some (.ref 0), some (.d (.int 12)), none] [Rc z p] := by
        simp [Mi.runF, Mi.evSs, Mi.evS, Mi.evE, Mi.evT, Mi.evP, Mi.evEs, Mi.evIt, Mi.lift, Mi.bltV, Mi.intV, Mi.lenV, Mi.binV, Mi.intOp, Mi.cmpV, Mi.truV, Mi.mthV, Mi.recvOk, Mi.listOf, Mi.seqOf, Mi.dOf, Mi.cellL, Mi.srcOf, Mi.srcOk, Mi.setTg, Mi.setAll, Mi.mkL, Mi.toDs, Mi.In_len, Mi.In_app, Mi.In_one, Mi.In_drop, Mi.In_rev, Mi.In_emp, Mi.In_nl, Mi.In_get, Mi.toDs_In, tA, b_Reading_term, insAt, io, fldV, eqD, depOk, PyData.depth, q, mal]
      simp only [if_true]
      exact resS_bad (cs := []) (by simp only [evSs, E1] <;> rfl)
    | false =>
      rw [h] at io
      have E1 : evS (callN pr (n + 4)) tA [some (.ref 0), some (.d (.int 12)), none] [Rc z p] = .ok (.nx [some (.ref 0), some (.d (.int 12)), none]) [Rc z p] := by
        simp [Mi.runF, Mi.evSs, Mi.evS, Mi.evE, Mi.evT, Mi.evP, Mi.evEs, Mi.evIt, Mi.lift, Mi.bltV, Mi.intV, Mi.lenV, Mi.binV, Mi.intOp, Mi.cmpV, Mi.truV, Mi.mthV, Mi.recvOk, Mi.listOf, Mi.seqOf, Mi.dOf, Mi.cellL, Mi.srcOf, Mi.srcOk, Mi.setTg, Mi.setAll, Mi.mkL, Mi.toDs, Mi.In_len, Mi.In_app, Mi.In_one, Mi.In_drop, Mi.In_rev, Mi.In_emp, Mi.In_nl, Mi.In_get, Mi.toDs_In, tA, b_Reading_term, insAt, io]
      simp only [Bool.false_eq_true, if_false, evSs, E1]
      exact R
  | succ k ih =>
    intro d p l hk e
    refine res_c (n := n + 2 * k + 6) (fd := ⟨2, 3, b_Reading_term⟩) rfl rfl ?_
    have io := is_w (n := n + 2 * k + 4) (mu := false) (t := []) hz e "("
    have iR : insAt 0 (.ref 0) [Rc z p] = true := rfl
    have R := term_rest (n := n + 2 * k + 2) (e1 := some (.d (.int (d : Int)))) hz e
    show ResS z (evSs (callN pr (n + 2 * k + 6)) b_Reading_term [some (.ref 0), some (.d (.int (d : Int))), none] [Rc z p]) _
    rw [b_term]
    unfold pTerm
    cases h : hdB "(" l with
    | true =>
      rw [h] at io
      have q : PyData.eqv (.int (d : Int)) (.int 12) = false := by simp [PyData.eqv]; omega
      have ew := entries2_c (m := n + 2 * k + 3) (d := d + 1) (f := pTerm (z.length + 1) k) hz (fed_term _ k) (fun p l t e => res_w (ds := [.int ((d + 1 : Nat) : Int)]) (ih (d + 1) p l (by omega) e)) (drop1 e)
      have ew := res_w (mu := false) (t := []) (ds := [.int ((d + 1 : Nat) : Int)]) ew
      simp only [if_true]
      cases hx : pLoop (pTerm (z.length + 1) k) (z.length + 1) (p + 1) (l.drop 1) [] with
      | ok v q2 l' =>
        rw [hx] at ew
        have ew : callW (callN pr (n + 2 * k + 6)) false 22 [.ref 0, .d (.int ((d : Int) + 1))] [Rc z p] = .ok (.d v) [Rc z q2] := ew
        have E1 : evS (callN pr (n + 2 * k + 6)) tA [some (.ref 0), some (.d (.int (d : Int))), none] [Rc z p] = .ok (.ret (.d v)) [Rc z q2] := by
          simp [Mi.runF, Mi.evSs, Mi.evS, Mi.evE, Mi.evT, Mi.evP, Mi.evEs, Mi.evIt, Mi.lift, Mi.bltV, Mi.intV, Mi.lenV, Mi.binV, Mi.intOp, Mi.cmpV, Mi.truV, Mi.mthV, Mi.recvOk, Mi.listOf, Mi.seqOf, Mi.dOf, Mi.cellL, Mi.srcOf, Mi.srcOk, Mi.setTg, Mi.setAll, Mi.mkL, Mi.toDs, Mi.In_len, Mi.In_app, Mi.In_one, Mi.In_drop, Mi.In_rev, Mi.In_emp, Mi.In_nl, Mi.In_get, Mi.toDs_In, tA, b_Reading_term, iR, io, eqD, depOk, PyData.depth, q, ew]
        exact resS_ok (cs := []) (by simp only [evSs, E1])
      | bad q2 =>
        rw [hx] at ew
        obtain ⟨p', ew⟩ := ew
        have ew : callW (callN pr (n + 2 * k + 6)) false 22 [.ref 0, .d (.int ((d : Int) + 1))] [Rc z p] = .exc (mal q2) [Rc z p'] := ew
        have E1 : evS (callN pr (n + 2 * k + 6)) tA [some (.ref 0), some (.d (.int (d : Int))), none] [Rc z p] = .exc (mal q2) [some (.ref 0), some (.d (.int (d : Int))), none] [Rc z p'] := by
          simp [Mi.runF, Mi.evSs, Mi.evS, Mi.evE, Mi.evT, Mi.evP, Mi.evEs, Mi.evIt, Mi.lift, Mi.bltV, Mi.intV, Mi.lenV, Mi.binV, Mi.intOp, Mi.cmpV, Mi.truV, Mi.mthV, Mi.recvOk, Mi.listOf, Mi.seqOf, Mi.dOf, Mi.cellL, Mi.srcOf, Mi.srcOk, Mi.setTg, Mi.setAll, Mi.mkL, Mi.toDs, Mi.In_len, Mi.In_app, Mi.In_one, Mi.In_drop, Mi.In_rev, Mi.In_emp, Mi.In_nl, Mi.In_get, Mi.toDs_In, tA, b_Reading_term, iR, io, eqD, depOk, PyData.depth, q, ew]
        exact resS_bad (cs := []) (by simp only [evSs, E1] <;> rfl)
    | false =>
      rw [h] at io
      have E1 : evS (callN pr (n + 2 * k + 6)) tA [some (.ref 0), some (.d (.int (d : Int))), none] [Rc z p] = .ok (.nx [some (.ref 0), some (.d (.int (d : Int))), none]) [Rc z p] := by
        simp [Mi.runF, Mi.evSs, Mi.evS, Mi.evE, Mi.evT, Mi.evP, Mi.evEs, Mi.evIt, Mi.lift, Mi.bltV, Mi.intV, Mi.lenV, Mi.binV, Mi.intOp, Mi.cmpV, Mi.truV, Mi.mthV, Mi.recvOk, Mi.listOf, Mi.seqOf, Mi.dOf, Mi.cellL, Mi.srcOf, Mi.srcOk, Mi.setTg, Mi.setAll, Mi.mkL, Mi.toDs, Mi.In_len, Mi.In_app, Mi.In_one, Mi.In_drop, Mi.In_rev, Mi.In_emp, Mi.In_nl, Mi.In_get, Mi.toDs_In, tA, b_Reading_term, iR, io]
      simp only [Bool.false_eq_true, if_false, evSs, E1]
      exact R
theorem term_w (hz : z.length ≤ 10000) : ResW z [] (callW (callN pr (n + 29)) false 21 [.ref 0, .d (.int 0)] [Rc z 0]) (pTerm (z.length + 1) 12 0 (tl z)) :=
  res_w (ds := [.int 0]) (term_c hz n 12 0 0 (tl z) rfl rfl)
theorem mk_R {m : Nat} : mkV (callN pr (m + 1)) 0 16 2 [.d (.str z)] [] = .ok (.ref 0) [Rc z 0] := by
  have e : callN pr (m + 1) 16 [.ref 0, .d (.str z)] [.ins 0 [none, none]] = .ok (.d .none) [Rc z 0] := by
    rw [callN_eq (fd := ⟨2, 2, b_Reading___init__⟩) rfl]
    rfl
  have cw : callW (callN pr (m + 1)) false 16 [.ref 0, .d (.str z)] [.ins 0 [none, none]] = .ok (.d .none) [Rc z 0] :=
    callW_c (ds := [.str z]) (i := 0) rfl rfl e (flat_R z 0)
  show (match callW (callN pr (m + 1)) false 16 [.ref 0, .d (.str z)] [.ins 0 [none, none]] with
    | .ok (.d .none) h' => (.ok (.ref 0) h' : R W)
    | .exc e h' => .exc e h'
    | _ => .stuck) = _
  rw [cw]
/-- what the program itself says -/
theorem told_w (hz : z.length ≤ 10000) (hd : 100 ∉ tl z) {mu : Bool} (h : MH) : callW (callN pr (n + 31)) mu 13 [.d (.str z)] h = .ok (.d (dueD z)) h := by
  refine callW_data (ds := [.str z]) (hc := []) h ?_
  have lw : lineOk z.length = true := Nat.ble_eq_true_of_le (by omega)
  have tw := term_w (n := n) hz
  have F := fed_term (z.length + 1) 12 0 (tl z)
  have S1 : evS (callN pr (n + 29)) (.set 1 (.mk 0 16 2 (.cons (.var 0) .nil))) [some (.d (.str z)), none, none] [] = .ok (.nx [some (.d (.str z)), some (.ref 0), none]) [Rc z 0] := by
    have mR := mk_R (z := z) (m := n + 28)
    simp only [evS, evE, evEs, lift, List.getElem?_cons_zero, Option.join_some, bind_ok, mR, toS_ok, List.set_cons_succ, List.set_cons_zero]
  rw [callN_eq (fd := ⟨1, 2, b_law_told⟩) rfl]
  unfold dueD
  cases hx : pTerm (z.length + 1) 12 0 (tl z) with
  | bad q =>
    rw [hx] at tw
    obtain ⟨p', tw⟩ := tw
    have E : callN pr (n + 30) 1 [.d (.str z)] [] = .exc (mal q) [Rc z p'] := by
      rw [callN_eq (fd := ⟨1, 3, b_read_term⟩) rfl]
      have S2 : evS (callN pr (n + 29)) (.set 2 (.mcall 21 0 false (.var 1) (.cons (.lit (.int 0)) .nil))) [some (.d (.str z)), some (.ref 0), none] [Rc z 0] = .exc (mal q) [some (.d (.str z)), some (.ref 0), none] [Rc z p'] := by
        have iR : insAt 0 (.ref 0) [Rc z 0] = true := rfl
        simp only [evS, evE, evEs, lift, List.getElem?_cons_zero, List.getElem?_cons_succ, Option.join_some, bind_ok, iR, if_true, tw, bind_exc, toS_exc]
      simp only [runF, b_read_term, List.length_cons, List.length_nil, List.map_cons, List.map_nil, List.replicate, List.cons_append, List.nil_append, evSs, S1, S2]
      rfl
    have cw : callW (callN pr (n + 30)) false 1 [.d (.str z)] [] = .exc (mal q) [] := callW_exc (ds := [.str z]) [] E
    simp [runF, b_law_told, evSs, evS, evE, evEs, lift, cw, mal, setEx, mkL, toDs, noExH, unsetO, noExW]
  | ok v q l =>
    rw [hx] at tw
    have tw : callW (callN pr (n + 29)) false 21 [.ref 0, .d (.int 0)] [Rc z 0] = .ok (.d v) [Rc z q] := tw
    obtain ⟨j, a1, a2, a3, a4, a5, a6⟩ := F v q l hx
    have e1 : q < z.length ↔ l.isEmpty = false := by
      have := len_tl z
      rw [a4]
      cases hl : ((tl z).drop j).isEmpty with
      | true =>
        have hl2 := List.isEmpty_iff.mp hl
        rw [List.drop_eq_nil_iff] at hl2
        simp
        omega
      | false =>
        have hl2 : ¬ ((tl z).length ≤ j) := fun c => by
          rw [List.drop_of_length_le c] at hl
          cases hl
        simp
        omega
    dsimp only
    generalize l.isEmpty = em at e1 ⊢
    have S2 : evS (callN pr (n + 29)) (.set 2 (.mcall 21 0 false (.var 1) (.cons (.lit (.int 0)) .nil))) [some (.d (.str z)), some (.ref 0), none] [Rc z 0] = .ok (.nx [some (.d (.str z)), some (.ref 0), some (.d v)]) [Rc z q] := by
      have iR : insAt 0 (.ref 0) [Rc z 0] = true := rfl
      simp only [evS, evE, evEs, lift, List.getElem?_cons_zero, List.getElem?_cons_succ, Option.join_some, bind_ok, iR, if_true, tw, toS_ok, List.set_cons_succ, List.set_cons_zero]
    cases em with
    | true =>
      have e2 : ¬ q < z.length := fun c => by have := e1.mp c; cases this
      have E : callN pr (n + 30) 1 [.d (.str z)] [] = .ok (.d v) [Rc z q] := by
        rw [callN_eq (fd := ⟨1, 3, b_read_term⟩) rfl]
        simp only [runF, b_read_term, List.length_cons, List.length_nil, List.map_cons, List.map_nil, List.replicate, List.cons_append, List.nil_append, evSs, S1, S2]
        simp [Mi.runF, Mi.evSs, Mi.evS, Mi.evE, Mi.evT, Mi.evP, Mi.evEs, Mi.evIt, Mi.lift, Mi.bltV, Mi.intV, Mi.lenV, Mi.binV, Mi.intOp, Mi.cmpV, Mi.truV, Mi.mthV, Mi.recvOk, Mi.listOf, Mi.seqOf, Mi.dOf, Mi.cellL, Mi.srcOf, Mi.srcOk, Mi.setTg, Mi.setAll, Mi.mkL, Mi.toDs, Mi.In_len, Mi.In_app, Mi.In_one, Mi.In_drop, Mi.In_rev, Mi.In_emp, Mi.In_nl, Mi.In_get, Mi.toDs_In, fldV, lw, e2]
      have cw : callW (callN pr (n + 30)) false 1 [.d (.str z)] [] = .ok (.d v) [] := callW_data (ds := [.str z]) [] E
      simp [runF, b_law_told, evSs, evS, evE, evEs, lift, cw, mkL, toDs]
    | false =>
      have e2 : q < z.length := e1.mpr rfl
      have E : callN pr (n + 30) 1 [.d (.str z)] [] = .exc (mal q) [Rc z q] := by
        rw [callN_eq (fd := ⟨1, 3, b_read_term⟩) rfl]
        simp only [runF, b_read_term, List.length_cons, List.length_nil, List.map_cons, List.map_nil, List.replicate, List.cons_append, List.nil_append, evSs, S1, S2]
        simp [Mi.runF, Mi.evSs, Mi.evS, Mi.evE, Mi.evT, Mi.evP, Mi.evEs, Mi.evIt, Mi.lift, Mi.bltV, Mi.intV, Mi.lenV, Mi.binV, Mi.intOp, Mi.cmpV, Mi.truV, Mi.mthV, Mi.recvOk, Mi.listOf, Mi.seqOf, Mi.dOf, Mi.cellL, Mi.srcOf, Mi.srcOk, Mi.setTg, Mi.setAll, Mi.mkL, Mi.toDs, Mi.In_len, Mi.In_app, Mi.In_one, Mi.In_drop, Mi.In_rev, Mi.In_emp, Mi.In_nl, Mi.In_get, Mi.toDs_In, fldV, lw, e2, mal]
      have cw : callW (callN pr (n + 30)) false 1 [.d (.str z)] [] = .exc (mal q) [] := callW_exc (ds := [.str z]) [] E
      simp [runF, b_law_told, evSs, evS, evE, evEs, lift, cw, mal, setEx, mkL, toDs, noExH, unsetO, noExW]
end
end K20

set_option maxRecDepth 100000
set_option maxHeartbeats 1000000
namespace K20
open PySem L2 Mi TL
def lets : List Nat := [97, 98, 99, 110, 111, 122, 101]
def Leaf (d : PyData) : Prop := d = .none ∨ (∃ i, d = .int i ∧ i.natAbs < 10 ^ 20) ∨ ∃ w : Str, d = .str w ∧ w.length ≤ 5 ∧ (∀ c ∈ tl w, c ∈ lets) ∧ w ≠ "none"
def Tm : Nat → PyData → Prop
  | 0, d => Leaf d
  | k + 1, d => Leaf d ∨ ∃ xs, d = .tuple xs ∧ xs.length ≤ 3 ∧ ∀ x ∈ xs, Tm k x
mutual
def txt : PyData → Str
  | .none => "none"
  | .int i => toString i
  | .str w => if decide (w = "") then "." else w
  | .tuple xs => ("(" : Str) ++ Txt.join " " (txtL xs) ++ (")" : Str)
  | .list xs => ("(" : Str) ++ Txt.join " " (txtL xs) ++ (")" : Str)
  | _ => ""
def txtL : List PyData → List Str
  | [] => []
  | x :: r => txt x :: txtL r
end
theorem txtL_map : ∀ xs, txtL xs = xs.map txt
  | [] => rfl
  | x :: r => by simp [txtL, txtL_map r]
def Bk : Nat → Nat
  | 0 => 21
  | k + 1 => 3 * Bk k + 5
theorem Bk_mono (k : Nat) : 21 ≤ Bk k := by
  induction k with
  | zero => decide
  | succ k ih => show 21 ≤ 3 * Bk k + 5; omega
theorem leaf_len {d : PyData} (h : Leaf d) : (txt d).length ≤ 21 := by
  rcases h with rfl | ⟨i, rfl, hi⟩ | ⟨w, rfl, hw, _, _⟩
  · decide +kernel
  · exact int_shown (k := 20) (by decide) hi
  · show (if decide (w = "") then ("." : Str) else w).length ≤ 21
    split
    · decide +kernel
    · omega
theorem join_len {ys : List Str} {B : Nat} (h : ∀ y ∈ ys, y.length ≤ B) : strLens ys 1 ≤ ys.length * (B + 1) := by
  unfold strLens
  induction ys with
  | nil => simp
  | cons y r ih =>
    have h1 := h y List.mem_cons_self
    have h2 := ih fun x hx => h x (List.mem_cons_of_mem _ hx)
    simp only [List.map_cons, List.sum_cons, List.length_cons, Nat.succ_mul, Nat.mul_one] at h2 ⊢
    omega
theorem seq_len {k : Nat} {xs : List PyData} (hl : xs.length ≤ 3) (h : ∀ x ∈ xs, (txt x).length ≤ Bk k) : (("(" : Str) ++ Txt.join " " (txtL xs) ++ (")" : Str)).length ≤ Bk (k + 1) := by
  have e1 : (("(" : String) : Str).length = 1 := by decide +kernel
  have e2 : ((")" : String) : Str).length = 1 := by decide +kernel
  have e3 : ((" " : String) : Str).length = 1 := by decide +kernel
  rw [strLen_append, strLen_append, e1, e2]
  have j1 := PySem.StrLaws.join_length_le " " (txtL xs)
  rw [← PySem.StrLaws.glued_eq_join, e3] at j1
  have e4 : (Txt.join " " (txtL xs)).length = (Builtin.Str.glued " " (txtL xs)).length := rfl
  have j2 : ((txtL xs).map (·.length)).sum ≤ xs.length * Bk k := by
    clear j1 e4 hl
    induction xs with
    | nil => simp [txtL]
    | cons y r ih =>
      have h1 := h y List.mem_cons_self
      have h2 := ih fun x hx => h x (List.mem_cons_of_mem _ hx)
      simp only [txtL, List.map_cons, List.sum_cons, List.length_cons, Nat.succ_mul] at h2 ⊢
      omega
  have l2 : (txtL xs).length = xs.length := by rw [txtL_map, List.length_map]
  have : xs.length * Bk k ≤ 3 * Bk k := Nat.mul_le_mul_right _ hl
  show _ ≤ 3 * Bk k + 5
  omega
theorem tm_len : ∀ {k : Nat} {d : PyData}, Tm k d → (txt d).length ≤ Bk k
  | 0, d, h => leaf_len h
  | k + 1, d, .inl h => Nat.le_trans (leaf_len h) (Bk_mono _)
  | k + 1, d, .inr ⟨xs, e, hl, hx⟩ => by
    subst e
    exact seq_len hl fun x h => tm_len (hx x h)
theorem comp_str {Φ : Nat → List W → M W} {e : E} {a : E} {i : Nat} {env : Ev} {h : MH} {xs : List PyData} {g : PyData → Str} {w : W} (ha : evE Φ a env h = .ok w h) (hs : srcOf w h = some (xs.map .d, none)) (hl : xs.length ≤ 16777216) (he : ∀ x ∈ xs, evE Φ e (env.set i (some (.d x))) h = .ok (.d (.str (g x))) h) :
    evE Φ (.comp false [i] [i] false (.over a) .yes e) env h = .ok (.d (.list (xs.map fun x => .str (g x)))) h := by
  have := comp_data (Φ := Φ) (it := .over a) (e := e) (i := i) (env := env) (h := h) (ws := xs.map .d) (g := fun w => match w with
    | .d x => .str (g x)
    | _ => .none) (by simp [evIt, ha, lift, hs]) (by simpa using hl) (fun w hw => by
      obtain ⟨x, hx, rfl⟩ := List.mem_map.mp hw
      exact he x hx)
  rw [this, List.map_map]
  rfl
theorem txts_str : ∀ ys : List Str, Mi.txts (ys.map fun s => .d (.str s)) = some ys
  | [] => rfl
  | y :: r => by simp [Mi.txts, txts_str r]
theorem joinV_w {ys : List Str} {B : Nat} {h : MH} (hB : ∀ y ∈ ys, y.length ≤ B) (hl : ys.length * (B + 1) ≤ 16777216) : joinV (.d (.str " ")) [.d (.list (ys.map .str))] h = .ok (.d (.str (Txt.join " " ys))) h := by
  have so : (seqOf (.d (.list (ys.map .str))) h).bind Mi.txts = some ys := by
    simp only [seqOf, Option.bind_some, List.map_map]
    exact txts_str ys
  have e3 : ((" " : String) : Str).length = 1 := by decide +kernel
  have ln : lineOk (strLens ys ((" " : String) : Str).length) = true := by
    rw [e3]
    exact Nat.ble_eq_true_of_le (Nat.le_trans (join_len hB) hl)
  simp only [joinV, so, ln, if_true]
theorem add_str {a b : Str} {h : MH} (l : a.length + b.length ≤ 16777216) : binV false .Add (.d (.str a)) (.d (.str b)) h = .ok (.d (.str (a ++ b))) h := by
  have : lineOk (a.length + b.length) = true := Nat.ble_eq_true_of_le l
  simp [binV, this]
theorem int_str {i : Int} {h : MH} (hi : i.natAbs < 10 ^ 20) : strV [.d (.int i)] h = .ok (.d (.str (toString i))) h := by
  have : Nat.ble i.natAbs.log2 1919 = true := Nat.ble_eq_true_of_le (Nat.le_of_lt (log_small hi))
  simp only [strV, this, if_true]
/-- "(" + " ".join([f(entry) for entry in term]) + ")" -/
theorem seq_text {Φ : Nat → List W → M W} {f i : Nat} {env : Ev} {h : MH} {xs : List PyData} {w : W} {k : Nat} (h0 : env[0]? = some (some w)) (hs : srcOf w h = some (xs.map .d, none)) (hi : ∀ x, (env.set i x)[i]? = some x) (hl : xs.length ≤ 3) (hk : k ≤ 4) (hb : ∀ x ∈ xs, (txt x).length ≤ Bk k)
    (hf : ∀ x ∈ xs, callW Φ false f [.d x] h = .ok (.d (.str (txt x))) h) :
    evE Φ (.bin false .Add (.bin false .Add (.lit (.str "(")) (.meth .join (.lit (.str " ")) (.cons (.comp false [i] [i] false (.over (.var 0)) .yes (.call f false (.cons (.var i) .nil))) .nil))) (.lit (.str ")"))) env h = .ok (.d (.str (("(" : Str) ++ Txt.join " " (txtL xs) ++ (")" : Str)))) h := by
  have c := comp_str (Φ := Φ) (e := .call f false (.cons (.var i) .nil)) (a := .var 0) (i := i) (env := env) (h := h) (xs := xs) (g := txt) (w := w) (by simp [evE, lift, h0]) hs (by omega) (fun x hx => by simp [evE, evEs, lift, hi, hf x hx])
  have hB : Bk k ≤ 1901 := by
    match k, hk with
    | 0, _ => decide
    | 1, _ => decide
    | 2, _ => decide
    | 3, _ => decide
    | 4, _ => decide
  have e1 : (xs.map fun x => PyData.str (txt x)) = (txtL xs).map .str := by rw [txtL_map, List.map_map]; rfl
  rw [e1] at c
  have l2 : (txtL xs).length = xs.length := by rw [txtL_map, List.length_map]
  have j := joinV_w (ys := txtL xs) (B := Bk k) (h := h) (fun y hy => by
    rw [txtL_map] at hy
    obtain ⟨x, hx, rfl⟩ := List.mem_map.mp hy
    exact hb x hx) (by
      rw [l2]
      have : xs.length * (Bk k + 1) ≤ 3 * (Bk k + 1) := Nat.mul_le_mul_right _ hl
      omega)
  have sl := seq_len (k := k) hl hb
  rw [strLen_append] at sl
  have : Bk (k + 1) = 3 * Bk k + 5 := rfl
  have a2 := add_str (a := ("(" : Str) ++ Txt.join " " (txtL xs)) (b := ")") (h := h) (by omega)
  rw [strLen_append] at sl
  have a1 := add_str (a := "(") (b := Txt.join " " (txtL xs)) (h := h) (by omega)
  generalize E.comp false [i] [i] false (.over (.var 0)) .yes (.call f false (.cons (.var i) .nil)) = C at c ⊢
  simp only [evE, evEs, bind_ok, recvOk, if_true, c, mthV, j, a1, a2]
theorem bools_all {g : Nat → Bool} : ∀ l : List Nat, bools (l.map fun c => .d (.bool (g c))) = some (l.map g)
  | [] => rfl
  | x :: r => by simp [bools, bools_all r]
theorem lets_low : ∀ c ∈ lets, decide (c ∈ tl sL) = true := by decide +kernel
theorem small_c {Φ : Nat → List W → M W} {w : Str} {e1 e2 : Option W} (hl : w.length ≤ 5) : evE Φ b_term_text_c1 [some (.d (.str w)), e1, e2] [] = .ok (.d (.list ((tl w).map fun c => .bool (decide (c ∈ tl sL))))) [] := by
  have := comp_data (Φ := Φ) (it := .over (.var 0)) (e := .cmp .In (.var 2) (.gl "SMALL" (.str "abcdefghijklmnopqrstuvwxyz"))) (i := 2) (env := [some (.d (.str w)), e1, e2]) (h := []) (ws := signs w) (g := fun x => match x with
    | .d (.str x) => .bool (strIn x "abcdefghijklmnopqrstuvwxyz")
    | _ => .none) (by simp [evIt, evE, lift, srcOf]) (by rw [signs, List.length_map]; show (tl w).length ≤ _; rw [← len_tl]; omega) (fun x hx => by
      obtain ⟨c, hc, rfl⟩ := List.mem_map.mp hx
      simp [evE, lift, cmpV, Mi.inV])
  rw [b_term_text_c1, this]
  rw [signs, List.map_map]
  rfl
theorem emp_len (w : Str) : ((w.length : Int) != 0) = !decide (w = "") := by
  by_cases h : w = ""
  · subst h; decide +kernel
  · have : w.length ≠ 0 := by
      rw [len_tl]
      intro z
      exact h (ext_tl (by rw [List.length_eq_zero_iff.mp z, tl_emp]))
    simp [h]
    omega
theorem leaf_text {Φ : Nat → List W → M W} {d : PyData} {e1 e2 : Option W} (hd : Leaf d) :
    evSs Φ b_term_text [some (.d d), e1, e2] [] = .ok (.ret (.d (.str (txt d)))) [] := by
  rcases hd with rfl | ⟨i, rfl, hi⟩ | ⟨w, rfl, hw, hc, hn⟩
  · simp [Mi.runF, Mi.evSs, Mi.evS, Mi.evE, Mi.evT, Mi.evP, Mi.evEs, Mi.evIt, Mi.lift, Mi.bltV, Mi.intV, Mi.lenV, Mi.binV, Mi.intOp, Mi.cmpV, Mi.truV, Mi.mthV, Mi.recvOk, Mi.listOf, Mi.seqOf, Mi.dOf, Mi.cellL, Mi.srcOf, Mi.srcOk, Mi.setTg, Mi.setAll, Mi.mkL, Mi.toDs, Mi.In_len, Mi.In_app, Mi.In_one, Mi.In_drop, Mi.In_rev, Mi.In_emp, Mi.In_nl, Mi.In_get, Mi.toDs_In, b_term_text, txt]
  · have := int_str (h := []) hi
    simp [Mi.runF, Mi.evSs, Mi.evS, Mi.evE, Mi.evT, Mi.evP, Mi.evEs, Mi.evIt, Mi.lift, Mi.bltV, Mi.intV, Mi.lenV, Mi.binV, Mi.intOp, Mi.cmpV, Mi.truV, Mi.mthV, Mi.recvOk, Mi.listOf, Mi.seqOf, Mi.dOf, Mi.cellL, Mi.srcOf, Mi.srcOk, Mi.setTg, Mi.setAll, Mi.mkL, Mi.toDs, Mi.In_len, Mi.In_app, Mi.In_one, Mi.In_drop, Mi.In_rev, Mi.In_emp, Mi.In_nl, Mi.In_get, Mi.toDs_In, b_term_text, txt, isiV, this]
  · have sc := small_c (Φ := Φ) (e1 := e1) (e2 := e2) hw
    have al : boolsV (fun bs => bs.all id) [.d (.list ((tl w).map fun c => .bool (decide (c ∈ tl sL))))] [] = .ok (.d (.bool true)) [] := by
      simp only [boolsV, Mi.listOf, Option.bind_some, List.map_map, lift]
      rw [show ((tl w).map (W.d ∘ fun c => PyData.bool (decide (c ∈ tl sL)))) = (tl w).map fun c => W.d (.bool (decide (c ∈ tl sL))) from rfl, bools_all]
      have : ((tl w).map fun c => decide (c ∈ tl sL)).all id = true := by
        rw [List.all_eq_true]
        intro b hb
        obtain ⟨c, hm, rfl⟩ := List.mem_map.mp hb
        exact lets_low c (hc c hm)
      simp only [Option.map_some, this]
    have en : PyData.eqv (.str w) (.str "none") = false := by rw [eqv_str]; exact decide_eq_false hn
    have lo : lineOk w.length = true := Nat.ble_eq_true_of_le (by omega)
    have el := emp_len w
    generalize hC : b_term_text_c1 = C at sc
    generalize ((tl w).map fun c => PyData.bool (decide (c ∈ tl sL))) = BB at sc al
    cases hb : decide (w = "") with
    | true =>
      rw [hb] at el
      have el2 : ((w.length : Int) = 0) := by simpa using el
      simp [Mi.runF, Mi.evSs, Mi.evS, Mi.evE, Mi.evT, Mi.evP, Mi.evEs, Mi.evIt, Mi.lift, Mi.bltV, Mi.intV, Mi.lenV, Mi.binV, Mi.intOp, Mi.cmpV, Mi.truV, Mi.mthV, Mi.recvOk, Mi.listOf, Mi.seqOf, Mi.dOf, Mi.cellL, Mi.srcOf, Mi.srcOk, Mi.setTg, Mi.setAll, Mi.mkL, Mi.toDs, Mi.In_len, Mi.In_app, Mi.In_one, Mi.In_drop, Mi.In_rev, Mi.In_emp, Mi.In_nl, Mi.In_get, Mi.toDs_In, b_term_text, hC, txt, isiV, eqD, depOk, PyData.depth, en, sc, al, lo, el, el2, hb]
    | false =>
      rw [hb] at el
      have el2 : ¬ ((w.length : Int) = 0) := by simpa using el
      simp [Mi.runF, Mi.evSs, Mi.evS, Mi.evE, Mi.evT, Mi.evP, Mi.evEs, Mi.evIt, Mi.lift, Mi.bltV, Mi.intV, Mi.lenV, Mi.binV, Mi.intOp, Mi.cmpV, Mi.truV, Mi.mthV, Mi.recvOk, Mi.listOf, Mi.seqOf, Mi.dOf, Mi.cellL, Mi.srcOf, Mi.srcOk, Mi.setTg, Mi.setAll, Mi.mkL, Mi.toDs, Mi.In_len, Mi.In_app, Mi.In_one, Mi.In_drop, Mi.In_rev, Mi.In_emp, Mi.In_nl, Mi.In_get, Mi.toDs_In, b_term_text, hC, txt, isiV, eqD, depOk, PyData.depth, en, sc, al, lo, el, el2, hb]
theorem seq_term {Φ : Nat → List W → M W} {d : PyData} {e1 e2 : Option W} {xs : List PyData} {k : Nat} (hd : d = .tuple xs ∨ d = .list xs) (hl : xs.length ≤ 3) (hk : k ≤ 4) (hb : ∀ x ∈ xs, (txt x).length ≤ Bk k)
    (hf : ∀ x ∈ xs, callW Φ false 0 [.d x] [] = .ok (.d (.str (txt x))) []) : evSs Φ b_term_text [some (.d d), e1, e2] [] = .ok (.ret (.d (.str (("(" : Str) ++ Txt.join " " (txtL xs) ++ (")" : Str))))) [] := by
  have st := seq_text (Φ := Φ) (f := 0) (i := 1) (env := [some (.d d), e1, e2]) (h := []) (xs := xs) (w := .d d) (k := k) rfl (by rcases hd with rfl | rfl <;> rfl) (fun _ => rfl) hl hk hb hf
  unfold b_term_text b_term_text_c2
  generalize E.bin false .Add (.bin false .Add (.lit (.str "(")) (.meth .join (.lit (.str " ")) (.cons (.comp false [1] [1] false (.over (.var 0)) .yes (.call 0 false (.cons (.var 1) .nil))) .nil))) (.lit (.str ")")) = C at st ⊢
  rcases hd with rfl | rfl <;> simp [Mi.runF, Mi.evSs, Mi.evS, Mi.evE, Mi.evT, Mi.evP, Mi.evEs, Mi.evIt, Mi.lift, Mi.bltV, Mi.intV, Mi.lenV, Mi.binV, Mi.intOp, Mi.cmpV, Mi.truV, Mi.mthV, Mi.recvOk, Mi.listOf, Mi.seqOf, Mi.dOf, Mi.cellL, Mi.srcOf, Mi.srcOk, Mi.setTg, Mi.setAll, Mi.mkL, Mi.toDs, Mi.In_len, Mi.In_app, Mi.In_one, Mi.In_drop, Mi.In_rev, Mi.In_emp, Mi.In_nl, Mi.In_get, Mi.toDs_In, isiV, st]
theorem term_text_w (n : Nat) : ∀ (k : Nat) (d : PyData) {mu : Bool} (h : MH), Tm k d → k ≤ 4 → callW (callN pr (n + k + 1)) mu 0 [.d d] h = .ok (.d (.str (txt d))) h := by
  intro k
  induction k with
  | zero =>
    intro d mu h ht _
    refine callW_data (ds := [d]) (hc := []) h ?_
    rw [callN_eq (fd := ⟨1, 3, b_term_text⟩) rfl]
    have := leaf_text (Φ := callN pr n) (e1 := none) (e2 := none) ht
    simp only [runF, List.length_cons, List.length_nil, List.map_cons, List.map_nil, List.replicate, List.cons_append, List.nil_append, this]
    rfl
  | succ k ih =>
    intro d mu h ht hk
    refine callW_data (ds := [d]) (hc := []) h ?_
    rw [show n + (k + 1) + 1 = (n + k + 1) + 1 by omega, callN_eq (fd := ⟨1, 3, b_term_text⟩) rfl]
    rcases ht with ht | ⟨xs, rfl, hl, hx⟩
    · have := leaf_text (Φ := callN pr (n + k + 1)) (e1 := none) (e2 := none) ht
      simp only [runF, List.length_cons, List.length_nil, List.map_cons, List.map_nil, List.replicate, List.cons_append, List.nil_append, this]
      rfl
    · have := seq_term (Φ := callN pr (n + k + 1)) (e1 := none) (e2 := none) (.inl rfl) hl (show k ≤ 4 by omega) (fun x hm => tm_len (hx x hm)) (fun x hm => ih x [] (hx x hm) (by omega))
      simp only [runF, List.length_cons, List.length_nil, List.map_cons, List.map_nil, List.replicate, List.cons_append, List.nil_append, this]
      rfl
theorem list_text_w {n k : Nat} {xs : List PyData} {mu : Bool} (h : MH) (hl : xs.length ≤ 3) (hx : ∀ x ∈ xs, Tm k x) (hk : k ≤ 4) : callW (callN pr (n + k + 2)) mu 0 [.d (.list xs)] h = .ok (.d (.str (("(" : Str) ++ Txt.join " " (txtL xs) ++ (")" : Str)))) h := by
  refine callW_data (ds := [.list xs]) (hc := []) h ?_
  rw [callN_eq (fd := ⟨1, 3, b_term_text⟩) rfl]
  have := seq_term (Φ := callN pr (n + k + 1)) (d := .list xs) (e1 := none) (e2 := none) (.inr rfl) hl hk (fun x hm => tm_len (hx x hm)) (fun x hm => term_text_w n k x [] (hx x hm) hk)
  simp only [runF, List.length_cons, List.length_nil, List.map_cons, List.map_nil, List.replicate, List.cons_append, List.nil_append, this]
  rfl
/-! ### the law's own text of a term -/
theorem leaf_text2 {Φ : Nat → List W → M W} {d : PyData} {e1 : Option W} (hd : Leaf d) : evSs Φ b_law_text [some (.d d), e1] [] = .ok (.ret (.d (.str (txt d)))) [] := by
  rcases hd with rfl | ⟨i, rfl, hi⟩ | ⟨w, rfl, hw, hc, hn⟩
  · simp [Mi.runF, Mi.evSs, Mi.evS, Mi.evE, Mi.evT, Mi.evP, Mi.evEs, Mi.evIt, Mi.lift, Mi.bltV, Mi.intV, Mi.lenV, Mi.binV, Mi.intOp, Mi.cmpV, Mi.truV, Mi.mthV, Mi.recvOk, Mi.listOf, Mi.seqOf, Mi.dOf, Mi.cellL, Mi.srcOf, Mi.srcOk, Mi.setTg, Mi.setAll, Mi.mkL, Mi.toDs, Mi.In_len, Mi.In_app, Mi.In_one, Mi.In_drop, Mi.In_rev, Mi.In_emp, Mi.In_nl, Mi.In_get, Mi.toDs_In, b_law_text, txt]
  · have := int_str (h := []) hi
    simp [Mi.runF, Mi.evSs, Mi.evS, Mi.evE, Mi.evT, Mi.evP, Mi.evEs, Mi.evIt, Mi.lift, Mi.bltV, Mi.intV, Mi.lenV, Mi.binV, Mi.intOp, Mi.cmpV, Mi.truV, Mi.mthV, Mi.recvOk, Mi.listOf, Mi.seqOf, Mi.dOf, Mi.cellL, Mi.srcOf, Mi.srcOk, Mi.setTg, Mi.setAll, Mi.mkL, Mi.toDs, Mi.In_len, Mi.In_app, Mi.In_one, Mi.In_drop, Mi.In_rev, Mi.In_emp, Mi.In_nl, Mi.In_get, Mi.toDs_In, b_law_text, txt, isiV, this]
  · have en : PyData.eqv (.str w) (.str "") = decide (w = "") := eqv_str _ _
    cases hb : decide (w = "") with
    | true =>
      rw [hb] at en
      simp [Mi.runF, Mi.evSs, Mi.evS, Mi.evE, Mi.evT, Mi.evP, Mi.evEs, Mi.evIt, Mi.lift, Mi.bltV, Mi.intV, Mi.lenV, Mi.binV, Mi.intOp, Mi.cmpV, Mi.truV, Mi.mthV, Mi.recvOk, Mi.listOf, Mi.seqOf, Mi.dOf, Mi.cellL, Mi.srcOf, Mi.srcOk, Mi.setTg, Mi.setAll, Mi.mkL, Mi.toDs, Mi.In_len, Mi.In_app, Mi.In_one, Mi.In_drop, Mi.In_rev, Mi.In_emp, Mi.In_nl, Mi.In_get, Mi.toDs_In, b_law_text, txt, isiV, eqD, depOk, PyData.depth, en, hb]
    | false =>
      rw [hb] at en
      simp [Mi.runF, Mi.evSs, Mi.evS, Mi.evE, Mi.evT, Mi.evP, Mi.evEs, Mi.evIt, Mi.lift, Mi.bltV, Mi.intV, Mi.lenV, Mi.binV, Mi.intOp, Mi.cmpV, Mi.truV, Mi.mthV, Mi.recvOk, Mi.listOf, Mi.seqOf, Mi.dOf, Mi.cellL, Mi.srcOf, Mi.srcOk, Mi.setTg, Mi.setAll, Mi.mkL, Mi.toDs, Mi.In_len, Mi.In_app, Mi.In_one, Mi.In_drop, Mi.In_rev, Mi.In_emp, Mi.In_nl, Mi.In_get, Mi.toDs_In, b_law_text, txt, isiV, eqD, depOk, PyData.depth, en, hb]
theorem law_text_w (n : Nat) : ∀ (k : Nat) (d : PyData) {mu : Bool} (h : MH), Tm k d → k ≤ 4 → callW (callN pr (n + k + 1)) mu 8 [.d d] h = .ok (.d (.str (txt d))) h := by
  intro k
  induction k with
  | zero =>
    intro d mu h ht _
    refine callW_data (ds := [d]) (hc := []) h ?_
    rw [callN_eq (fd := ⟨1, 2, b_law_text⟩) rfl]
    have := leaf_text2 (Φ := callN pr n) (e1 := none) ht
    simp only [runF, List.length_cons, List.length_nil, List.map_cons, List.map_nil, List.replicate, List.cons_append, List.nil_append, this]
    rfl
  | succ k ih =>
    intro d mu h ht hk
    refine callW_data (ds := [d]) (hc := []) h ?_
    rw [show n + (k + 1) + 1 = (n + k + 1) + 1 by omega, callN_eq (fd := ⟨1, 2, b_law_text⟩) rfl]
    rcases ht with ht | ⟨xs, rfl, hl, hx⟩
    · have := leaf_text2 (Φ := callN pr (n + k + 1)) (e1 := none) ht
      simp only [runF, List.length_cons, List.length_nil, List.map_cons, List.map_nil, List.replicate, List.cons_append, List.nil_append, this]
      rfl
    · have st := seq_text (Φ := callN pr (n + k + 1)) (f := 8) (i := 1) (env := [some (.d (.tuple xs)), none]) (h := []) (xs := xs) (w := .d (.tuple xs)) (k := k) rfl rfl (fun _ => rfl) hl (by omega) (fun x hm => tm_len (hx x hm)) (fun x hm => ih x [] (hx x hm) (by omega))
      have : evSs (callN pr (n + k + 1)) b_law_text [some (.d (.tuple xs)), none] [] = .ok (.ret (.d (.str (txt (.tuple xs))))) [] := by
        unfold b_law_text b_law_text_c1
        generalize E.bin false .Add (.bin false .Add (.lit (.str "(")) (.meth .join (.lit (.str " ")) (.cons (.comp false [1] [1] false (.over (.var 0)) .yes (.call 8 false (.cons (.var 1) .nil))) .nil))) (.lit (.str ")")) = C at st ⊢
        simp [Mi.runF, Mi.evSs, Mi.evS, Mi.evE, Mi.evT, Mi.evP, Mi.evEs, Mi.evIt, Mi.lift, Mi.bltV, Mi.intV, Mi.lenV, Mi.binV, Mi.intOp, Mi.cmpV, Mi.truV, Mi.mthV, Mi.recvOk, Mi.listOf, Mi.seqOf, Mi.dOf, Mi.cellL, Mi.srcOf, Mi.srcOk, Mi.setTg, Mi.setAll, Mi.mkL, Mi.toDs, Mi.In_len, Mi.In_app, Mi.In_one, Mi.In_drop, Mi.In_rev, Mi.In_emp, Mi.In_nl, Mi.In_get, Mi.toDs_In, isiV, st, txt]
      simp only [runF, List.length_cons, List.length_nil, List.map_cons, List.map_nil, List.replicate, List.cons_append, List.nil_append, this]
      rfl
end K20

set_option maxRecDepth 100000
set_option maxHeartbeats 1000000
namespace K20
open PySem L2 Mi TL
/-! ### what is written is read back -/
def Stop (l : List Nat) : Prop := ∀ c r, l = c :: r → c = 41 ∨ c = 32
theorem stop_nil : Stop [] := fun _ _ h => nomatch h
theorem tw_app {f : Nat → Bool} (h1 : f 41 = false) (h2 : f 32 = false) {post : List Nat} (s : Stop post) : ∀ (a : List Nat), (∀ c ∈ a, f c = true) → (a ++ post).takeWhile f = a
  | [], _ => by
    cases post with
    | nil => rfl
    | cons c r =>
      rcases s c r rfl with rfl | rfl
      · simp [h1]
      · simp [h2]
  | c :: a, h => by
    rw [List.cons_append, List.takeWhile_cons, h c List.mem_cons_self]
    simp only [if_true]
    rw [tw_app h1 h2 s a fun d hd => h d (List.mem_cons_of_mem _ hd)]
theorem isD41 : isD 41 = false := by decide +kernel
theorem isD32 : isD 32 = false := by decide +kernel
theorem isL41 : isL 41 = false := by decide +kernel
theorem isL32 : isL 32 = false := by decide +kernel
theorem hd_ne {s : Str} {x c : Nat} {r : List Nat} (hs : tl s = [x]) (h : c ≠ x) : hdB s (c :: r) = false := by
  simp [hdB, hs, h]
theorem numL_zero {m : Nat} {r : List Nat} (h : numL m = 48 :: r) : r = [] := by
  cases r with
  | nil => rfl
  | cons d t =>
    have v := numL_val m
    rw [h, NumText.digitsVal_zero] at v
    have ad : NumText.AllDigits (d :: t) := by
      have := numL_digits m
      rw [h] at this
      exact this.tail
    have lt := digitsVal_lt ad
    rw [v] at lt
    have := numL_len (n := m) (k := (d :: t).length) (by simp) lt
    rw [h] at this
    simp only [List.length_cons] at this
    omega
theorem numL_head (m : Nat) : ∃ c r, numL m = c :: r ∧ 48 ≤ c ∧ c ≤ 57 := by
  have := numL_digits m
  have ne := numL_ne m
  cases h : numL m with
  | nil => exact absurd h ne
  | cons c r =>
    rw [h] at this
    exact ⟨c, r, rfl, this.head⟩
theorem isD_of {c : Nat} (h : 48 ≤ c ∧ c ≤ 57) : isD c = true := by
  have e : tl sD = [48, 49, 50, 51, 52, 53, 54, 55, 56, 57] := by decide +kernel
  unfold isD
  rw [e, decide_eq_true_eq]
  simp
  omega
theorem isD_not_low {c : Nat} (h : 40 ≤ c ∧ c ≤ 57) : decide (c ∈ tl sL) = false := by
  rw [decide_eq_false_iff_not]
  intro z
  have := isL_lt (c := c) (by simpa [isL] using z)
  omega
theorem rt_int2 {m : Bool} {n s : Nat} {post : List Nat} (hs : Stop post) (hn : n < 10 ^ 20) (h0 : m = true → 0 < n) : pInt2 m s (numL n ++ post) = .ok (.int (if m then -((n : Nat) : Int) else (n : Int))) (s + (numL n).length) post := by
  have tw := tw_app isD41 isD32 hs (numL n) fun c hc => isD_of (numL_digits n c hc)
  unfold pInt2
  rw [tw]
  obtain ⟨c, r, e, hc⟩ := numL_head n
  have l20 := numL_len (n := n) (k := 20) (by decide) hn
  have z1 : (numL n).isEmpty = false := by rw [e]; rfl
  have hz : hdB "0" (numL n ++ post) = decide (c = 48) := by
    rw [e]
    show decide (c ∈ tl "0") = _
    rw [tl_zero]
    simp
  have z2 : (m && hdB "0" (numL n ++ post)) = false := by
    rw [hz]
    cases m with
    | false => rfl
    | true =>
      simp only [Bool.true_and, decide_eq_false_iff_not]
      rintro rfl
      have := numL_zero e
      subst this
      have v := numL_val n
      rw [e] at v
      have := h0 rfl
      simp [NumText.digitsVal] at v
      omega
  have z3 : (hdB "0" (numL n ++ post) && Nat.blt 1 (numL n).length) = false := by
    rw [hz]
    cases hd : decide (c = 48) with
    | false => rfl
    | true =>
      have : c = 48 := by simpa using hd
      subst this
      have := numL_zero e
      subst this
      rw [e]
      rfl
  have z4 : Nat.blt 20 (numL n).length = false := by
    rw [Bool.eq_false_iff]
    intro z
    rw [Nat.blt_eq] at z
    omega
  rw [z1, z2, z3, z4, numL_val]
  simp
theorem rt_leaf {d : PyData} (hd : Leaf d) {post : List Nat} (hs : Stop post) (F k p : Nat) : pTerm F k p (tl (txt d) ++ post) = .ok d (p + (tl (txt d)).length) post := by
  have rest : ∀ l, hdB "(" l = false → pTerm F k p l = pRest p l := by
    intro l h
    cases k <;> simp [pTerm, h]
  have num : ∀ c r, (48 ≤ c ∧ c ≤ 57 ∨ c = 45) → pTerm F k p (c :: r) = pInt p (c :: r) := by
    intro c r hc
    rw [rest _ (hd_ne tl_open (by omega))]
    unfold pRest
    rw [hd_ne tl_dot (by omega)]
    have : hdB sL (c :: r) = false := isD_not_low (by omega)
    simp [this]
  rcases hd with rfl | ⟨i, rfl, hi⟩ | ⟨w, rfl, hw, hc, hn⟩
  · have e : tl (txt .none) = [110, 111, 110, 101] := by decide +kernel
    rw [e]
    have tw := tw_app isL41 isL32 hs [110, 111, 110, 101] (by decide +kernel)
    rw [rest _ (show hdB "(" ([110, 111, 110, 101] ++ post) = false from hd_ne tl_open (by decide))]
    unfold pRest
    have h1 : hdB "." ([110, 111, 110, 101] ++ post) = false := hd_ne tl_dot (by decide)
    have h2 : hdB sL ([110, 111, 110, 101] ++ post) = true := by
      show decide (110 ∈ tl sL) = true
      decide +kernel
    have h3 : wd [110, 111, 110, 101] = .none := by
      unfold wd
      rw [if_pos]
      decide +kernel
    rw [h1, h2]
    unfold pWord
    rw [tw, h3]
    simp
  · show pTerm F k p (tl (Str.ofString (toString i)) ++ post) = .ok (.int i) (p + (tl (Str.ofString (toString i))).length) post
    by_cases h0 : 0 ≤ i
    · obtain ⟨m, rfl⟩ := Int.eq_ofNat_of_zero_le h0
      rw [tl_num]
      obtain ⟨c, r, e, hc⟩ := numL_head m
      have := rt_int2 (m := false) (n := m) (s := p) hs (by simpa using hi) (by simp)
      rw [e] at this ⊢
      rw [List.cons_append] at this ⊢
      rw [num _ _ (.inl hc)]
      unfold pInt
      rw [hd_ne tl_minus (by omega)]
      simpa using this
    · have e : i = -((i.natAbs : Nat) : Int) := by omega
      generalize i.natAbs = m at *
      subst e
      have hm : 0 < m := by omega
      rw [tl_neg m hm, List.cons_append, num _ _ (.inr rfl)]
      unfold pInt
      have hmn : hdB "-" (45 :: (numL m ++ post)) = true := by
        show decide (45 ∈ tl "-") = true
        rw [tl_minus]
        rfl
      rw [hmn]
      have := rt_int2 (m := true) (n := m) (s := p + 1) hs (by simpa using hi) (fun _ => hm)
      simp only [if_true, List.drop_succ_cons, List.drop_zero, this, List.length_cons]
      congr 1
      omega
  · by_cases hwe : w = ""
    · subst hwe
      have e : tl (txt (.str "")) = [46] := by decide +kernel
      rw [e]
      have h1 : hdB "." ([46] ++ post) = true := by
        show decide (46 ∈ tl ".") = true
        rw [tl_dot]
        rfl
      rw [rest _ (show hdB "(" ([46] ++ post) = false from hd_ne tl_open (by decide))]
      unfold pRest
      rw [h1]
      rfl
    · have e : txt (.str w) = w := by
        show (if decide (w = "") then ("." : Str) else w) = w
        rw [decide_eq_false hwe]
        rfl
      rw [e]
      have low : ∀ c ∈ tl w, isL c = true := fun c h => lets_low c (hc c h)
      cases hw2 : tl w with
      | nil => exact absurd (ext_tl (by rw [hw2, tl_emp])) hwe
      | cons c r =>
        have hcl := low c (by rw [hw2]; exact List.mem_cons_self)
        have hcb := isL_lt hcl
        have tw := tw_app isL41 isL32 hs (tl w) low
        rw [hw2] at tw
        rw [List.cons_append, rest _ (hd_ne tl_open (by omega))]
        unfold pRest
        have h2 : hdB sL (c :: (r ++ post)) = true := hcl
        rw [hd_ne tl_dot (by omega), h2]
        unfold pWord
        rw [List.cons_append] at tw
        rw [tw]
        have h3 : wd (c :: r) = .str w := by
          unfold wd
          have : (⟨(c :: r).toArray⟩ : Str) = w := ext_tl (by rw [hw2])
          rw [this, decide_eq_false hn]
          rfl
        rw [h3]
        simp
def flat (xs : List PyData) : List Nat := xs.flatMap fun x => 32 :: tl (txt x)
theorem joinL_flat : ∀ (x : PyData) (r : List PyData), joinL [32] ((x :: r).map fun x => tl (txt x)) = tl (txt x) ++ flat r
  | x, [] => by simp [joinL, flat]
  | x, y :: r => by
    have := joinL_flat y r
    simp only [List.map_cons] at this ⊢
    show tl (txt x) ++ ([32] ++ joinL [32] (tl (txt y) :: r.map fun x => tl (txt x))) = _
    rw [this]
    simp [flat]
theorem stop_flat (xs : List PyData) (post : List Nat) : Stop (flat xs ++ 41 :: post) := by
  intro c r h
  cases xs with
  | nil =>
    simp [flat] at h
    exact .inl h.1.symm
  | cons x t =>
    simp [flat] at h
    exact .inr h.1.symm
theorem shut_bad (F k p : Nat) {l : List Nat} (h : hdB ")" l = true) : ∃ q, pTerm F k p l = .bad q := by
  obtain ⟨r, rfl⟩ := hd_cons1 tl_shut h
  have h1 : hdB "(" (41 :: r) = false := hd_ne tl_open (by decide)
  have : pTerm F k p (41 :: r) = pRest p (41 :: r) := by cases k <;> simp [pTerm, h1]
  rw [this]
  unfold pRest pInt pInt2
  have h2 : hdB "." (41 :: r) = false := hd_ne tl_dot (by decide)
  have h3 : hdB sL (41 :: r) = false := isD_not_low (c := 41) (by decide)
  have h4 : hdB "-" (41 :: r) = false := hd_ne tl_minus (by decide)
  rw [h2, h3, h4]
  refine ⟨p, ?_⟩
  simp [List.takeWhile_cons, isD41]
section
variable {F k : Nat}
theorem rt_step {n p q : Nat} {l l' : List Nat} {acc : List PyData} {v : PyData} (h1 : hdB ")" l = false) (h2 : acc.isEmpty = true → pTerm F k p l = .ok v q l') (h3 : acc.isEmpty = false → hdB " " l = true ∧ pTerm F k (p + 1) (l.drop 1) = .ok v q l') :
    pLoop (pTerm F k) (n + 1) p l acc = pLoop (pTerm F k) n q l' (acc ++ [v]) := by
  conv => lhs; unfold pLoop
  rw [h1]
  cases ha : acc.isEmpty with
  | true =>
    have h2 := h2 ha
    simp only [Bool.false_eq_true, if_false, if_true, Bool.not_true, Bool.false_and, h2]
  | false =>
    obtain ⟨h4, h5⟩ := h3 ha
    simp only [Bool.false_eq_true, if_false, if_true, Bool.not_true, Bool.not_false, Bool.and_false, h4, h5]
theorem rt_loop {xs : List PyData} (hx : ∀ x ∈ xs, ∀ post p, Stop post → pTerm F k p (tl (txt x) ++ post) = .ok x (p + (tl (txt x)).length) post) : ∀ (n p : Nat) (acc : List PyData) (post : List Nat), xs.length < n → acc ≠ [] →
    pLoop (pTerm F k) n p (flat xs ++ 41 :: post) acc = .ok (.tuple (acc ++ xs)) (p + (flat xs).length + 1) post := by
  induction xs with
  | nil =>
    intro n p acc post hn ha
    obtain ⟨n, rfl⟩ : ∃ m, n = m + 1 := ⟨n - 1, by simp at hn; omega⟩
    unfold pLoop
    have : hdB ")" (flat [] ++ 41 :: post) = true := by
      show decide (41 ∈ tl ")") = true
      rw [tl_shut]
      rfl
    rw [this]
    simp [flat]
  | cons x r ih =>
    intro n p acc post hn ha
    obtain ⟨n, rfl⟩ : ∃ m, n = m + 1 := ⟨n - 1, by simp at hn; omega⟩
    have e : flat (x :: r) ++ 41 :: post = 32 :: (tl (txt x) ++ (flat r ++ 41 :: post)) := by simp [flat]
    have hae : acc.isEmpty = false := by
      cases acc with
      | nil => exact absurd rfl ha
      | cons _ _ => rfl
    have sp : hdB " " (32 :: (tl (txt x) ++ (flat r ++ 41 :: post))) = true := by
      show decide (32 ∈ tl " ") = true
      rw [tl_spc]
      rfl
    rw [e, rt_step (hd_ne tl_shut (by decide)) (fun z => by rw [hae] at z; cases z) (fun _ => ⟨sp, hx x List.mem_cons_self _ (p + 1) (stop_flat r post)⟩)]
    rw [ih (fun y hy => hx y (List.mem_cons_of_mem _ hy)) n _ (acc ++ [x]) post (by simp at hn; omega) (by simp)]
    simp [flat]
    omega
theorem rt_tuple {xs : List PyData} (hF : xs.length < F) (hx : ∀ x ∈ xs, ∀ post p, Stop post → pTerm F k p (tl (txt x) ++ post) = .ok x (p + (tl (txt x)).length) post) {post : List Nat} (p : Nat) :
    pTerm F (k + 1) p (tl (txt (.tuple xs)) ++ post) = .ok (.tuple xs) (p + (tl (txt (.tuple xs))).length) post := by
  have e : tl (txt (.tuple xs)) = 40 :: (joinL [32] (xs.map fun x => tl (txt x)) ++ [41]) := by
    show tl (("(" : Str) ++ Txt.join " " (txtL xs) ++ (")" : Str)) = _
    rw [tl_append, tl_append, tl_open, tl_shut, TL.join_eq, tl_join, tl_spc, txtL_map, List.map_map]
    rfl
  rw [e]
  have ho : hdB "(" (40 :: (joinL [32] (xs.map fun x => tl (txt x)) ++ [41]) ++ post) = true := by
    show decide (40 ∈ tl "(") = true
    rw [tl_open]
    rfl
  unfold pTerm
  rw [ho]
  simp only [if_true, List.cons_append, List.drop_succ_cons, List.drop_zero, List.append_assoc, List.nil_append]
  cases xs with
  | nil =>
    obtain ⟨n, rfl⟩ : ∃ m, F = m + 1 := ⟨F - 1, by simp at hF; omega⟩
    have : hdB ")" (41 :: post) = true := by
      show decide (41 ∈ tl ")") = true
      rw [tl_shut]
      rfl
    show pLoop _ (n + 1) (p + 1) (41 :: post) [] = .ok (.tuple []) (p + 2) post
    unfold pLoop
    rw [this]
    rfl
  | cons x r =>
    obtain ⟨n, rfl⟩ : ∃ m, F = m + 1 := ⟨F - 1, by simp at hF; omega⟩
    rw [joinL_flat, List.append_assoc]
    have h0 := hx x List.mem_cons_self (flat r ++ 41 :: post) (p + 1) (stop_flat r post)
    have hns : hdB ")" (tl (txt x) ++ (flat r ++ 41 :: post)) = false := by
      cases hb : hdB ")" (tl (txt x) ++ (flat r ++ 41 :: post)) with
      | false => rfl
      | true =>
        obtain ⟨q, hq⟩ := shut_bad (n + 1) k (p + 1) hb
        rw [h0] at hq
        cases hq
    rw [rt_step hns (fun _ => h0) (fun z => by simp at z)]
    rw [rt_loop (fun y hy => hx y (List.mem_cons_of_mem _ hy)) n _ ([] ++ [x]) post (by simp at hF; omega) (by simp)]
    simp
    omega
end
theorem rt_term {F : Nat} (hF : 4 ≤ F) : ∀ (j k : Nat) (d : PyData), j ≤ k → Tm j d → ∀ post p, Stop post → pTerm F k p (tl (txt d) ++ post) = .ok d (p + (tl (txt d)).length) post := by
  intro j
  induction j with
  | zero =>
    intro k d _ h post p hs
    exact rt_leaf h hs F k p
  | succ j ih =>
    intro k d hk h post p hs
    rcases h with h | ⟨xs, rfl, hl, hx⟩
    · exact rt_leaf h hs F k p
    · obtain ⟨k, rfl⟩ : ∃ m, k = m + 1 := ⟨k - 1, by omega⟩
      exact rt_tuple (by omega) (fun x hm post p hs => ih k x (by omega) (hx x hm) post p hs) p
theorem due_back {k : Nat} {d : PyData} (h : Tm k d) (hk : k ≤ 4) : dueD (txt d) = .list [.str "term", d] := by
  have key : pTerm ((txt d).length + 1) 12 0 (tl (txt d)) = .ok d (0 + (tl (txt d)).length) [] := by
    have lf : ∀ {d : PyData}, Leaf d → pTerm ((txt d).length + 1) 12 0 (tl (txt d)) = .ok d (0 + (tl (txt d)).length) [] := fun hd => by
      rename_i d
      have := rt_leaf hd stop_nil ((txt d).length + 1) 12 0
      rwa [List.append_nil] at this
    cases k with
    | zero => exact lf h
    | succ k =>
      rcases h with h | ⟨xs, rfl, hl, hx⟩
      · exact lf h
      cases xs with
      | nil =>
        have e1 : txt (.tuple []) = "()" := by decide +kernel
        rw [e1]
        have e2 : tl "()" = [40, 41] := by decide +kernel
        have e3 : ("()" : Str).length = 2 := by decide +kernel
        rw [e2, e3]
        have ho : hdB "(" [40, 41] = true := by decide +kernel
        have hs : hdB ")" [41] = true := by decide +kernel
        simp [pTerm, ho, pLoop, hs]
      | cons x r =>
        have : 4 ≤ (txt (.tuple (x :: r))).length + 1 := by
          rw [len_tl]
          show 4 ≤ (tl (("(" : Str) ++ Txt.join " " (txtL (x :: r)) ++ (")" : Str))).length + 1
          rw [tl_append, tl_append, tl_open, tl_shut, TL.join_eq, tl_join, tl_spc, txtL_map, List.map_map]
          have := joinL_flat x r
          have e2 : List.map (tl ∘ txt) (x :: r) = List.map (fun x => tl (txt x)) (x :: r) := rfl
          rw [e2, this]
          have hne : 0 < (tl (txt x)).length := by
            have h0 := rt_term (F := 4) (by decide) k k x (by omega) (hx x List.mem_cons_self) [] 0 stop_nil
            obtain ⟨n, a1, a2, a3, a4, a5, a6⟩ := fed_term 4 k 0 _ _ _ _ h0
            simp at a3
            simp
            omega
          simp only [List.length_append, List.length_cons, List.length_nil]
          omega
        have := rt_term this (k + 1) 12 (.tuple (x :: r)) (by omega) (.inr ⟨x :: r, rfl, hl, hx⟩) [] 0 stop_nil
        rwa [List.append_nil] at this
  unfold dueD
  rw [key]
  rfl
end K20

set_option maxRecDepth 100000
set_option maxHeartbeats 1000000
namespace K20
open PySem L2 Mi TL
/-! ### terms that are drawn -/
theorem next0 {n : Nat} {mu : Bool} (is : List Int) : callW (callN pr (n + 1)) mu 4 [.ref 0] [Dc is] = .ok (.d (.int (nextI is))) [Dc is.dropLast] := next_w (i := 0) (h := [Dc is]) rfl is rfl
theorem pick0 {n : Nat} {mu : Bool} (is : List Int) {ds : List PyData} (hd : 0 < ds.length) : ∃ x ∈ ds, callW (callN pr (n + 2)) mu 6 [.ref 0, .d (.list ds)] [Dc is] = .ok (.d x) [Dc is.dropLast] :=
  ⟨_, List.getElem_mem (place_lt hd), pick_w (i := 0) (g := 4) (h := [Dc is]) rfl rfl is hd rfl⟩
theorem app_mem {x y : Str} {c : Nat} : c ∈ tl (x ++ y) ↔ c ∈ tl x ∨ c ∈ tl y := by
  rw [tl_append, List.mem_append]
theorem join_mem {c : Nat} : ∀ {ys : List Str}, c ∈ tl (Str.join "" ys) → ∃ y ∈ ys, c ∈ tl y
  | [], h => by
    have e : tl (Str.join "" []) = [] := by decide +kernel
    rw [e] at h
    simp at h
  | [y], h => ⟨y, by simp, h⟩
  | x :: y :: r, h => by
    have h' : c ∈ tl (x ++ "" ++ Str.join "" (y :: r)) := h
    rcases app_mem.mp h' with z | z
    · rcases app_mem.mp z with z | z
      · exact ⟨x, by simp, z⟩
      · rw [tl_emp] at z
        simp at z
    · obtain ⟨u, hu, hc⟩ := join_mem z
      exact ⟨u, List.mem_cons_of_mem _ hu, hc⟩
def QD (h : MH) : Prop := ∃ is, h = [Dc is] ∧ Bd is
theorem word_c {n : Nat} {e1 e2 e3 e4 : Option W} {is : List Int} (bd : Bd is) : ∃ (w : Str) (is' : List Int), evE (callN pr (n + 1)) (.meth .join (.lit (.str "")) (.cons b_law_term_c1 .nil)) [some (.ref 0), e1, e2, e3, e4] [Dc is] = .ok (.d (.str w)) [Dc is'] ∧ Bd is' ∧ w.length ≤ 5 ∧ ∀ c ∈ tl w, c ∈ lets := by
  have nx := next0 (n := n) (mu := false) is
  have pl := place_lt (v := nextI is) (n := 6) (by decide)
  have fm := fmod_place (v := nextI is) (n := 6) (by decide)
  have hr : rngOk ((placeI (nextI is) 6 : Nat) : Int) = true := Nat.ble_eq_true_of_le (by simp; omega)
  have hi : evIt (callN pr (n + 1)) (.rng1 (.bin false .Mod (.blt .int (.cons (.call 4 false (.cons (.var 0) .nil)) .nil)) (.lit (.int 6)))) [some (.ref 0), e1, e2, e3, e4] [Dc is] = .ok (rngFrom 0 (placeI (nextI is) 6), none) [Dc is.dropLast] := by
    rw [show ((6 : Nat) : Int) = 6 from rfl] at fm
    simp [Mi.runF, Mi.evSs, Mi.evS, Mi.evE, Mi.evT, Mi.evP, Mi.evEs, Mi.evIt, Mi.lift, Mi.bltV, Mi.intV, Mi.lenV, Mi.binV, Mi.intOp, Mi.cmpV, Mi.truV, Mi.mthV, Mi.recvOk, Mi.listOf, Mi.seqOf, Mi.dOf, Mi.cellL, Mi.srcOf, Mi.srcOk, Mi.setTg, Mi.setAll, Mi.mkL, Mi.toDs, Mi.In_len, Mi.In_app, Mi.In_one, Mi.In_drop, Mi.In_rev, Mi.In_emp, Mi.In_nl, Mi.In_get, Mi.toDs_In, nx, fm, hr]
  obtain ⟨ds, h2, e, ⟨is', rfl, bd'⟩, p, l⟩ := comp_chg (Φ := callN pr (n + 1)) (e := .idx (.lit (.str "abcnoze")) (.bin false .Mod (.blt .int (.cons (.call 4 false (.cons (.var 0) .nil)) .nil)) (.lit (.int 7)))) (i := 4) (env := [some (.ref 0), e1, e2, e3, e4]) QD (fun d => ∃ c ∈ lets, d = .str ⟨#[c]⟩) hi (by rw [rng_len]; omega) ⟨_, rfl, Bd_drop bd⟩ (by
    rintro w hw h ⟨is, rfl, bd⟩
    have nx := next0 (n := n) (mu := false) is
    have pl := place_lt (v := nextI is) (n := 7) (by decide)
    have fm := fmod_place (v := nextI is) (n := 7) (by decide)
    rw [show ((7 : Nat) : Int) = 7 from rfl] at fm
    have e7 : tl "abcnoze" = lets := by decide +kernel
    have l7 : ("abcnoze" : Str).length ≤ 10000 := by decide +kernel
    obtain ⟨c, hc⟩ : ∃ c, (tl "abcnoze")[placeI (nextI is) 7]? = some c := ⟨_, List.getElem?_eq_getElem (by rw [e7]; exact pl)⟩
    have ix := idx_s (h := [Dc is.dropLast]) l7 hc
    refine ⟨.str ⟨#[c]⟩, [Dc is.dropLast], ?_, ⟨_, rfl, Bd_drop bd⟩, c, by rw [← e7]; exact List.mem_of_getElem? hc, rfl⟩
    simp [Mi.runF, Mi.evSs, Mi.evS, Mi.evE, Mi.evT, Mi.evP, Mi.evEs, Mi.evIt, Mi.lift, Mi.bltV, Mi.intV, Mi.lenV, Mi.binV, Mi.intOp, Mi.cmpV, Mi.truV, Mi.mthV, Mi.recvOk, Mi.listOf, Mi.seqOf, Mi.dOf, Mi.cellL, Mi.srcOf, Mi.srcOk, Mi.setTg, Mi.setAll, Mi.mkL, Mi.toDs, Mi.In_len, Mi.In_app, Mi.In_one, Mi.In_drop, Mi.In_rev, Mi.In_emp, Mi.In_nl, Mi.In_get, Mi.toDs_In, nx, fm, ix])
  have : ∃ ys : List Str, ds = ys.map .str ∧ ∀ y ∈ ys, ∃ c ∈ lets, y = ⟨#[c]⟩ := by
    clear e l
    induction ds with
    | nil => exact ⟨[], rfl, by simp⟩
    | cons d r ih =>
      obtain ⟨ys, e, q⟩ := ih fun x hx => p x (List.mem_cons_of_mem _ hx)
      obtain ⟨c, hc, rfl⟩ := p d List.mem_cons_self
      refine ⟨⟨#[c]⟩ :: ys, by rw [e]; rfl, fun y hy => ?_⟩
      rcases List.mem_cons.mp hy with z | z
      · exact ⟨c, hc, z⟩
      · exact q y z
  obtain ⟨ys, rfl, q⟩ := this
  rw [rng_len, List.length_map] at l
  have l1 : ∀ y ∈ ys, y.length ≤ 1 := fun y hy => by
    obtain ⟨c, _, rfl⟩ := q y hy
    exact Nat.le_refl 1
  have sm : (ys.map (·.length)).sum ≤ ys.length := by
    clear q l e p
    induction ys with
    | nil => simp
    | cons y r ih =>
      have h1 := l1 y List.mem_cons_self
      have h2 := ih fun x hx => l1 x (List.mem_cons_of_mem _ hx)
      simp only [List.map_cons, List.sum_cons, List.length_cons]
      omega
  have l0 : ("" : Str).length = 0 := by decide +kernel
  have ln : lineOk (strLens ys ("" : Str).length) = true := by
    unfold strLens
    rw [l0]
    exact Nat.ble_eq_true_of_le (by omega)
  have so : (seqOf (.d (.list (ys.map .str))) [Dc is']).bind Mi.txts = some ys := by
    simp only [seqOf, Option.bind_some, List.map_map]
    exact txts_str ys
  refine ⟨Txt.join "" ys, is', ?_, bd', ?_, fun c hc => ?_⟩
  · rw [← b_law_term_c1] at e
    simp only [evE, evEs, bind_ok, recvOk, if_true, e, mthV, joinV, so, ln]
  · have := PySem.StrLaws.join_length_le "" ys
    rw [← PySem.StrLaws.glued_eq_join, l0] at this
    show (Builtin.Str.glued "" ys).length ≤ _
    omega
  · rw [TL.join_eq] at hc
    obtain ⟨y, hy, hc⟩ := join_mem hc
    obtain ⟨d, hd, rfl⟩ := q y hy
    have : c ∈ [d] := hc
    rw [List.mem_singleton] at this
    rw [this]
    exact hd
def picksT : List PyData := [.none, .int 0, .int (-1), .int 10000000000000000000, .int (-99999999999999999999)]
theorem picksT_ok : ∀ x ∈ picksT, Leaf x := by
  intro x hx
  simp only [picksT, List.mem_cons, List.not_mem_nil, or_false] at hx
  rcases hx with rfl | rfl | rfl | rfl | rfl
  · exact .inl rfl
  all_goals exact .inr (.inl ⟨_, rfl, by decide⟩)
end K20

set_option maxRecDepth 100000
set_option maxHeartbeats 1000000
namespace K20
open PySem L2 Mi TL
def dA : S := match b_law_term with
  | .cons a _ => a
  | _ => .pass
def dB : S := match b_law_term with
  | .cons _ (.cons a _) => a
  | _ => .pass
def dC : S := match b_law_term with
  | .cons _ (.cons _ (.cons a _)) => a
  | _ => .pass
def dD : S := match b_law_term with
  | .cons _ (.cons _ (.cons _ (.cons a _))) => a
  | _ => .pass
theorem b_lterm : b_law_term = .cons dA (.cons dB (.cons dC (.cons dD (.cons (.ret (.blt .tuple (.cons b_law_term_c2 .nil))) .nil)))) := rfl
section
variable {n : Nat} {is : List Int} {dep : Nat}
abbrev eT (dep : Nat) (k : Int) (o : Option W) : Ev := [some (.ref 0), some (.d (.int (dep : Int))), some (.d (.int k)), o, none]
theorem tA_c (hd : dep ≤ 4) : ∃ k : Int, evS (callN pr (n + 1)) dA [some (.ref 0), some (.d (.int (dep : Int))), none, none, none] [Dc is] = .ok (.nx (eT dep k none)) [Dc is.dropLast] ∧ (dep = 4 → k < 5) := by
  have nx := next0 (n := n) (mu := false) is
  by_cases h : dep < 4
  · have h' : (dep : Int) < 4 := by omega
    exact ⟨(nextI is).fmod 8, by simp [Mi.runF, Mi.evSs, Mi.evS, Mi.evE, Mi.evT, Mi.evP, Mi.evEs, Mi.evIt, Mi.lift, Mi.bltV, Mi.intV, Mi.lenV, Mi.binV, Mi.intOp, Mi.cmpV, Mi.truV, Mi.mthV, Mi.recvOk, Mi.listOf, Mi.seqOf, Mi.dOf, Mi.cellL, Mi.srcOf, Mi.srcOk, Mi.setTg, Mi.setAll, Mi.mkL, Mi.toDs, Mi.In_len, Mi.In_app, Mi.In_one, Mi.In_drop, Mi.In_rev, Mi.In_emp, Mi.In_nl, Mi.In_get, Mi.toDs_In, dA, b_law_term, nx, h, h'], fun z => by omega⟩
  · have h' : ¬ (dep : Int) < 4 := by omega
    exact ⟨(nextI is).fmod 5, by simp [Mi.runF, Mi.evSs, Mi.evS, Mi.evE, Mi.evT, Mi.evP, Mi.evEs, Mi.evIt, Mi.lift, Mi.bltV, Mi.intV, Mi.lenV, Mi.binV, Mi.intOp, Mi.cmpV, Mi.truV, Mi.mthV, Mi.recvOk, Mi.listOf, Mi.seqOf, Mi.dOf, Mi.cellL, Mi.srcOf, Mi.srcOk, Mi.setTg, Mi.setAll, Mi.mkL, Mi.toDs, Mi.In_len, Mi.In_app, Mi.In_one, Mi.In_drop, Mi.In_rev, Mi.In_emp, Mi.In_nl, Mi.In_get, Mi.toDs_In, dA, b_law_term, nx, h, h'], fun z => Int.fmod_lt_of_pos _ (by decide)⟩
theorem tB_c {k : Int} (bd : Bd is) : (∃ t is', evS (callN pr (n + 1)) dB (eT dep k none) [Dc is] = .ok (.ret (.d t)) [Dc is'] ∧ Leaf t ∧ Bd is') ∨ evS (callN pr (n + 1)) dB (eT dep k none) [Dc is] = .ok (.nx (eT dep k none)) [Dc is] := by
  cases h : PyData.eqv (.int k) (.int 0) with
  | false =>
    right
    simp [Mi.runF, Mi.evSs, Mi.evS, Mi.evE, Mi.evT, Mi.evP, Mi.evEs, Mi.evIt, Mi.lift, Mi.bltV, Mi.intV, Mi.lenV, Mi.binV, Mi.intOp, Mi.cmpV, Mi.truV, Mi.mthV, Mi.recvOk, Mi.listOf, Mi.seqOf, Mi.dOf, Mi.cellL, Mi.srcOf, Mi.srcOk, Mi.setTg, Mi.setAll, Mi.mkL, Mi.toDs, Mi.In_len, Mi.In_app, Mi.In_one, Mi.In_drop, Mi.In_rev, Mi.In_emp, Mi.In_nl, Mi.In_get, Mi.toDs_In, dB, b_law_term, eqD, depOk, PyData.depth, h]
  | true =>
    left
    obtain ⟨w, is', e, bd', l, hc⟩ := word_c (n := n) (e1 := some (.d (.int (dep : Int)))) (e2 := some (.d (.int k))) (e3 := none) (e4 := none) bd
    have en : PyData.eqv (.str w) (.str "none") = decide (w = "none") := eqv_str _ _
    generalize hC : E.meth .join (.lit (.str "")) (.cons b_law_term_c1 .nil) = C at e
    have e' : evE (callN pr (n + 1)) (E.meth .join (.lit (.str (Str.ofString ""))) (.cons b_law_term_c1 .nil)) (eT dep k none) [Dc is] = .ok (.d (.str w)) [Dc is'] := by rw [hC]; exact e
    have S : evSs (callN pr (n + 1)) (.cons (.set 3 (.meth .join (.lit (.str "")) (.cons b_law_term_c1 .nil))) (.cons (.ret (.ite (.val (.cmp .Eq (.var 3) (.lit (.str "none")))) (.lit (.str "zone")) (.var 3))) .nil)) (eT dep k none) [Dc is] = .ok (.ret (.d (.str (if w = "none" then "zone" else w)))) [Dc is'] := by
      rw [hC]
      by_cases hw : w = "none"
      · rw [decide_eq_true hw] at en
        rw [if_pos hw]
        simp [Mi.runF, Mi.evSs, Mi.evS, Mi.evE, Mi.evT, Mi.evP, Mi.evEs, Mi.evIt, Mi.lift, Mi.bltV, Mi.intV, Mi.lenV, Mi.binV, Mi.intOp, Mi.cmpV, Mi.truV, Mi.mthV, Mi.recvOk, Mi.listOf, Mi.seqOf, Mi.dOf, Mi.cellL, Mi.srcOf, Mi.srcOk, Mi.setTg, Mi.setAll, Mi.mkL, Mi.toDs, Mi.In_len, Mi.In_app, Mi.In_one, Mi.In_drop, Mi.In_rev, Mi.In_emp, Mi.In_nl, Mi.In_get, Mi.toDs_In, e, eqD, depOk, PyData.depth, en]
      · rw [decide_eq_false hw] at en
        rw [if_neg hw]
        simp [Mi.runF, Mi.evSs, Mi.evS, Mi.evE, Mi.evT, Mi.evP, Mi.evEs, Mi.evIt, Mi.lift, Mi.bltV, Mi.intV, Mi.lenV, Mi.binV, Mi.intOp, Mi.cmpV, Mi.truV, Mi.mthV, Mi.recvOk, Mi.listOf, Mi.seqOf, Mi.dOf, Mi.cellL, Mi.srcOf, Mi.srcOk, Mi.setTg, Mi.setAll, Mi.mkL, Mi.toDs, Mi.In_len, Mi.In_app, Mi.In_one, Mi.In_drop, Mi.In_rev, Mi.In_emp, Mi.In_nl, Mi.In_get, Mi.toDs_In, e, eqD, depOk, PyData.depth, en]
    refine ⟨.str (if w = "none" then "zone" else w), is', ?_, ?_, bd'⟩
    · have T : evT (callN pr (n + 1)) (.val (.cmp .Eq (.var 2) (.lit (.int 0)))) (eT dep k none) [Dc is] = .ok true [Dc is] := by
        simp [Mi.runF, Mi.evSs, Mi.evS, Mi.evE, Mi.evT, Mi.evP, Mi.evEs, Mi.evIt, Mi.lift, Mi.bltV, Mi.intV, Mi.lenV, Mi.binV, Mi.intOp, Mi.cmpV, Mi.truV, Mi.mthV, Mi.recvOk, Mi.listOf, Mi.seqOf, Mi.dOf, Mi.cellL, Mi.srcOf, Mi.srcOk, Mi.setTg, Mi.setAll, Mi.mkL, Mi.toDs, Mi.In_len, Mi.In_app, Mi.In_one, Mi.In_drop, Mi.In_rev, Mi.In_emp, Mi.In_nl, Mi.In_get, Mi.toDs_In, eqD, depOk, PyData.depth, h]
      show evS (callN pr (n + 1)) (.ite (.val (.cmp .Eq (.var 2) (.lit (.int 0)))) _ .nil) _ _ = _
      simp only [evS, T, toS_ok, if_true]
      exact S
    · refine .inr (.inr ⟨_, rfl, ?_⟩)
      by_cases hw : w = "none"
      · rw [if_pos hw]
        refine ⟨by decide +kernel, by decide +kernel, by decide +kernel⟩
      · rw [if_neg hw]
        exact ⟨l, hc, hw⟩
theorem tC_c {k : Int} (bd : Bd is) : (∃ t is', evS (callN pr (n + 2)) dC (eT dep k none) [Dc is] = .ok (.ret (.d t)) [Dc is'] ∧ Leaf t ∧ Bd is') ∨ evS (callN pr (n + 2)) dC (eT dep k none) [Dc is] = .ok (.nx (eT dep k none)) [Dc is] := by
  cases h : PyData.eqv (.int k) (.int 1) with
  | false =>
    right
    simp [Mi.runF, Mi.evSs, Mi.evS, Mi.evE, Mi.evT, Mi.evP, Mi.evEs, Mi.evIt, Mi.lift, Mi.bltV, Mi.intV, Mi.lenV, Mi.binV, Mi.intOp, Mi.cmpV, Mi.truV, Mi.mthV, Mi.recvOk, Mi.listOf, Mi.seqOf, Mi.dOf, Mi.cellL, Mi.srcOf, Mi.srcOk, Mi.setTg, Mi.setAll, Mi.mkL, Mi.toDs, Mi.In_len, Mi.In_app, Mi.In_one, Mi.In_drop, Mi.In_rev, Mi.In_emp, Mi.In_nl, Mi.In_get, Mi.toDs_In, dC, b_law_term, eqD, depOk, PyData.depth, h]
  | true =>
    left
    obtain ⟨x, hx, e⟩ := pick0 (n := n) (mu := false) is (ds := picksT) (by simp [picksT])
    refine ⟨x, is.dropLast, ?_, picksT_ok x hx, Bd_drop bd⟩
    have T : evT (callN pr (n + 2)) (.val (.cmp .Eq (.var 2) (.lit (.int 1)))) (eT dep k none) [Dc is] = .ok true [Dc is] := by
      simp [Mi.runF, Mi.evSs, Mi.evS, Mi.evE, Mi.evT, Mi.evP, Mi.evEs, Mi.evIt, Mi.lift, Mi.bltV, Mi.intV, Mi.lenV, Mi.binV, Mi.intOp, Mi.cmpV, Mi.truV, Mi.mthV, Mi.recvOk, Mi.listOf, Mi.seqOf, Mi.dOf, Mi.cellL, Mi.srcOf, Mi.srcOk, Mi.setTg, Mi.setAll, Mi.mkL, Mi.toDs, Mi.In_len, Mi.In_app, Mi.In_one, Mi.In_drop, Mi.In_rev, Mi.In_emp, Mi.In_nl, Mi.In_get, Mi.toDs_In, eqD, depOk, PyData.depth, h]
    have A : evE (callN pr (n + 2)) (.lst false (.cons (.lit .none) (.cons (.lit (.int 0)) (.cons (.neg (.lit (.int 1))) (.cons (.bin false .Pow (.lit (.int 10)) (.lit (.int 19))) (.cons (.bin false .Add (.bin false .Sub (.lit (.int 0)) (.bin false .Pow (.lit (.int 10)) (.lit (.int 20)))) (.lit (.int 1))) .nil)))))) (eT dep k none) [Dc is] = .ok (.d (.list picksT)) [Dc is] := by
      have p1 : powOk 10 19 = true := by decide
      have p2 : powOk 10 20 = true := by decide
      simp [Mi.runF, Mi.evSs, Mi.evS, Mi.evE, Mi.evT, Mi.evP, Mi.evEs, Mi.evIt, Mi.lift, Mi.bltV, Mi.intV, Mi.lenV, Mi.binV, Mi.intOp, Mi.cmpV, Mi.truV, Mi.mthV, Mi.recvOk, Mi.listOf, Mi.seqOf, Mi.dOf, Mi.cellL, Mi.srcOf, Mi.srcOk, Mi.setTg, Mi.setAll, Mi.mkL, Mi.toDs, Mi.In_len, Mi.In_app, Mi.In_one, Mi.In_drop, Mi.In_rev, Mi.In_emp, Mi.In_nl, Mi.In_get, Mi.toDs_In, p1, p2, picksT]
    show evS (callN pr (n + 2)) (.ite (.val (.cmp .Eq (.var 2) (.lit (.int 1)))) (.cons (.ret (.call 6 false (.cons (.var 0) (.cons _ .nil)))) .nil) .nil) _ _ = _
    generalize (E.lst false _) = C at A ⊢
    simp only [evS, evSs, evE, evEs, T, toS_ok, if_true, lift, List.getElem?_cons_zero, Option.join_some, bind_ok, A, e]
theorem tD_c {k : Int} (bd : Bd is) : (∃ t is', evS (callN pr (n + 2)) dD (eT dep k none) [Dc is] = .ok (.ret (.d t)) [Dc is'] ∧ Leaf t ∧ Bd is') ∨ (¬ k < 5 ∧ evS (callN pr (n + 2)) dD (eT dep k none) [Dc is] = .ok (.nx (eT dep k none)) [Dc is]) := by
  by_cases h : k < 5
  · left
    have n1 := next0 (n := n + 1) (mu := false) is
    have n2 := next0 (n := n + 1) (mu := false) is.dropLast
    have b1 := Bd_next bd
    have m1 : mulOk 100 ((nextI is.dropLast).fmod 7) = true := rfl
    have f1 := Int.fmod_nonneg_of_pos (nextI is.dropLast) (show (0 : Int) < 7 by decide)
    have f2 := Int.fmod_lt_of_pos (nextI is.dropLast) (show (0 : Int) < 7 by decide)
    refine ⟨.int (nextI is - 100 * (nextI is.dropLast).fmod 7), is.dropLast.dropLast, by simp [Mi.runF, Mi.evSs, Mi.evS, Mi.evE, Mi.evT, Mi.evP, Mi.evEs, Mi.evIt, Mi.lift, Mi.bltV, Mi.intV, Mi.lenV, Mi.binV, Mi.intOp, Mi.cmpV, Mi.truV, Mi.mthV, Mi.recvOk, Mi.listOf, Mi.seqOf, Mi.dOf, Mi.cellL, Mi.srcOf, Mi.srcOk, Mi.setTg, Mi.setAll, Mi.mkL, Mi.toDs, Mi.In_len, Mi.In_app, Mi.In_one, Mi.In_drop, Mi.In_rev, Mi.In_emp, Mi.In_nl, Mi.In_get, Mi.toDs_In, dD, b_law_term, h, n1, n2, m1], .inr (.inl ⟨_, rfl, ?_⟩), Bd_drop (Bd_drop bd)⟩
    have : (10 : Nat) ^ 20 = 100000000000000000000 := by decide
    rw [this]
    omega
  · right
    exact ⟨h, by simp [Mi.runF, Mi.evSs, Mi.evS, Mi.evE, Mi.evT, Mi.evP, Mi.evEs, Mi.evIt, Mi.lift, Mi.bltV, Mi.intV, Mi.lenV, Mi.binV, Mi.intOp, Mi.cmpV, Mi.truV, Mi.mthV, Mi.recvOk, Mi.listOf, Mi.seqOf, Mi.dOf, Mi.cellL, Mi.srcOf, Mi.srcOk, Mi.setTg, Mi.setAll, Mi.mkL, Mi.toDs, Mi.In_len, Mi.In_app, Mi.In_one, Mi.In_drop, Mi.In_rev, Mi.In_emp, Mi.In_nl, Mi.In_get, Mi.toDs_In, dD, b_law_term, h]⟩
end
theorem law_term_c (n : Nat) : ∀ (k dep : Nat), k + dep = 4 → ∀ is, Bd is → ∃ t is', callN pr (n + k + 3) 7 [.ref 0, .d (.int (dep : Int))] [Dc is] = .ok (.d t) [Dc is'] ∧ Tm k t ∧ Bd is' := by
  intro k
  induction k with
  | zero =>
    intro dep hk is bd
    rw [callN_eq (fd := ⟨2, 5, b_law_term⟩) rfl, b_lterm]
    obtain ⟨kd, EA, hk5⟩ := tA_c (n := n + 1) (is := is) (dep := dep) (by omega)
    have EB := tB_c (n := n + 1) (dep := dep) (k := kd) (Bd_drop bd)
    have EC := tC_c (n := n) (dep := dep) (k := kd) (Bd_drop bd)
    have ED := tD_c (n := n) (dep := dep) (k := kd) (Bd_drop bd)
    rcases EB with ⟨t, is', EB, lf, b⟩ | EB
    · exact ⟨t, is', by simp [runF, List.replicate, evSs, EA, EB], lf, b⟩
    rcases EC with ⟨t, is', EC, lf, b⟩ | EC
    · exact ⟨t, is', by simp [runF, List.replicate, evSs, EA, EB, EC], lf, b⟩
    rcases ED with ⟨t, is', ED, lf, b⟩ | ⟨h5, ED⟩
    · exact ⟨t, is', by simp [runF, List.replicate, evSs, EA, EB, EC, ED], lf, b⟩
    · exact absurd (hk5 (by omega)) h5
  | succ k ih =>
    intro dep hk is bd
    rw [show n + (k + 1) + 3 = (n + k + 3) + 1 by omega, callN_eq (fd := ⟨2, 5, b_law_term⟩) rfl, b_lterm]
    obtain ⟨kd, EA, hk5⟩ := tA_c (n := n + k + 2) (is := is) (dep := dep) (by omega)
    have EB := tB_c (n := n + k + 2) (dep := dep) (k := kd) (Bd_drop bd)
    have EC := tC_c (n := n + k + 1) (dep := dep) (k := kd) (Bd_drop bd)
    have ED := tD_c (n := n + k + 1) (dep := dep) (k := kd) (Bd_drop bd)
    rw [show n + k + 2 + 1 = n + k + 3 from rfl] at EA EB
    rw [show n + k + 1 + 2 = n + k + 3 from rfl] at EC ED
    rcases EB with ⟨t, is', EB, lf, b⟩ | EB
    · exact ⟨t, is', by simp [runF, List.replicate, evSs, EA, EB], .inl lf, b⟩
    rcases EC with ⟨t, is', EC, lf, b⟩ | EC
    · exact ⟨t, is', by simp [runF, List.replicate, evSs, EA, EB, EC], .inl lf, b⟩
    rcases ED with ⟨t, is', ED, lf, b⟩ | ⟨h5, ED⟩
    · exact ⟨t, is', by simp [runF, List.replicate, evSs, EA, EB, EC, ED], .inl lf, b⟩
    have nx := next0 (n := n + k + 2) (mu := false) is.dropLast
    have pl := place_lt (v := nextI is.dropLast) (n := 4) (by decide)
    have fm := fmod_place (v := nextI is.dropLast) (n := 4) (by decide)
    have hr : rngOk ((placeI (nextI is.dropLast) 4 : Nat) : Int) = true := Nat.ble_eq_true_of_le (by simp; omega)
    have hi : evIt (callN pr (n + k + 3)) (.rng1 (.bin false .Mod (.blt .int (.cons (.call 4 false (.cons (.var 0) .nil)) .nil)) (.lit (.int 4)))) (eT dep kd none) [Dc is.dropLast] = .ok (rngFrom 0 (placeI (nextI is.dropLast) 4), none) [Dc is.dropLast.dropLast] := by
      rw [show ((4 : Nat) : Int) = 4 from rfl] at fm
      simp [Mi.runF, Mi.evSs, Mi.evS, Mi.evE, Mi.evT, Mi.evP, Mi.evEs, Mi.evIt, Mi.lift, Mi.bltV, Mi.intV, Mi.lenV, Mi.binV, Mi.intOp, Mi.cmpV, Mi.truV, Mi.mthV, Mi.recvOk, Mi.listOf, Mi.seqOf, Mi.dOf, Mi.cellL, Mi.srcOf, Mi.srcOk, Mi.setTg, Mi.setAll, Mi.mkL, Mi.toDs, Mi.In_len, Mi.In_app, Mi.In_one, Mi.In_drop, Mi.In_rev, Mi.In_emp, Mi.In_nl, Mi.In_get, Mi.toDs_In, nx, fm, hr]
    obtain ⟨ds, h2, e, ⟨is', rfl, bd'⟩, p, l⟩ := comp_chg (Φ := callN pr (n + k + 3)) (e := .call 7 false (.cons (.var 0) (.cons (.bin false .Add (.var 1) (.lit (.int 1))) .nil))) (i := 4) (env := eT dep kd none) QD (Tm k) hi (by rw [rng_len]; omega) ⟨_, rfl, Bd_drop (Bd_drop bd)⟩ (by
      rintro w hw h ⟨is, rfl, bd⟩
      obtain ⟨t, is', e, ht, b⟩ := ih (dep + 1) (by omega) is bd
      have cw : callW (callN pr (n + k + 3)) false 7 [.ref 0, .d (.int ((dep : Int) + 1))] [Dc is] = .ok (.d t) [Dc is'] := callW_cell (i := 0) (ds := [.int ((dep : Int) + 1)]) (h := [Dc is]) rfl (flat_Dc _) e (flat_Dc _)
      exact ⟨t, [Dc is'], by simp [Mi.runF, Mi.evSs, Mi.evS, Mi.evE, Mi.evT, Mi.evP, Mi.evEs, Mi.evIt, Mi.lift, Mi.bltV, Mi.intV, Mi.lenV, Mi.binV, Mi.intOp, Mi.cmpV, Mi.truV, Mi.mthV, Mi.recvOk, Mi.listOf, Mi.seqOf, Mi.dOf, Mi.cellL, Mi.srcOf, Mi.srcOk, Mi.setTg, Mi.setAll, Mi.mkL, Mi.toDs, Mi.In_len, Mi.In_app, Mi.In_one, Mi.In_drop, Mi.In_rev, Mi.In_emp, Mi.In_nl, Mi.In_get, Mi.toDs_In, cw], ⟨_, rfl, b⟩, ht⟩)
    rw [rng_len] at l
    refine ⟨.tuple ds, is', ?_, .inr ⟨ds, rfl, by omega, p⟩, bd'⟩
    have ER : evS (callN pr (n + k + 3)) (.ret (.blt .tuple (.cons b_law_term_c2 .nil))) (eT dep kd none) [Dc is.dropLast] = .ok (.ret (.d (.tuple ds))) [Dc is'] := by
      rw [← b_law_term_c2] at e
      have td := toDs_map ds
      simp only [evS, evE, evEs, e, bind_ok, bltV, tupV, Mi.listOf, Option.bind_some, td, Option.map_some, lift, toS_ok]
    simp [runF, List.replicate, evSs, EA, EB, EC, ED, ER]
end K20

set_option maxRecDepth 100000
set_option maxHeartbeats 1000000
namespace K20
open PySem L2 Mi TL
abbrev Φ0 : Nat → List W → M W := callN pr 59
/-! ### where a reading stops is near -/
def Near (p : Nat) (l : List Nat) (r : Rd) : Prop := ∀ q, r = .bad q → q ≤ p + l.length + 21
theorem near_int2 {m : Bool} {s : Nat} {r : List Nat} : ∀ q, pInt2 m s r = .bad q → q ≤ s + 20 := by
  intro q e
  unfold pInt2 at e
  split at e
  · cases e; omega
  split at e
  · cases e; omega
  split at e
  · cases e; omega
  · cases e
theorem near_rest {p : Nat} {l : List Nat} : Near p l (pRest p l) := by
  intro q e
  unfold pRest at e
  split at e
  · cases e
  split at e
  · cases e
  unfold pInt at e
  split at e
  · have := near_int2 q e; omega
  · have := near_int2 q e; omega
theorem near_loop {f : Nat → List Nat → Rd} {k : Nat} (hf : ∀ p l, Fed k p l (f p l)) (hn : ∀ p l, Near p l (f p l)) : ∀ (n p : Nat) (l : List Nat) (acc : List PyData), Near p l (pLoop f n p l acc)
  | 0, p, l, acc => by
    intro q e
    cases e
    omega
  | n + 1, p, l, acc => by
    intro q e
    unfold pLoop at e
    split at e
    · cases e
    split at e
    · cases e; omega
    rename_i h1 h2
    have go : ∀ p2 (l2 : List Nat), p2 + l2.length ≤ p + l.length → (match f p2 l2 with | .bad q => (.bad q : Rd) | .ok v q l' => pLoop f n q l' (acc ++ [v])) = .bad q → q ≤ p + l.length + 21 := by
      intro p2 l2 h e
      cases hx : f p2 l2 with
      | bad q2 =>
        rw [hx] at e
        cases e
        have := hn p2 l2 q hx
        omega
      | ok v q2 l3 =>
        rw [hx] at e
        obtain ⟨j, a1, a2, a3, a4, _⟩ := hf p2 l2 v q2 l3 hx
        have := near_loop hf hn n q2 l3 (acc ++ [v]) q e
        rw [a4, List.length_drop] at this
        omega
    refine go _ _ ?_ e
    cases ha : acc.isEmpty with
    | true => simp
    | false =>
      rw [ha] at h2
      simp only [Bool.not_false, Bool.true_and, Bool.not_eq_true', Bool.not_eq_false] at h2
      obtain ⟨c, r, rfl, _⟩ := hd_cons h2
      simp
      omega
theorem near_term (F : Nat) : ∀ (k p : Nat) (l : List Nat), Near p l (pTerm F k p l)
  | 0, p, l => by
    unfold pTerm
    split
    · intro q e; cases e; omega
    · exact near_rest
  | k + 1, p, l => by
    unfold pTerm
    split
    · rename_i h
      obtain ⟨c, r, rfl, _⟩ := hd_cons h
      intro q e
      have := near_loop (fed_term F k) (near_term F k) F (p + 1) r [] q e
      simp
      omega
    · exact near_rest
/-! ### repr -/
theorem list_len (ts : List Str) : (listText ts).length ≤ piled ts + 2 := by
  rw [listText_eq_join, strLen_append, strLen_append]
  have e1 : ((("[" : String) : Str)).length = 1 := rfl
  have e3 : ((("]" : String) : Str)).length = 1 := rfl
  by_cases h : ts = []
  · subst h
    have : (Str.join ", " []).length = 0 := by decide +kernel
    omega
  · have := join_length_add ts h
    omega
theorem sh_two {s : Str} {v : PyData} (hs : (reprText s).length ≤ 10) (h1 : v.showable = true) (h2 : v.depth ≤ 50) (h3 : v.shown.length ≤ 1000000) : shOk (.list [.str s, v]) = true := by
  have l := list_len (PyData.shownAll [.str s, v])
  simp only [PyData.shownAll, piled_cons, piled_nil] at l
  have : (PyData.shown (.str s)).length ≤ 10 := hs
  unfold shOk
  rw [Bool.and_eq_true, Bool.and_eq_true]
  refine ⟨⟨?_, ?_⟩, ?_⟩
  · simp [PyData.showable, PyData.showableAll, h1]
  · refine Nat.ble_eq_true_of_le ?_
    simp only [PyData.depth, PyData.depthAll]
    omega
  · refine Nat.ble_eq_true_of_le ?_
    show (listText (PyData.shownAll [.str s, v])).length ≤ _
    simp only [PyData.shownAll]
    omega
theorem sh_nat {q : Nat} (h : q < 10 ^ 20) : (PyData.int (q : Int)).showable = true ∧ (PyData.int (q : Int)).shown.length ≤ 1000000 := by
  have := fine_int (i := (q : Int)) (k := 0) (n := 1) (by decide) (by simpa using h)
  exact ⟨this.1, by have := this.2.2; omega⟩
theorem r_bad : (reprText "bad").length ≤ 10 := by decide +kernel
theorem r_term : (reprText "term").length ≤ 10 := by decide +kernel
theorem due_sh {z : Str} (hz : z.length ≤ 10000) : shOk (dueD z) = true := by
  unfold dueD
  have F := fed_term (z.length + 1) 12 0 (tl z)
  have N := near_term (z.length + 1) 12 0 (tl z)
  have := len_tl z
  have t20 : (10 : Nat) ^ 20 = 100000000000000000000 := by decide
  cases hx : pTerm (z.length + 1) 12 0 (tl z) with
  | bad q =>
    have := N q hx
    obtain ⟨a, b⟩ := sh_nat (q := q) (by omega)
    exact sh_two r_bad a (by simp [PyData.depth]) b
  | ok v q l =>
    obtain ⟨j, a1, a2, a3, a4, ⟨f1, f2, f3⟩, a6⟩ := F v q l hx
    obtain ⟨a, b⟩ := sh_nat (q := q) (by omega)
    show shOk (if l.isEmpty then .list [.str "term", v] else .list [.str "bad", .int q]) = true
    split
    · exact sh_two r_term f1 (by omega) (by omega)
    · exact sh_two r_bad a (by simp [PyData.depth]) b
theorem repr_w {d : PyData} {h : MH} (s : shOk d = true) : reprV [.d d] h = .ok (.d (.str d.shown)) h := by
  simp [reprV, dOf, s]
theorem told_e {z : Str} (hz : z.length ≤ 10000) (hd : 100 ∉ tl z) {i : Nat} {env : Ev} {h : MH} (hi : env[i]? = some (some (.d (.str z)))) : evE Φ0 (.blt .repr (.cons (.call 13 false (.cons (.var i) .nil)) .nil)) env h = .ok (.d (.str (dueD z).shown)) h := by
  have w := told_w (n := 28) hz hd (mu := false) h
  have r := repr_w (h := h) (due_sh hz)
  simp only [evE, evEs, lift, hi, Option.join_some, bind_ok, w, bltV, r]
theorem due_e {z : Str} (hz : z.length ≤ 10000) (hd : 100 ∉ tl z) {i : Nat} {env : Ev} {h : MH} (hi : env[i]? = some (some (.d (.str z)))) : evE Φ0 (.blt .repr (.cons (.call 12 false (.cons (.var i) .nil)) .nil)) env h = .ok (.d (.str (dueD z).shown)) h := by
  have w := due_w (n := 32) hz hd (mu := false) h
  have r := repr_w (h := h) (due_sh hz)
  simp only [evE, evEs, lift, hi, Option.join_some, bind_ok, w, bltV, r]
theorem ne_self (a : Str) (h : MH) : cmpV .NotEq (.d (.str a)) (.d (.str a)) h = some false := by
  rw [ne_s, eqv_str]
  simp
/-! ### no d in a text of a drawn term -/
theorem join_mem2 {s : Str} {c : Nat} : ∀ {ys : List Str}, c ∈ tl (Str.join s ys) → c ∈ tl s ∨ ∃ y ∈ ys, c ∈ tl y
  | [], h => by
    have : tl (Str.join s []) = [] := rfl
    rw [this] at h
    simp at h
  | [y], h => .inr ⟨y, by simp, h⟩
  | x :: y :: r, h => by
    have h' : c ∈ tl (x ++ s ++ Str.join s (y :: r)) := h
    rcases app_mem.mp h' with z | z
    · rcases app_mem.mp z with z | z
      · exact .inr ⟨x, by simp, z⟩
      · exact .inl z
    · rcases join_mem2 z with z | ⟨u, hu, hc⟩
      · exact .inl z
      · exact .inr ⟨u, List.mem_cons_of_mem _ hu, hc⟩
theorem leaf_d {d : PyData} (h : Leaf d) : 100 ∉ tl (txt d) := by
  rcases h with rfl | ⟨i, rfl, hi⟩ | ⟨w, rfl, hw, hc, hn⟩
  · decide +kernel
  · show 100 ∉ tl (Str.ofString (toString i))
    by_cases h0 : 0 ≤ i
    · obtain ⟨m, rfl⟩ := Int.eq_ofNat_of_zero_le h0
      rw [tl_num]
      exact numL_free (by decide)
    · have e : i = -((i.natAbs : Nat) : Int) := by omega
      rw [e, tl_neg _ (by omega), List.mem_cons]
      rintro (z | z)
      · cases z
      · exact numL_free (by decide) z
  · show 100 ∉ tl (if decide (w = "") then ("." : Str) else w)
    split
    · decide +kernel
    · intro z
      have := hc 100 z
      revert this
      decide
theorem tm_d : ∀ (k : Nat) (d : PyData), Tm k d → 100 ∉ tl (txt d) := by
  intro k
  induction k with
  | zero => intro d h; exact leaf_d h
  | succ k ih =>
    intro d h
    rcases h with h | ⟨xs, rfl, hl, hx⟩
    · exact leaf_d h
    · show 100 ∉ tl (("(" : Str) ++ Txt.join " " (txtL xs) ++ (")" : Str))
      rw [tl_append, tl_append, tl_open, tl_shut, TL.join_eq]
      intro z
      simp only [List.mem_append, List.mem_singleton] at z
      rcases z with (z | z) | z
      · cases z
      · rcases join_mem2 z with z | ⟨y, hy, hc⟩
        · rw [tl_spc] at z
          revert z
          decide
        · rw [txtL_map] at hy
          obtain ⟨x, hm, rfl⟩ := List.mem_map.mp hy
          exact ih x (hx x hm) hc
      · cases z
end K20

set_option maxRecDepth 100000
set_option maxHeartbeats 1000000
namespace K20
open PySem L2 Mi TL
section
variable {c0 : Cell} {is : List Int}
theorem next1 {n : Nat} {mu : Bool} : callW (callN pr (n + 1)) mu 4 [.ref 1] [c0, Dc is] = .ok (.d (.int (nextI is))) [c0, Dc is.dropLast] := next_w (i := 1) (h := [c0, Dc is]) rfl is rfl
theorem pick1 {n : Nat} {mu : Bool} {ds : List PyData} (hd : 0 < ds.length) : ∃ x ∈ ds, callW (callN pr (n + 2)) mu 6 [.ref 1, .d (.list ds)] [c0, Dc is] = .ok (.d x) [c0, Dc is.dropLast] :=
  ⟨_, List.getElem_mem (place_lt hd), pick_w (i := 1) (g := 4) (h := [c0, Dc is]) rfl rfl is hd rfl⟩
theorem cut_sub {z : Str} {a b : Option Int} {c : Nat} (h : c ∈ tl (cutS z a b)) : c ∈ tl z := List.mem_of_mem_drop (List.mem_of_mem_take h)
def spoils : List Str := ["", " ", "(", ")", "-", "0", "7", "a", ".", "A", "_", "\t"]
theorem spoils_ok : ∀ s ∈ spoils, s.length ≤ 1 ∧ 100 ∉ tl s := by decide +kernel
def Z1 : S := match b_law_f1 with
  | .cons a _ => a
  | _ => .pass
def Z2 : S := match b_law_f1 with
  | .cons _ (.cons a _) => a
  | _ => .pass
def Z3 : S := match b_law_f1 with
  | .cons _ (.cons _ (.cons a _)) => a
  | _ => .pass
def Z4 : S := match b_law_f1 with
  | .cons _ (.cons _ (.cons _ (.cons a _))) => a
  | _ => .pass
def Z5 : S := match b_law_f1 with
  | .cons _ (.cons _ (.cons _ (.cons _ (.cons a _)))) => a
  | _ => .pass
theorem b_f1 : b_law_f1 = .cons Z1 (.cons Z2 (.cons Z3 (.cons Z4 (.cons Z5 .nil)))) := rfl
theorem f1_ok {e0 e2 e3 e4 e5 e6 e8 e9 e10 e11 e12 : Option W} {z : Str} (hz : z.length ≤ 2000) (hd : 100 ∉ tl z) (bd : Bd is) :
    ∃ e9' e10' e11' e12' is', evSs Φ0 b_law_f1 [e0, some (.ref 1), e2, e3, e4, e5, e6, some (.d (.str z)), e8, e9, e10, e11, e12] [c0, Dc is] = .ok (.nx [e0, some (.ref 1), e2, e3, e4, e5, e6, some (.d (.str z)), e8, e9', e10', e11', e12']) [c0, Dc is'] ∧ Bd is' := by
  have n1 := next1 (c0 := c0) (is := is) (n := 58) (mu := false)
  have n2 := next1 (c0 := c0) (is := is.dropLast) (n := 58) (mu := false)
  have lw : lineOk z.length = true := Nat.ble_eq_true_of_le (by omega)
  have hl : ((z.length : Int) + 1) ≠ 0 := by omega
  obtain ⟨x, hx, pk⟩ := pick1 (c0 := c0) (is := is.dropLast.dropLast) (n := 57) (mu := false) (ds := spoils.map .str) (by simp [spoils])
  obtain ⟨sg, hsg, rfl⟩ := List.mem_map.mp hx
  obtain ⟨sl, sd⟩ := spoils_ok sg hsg
  have A1 : evS Φ0 Z1 [e0, some (.ref 1), e2, e3, e4, e5, e6, some (.d (.str z)), e8, e9, e10, e11, e12] [c0, Dc is] = .ok (.nx [e0, some (.ref 1), e2, e3, e4, e5, e6, some (.d (.str z)), e8, some (.d (.int ((nextI is).fmod (z.length + 1)))), e10, e11, e12]) [c0, Dc is.dropLast] := by
    simp [Mi.runF, Mi.evSs, Mi.evS, Mi.evE, Mi.evT, Mi.evP, Mi.evEs, Mi.evIt, Mi.lift, Mi.bltV, Mi.intV, Mi.lenV, Mi.binV, Mi.intOp, Mi.cmpV, Mi.truV, Mi.mthV, Mi.recvOk, Mi.listOf, Mi.seqOf, Mi.dOf, Mi.cellL, Mi.srcOf, Mi.srcOk, Mi.setTg, Mi.setAll, Mi.mkL, Mi.toDs, Mi.In_len, Mi.In_app, Mi.In_one, Mi.In_drop, Mi.In_rev, Mi.In_emp, Mi.In_nl, Mi.In_get, Mi.toDs_In, Z1, b_law_f1, n1, lw, hl]
  generalize (nextI is).fmod (z.length + 1) = a at A1
  have A2 : evS Φ0 Z2 [e0, some (.ref 1), e2, e3, e4, e5, e6, some (.d (.str z)), e8, some (.d (.int a)), e10, e11, e12] [c0, Dc is.dropLast] = .ok (.nx [e0, some (.ref 1), e2, e3, e4, e5, e6, some (.d (.str z)), e8, some (.d (.int a)), some (.d (.int ((nextI is.dropLast).fmod 2))), e11, e12]) [c0, Dc is.dropLast.dropLast] := by
    simp [Mi.runF, Mi.evSs, Mi.evS, Mi.evE, Mi.evT, Mi.evP, Mi.evEs, Mi.evIt, Mi.lift, Mi.bltV, Mi.intV, Mi.lenV, Mi.binV, Mi.intOp, Mi.cmpV, Mi.truV, Mi.mthV, Mi.recvOk, Mi.listOf, Mi.seqOf, Mi.dOf, Mi.cellL, Mi.srcOf, Mi.srcOk, Mi.setTg, Mi.setAll, Mi.mkL, Mi.toDs, Mi.In_len, Mi.In_app, Mi.In_one, Mi.In_drop, Mi.In_rev, Mi.In_emp, Mi.In_nl, Mi.In_get, Mi.toDs_In, Z2, b_law_f1, n2]
  generalize (nextI is.dropLast).fmod 2 = b at A2
  have A3 : evS Φ0 Z3 [e0, some (.ref 1), e2, e3, e4, e5, e6, some (.d (.str z)), e8, some (.d (.int a)), some (.d (.int b)), e11, e12] [c0, Dc is.dropLast.dropLast] = .ok (.nx [e0, some (.ref 1), e2, e3, e4, e5, e6, some (.d (.str z)), e8, some (.d (.int a)), some (.d (.int b)), some (.d (.str sg)), e12]) [c0, Dc is.dropLast.dropLast.dropLast] := by
    simp only [spoils, List.map_cons, List.map_nil] at pk
    simp [Mi.runF, Mi.evSs, Mi.evS, Mi.evE, Mi.evT, Mi.evP, Mi.evEs, Mi.evIt, Mi.lift, Mi.bltV, Mi.intV, Mi.lenV, Mi.binV, Mi.intOp, Mi.cmpV, Mi.truV, Mi.mthV, Mi.recvOk, Mi.listOf, Mi.seqOf, Mi.dOf, Mi.cellL, Mi.srcOf, Mi.srcOk, Mi.setTg, Mi.setAll, Mi.mkL, Mi.toDs, Mi.In_len, Mi.In_app, Mi.In_one, Mi.In_drop, Mi.In_rev, Mi.In_emp, Mi.In_nl, Mi.In_get, Mi.toDs_In, Z3, b_law_f1, pk]
  have bd' : Bd is.dropLast.dropLast.dropLast := Bd_drop (Bd_drop (Bd_drop bd))
  generalize is.dropLast.dropLast.dropLast = is' at A3 bd'
  have x1 := cutS_length z none (some a)
  have x2 := cutS_length z (some (a + b)) none
  have x3 : 100 ∉ tl (cutS z none (some a)) := fun h => hd (cut_sub h)
  have x4 : 100 ∉ tl (cutS z (some (a + b)) none) := fun h => hd (cut_sub h)
  have s1 : sliceV (.d (.str z)) none (some a) [c0, Dc is'] = some (.d (.str (cutS z none (some a)))) := by simp [sliceV, lw]
  have s2 : sliceV (.d (.str z)) (some (a + b)) none [c0, Dc is'] = some (.d (.str (cutS z (some (a + b)) none))) := by simp [sliceV, lw]
  generalize cutS z none (some a) = X at x1 x3 s1
  generalize cutS z (some (a + b)) none = Y at x2 x4 s2
  have p1 := add_str (a := X) (b := sg) (h := [c0, Dc is']) (by omega)
  have p2 := add_str (a := X ++ sg) (b := Y) (h := [c0, Dc is']) (by rw [strLen_append]; omega)
  have A4 : evS Φ0 Z4 [e0, some (.ref 1), e2, e3, e4, e5, e6, some (.d (.str z)), e8, some (.d (.int a)), some (.d (.int b)), some (.d (.str sg)), e12] [c0, Dc is'] = .ok (.nx [e0, some (.ref 1), e2, e3, e4, e5, e6, some (.d (.str z)), e8, some (.d (.int a)), some (.d (.int b)), some (.d (.str sg)), some (.d (.str (X ++ sg ++ Y)))]) [c0, Dc is'] := by
    have p3 : binV false .Add (.d (.int a)) (.d (.int b)) [c0, Dc is'] = .ok (.d (.int (a + b))) [c0, Dc is'] := rfl
    show evS Φ0 (.set 12 (.bin false .Add (.bin false .Add (.slice (.var 7) .no (.at (.var 9))) (.var 11)) (.slice (.var 7) (.at (.bin false .Add (.var 9) (.var 10))) .no))) _ _ = _
    simp only [evS, evE, evP, lift, List.getElem?_cons_zero, List.getElem?_cons_succ, Option.join_some, bind_ok, s1, s2, p1, p2, p3, toS_ok, List.set_cons_zero, List.set_cons_succ]
  have y1 : (X ++ sg ++ Y).length ≤ 10000 := by rw [strLen_append, strLen_append]; omega
  have y2 : 100 ∉ tl (X ++ sg ++ Y) := by
    rw [tl_append, tl_append, List.mem_append, List.mem_append]
    rintro ((q | q) | q)
    · exact x3 q
    · exact sd q
    · exact x4 q
  generalize X ++ sg ++ Y = sp at A4 y1 y2
  have A5 : evS Φ0 Z5 [e0, some (.ref 1), e2, e3, e4, e5, e6, some (.d (.str z)), e8, some (.d (.int a)), some (.d (.int b)), some (.d (.str sg)), some (.d (.str sp))] [c0, Dc is'] = .ok (.nx [e0, some (.ref 1), e2, e3, e4, e5, e6, some (.d (.str z)), e8, some (.d (.int a)), some (.d (.int b)), some (.d (.str sg)), some (.d (.str sp))]) [c0, Dc is'] := by
    have t1 := told_e y1 y2 (i := 12) (env := [e0, some (.ref 1), e2, e3, e4, e5, e6, some (.d (.str z)), e8, some (.d (.int a)), some (.d (.int b)), some (.d (.str sg)), some (.d (.str sp))]) (h := [c0, Dc is']) rfl
    have t2 := due_e y1 y2 (i := 12) (env := [e0, some (.ref 1), e2, e3, e4, e5, e6, some (.d (.str z)), e8, some (.d (.int a)), some (.d (.int b)), some (.d (.str sg)), some (.d (.str sp))]) (h := [c0, Dc is']) rfl
    have ne := ne_self (dueD sp).shown [c0, Dc is']
    generalize (dueD sp).shown = R at t1 t2 ne
    have ni : cmpV .NotIn (.d (.str "bad")) (.d (.str sp)) [c0, Dc is'] = some (!strIn "bad" sp) := rfl
    show evS Φ0 (.ite (.and (.val (.cmp .NotIn (.lit (.str "bad")) (.var 12))) (.val (.cmp .NotEq (.blt .repr (.cons (.call 13 false (.cons (.var 12) .nil)) .nil)) (.blt .repr (.cons (.call 12 false (.cons (.var 12) .nil)) .nil))))) _ .nil) _ _ = _
    generalize (E.blt .repr (.cons (.call 13 false (.cons (.var 12) .nil)) .nil)) = C1 at t1 ⊢
    generalize (E.blt .repr (.cons (.call 12 false (.cons (.var 12) .nil)) .nil)) = C2 at t2 ⊢
    generalize strIn "bad" sp = k at ni
    cases k <;> simp only [evS, evSs, evT, evE, lift, List.getElem?_cons_zero, List.getElem?_cons_succ, Option.join_some, bind_ok, toS_ok, ni, ne, t1, t2, Option.map_some, truV, Bool.not_true, Bool.not_false, Bool.false_eq_true, if_false, if_true]
  exact ⟨_, _, _, _, is', by rw [b_f1]; simp only [evSs, A1, A2, A3, A4, A5] <;> rfl, bd'⟩
def Y1 : S := match b_law_f2 with
  | .cons a _ => a
  | _ => .pass
def Y2 : S := match b_law_f2 with
  | .cons _ (.cons a _) => a
  | _ => .pass
def Y3 : S := match b_law_f2 with
  | .cons _ (.cons _ (.cons a _)) => a
  | _ => .pass
def Y4 : S := match b_law_f2 with
  | .cons _ (.cons _ (.cons _ (.cons a _))) => a
  | _ => .pass
theorem b_f2 : b_law_f2 = .cons Y1 (.cons Y2 (.cons Y3 (.cons Y4 (.cons (.for [8] false (.rng1 (.lit (.int 5))) b_law_f1) .nil)))) := rfl
theorem f2_ok {e0 e2 e3 e4 e5 e6 e7 e8 e9 e10 e11 e12 : Option W} (bd : Bd is) :
    ∃ e6' e7' e8' e9' e10' e11' e12' is', evSs Φ0 b_law_f2 [e0, some (.ref 1), e2, e3, e4, e5, e6, e7, e8, e9, e10, e11, e12] [c0, Dc is] = .ok (.nx [e0, some (.ref 1), e2, e3, e4, e5, e6', e7', e8', e9', e10', e11', e12']) [c0, Dc is'] ∧ Bd is' := by
  obtain ⟨t, is1, et, ht, bd1⟩ := law_term_c 52 4 0 rfl is bd
  have cw : callW Φ0 false 7 [.ref 1, .d (.int 0)] [c0, Dc is] = .ok (.d t) [c0, Dc is1] := callW_cell (i := 1) (ds := [.int 0]) (h := [c0, Dc is]) rfl (flat_Dc _) et (flat_Dc _)
  have A1 : evS Φ0 Y1 [e0, some (.ref 1), e2, e3, e4, e5, e6, e7, e8, e9, e10, e11, e12] [c0, Dc is] = .ok (.nx [e0, some (.ref 1), e2, e3, e4, e5, some (.d t), e7, e8, e9, e10, e11, e12]) [c0, Dc is1] := by
    simp [Mi.runF, Mi.evSs, Mi.evS, Mi.evE, Mi.evT, Mi.evP, Mi.evEs, Mi.evIt, Mi.lift, Mi.bltV, Mi.intV, Mi.lenV, Mi.binV, Mi.intOp, Mi.cmpV, Mi.truV, Mi.mthV, Mi.recvOk, Mi.listOf, Mi.seqOf, Mi.dOf, Mi.cellL, Mi.srcOf, Mi.srcOk, Mi.setTg, Mi.setAll, Mi.mkL, Mi.toDs, Mi.In_len, Mi.In_app, Mi.In_one, Mi.In_drop, Mi.In_rev, Mi.In_emp, Mi.In_nl, Mi.In_get, Mi.toDs_In, Y1, b_law_f2, cw]
  have lt := law_text_w 54 4 t (mu := false) [c0, Dc is1] ht (by decide)
  have A2 : evS Φ0 Y2 [e0, some (.ref 1), e2, e3, e4, e5, some (.d t), e7, e8, e9, e10, e11, e12] [c0, Dc is1] = .ok (.nx [e0, some (.ref 1), e2, e3, e4, e5, some (.d t), some (.d (.str (txt t))), e8, e9, e10, e11, e12]) [c0, Dc is1] := by
    simp [Mi.runF, Mi.evSs, Mi.evS, Mi.evE, Mi.evT, Mi.evP, Mi.evEs, Mi.evIt, Mi.lift, Mi.bltV, Mi.intV, Mi.lenV, Mi.binV, Mi.intOp, Mi.cmpV, Mi.truV, Mi.mthV, Mi.recvOk, Mi.listOf, Mi.seqOf, Mi.dOf, Mi.cellL, Mi.srcOf, Mi.srcOk, Mi.setTg, Mi.setAll, Mi.mkL, Mi.toDs, Mi.In_len, Mi.In_app, Mi.In_one, Mi.In_drop, Mi.In_rev, Mi.In_emp, Mi.In_nl, Mi.In_get, Mi.toDs_In, Y2, b_law_f2, lt]
  have tt := term_text_w 54 4 t (mu := false) [c0, Dc is1] ht (by decide)
  have zl : (txt t).length ≤ 2000 := Nat.le_trans (tm_len ht) (by decide)
  have zd := tm_d 4 t ht
  have db := due_back ht (by decide)
  have A3 : evS Φ0 Y3 [e0, some (.ref 1), e2, e3, e4, e5, some (.d t), some (.d (.str (txt t))), e8, e9, e10, e11, e12] [c0, Dc is1] = .ok (.nx [e0, some (.ref 1), e2, e3, e4, e5, some (.d t), some (.d (.str (txt t))), e8, e9, e10, e11, e12]) [c0, Dc is1] := by
    have t1 := told_e (show (txt t).length ≤ 10000 by omega) zd (i := 7) (env := [e0, some (.ref 1), e2, e3, e4, e5, some (.d t), some (.d (.str (txt t))), e8, e9, e10, e11, e12]) (h := [c0, Dc is1]) rfl
    have sh := due_sh (z := txt t) (by omega)
    rw [db] at t1 sh
    have r := repr_w (h := [c0, Dc is1]) sh
    have n1 := ne_self (txt t) [c0, Dc is1]
    have n2 := ne_self (PyData.list [.str "term", t]).shown [c0, Dc is1]
    generalize (PyData.list [.str "term", t]).shown = R at t1 r n2
    show evS Φ0 (.ite (.or (.val (.cmp .NotEq (.call 0 false (.cons (.var 6) .nil)) (.var 7))) (.val (.cmp .NotEq (.blt .repr (.cons (.call 13 false (.cons (.var 7) .nil)) .nil)) (.blt .repr (.cons (.lst false (.cons (.lit (.str "term")) (.cons (.var 6) .nil))) .nil))))) _ .nil) _ _ = _
    generalize (E.blt .repr (.cons (.call 13 false (.cons (.var 7) .nil)) .nil)) = C1 at t1 ⊢
    simp only [evS, evSs, evT, evE, evEs, lift, List.getElem?_cons_zero, List.getElem?_cons_succ, Option.join_some, bind_ok, toS_ok, tt, n1, n2, t1, mkL, toDs, bltV, r, Option.map_some, truV, Bool.not_true, Bool.not_false, Bool.false_eq_true, if_false, if_true]
  have A4 : evS Φ0 Y4 [e0, some (.ref 1), e2, e3, e4, e5, some (.d t), some (.d (.str (txt t))), e8, e9, e10, e11, e12] [c0, Dc is1] = .ok (.nx [e0, some (.ref 1), e2, e3, e4, e5, some (.d t), some (.d (.str (txt t))), e8, e9, e10, e11, e12]) [c0, Dc is1] := by
    have lf : ∀ {t : PyData}, Leaf t → isiV (.d t) .tuple [c0, Dc is1] = some false := by
      intro t h
      rcases h with rfl | ⟨i, rfl, hi⟩ | ⟨w, rfl, hw, hc, hn⟩ <;> rfl
    rcases ht with ht | ⟨xs, rfl, hl, hx⟩
    · have := lf ht
      simp [Mi.runF, Mi.evSs, Mi.evS, Mi.evE, Mi.evT, Mi.evP, Mi.evEs, Mi.evIt, Mi.lift, Mi.bltV, Mi.intV, Mi.lenV, Mi.binV, Mi.intOp, Mi.cmpV, Mi.truV, Mi.mthV, Mi.recvOk, Mi.listOf, Mi.seqOf, Mi.dOf, Mi.cellL, Mi.srcOf, Mi.srcOk, Mi.setTg, Mi.setAll, Mi.mkL, Mi.toDs, Mi.In_len, Mi.In_app, Mi.In_one, Mi.In_drop, Mi.In_rev, Mi.In_emp, Mi.In_nl, Mi.In_get, Mi.toDs_In, Y4, b_law_f2, this]
    · have lt := list_text_w (n := 54) (k := 3) (mu := false) [c0, Dc is1] hl hx (by decide)
      have e : txt (.tuple xs) = ("(" : Str) ++ Txt.join " " (txtL xs) ++ (")" : Str) := rfl
      rw [← e] at lt
      have n1 := ne_self (txt (.tuple xs)) [c0, Dc is1]
      have td := toDs_map xs
      have is : isiV (.d (.tuple xs)) .tuple [c0, Dc is1] = some true := rfl
      generalize txt (.tuple xs) = R at lt n1
      show evS Φ0 (.ite (.and (.val (.isi (.var 6) .tuple)) (.val (.cmp .NotEq (.call 0 false (.cons (.blt (.list false) (.cons (.var 6) .nil)) .nil)) (.var 7)))) _ .nil) _ _ = _
      simp only [evS, evSs, evT, evE, evEs, lift, List.getElem?_cons_zero, List.getElem?_cons_succ, Option.join_some, bind_ok, toS_ok, is, lt, n1, mkL, td, bltV, lstV, seqOf, Option.map_some, truV, Bool.not_true, Bool.not_false, Bool.false_eq_true, if_false, if_true]
  obtain ⟨env2, h2, ef, e8', e9', e10', e11', e12', is2, rfl, rfl, bd2⟩ := forL_inv (src := (rngFrom 0 5, none)) (tg := [8]) (tup := false) (body := fun env h => evSs Φ0 b_law_f1 env h)
    (fun i env h => ∃ e8 e9 e10 e11 e12 is, env = [e0, some (.ref 1), e2, e3, e4, e5, some (.d t), some (.d (.str (txt t))), e8, e9, e10, e11, e12] ∧ h = [c0, Dc is] ∧ Bd is)
    (rngFrom 0 5) 0 [e0, some (.ref 1), e2, e3, e4, e5, some (.d t), some (.d (.str (txt t))), e8, e9, e10, e11, e12] [c0, Dc is1] ⟨_, _, _, _, _, is1, rfl, rfl, bd1⟩ (fun _ _ _ _ => rfl) (by
      rintro j env h w hw ⟨e8, e9, e10, e11, e12, is, rfl, rfl, bd⟩
      refine ⟨_, rfl, ?_⟩
      obtain ⟨e9', e10', e11', e12', is', q, b⟩ := f1_ok (c0 := c0) (e0 := e0) (e2 := e2) (e3 := e3) (e4 := e4) (e5 := e5) (e6 := some (.d t)) (e8 := some w) (e9 := e9) (e10 := e10) (e11 := e11) (e12 := e12) zl zd bd
      exact ⟨_, _, .inl q, _, _, _, _, _, is', rfl, rfl, b⟩)
  have A5 : evS Φ0 (.for [8] false (.rng1 (.lit (.int 5))) b_law_f1) [e0, some (.ref 1), e2, e3, e4, e5, some (.d t), some (.d (.str (txt t))), e8, e9, e10, e11, e12] [c0, Dc is1] = .ok (.nx [e0, some (.ref 1), e2, e3, e4, e5, some (.d t), some (.d (.str (txt t))), e8', e9', e10', e11', e12']) [c0, Dc is2] := by
    have hr : rngOk 5 = true := rfl
    simp only [evS, evE, evIt, bind_ok, toS_ok, hr, if_true]
    exact ef
  exact ⟨_, _, _, _, _, _, _, is2, by rw [b_f2]; simp only [evSs, A1, A2, A3, A4, A5] <;> rfl, bd2⟩
end
end K20

set_option maxRecDepth 100000
set_option maxHeartbeats 1000000
namespace K20
open PySem L2 Mi TL
def someD : PyData := .tuple [.int 3, .tuple [.int 2, .int 2, .int 4]]
theorem some_tm : Tm 4 someD := by
  have lf : ∀ i : Int, i.natAbs < 10 → Leaf (.int i) := fun i h => .inr (.inl ⟨i, rfl, Nat.lt_of_lt_of_le h (by decide)⟩)
  refine .inr ⟨_, rfl, by decide, fun x hx => ?_⟩
  simp only [List.mem_cons, List.not_mem_nil, or_false] at hx
  rcases hx with rfl | rfl
  · exact .inl (lf 3 (by decide))
  · refine .inr ⟨_, rfl, by decide, fun x hx => ?_⟩
    simp only [List.mem_cons, List.not_mem_nil, or_false] at hx
    rcases hx with rfl | rfl | rfl
    · exact .inl (lf 2 (by decide))
    · exact .inl (lf 2 (by decide))
    · exact .inl (lf 4 (by decide))
theorem some_txt : txt someD = "(3 (2 2 4))" := by decide +kernel
def readD : PyData := .tuple [.str "", .none, .tuple [.int (-5)]]
theorem read_fix : callN pr 59 1 [.d (.str "(. none (-5))")] [] = .ok (.d readD) [Rc "(. none (-5))" 13] := by kernel_rfl
theorem refused : ([.str "none", .str "A", .str "a b", .tuple [.str "ok", .str "x1"], .tuple [.tuple [.str "none"]]] : List PyData).map (fun d => callN pr 59 14 [.d d] []) = List.replicate 5 (.ok (.d (.bool true)) []) := by kernel_rfl
def deepS : Str := "((((((((((((5))))))))))))"
def L1 : List Str := ["", "(", "()", "( )", "(1 )", "(1  2)", "(1 2", "1 2", "-0", "00", "01", "-", "11111111111111111111", "111111111111111111111", "-999999999999999999999", deepS, "(((((((((((((5)))))))))))))", "()()", "(a.)", "5a", "a5"]
def L2s : List Str := ["none", "..", ")"]
theorem L_ok : ∀ z ∈ L1 ++ L2s, z.length ≤ 10000 ∧ 100 ∉ tl z := by decide +kernel
section
variable {e0 e1 e3 e4 e5 e6 e7 e8 e9 e10 e11 e12 : Option W} {h : MH}
theorem s8_ok : evS Φ0 b_law_s8 [e0, e1, none, e3, e4, e5, e6, e7, e8, e9, e10, e11, e12] h = .ok (.nx [e0, e1, some (.d someD), e3, e4, e5, e6, e7, e8, e9, e10, e11, e12]) h := by
  simp [Mi.runF, Mi.evSs, Mi.evS, Mi.evE, Mi.evT, Mi.evP, Mi.evEs, Mi.evIt, Mi.lift, Mi.bltV, Mi.intV, Mi.lenV, Mi.binV, Mi.intOp, Mi.cmpV, Mi.truV, Mi.mthV, Mi.recvOk, Mi.listOf, Mi.seqOf, Mi.dOf, Mi.cellL, Mi.srcOf, Mi.srcOk, Mi.setTg, Mi.setAll, Mi.mkL, Mi.toDs, Mi.In_len, Mi.In_app, Mi.In_one, Mi.In_drop, Mi.In_rev, Mi.In_emp, Mi.In_nl, Mi.In_get, Mi.toDs_In, b_law_s8, someD]
theorem s9_ok : evS Φ0 b_law_s9 [e0, e1, some (.d someD), e3, e4, e5, e6, e7, e8, e9, e10, e11, e12] h = .ok (.nx [e0, e1, some (.d someD), e3, e4, e5, e6, e7, e8, e9, e10, e11, e12]) h := by
  have tt := term_text_w 54 4 someD (mu := false) h some_tm (by decide)
  rw [some_txt] at tt
  have rd : callW Φ0 false 1 [.d (.str "(. none (-5))")] h = .ok (.d readD) h := callW_data (ds := [.str "(. none (-5))"]) h read_fix
  have tu : evE Φ0 (.tup (.cons (.lit (.str "")) (.cons (.lit .none) (.cons (.tup (.cons (.neg (.lit (.int 5))) .nil)) .nil)))) [e0, e1, some (.d someD), e3, e4, e5, e6, e7, e8, e9, e10, e11, e12] h = .ok (.d readD) h := rfl
  have r := repr_w (d := readD) (h := h) (by decide +kernel)
  have n1 := ne_self "(3 (2 2 4))" h
  have n2 := ne_self readD.shown h
  generalize readD.shown = R at r n2
  generalize readD = D at rd tu r
  generalize someD = D2 at *
  show evS Φ0 (.ite (.or (.val (.cmp .NotEq (.call 0 false (.cons (.var 2) .nil)) (.lit (.str "(3 (2 2 4))")))) (.val (.cmp .NotEq (.blt .repr (.cons (.call 1 false (.cons (.lit (.str "(. none (-5))")) .nil)) .nil)) (.blt .repr (.cons (.tup (.cons (.lit (.str "")) (.cons (.lit .none) (.cons (.tup (.cons (.neg (.lit (.int 5))) .nil)) .nil)))) .nil))))) _ .nil) _ _ = _
  generalize (E.tup (.cons (.lit (.str "")) (.cons (.lit .none) (.cons (.tup (.cons (.neg (.lit (.int 5))) .nil)) .nil)))) = C at tu ⊢
  simp only [evS, evSs, evT, evE, evEs, lift, List.getElem?_cons_zero, List.getElem?_cons_succ, Option.join_some, bind_ok, toS_ok, tt, rd, tu, r, n1, n2, bltV, Option.map_some, truV, Bool.not_true, Bool.not_false, Bool.false_eq_true, if_false, if_true]
theorem s11_ok : evS Φ0 b_law_s11 [e0, e1, some (.d someD), e3, none, e5, e6, e7, e8, e9, e10, e11, e12] h = .ok (.nx [e0, e1, some (.d someD), e3, some (.d (.str deepS)), e5, e6, e7, e8, e9, e10, e11, e12]) h := by kernel_rfl
theorem s12_ok : evS Φ0 b_law_s12 [e0, e1, some (.d someD), e3, some (.d (.str deepS)), none, e6, e7, e8, e9, e10, e11, e12] h = .ok (.nx [e0, e1, some (.d someD), e3, some (.d (.str deepS)), some (.d (.list (L1.map .str))), e6, e7, e8, e9, e10, e11, e12]) h := by kernel_rfl
theorem s13_ok : evS Φ0 b_law_s13 [e0, e1, some (.d someD), e3, some (.d (.str deepS)), some (.d (.list (L1.map .str))), e6, e7, e8, e9, e10, e11, e12] h = .ok (.nx [e0, e1, some (.d someD), e3, some (.d (.str deepS)), some (.d (.list ((L1 ++ L2s).map .str))), e6, e7, e8, e9, e10, e11, e12]) h := by kernel_rfl
theorem plain_strs : ∀ l : List PyData, (∀ x ∈ l, ∃ s, x = .str s) → PyData.eqv (.list l) (.list l) = true ∧ PyData.depth (.list l) ≤ 1 := by
  intro l hl
  refine ⟨PySem.SeqAt.eqv_refl_plain _ ?_, ?_⟩
  · induction l with
    | nil => rfl
    | cons x r ih =>
      obtain ⟨s, rfl⟩ := hl x List.mem_cons_self
      exact ih fun y hy => hl y (List.mem_cons_of_mem _ hy)
  · induction l with
    | nil => simp [PyData.depth, PyData.depthAll]
    | cons x r ih =>
      obtain ⟨s, rfl⟩ := hl x List.mem_cons_self
      have := ih fun y hy => hl y (List.mem_cons_of_mem _ hy)
      simp only [PyData.depth, PyData.depthAll] at this ⊢
      omega
theorem s14_ok {env : Ev} (h5 : env[5]? = some (some (.d (.list ((L1 ++ L2s).map .str))))) (h7 : ∀ w, (env.set 7 w)[7]? = some w) : evS Φ0 b_law_s14 env h = .ok (.nx env) h := by
  have c3 := comp_data (Φ := Φ0) (it := .over (.var 5)) (e := .blt .repr (.cons (.call 13 false (.cons (.var 7) .nil)) .nil)) (i := 7) (env := env) (h := h) (ws := ((L1 ++ L2s).map .str).map .d) (g := fun w => match w with
    | .d (.str z) => .str (dueD z).shown
    | _ => .none) (by simp only [evIt, evE, lift, h5, Option.join_some, bind_ok, srcOf]) (by decide +kernel) (fun w hw => by
      obtain ⟨x, hx, rfl⟩ := List.mem_map.mp hw
      obtain ⟨z, hz, rfl⟩ := List.mem_map.mp hx
      obtain ⟨a, b⟩ := L_ok z hz
      exact told_e a b (h7 _))
  have c4 := comp_data (Φ := Φ0) (it := .over (.var 5)) (e := .blt .repr (.cons (.call 12 false (.cons (.var 7) .nil)) .nil)) (i := 7) (env := env) (h := h) (ws := ((L1 ++ L2s).map .str).map .d) (g := fun w => match w with
    | .d (.str z) => .str (dueD z).shown
    | _ => .none) (by simp only [evIt, evE, lift, h5, Option.join_some, bind_ok, srcOf]) (by decide +kernel) (fun w hw => by
      obtain ⟨x, hx, rfl⟩ := List.mem_map.mp hw
      obtain ⟨z, hz, rfl⟩ := List.mem_map.mp hx
      obtain ⟨a, b⟩ := L_ok z hz
      exact due_e a b (h7 _))
  rw [← b_law_c3] at c3
  rw [← b_law_c4] at c4
  have pl := plain_strs ((((L1 ++ L2s).map PyData.str).map W.d).map fun w => match w with
    | .d (.str z) => .str (dueD z).shown
    | _ => .none) (fun x hx => by
      obtain ⟨w, hw, rfl⟩ := List.mem_map.mp hx
      obtain ⟨y, hy, rfl⟩ := List.mem_map.mp hw
      obtain ⟨z, hz, rfl⟩ := List.mem_map.mp hy
      exact ⟨_, rfl⟩)
  generalize ((((L1 ++ L2s).map PyData.str).map W.d).map fun w => match w with
    | .d (.str z) => PyData.str (dueD z).shown
    | _ => .none) = R at c3 c4 pl
  obtain ⟨p1, p2⟩ := pl
  have dk : depOk (.list R) = true := Nat.ble_eq_true_of_le (by omega)
  have ne : cmpV .NotEq (.d (.list R)) (.d (.list R)) h = some false := by
    simp only [cmpV, dOf, Option.bind_some, eqD, dk, Bool.true_or, if_true, p1, Option.map_some, Bool.not_true]
  simp only [b_law_s14, evS, evSs, evT, evE, bind_ok, toS_ok, c3, c4, ne, Option.map_some, lift, truV, Bool.false_eq_true, if_false]
theorem s15_ok {env : Ev} (h6 : ∀ w, (env.set 6 w)[6]? = some w) : evS Φ0 b_law_s15 env h = .ok (.ret (.d (.bool true))) h := by
  have c5 := comp_data (Φ := Φ0) (it := .over (.lst false (.cons (.lit (.str "none")) (.cons (.lit (.str "A")) (.cons (.lit (.str "a b")) (.cons (.tup (.cons (.lit (.str "ok")) (.cons (.lit (.str "x1")) .nil))) (.cons (.tup (.cons (.tup (.cons (.lit (.str "none")) .nil)) .nil)) .nil))))))) (e := .call 14 false (.cons (.var 6) .nil)) (i := 6) (env := env) (h := h) (ws := ([.str "none", .str "A", .str "a b", .tuple [.str "ok", .str "x1"], .tuple [.tuple [.str "none"]]] : List PyData).map .d) (g := fun _ => .bool true) rfl (by decide) (fun w hw => by
      obtain ⟨x, hx, rfl⟩ := List.mem_map.mp hw
      have e : callN pr 59 14 [.d x] [] = .ok (.d (.bool true)) [] := by
        have : callN pr 59 14 [.d x] [] ∈ List.replicate 5 (R.ok (W.d (PyData.bool true)) []) := by
          rw [← refused]
          exact List.mem_map.mpr ⟨x, hx, rfl⟩
        exact List.eq_of_mem_replicate this
      have cw : callW Φ0 false 14 [.d x] h = .ok (.d (.bool true)) h := callW_data (ds := [x]) h e
      simp only [evE, evEs, lift, h6, Option.join_some, bind_ok, cw])
  rw [← b_law_c5] at c5
  have q : cmpV .Eq (.d (.list (List.map (fun _ => PyData.bool true) (([.str "none", .str "A", .str "a b", .tuple [.str "ok", .str "x1"], .tuple [.tuple [.str "none"]]] : List PyData).map W.d)))) (.d (.list [.bool true, .bool true, .bool true, .bool true, .bool true])) h = some true := rfl
  have m : evE Φ0 (.bin false .Mult (.lst false (.cons (.lit (.bool true)) .nil)) (.lit (.int 5))) env h = .ok (.d (.list [.bool true, .bool true, .bool true, .bool true, .bool true])) h := rfl
  show evS Φ0 (.ret (.cmp .Eq b_law_c5 (.bin false .Mult (.lst false (.cons (.lit (.bool true)) .nil)) (.lit (.int 5))))) env h = _
  generalize (E.bin false .Mult (.lst false (.cons (.lit (.bool true)) .nil)) (.lit (.int 5))) = C at m ⊢
  simp only [evS, evE, bind_ok, toS_ok, c5, m, q, Option.map_some, lift]
end
theorem law_true (ns : List Int) (h : ns.length ≤ 63) : ∃ h', Mi.callN (K20.ds.map (·.F)) 60 15 [.ro (ns.map .int)] [] = .ok (.d (.bool true)) h' := by
  obtain ⟨is, hl, bd, dw⟩ := draws_w (P := pr) (n := 57) (f := 3) (num := 2) rfl rfl ns (by omega)
  obtain ⟨is', js, jl, bd2, mw⟩ := more_w (P := pr) (n := 57) (f := 5) (g := 4) rfl rfl is 120 (by decide) (by omega) bd
  have A6 : evS Φ0 b_law_s6 [some (.ro (ns.map .int)), none, none, none, none, none, none, none, none, none, none, none, none] [] = .ok (.nx [some (.ro (ns.map .int)), some (.ref 0), none, none, none, none, none, none, none, none, none, none, none]) [Dc is] := by
    simp only [b_law_s6, evS, evE, evEs, lift, List.getElem?_cons_zero, Option.join_some, bind_ok, dw, toS_ok, List.set_cons_succ, List.set_cons_zero]
  have A7 : evS Φ0 b_law_s7 [some (.ro (ns.map .int)), some (.ref 0), none, none, none, none, none, none, none, none, none, none, none] [Dc is] = .ok (.nx [some (.ro (ns.map .int)), some (.ref 1), none, none, none, none, none, none, none, none, none, none, none]) [Dc is', Dc js] := by
    have mw : callW Φ0 true 5 [.ref 0, .d (.int 120)] [Dc is] = .ok (.ref 1) [Dc is', Dc js] := mw
    simp only [b_law_s7, evS, evE, evEs, lift, List.getElem?_cons_zero, List.getElem?_cons_succ, Option.join_some, bind_ok, mw, toS_ok, List.set_cons_succ, List.set_cons_zero]
  have A8 := s8_ok (e0 := some (.ro (ns.map .int))) (e1 := some (.ref 1)) (e3 := none) (e4 := none) (e5 := none) (e6 := none) (e7 := none) (e8 := none) (e9 := none) (e10 := none) (e11 := none) (e12 := none) (h := [Dc is', Dc js])
  have A9 := s9_ok (e0 := some (.ro (ns.map .int))) (e1 := some (.ref 1)) (e3 := none) (e4 := none) (e5 := none) (e6 := none) (e7 := none) (e8 := none) (e9 := none) (e10 := none) (e11 := none) (e12 := none) (h := [Dc is', Dc js])
  obtain ⟨env2, h2, ef, e3, e6, e7, e8, e9, e10, e11, e12, ks, rfl, rfl, bd3⟩ := forL_inv (src := (rngFrom 0 4, none)) (tg := [3]) (tup := false) (body := fun env h => evSs Φ0 b_law_f2 env h)
    (fun i env h => ∃ e3 e6 e7 e8 e9 e10 e11 e12 is, env = [some (.ro (ns.map .int)), some (.ref 1), some (.d someD), e3, none, none, e6, e7, e8, e9, e10, e11, e12] ∧ h = [Dc is', Dc is] ∧ Bd is)
    (rngFrom 0 4) 0 [some (.ro (ns.map .int)), some (.ref 1), some (.d someD), none, none, none, none, none, none, none, none, none, none] [Dc is', Dc js] ⟨_, _, _, _, _, _, _, _, js, rfl, rfl, bd2⟩ (fun _ _ _ _ => rfl) (by
      rintro j env h w hw ⟨e3, e6, e7, e8, e9, e10, e11, e12, is, rfl, rfl, bd⟩
      refine ⟨_, rfl, ?_⟩
      obtain ⟨e6', e7', e8', e9', e10', e11', e12', is2, q, b⟩ := f2_ok (c0 := Dc is') (e0 := some (.ro (ns.map .int))) (e2 := some (.d someD)) (e3 := some w) (e4 := none) (e5 := none) (e6 := e6) (e7 := e7) (e8 := e8) (e9 := e9) (e10 := e10) (e11 := e11) (e12 := e12) bd
      exact ⟨_, _, .inl q, _, _, _, _, _, _, _, _, is2, rfl, rfl, b⟩)
  have A10 : evS Φ0 b_law_s10 [some (.ro (ns.map .int)), some (.ref 1), some (.d someD), none, none, none, none, none, none, none, none, none, none] [Dc is', Dc js] = .ok (.nx [some (.ro (ns.map .int)), some (.ref 1), some (.d someD), e3, none, none, e6, e7, e8, e9, e10, e11, e12]) [Dc is', Dc ks] := by
    have hr : rngOk 4 = true := rfl
    simp only [b_law_s10, evS, evE, evIt, bind_ok, toS_ok, hr, if_true]
    exact ef
  have A11 := s11_ok (e0 := some (.ro (ns.map .int))) (e1 := some (.ref 1)) (e3 := e3) (e5 := none) (e6 := e6) (e7 := e7) (e8 := e8) (e9 := e9) (e10 := e10) (e11 := e11) (e12 := e12) (h := [Dc is', Dc ks])
  have A12 := s12_ok (e0 := some (.ro (ns.map .int))) (e1 := some (.ref 1)) (e3 := e3) (e6 := e6) (e7 := e7) (e8 := e8) (e9 := e9) (e10 := e10) (e11 := e11) (e12 := e12) (h := [Dc is', Dc ks])
  have A13 := s13_ok (e0 := some (.ro (ns.map .int))) (e1 := some (.ref 1)) (e3 := e3) (e6 := e6) (e7 := e7) (e8 := e8) (e9 := e9) (e10 := e10) (e11 := e11) (e12 := e12) (h := [Dc is', Dc ks])
  have A14 := s14_ok (env := [some (.ro (ns.map .int)), some (.ref 1), some (.d someD), e3, some (.d (.str deepS)), some (.d (.list ((L1 ++ L2s).map .str))), e6, e7, e8, e9, e10, e11, e12]) (h := [Dc is', Dc ks]) rfl (fun _ => rfl)
  have A15 := s15_ok (env := [some (.ro (ns.map .int)), some (.ref 1), some (.d someD), e3, some (.d (.str deepS)), some (.d (.list ((L1 ++ L2s).map .str))), e6, e7, e8, e9, e10, e11, e12]) (h := [Dc is', Dc ks]) (fun _ => rfl)
  refine ⟨[Dc is', Dc ks], ?_⟩
  show callN pr (59 + 1) 15 _ _ = _
  rw [callN_eq (fd := ⟨1, 13, b_law⟩) rfl]
  generalize L1 ++ L2s = LL at *
  generalize L1 = LL1 at *
  generalize someD = SD at *
  generalize deepS = DS at *
  simp only [runF, b_law, List.length_cons, List.length_nil, List.map_cons, List.map_nil, List.replicate, List.cons_append, List.nil_append, evSs, A6, A7, A8, A9, A10, A11, A12, A13, A14, A15]
  rfl
end K20

set_option maxRecDepth 100000
set_option maxHeartbeats 4000000
namespace K20
open PySem PySem.Spec PyProof.Rows L2 Mi
theorem bd : ∀ x ∈ ds, BindOk x := by
  intro x hx
  simp only [ds, List.mem_cons, List.not_mem_nil, or_false] at hx
  rcases hx with rfl | rfl | rfl | rfl | rfl | rfl | rfl | rfl | rfl | rfl | rfl | rfl | rfl | rfl | rfl | rfl | rfl | rfl | rfl | rfl | rfl | rfl | rfl
  all_goals
    intro kV doc pm an cdv ct us hl
    first
    | (match us, hl with | [_], _ => rfl)
    | (match us, hl with | [_, _], _ => rfl)
    | (match us, hl with | [_, _, _], _ => rfl)
theorem bdx : BindOk x_Malformed := by
  intro kV doc pm an cdv ct us hl
  match us, hl with | [_, _], _ => rfl
theorem st_all : (ds.zipIdx.all fun q => defB info q.2 q.1) = true := by decide +kernel
theorem stat (i : Nat) (x : DefS) (h : ds[i]? = some x) : defB info i x = true := by
  have := List.all_eq_true.mp st_all (x, i) (by rw [List.mem_zipIdx_iff_getElem?]; exact h)
  exact this
theorem xds : ∀ q ∈ info.xis, ∃ (b : Str) (x : DefS), b ∈ info.xbs ∧ b ∈ info.clss ∧ xdB info q b x = true ∧ x ∈ xs ∧ BindOk x := by
  intro q hq
  have : q = (2, ("at" : Str)) := by simpa [info] using hq
  subst this
  exact ⟨"WhereError", x_Malformed, by decide +kernel, by decide +kernel, by decide +kernel, List.mem_cons_self, bdx⟩
abbrev R : PySem.W.OpenRow := PySem.W.OpenLaw.row PySem.Challenge.rw_wherewords_k20_texts_of_terms
abbrev fn : List He.DefD := ds.map (·.d) ++ xs.map (·.d)
abbrev hk : PySem.W.Hook := hookM 5 (faOf info) fn (tsOf info) (exB info)
def ob (s : PySem.W.SharedT) : AlM := obsM 5 (faOf info) fn (tsOf info) (exB info) (HandSHeadRun.getT s)
theorem ob_eq (s : PySem.W.SharedT) : ob s = hk.obs s.abs := obsM_eq (HandSHeadRun.getT_eq s)
def loose1 : List Str := ["WhereError", "BadNumber", "Malformed"]
def loose2 : List Str := ["SMALL", "FIGURES", "MOST_FIGURES", "MOST_OPEN", "NOBODY", "NOTHING", "term_text", "Reading", "read_term"]
def loose3 : List Str := ["_law_number", "_law_draws", "_law_next", "_law_more", "_law_pick", "_law_term", "_law_text", "_law_integer", "_law_read", "_law_entries", "_law_due", "_law_told", "_law_refused"]
def loose : List Str := loose1 ++ (loose2 ++ loose3)
end K20

set_option maxRecDepth 100000
set_option maxHeartbeats 4000000
namespace K20
open PySem PySem.Spec PyProof.Rows L2 Mi
theorem run (w : World) : HandSHeadRun.RunEq R (PySem.W.view R.prog [28]) hk ob 6000 loose w := by
  intro os
  kernel_rfl
end K20

set_option maxRecDepth 100000
set_option maxHeartbeats 0
open PySem PySem.W PySem.Calls PyProof.Rows
theorem PySem.Challenge.cw_wherewords_k20_texts_of_terms_holds : PySem.Challenge.rw_wherewords_k20_texts_of_terms.Holds := by
  w_on; o_law
  refine HandSHeadRun.head_any (r := OpenLaw.row PySem.Challenge.rw_wherewords_k20_texts_of_terms) (q := view (OpenLaw.row PySem.Challenge.rw_wherewords_k20_texts_of_terms).prog [28]) (H := K20.hk) (ob := K20.ob) (M := 6000) (loose := K20.loose)
    (d := HandSHeadRun.topDef (OpenLaw.row PySem.Challenge.rw_wherewords_k20_texts_of_terms).prog 28) (kwd := []) K20.ob_eq
    (by kernel_rfl) (fun s => by kernel_rfl) K20.run (by kernel_rfl) (by kernel_rfl) (by kernel_rfl) (by rfl) (by first | assumption | decide +kernel) (by decide +kernel) ⟨rfl, rfl, rfl, rfl, rfl, by decide +kernel⟩ ?hw ?hc
  case hw => w_witness2
  case hc => exact Mi.mi_walk (l := PySem.Challenge.rw_wherewords_k20_texts_of_terms) (n := 63) (dep := 60) (lawi := 15) (I := K20.info) (ds := K20.ds) (xs := K20.xs) rfl (by decide) (by kernel_rfl) rfl rfl K20.stat (by decide +kernel) K20.bd (by decide +kernel) K20.xds (by kernel_rfl) (by decide +kernel) (by decide +kernel) ⟨rfl, by decide, by decide⟩ K20.law_true
