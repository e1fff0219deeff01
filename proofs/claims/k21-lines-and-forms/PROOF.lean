import PyProof.Rows.All
import Wide.All
import OpenK.AllK
import Wide.FinOn
import HandS.ForMost
import HandS.ForExc
import HandS.Deep
import HandS.IsInst
import HandS.TupAny
import HandS.HotCalls
import HandS.ExcIs
import HandS.More
import KE.DataEq
import KE.DataFind
import PyProof.ReprReads
import PyProof.ReprRoads
import HandS.ExcInitHot
import HandS.Flow
import HandS.Defaults
import HandS.HeadHook4
import HandS.HeadEnd
import HandS.Head2
import HandS.Words
import HandS.Head4
import PySem.Challenge.RW_wherewords_k21_lines_and_forms
set_option Elab.async false
set_option linter.all false
/-! Mi, first part: the small language, its values and its evaluator. -/
namespace Mi
open PySem L2

/-- a value: data, a mutable cell of the small heap, a def of the table, an error that is held -/
inductive W where
  | d (x : PyData)
  | ref (i : Nat)
  | fn (i : Nat)
  | ex (c : Nat) (x : Option PyData)
  | ro (xs : List PyData)
/-- a mutable cell: a list; a list that is data from now on; an instance by its fields' places -/
inductive Cell where
  | lst (xs : List W)
  | frz (x : PyData)
  | ins (c : Nat) (fs : List (Option W))
abbrev MH := List Cell
abbrev Ev := List (Option W)
/-- an own error: its class's place, its one value -/
structure Exn where
  cls : Nat
  arg : Option PyData
inductive R (α : Type) where
  | ok (a : α) (h : MH)
  | exc (e : Exn) (h : MH)
  | stuck
abbrev M (α : Type) := MH → R α
def R.bind {α β : Type} : R α → (α → M β) → R β
  | .ok a h, f => f a h
  | .exc e h, _ => .exc e h
  | .stuck, _ => .stuck
@[simp] theorem bind_ok {α β : Type} (a : α) (h : MH) (f : α → M β) : (R.ok a h).bind f = f a h := rfl
@[simp] theorem bind_exc {α β : Type} (e : Exn) (h : MH) (f : α → M β) : (R.exc e h : R α).bind f = .exc e h := rfl
@[simp] theorem bind_stuck {α β : Type} (f : α → M β) : (R.stuck : R α).bind f = .stuck := rfl
def lift {α : Type} (o : Option α) : M α := fun h => match o with
  | some a => .ok a h
  | none => .stuck

inductive Ty where | int | str | tuple | list
  deriving DecidableEq
inductive Blt where | len | int | str | repr | all | any | tuple | list (nw : Bool) | abs | min | max | sum
  deriving DecidableEq
inductive Mth where | append | extend | reverse | pop | split | join | count | index
  deriving DecidableEq

mutual
inductive E where
  | var (i : Nat)
  | lit (x : PyData)
  | gl (x : Str) (v : PyData)
  | bin (nw : Bool) (op : Operator) (a b : E)
  | neg (a : E)
  | not (a : E)
  | and (a b : E)
  | or (a b : E)
  | cmp (op : CmpOp) (a b : E)
  | chain (op op' : CmpOp) (a b c : E)
  | ite (c : T) (a b : E)
  | tup (es : Es)
  | lst (nw : Bool) (es : Es)
  | idx (a i : E)
  | slice (a : E) (l u : Pt)
  | call (f : Nat) (mu : Bool) (es : Es)
  | callg (g : Str) (tab : List (Str × Nat)) (a : E) (es : Es)
  | gdin (neg : Bool) (g : Str) (tab : List (Str × Nat)) (a : E)
  | dget (ks : List (Str × PyData)) (a : E)
  | isi (a : E) (t : Ty)
  | isx (a : E) (c : Nat)
  | blt (b : Blt) (es : Es)
  | meth (m : Mth) (a : E) (es : Es)
  | comp (nw : Bool) (own : List Nat) (tg : List Nat) (tup : Bool) (it : It) (c : T) (e : E)
inductive T where
  | not (a : T)
  | and (a b : T)
  | or (a b : T)
  | val (e : E)
  | yes
inductive Pt where
  | no
  | at (e : E)
inductive Es where
  | nil
  | cons (e : E) (es : Es)
inductive It where
  | over (e : E)
  | rng1 (e : E)
  | rng2 (a b : E)
end
mutual
inductive S where
  | ex (e : E)
  | set (i : Nat) (e : E)
  | setT (is : List Nat) (e : E)
  | ret (e : E)
  | ite (c : T) (a b : Ss)
  | for (tg : List Nat) (tup : Bool) (it : It) (b : Ss)
  | while (c : T) (b : Ss)
  | brk
  | cnt
  | pass
  | raise (c : Nat) (e : Option E)
  | try1 (b : Ss) (c : Nat) (i : Option Nat) (hd : Ss)
inductive Ss where
  | nil
  | cons (s : S) (ss : Ss)
end

/-! ### values -/
def lineOk (n : Nat) : Bool := Nat.ble n 16777216
def toD : W → Option PyData
  | .d x => some x
  | _ => none
def toDs : List W → Option (List PyData)
  | [] => some []
  | .d x :: r => (toDs r).map (x :: ·)
  | _ :: _ => none
def mkL (nw : Bool) (ws : List W) : M W := fun h => if nw then .ok (.ref h.length) (h ++ [.lst ws]) else match toDs ws with
  | some ds => .ok (.d (.list ds)) h
  | none => .stuck
def seqOf : W → MH → Option (List W)
  | .d (.list xs), _ => some (xs.map .d)
  | .d (.tuple xs), _ => some (xs.map .d)
  | .ref i, h => match h[i]? with
    | some (.lst ws) => some ws
    | some (.frz (.list xs)) => some (xs.map .d)
    | _ => none
  | _, _ => none
def listOf : W → MH → Option (List W)
  | .d (.list xs), _ => some (xs.map .d)
  | .ref i, h => match h[i]? with
    | some (.lst ws) => some ws
    | some (.frz (.list xs)) => some (xs.map .d)
    | _ => none
  | _, _ => none
/-- the data that a value is now -/
def dOf : W → MH → Option PyData
  | .d x, _ => some x
  | .ref i, h => match h[i]? with
    | some (.lst ws) => (toDs ws).map .list
    | some (.frz x) => some x
    | _ => none
  | _, _ => none
def mulOk (i j : Int) : Bool := Nat.ble i.natAbs 18446744073709551615 || Nat.ble j.natAbs 18446744073709551615
def powOk (i j : Int) : Bool := (match j with
  | .ofNat n => Nat.ble n 1000000
  | .negSucc _ => false) && Nat.ble i.natAbs 18446744073709551615
def intOp : Operator → Int → Int → Option Int
  | .Add, i, j => some (i + j)
  | .Sub, i, j => some (i - j)
  | .Mult, i, j => if mulOk i j then some (i * j) else none
  | .FloorDiv, i, j => if decide (j ≠ 0) && Nat.ble j.natAbs 1073741823 then some (i.fdiv j) else none
  | .Mod, i, j => if decide (j ≠ 0) then some (i.fmod j) else none
  | .Pow, i, j => if powOk i j then some (i ^ j.toNat) else none
  | .LShift, i, j => if powOk i j then some (i * 2 ^ j.toNat) else none
  | .RShift, i, j => if decide (0 ≤ j) then some (i / 2 ^ j.toNat) else none
  | .BitAnd, i, j => some (Builtin.bitAnd i j)
  | .BitOr, i, j => some (Builtin.bitOr i j)
  | .BitXor, i, j => some (Builtin.bitXor i j)
  | _, _, _ => none
def binV (nw : Bool) (op : Operator) : W → W → M W
  | .d (.int i), .d (.int j), h => match intOp op i j with
    | some k => .ok (.d (.int k)) h
    | none => .stuck
  | .d (.str x), .d (.str y), h => match op with
    | .Add => if lineOk (x.length + y.length) then .ok (.d (.str (x ++ y))) h else .stuck
    | _ => .stuck
  | .d (.tuple x), .d (.tuple y), h => match op with
    | .Add => if lineOk (x.length + y.length) then .ok (.d (.tuple (x ++ y))) h else .stuck
    | _ => .stuck
  | a, b, h => match op, listOf a h, listOf b h with
    | .Add, some x, some y => if lineOk (x.length + y.length) then mkL nw (x ++ y) h else .stuck
    | _, _, _ => .stuck
def depOk (d : PyData) : Bool := Nat.ble d.depth 100
def eqD (x y : PyData) : Option Bool := if depOk x || depOk y then some (PyData.eqv x y) else none
def strIn (x z : Str) : Bool := match x.cps.toList with
  | [c] => decide (c ∈ z.cps.toList)
  | _ => !(Builtin.Str.occurrences z x 0 z.length 1).isEmpty
def inD (x : PyData) (ds : List PyData) : Option Bool := if depOk x then some (ds.any fun z => PyData.eqv z x) else none
def inV (a b : W) (h : MH) : Option Bool := match a, b with
  | .d (.str x), .d (.str z) => some (strIn x z)
  | a, b => match dOf a h, seqOf b h with
    | some x, some ws => (toDs ws).bind (inD x)
    | _, _ => none
def cmpV (op : CmpOp) (a b : W) (h : MH) : Option Bool := match op with
  | .Eq => (dOf a h).bind fun x => (dOf b h).bind fun y => eqD x y
  | .NotEq => (dOf a h).bind fun x => (dOf b h).bind fun y => (eqD x y).map (!·)
  | .In => inV a b h
  | .NotIn => (inV a b h).map (!·)
  | .Is => match a, b with
    | .d x, .d .none => some (match x with | .none => true | _ => false)
    | .ref _, .d .none => some false
    | _, _ => none
  | .IsNot => match a, b with
    | .d x, .d .none => some (match x with | .none => false | _ => true)
    | .ref _, .d .none => some true
    | _, _ => none
  | .Lt => match a, b with
    | .d (.int i), .d (.int j) => some (decide (i < j))
    | .d (.str i), .d (.str j) => some (decide (i.cps.toList < j.cps.toList))
    | _, _ => none
  | .LtE => match a, b with
    | .d (.int i), .d (.int j) => some (decide (i ≤ j))
    | .d (.str i), .d (.str j) => some (decide (i.cps.toList ≤ j.cps.toList))
    | _, _ => none
  | .Gt => match a, b with
    | .d (.int i), .d (.int j) => some (decide (j < i))
    | _, _ => none
  | .GtE => match a, b with
    | .d (.int i), .d (.int j) => some (decide (j ≤ i))
    | _, _ => none
def truV : W → MH → Option Bool
  | .d .none, _ => some false
  | .d (.bool b), _ => some b
  | .d (.int i), _ => some (i != 0)
  | .d (.str x), _ => if lineOk x.length then some ((x.length : Int) != 0) else none
  | .d (.list xs), _ => some (!xs.isEmpty)
  | .d (.tuple xs), _ => some (!xs.isEmpty)
  | .ref i, h => match h[i]? with
    | some (.lst ws) => some (!ws.isEmpty)
    | some (.frz (.list xs)) => some (!xs.isEmpty)
    | _ => none
  | _, _ => none
def idxV (a i : W) (h : MH) : Option W := match i with
  | .d (.int j) => match a with
    | .d (.str z) => if lineOk z.length then (atI z.cps.toList j).map fun c => .d (.str ⟨#[c]⟩) else none
    | a => (seqOf a h).bind fun ws => atI ws j
  | _ => none
def cutD {α : Type} (xs : List α) (lo hi : Option Int) : List α := (xs.drop (HT.sIx xs.length 0 lo)).take (HT.sIx xs.length xs.length hi - HT.sIx xs.length 0 lo)
def sliceV (a : W) (lo hi : Option Int) (h : MH) : Option W := match a with
  | .d (.str z) => if lineOk z.length then some (.d (.str (cutS z lo hi))) else none
  | .d (.tuple xs) => some (.d (.tuple (cutD xs lo hi)))
  | a => (listOf a h).bind fun ws => (toDs ws).map fun xs => .d (.list (cutD xs lo hi))
def isiV : W → Ty → MH → Option Bool
  | .d x, t, _ => match x, t with
    | .none, _ => some false
    | .bool _, .int => some true
    | .bool _, _ => some false
    | .int _, .int => some true
    | .int _, _ => some false
    | .str _, .str => some true
    | .str _, _ => some false
    | .list _, .list => some true
    | .list _, _ => some false
    | .tuple _, .tuple => some true
    | .tuple _, _ => some false
    | .dict _, _ => none
  | _, _, _ => none
def bools : List W → Option (List Bool)
  | [] => some []
  | .d (.bool b) :: r => (bools r).map (b :: ·)
  | _ :: _ => none
def txts : List W → Option (List Str)
  | [] => some []
  | .d (.str b) :: r => (txts r).map (b :: ·)
  | _ :: _ => none
def nums : List W → Option (List Int)
  | [] => some []
  | .d (.int b) :: r => (nums r).map (b :: ·)
  | _ :: _ => none
def shOk (d : PyData) : Bool := d.showable && depOk d && lineOk d.shown.length
def lenV (ws : List W) : M W := fun h => match ws with
  | [.d (.str z)] => if lineOk z.length then .ok (.d (.int z.length)) h else .stuck
  | [a] => lift ((seqOf a h).map fun xs => .d (.int xs.length)) h
  | _ => .stuck
def intV (ws : List W) : M W := fun h => match ws with
  | [.d (.int i)] => .ok (.d (.int i)) h
  | [.d (.bool b)] => .ok (.d (.int (if b then 1 else 0))) h
  | [.d (.str z)] => match PySem.intText? z with
    | some n => if Nat.ble z.length 640 then .ok (.d (.int n)) h else .stuck
    | none => .stuck
  | _ => .stuck
def strV (ws : List W) : M W := fun h => match ws with
  | [.d (.int i)] => if Nat.ble i.natAbs.log2 1919 then .ok (.d (.str (toString i))) h else .stuck
  | _ => .stuck
def reprV (ws : List W) : M W := fun h => match ws with
  | [a] => match dOf a h with
    | some x => if shOk x then .ok (.d (.str x.shown)) h else .stuck
    | none => .stuck
  | _ => .stuck
def boolsV (f : List Bool → Bool) (ws : List W) : M W := fun h => match ws with
  | [a] => lift ((listOf a h).bind fun ws => (bools ws).map fun bs => .d (.bool (f bs))) h
  | _ => .stuck
def tupV (ws : List W) : M W := fun h => match ws with
  | [a] => match a with
    | .d (.tuple xs) => .ok (.d (.tuple xs)) h
    | a => lift ((listOf a h).bind fun ws => (toDs ws).map fun xs => .d (.tuple xs)) h
  | _ => .stuck
def lstV (nw : Bool) (ws : List W) : M W := fun h => match ws with
  | [a] => match seqOf a h with
    | some ws => mkL nw ws h
    | none => .stuck
  | _ => .stuck
def absV (ws : List W) : M W := fun h => match ws with
  | [.d (.int i)] => .ok (.d (.int (if i < 0 then -i else i))) h
  | _ => .stuck
def maxV (ws : List W) : M W := fun h => match ws with
  | [.d (.int i), .d (.int j)] => .ok (.d (.int (if j > i then j else i))) h
  | _ => .stuck
def minV (ws : List W) : M W := fun h => match ws with
  | [.d (.int i), .d (.int j)] => .ok (.d (.int (if j < i then j else i))) h
  | _ => .stuck
def sumV (ws : List W) : M W := fun h => match ws with
  | [a] => lift ((listOf a h).bind fun ws => (nums ws).map fun bs => .d (.int bs.sum)) h
  | _ => .stuck
def bltV : Blt → List W → M W
  | .len => lenV
  | .int => intV
  | .str => strV
  | .repr => reprV
  | .all => boolsV fun bs => bs.all id
  | .any => boolsV fun bs => bs.any id
  | .tuple => tupV
  | .list nw => lstV nw
  | .abs => absV
  | .max => maxV
  | .min => minV
  | .sum => sumV
def cellL (i : Nat) (h : MH) : Option (List W) := match h[i]? with
  | some (.lst ws) => some ws
  | _ => none
def strLens (ys : List Str) (n : Nat) : Nat := (ys.map (·.length)).sum + ys.length * n
def appendV (a : W) (ws : List W) : M W := fun h => match a, ws with
  | .ref i, [w] => match cellL i h with
    | some xs => if Nat.blt xs.length 16777216 then .ok (.d .none) (h.set i (.lst (xs ++ [w]))) else .stuck
    | none => .stuck
  | _, _ => .stuck
def extendV (a : W) (ws : List W) : M W := fun h => match a, ws with
  | .ref i, [w] => match cellL i h, listOf w h with
    | some xs, some ys => if lineOk (xs.length + ys.length) then .ok (.d .none) (h.set i (.lst (xs ++ ys))) else .stuck
    | _, _ => .stuck
  | _, _ => .stuck
def reverseV (a : W) (ws : List W) : M W := fun h => match a, ws with
  | .ref i, [] => match cellL i h with
    | some xs => .ok (.d .none) (h.set i (.lst xs.reverse))
    | none => .stuck
  | _, _ => .stuck
def popV (a : W) (ws : List W) : M W := fun h => match a, ws with
  | .ref i, [] => match cellL i h with
    | some xs => match xs[xs.length - 1]? with
      | some y => .ok y (h.set i (.lst xs.dropLast))
      | none => .stuck
    | none => .stuck
  | _, _ => .stuck
def splitV (a : W) (ws : List W) : M W := fun h => match a, ws with
  | .d (.str x), [.d (.str y)] => if !(y.length == 0) && lineOk (x.length + 2) then .ok (.d (.list ((Txt.split x y).map .str))) h else .stuck
  | _, _ => .stuck
def joinV (a : W) (ws : List W) : M W := fun h => match a, ws with
  | .d (.str x), [a] => match (seqOf a h).bind txts with
    | some ys => if lineOk (strLens ys x.length) then .ok (.d (.str (Txt.join x ys))) h else .stuck
    | none => .stuck
  | _, _ => .stuck
def countV (a : W) (ws : List W) : M W := fun h => match ws with
  | [.d x] => match (listOf a h).bind toDs with
    | some ds => if depOk x then .ok (.d (.int (ds.countP fun y => PyData.eqv y x))) h else .stuck
    | none => .stuck
  | _ => .stuck
def indexV (a : W) (ws : List W) : M W := fun h => match ws with
  | [.d x] => match (listOf a h).bind toDs with
    | some ds => if depOk x then (match ds.findIdx? fun y => PyData.eqv y x with
      | some j => .ok (.d (.int j)) h
      | none => .stuck) else .stuck
    | none => .stuck
  | _ => .stuck
def mthV : Mth → W → List W → M W
  | .append => appendV
  | .extend => extendV
  | .reverse => reverseV
  | .pop => popV
  | .split => splitV
  | .join => joinV
  | .count => countV
  | .index => indexV

def recvOk (m : Mth) (w : W) (h : MH) : Bool := match m with
  | .split => (match w with
    | .d (.str _) => true
    | _ => false)
  | .join => (match w with
    | .d (.str _) => true
    | _ => false)
  | _ => (listOf w h).isSome

/-! ### loops, calls -/
mutual
def beqD : PyData → PyData → Bool
  | .none, .none => true
  | .bool a, .bool b => a == b
  | .int a, .int b => a == b
  | .str a, .str b => a == b
  | .list a, .list b => beqDs a b
  | .tuple a, .tuple b => beqDs a b
  | _, _ => false
def beqDs : List PyData → List PyData → Bool
  | [], [] => true
  | x :: xs, y :: ys => beqD x y && beqDs xs ys
  | _, _ => false
end
def beqW : W → W → Bool
  | .d x, .d y => beqD x y
  | .ref i, .ref j => i == j
  | .fn i, .fn j => i == j
  | _, _ => false
def beqWs : List W → List W → Bool
  | [], [] => true
  | x :: xs, y :: ys => beqW x y && beqWs xs ys
  | _, _ => false
/-- what a loop walks: the items, and the cell that must stay as it is -/
abbrev Src := List W × Option Nat
def srcOk (s : Src) (h : MH) : Bool := match s.2 with
  | none => true
  | some i => match cellL i h with
    | some ws => beqWs ws s.1
    | none => false
def signs (z : Str) : List W := z.cps.toList.map fun c => .d (.str ⟨#[c]⟩)
def srcOf (w : W) (h : MH) : Option Src := match w with
  | .d (.str z) => some (signs z, none)
  | .d (.list xs) => some (xs.map .d, none)
  | .d (.tuple xs) => some (xs.map .d, none)
  | .ro xs => some (xs.map .d, none)
  | .ref i => match h[i]? with
    | some (.lst ws) => some (ws, some i)
    | some (.frz (.list xs)) => some (xs.map .d, none)
    | _ => none
  | _ => none
def rngOk (i : Int) : Bool := Nat.ble i.natAbs 4611686018427387903
def rngFrom (i : Int) : Nat → List W
  | 0 => []
  | n + 1 => .d (.int i) :: rngFrom (i + 1) n
def wipeE (env : Ev) : List Nat → Ev
  | [] => env
  | v :: vs => (wipeE env vs).set v none
/-- a target: one name, or the names of a tuple -/
def setAll : Ev → List Nat → List W → Option Ev
  | env, [], [] => some env
  | env, i :: is, w :: ws => setAll (env.set i (some w)) is ws
  | _, _, _ => none
def setTg (tg : List Nat) (tup : Bool) (w : W) (env : Ev) : Option Ev := match tup, tg with
  | false, [i] => some (env.set i (some w))
  | true, is => match w with
    | .d (.tuple xs) => setAll env is (xs.map .d)
    | _ => none
  | _, _ => none
def compL (src : Src) (f : W → M (Option W)) : List W → List W → M (List W)
  | [], acc, h => if srcOk src h then .ok acc.reverse h else .stuck
  | w :: ws, acc, h => if srcOk src h then match f w h with
      | .ok (some y) h' => if Nat.blt acc.length 16777216 then compL src f ws (y :: acc) h' else .stuck
      | .ok none h' => compL src f ws acc h'
      | _ => .stuck
    else .stuck
def compG (test : Ev → M Bool) (elt : Ev → M W) (own tg : List Nat) (tup : Bool) (env : Ev) : W → M (Option W) := fun w h => match setTg tg tup w (wipeE env own) with
  | some env1 => (test env1 h).bind fun k h => if k then (elt env1 h).bind fun y h => .ok (some y) h else .ok none h
  | none => .stuck
/-- where a statement ends -/
inductive O where
  | nx (env : Ev)
  | ret (w : W)
  | brk (env : Ev)
  | cnt (env : Ev)
inductive RS where
  | ok (o : O) (h : MH)
  | exc (e : Exn) (env : Ev) (h : MH)
  | stuck
def R.toS {α : Type} (env : Ev) : R α → (α → MH → RS) → RS
  | .ok a h, f => f a h
  | .exc e h, _ => .exc e env h
  | .stuck, _ => .stuck
@[simp] theorem toS_ok {α : Type} (env : Ev) (a : α) (h : MH) (f : α → MH → RS) : (R.ok a h).toS env f = f a h := rfl
@[simp] theorem toS_exc {α : Type} (env : Ev) (e : Exn) (h : MH) (f : α → MH → RS) : (R.exc e h : R α).toS env f = .exc e env h := rfl
@[simp] theorem toS_stuck {α : Type} (env : Ev) (f : α → MH → RS) : (R.stuck : R α).toS env f = .stuck := rfl
def forL (src : Src) (tg : List Nat) (tup : Bool) (body : Ev → MH → RS) : List W → Ev → MH → RS
  | [], env, h => if srcOk src h then .ok (.nx env) h else .stuck
  | w :: ws, env, h => if srcOk src h then match setTg tg tup w env with
      | some env1 => match body env1 h with
        | .ok (.nx env2) h2 => forL src tg tup body ws env2 h2
        | .ok (.cnt env2) h2 => forL src tg tup body ws env2 h2
        | .ok (.brk env2) h2 => .ok (.nx env2) h2
        | .ok (.ret v) h2 => .ok (.ret v) h2
        | .exc e env2 h2 => .exc e env2 h2
        | .stuck => .stuck
      | none => .stuck
    else .stuck
def whileL (test : Ev → M Bool) (body : Ev → MH → RS) : Nat → Ev → MH → RS
  | 0, _, _ => .stuck
  | n + 1, env, h => (test env h).toS env fun b h1 => if b then match body env h1 with
      | .ok (.nx env2) h2 => whileL test body n env2 h2
      | .ok (.cnt env2) h2 => whileL test body n env2 h2
      | .ok (.brk env2) h2 => .ok (.nx env2) h2
      | .ok (.ret v) h2 => .ok (.ret v) h2
      | .exc e env2 h2 => .exc e env2 h2
      | .stuck => .stuck
    else .ok (.nx env) h1
/-- the cells that go along with a call: the refs of the arguments, each once, in order -/
def refsOf : List W → List Nat
  | [] => []
  | .ref i :: r => i :: refsOf r
  | _ :: r => refsOf r
def renum : Nat → List W → List W
  | _, [] => []
  | k, .ref _ :: r => .ref k :: renum (k + 1) r
  | k, w :: r => w :: renum k r
def flatO : Option W → Bool
  | some (.d _) => true
  | none => true
  | _ => false
def flatC : Cell → Bool
  | .lst ws => (toDs ws).isSome
  | .frz _ => true
  | .ins _ fs => fs.all flatO
def cellsAt (h : MH) : List Nat → Option (List Cell)
  | [] => some []
  | i :: r => match h[i]? with
    | some c => if flatC c then (cellsAt h r).map (c :: ·) else none
    | none => none
def putBack (h : MH) : List Nat → List Cell → Option MH
  | [], _ => some h
  | i :: r, c :: cs => if flatC c then putBack (h.set i c) r cs else none
  | _ :: _, [] => none
def nodupN : List Nat → Bool
  | [] => true
  | i :: r => !r.contains i && nodupN r
def resW (mu : Bool) (rs : List Nat) (w : W) (hc h2 : MH) : R W := match w with
  | .ref j => match rs[j]? with
    | some i => .ok (.ref i) h2
    | none => match hc[j]? with
      | some (.lst ws) => match toDs ws with
        | some ds => if mu then .ok (.ref h2.length) (h2 ++ [.lst ws]) else .ok (.d (.list ds)) h2
        | none => .stuck
      | some (.frz x) => .ok (.d x) h2
      | _ => .stuck
  | w => .ok w h2
def callW (Φ : Nat → List W → M W) (mu : Bool) (f : Nat) (ws : List W) : M W := fun h =>
  if nodupN (refsOf ws) then match cellsAt h (refsOf ws) with
    | some cs => match Φ f (renum 0 ws) cs with
      | .ok w hc => match putBack h (refsOf ws) hc with
        | some h2 => resW mu (refsOf ws) w hc h2
        | none => .stuck
      | .exc e hc => match putBack h (refsOf ws) hc with
        | some h2 => .exc e h2
        | none => .stuck
      | .stuck => .stuck
    | none => .stuck
  else .stuck
def fuel : Nat := 1000000
def lookS {α : Type} (x : Str) : List (Str × α) → Option α
  | [] => none
  | (k, v) :: r => if decide (k = x) then some v else lookS x r

/-! ### an error that is held -/
def noExW : W → Bool
  | .ex _ _ => false
  | _ => true
def noExO : Option W → Bool
  | none => true
  | some w => noExW w
def noExC : Cell → Bool
  | .lst ws => ws.all noExW
  | .frz _ => true
  | .ins _ fs => fs.all noExO
def noExH (h : MH) : Bool := h.all noExC
def setEx (i : Option Nat) (e : Exn) (env : Ev) : Ev := match i with
  | none => env
  | some k => env.set k (some (.ex e.cls e.arg))
def unset (i : Option Nat) (env : Ev) : Ev := match i with
  | none => env
  | some k => env.set k none
def endX (i : Option Nat) (env : Ev) : Option Ev := if (unset i env).all noExO then some (unset i env) else none
def unsetO (i : Option Nat) : O → Option O
  | .nx env => (endX i env).map .nx
  | .brk env => (endX i env).map .brk
  | .cnt env => (endX i env).map .cnt
  | .ret w => if noExW w then some (.ret w) else none

/-! ### the evaluator -/
mutual
def evE (Φ : Nat → List W → M W) : E → Ev → M W
  | .var i, env, h => lift (env[i]?.join) h
  | .lit x, _, h => .ok (.d x) h
  | .gl _ x, _, h => .ok (.d x) h
  | .bin nw op a b, env, h => (evE Φ a env h).bind fun x h => (evE Φ b env h).bind fun y h => binV nw op x y h
  | .neg a, env, h => (evE Φ a env h).bind fun x h => match x with
    | .d (.int i) => .ok (.d (.int (-i))) h
    | _ => .stuck
  | .not a, env, h => (evE Φ a env h).bind fun x h => lift ((truV x h).map fun b => .d (.bool (!b))) h
  | .and a b, env, h => (evE Φ a env h).bind fun x h => match truV x h with
    | some true => evE Φ b env h
    | some false => .ok x h
    | none => .stuck
  | .or a b, env, h => (evE Φ a env h).bind fun x h => match truV x h with
    | some true => .ok x h
    | some false => evE Φ b env h
    | none => .stuck
  | .cmp op a b, env, h => (evE Φ a env h).bind fun x h => (evE Φ b env h).bind fun y h => lift ((cmpV op x y h).map fun c => .d (.bool c)) h
  | .chain op op' a b c, env, h => (evE Φ a env h).bind fun x h => (evE Φ b env h).bind fun y h => match cmpV op x y h with
    | some true => (evE Φ c env h).bind fun z h => lift ((cmpV op' y z h).map fun c => .d (.bool c)) h
    | some false => .ok (.d (.bool false)) h
    | none => .stuck
  | .ite c a b, env, h => (evT Φ c env h).bind fun k h => if k then evE Φ a env h else evE Φ b env h
  | .tup es, env, h => (evEs Φ es env h).bind fun ws h => lift ((toDs ws).map fun ds => .d (.tuple ds)) h
  | .lst nw es, env, h => (evEs Φ es env h).bind fun ws h => mkL nw ws h
  | .idx a i, env, h => (evE Φ a env h).bind fun x h => (evE Φ i env h).bind fun y h => lift (idxV x y h) h
  | .slice a l u, env, h => (evE Φ a env h).bind fun x h => (evP Φ l env h).bind fun lo h => (evP Φ u env h).bind fun hi h => lift (sliceV x lo hi h) h
  | .call f mu es, env, h => (evEs Φ es env h).bind fun ws h => callW Φ mu f ws h
  | .callg _ tab a es, env, h => (evE Φ a env h).bind fun x h => match x with
    | .d (.str z) => (match lookS z tab with
      | some i => (evEs Φ es env h).bind fun ws h => callW Φ false i ws h
      | none => .stuck)
    | _ => .stuck
  | .gdin neg _ tab a, env, h => (evE Φ a env h).bind fun x h => match x with
    | .d (.str z) => .ok (.d (.bool ((lookS z tab).isSome != neg))) h
    | _ => .stuck
  | .dget ks a, env, h => (evE Φ a env h).bind fun x h => match x with
    | .d (.str z) => lift ((lookS z ks).map .d) h
    | _ => .stuck
  | .isi a t, env, h => (evE Φ a env h).bind fun x h => lift ((isiV x t h).map fun b => .d (.bool b)) h
  | .isx a c, env, h => (evE Φ a env h).bind fun x h => match x with
    | .ex c' none => .ok (.d (.bool (c' == c || c == 0))) h
    | _ => .stuck
  | .blt b es, env, h => (evEs Φ es env h).bind fun ws h => bltV b ws h
  | .meth m a es, env, h => (evE Φ a env h).bind fun x h => if recvOk m x h then (evEs Φ es env h).bind fun ws h => mthV m x ws h else .stuck
  | .comp nw own tg tup it c e, env, h => (evIt Φ it env h).bind fun src h =>
      (compL src (compG (fun env h => evT Φ c env h) (fun env h => evE Φ e env h) own tg tup env) src.1 [] h).bind fun ws h => mkL nw ws h
def evT (Φ : Nat → List W → M W) : T → Ev → M Bool
  | .not a, env, h => (evT Φ a env h).bind fun b h => .ok (!b) h
  | .and a b, env, h => (evT Φ a env h).bind fun k h => if k then evT Φ b env h else .ok false h
  | .or a b, env, h => (evT Φ a env h).bind fun k h => if k then .ok true h else evT Φ b env h
  | .val e, env, h => (evE Φ e env h).bind fun x h => lift (truV x h) h
  | .yes, _, h => .ok true h
def evP (Φ : Nat → List W → M W) : Pt → Ev → M (Option Int)
  | .no, _, h => .ok none h
  | .at e, env, h => (evE Φ e env h).bind fun w h => match w with
    | .d (.int i) => .ok (some i) h
    | _ => .stuck
def evEs (Φ : Nat → List W → M W) : Es → Ev → M (List W)
  | .nil, _, h => .ok [] h
  | .cons e es, env, h => (evE Φ e env h).bind fun w h => (evEs Φ es env h).bind fun ws h => .ok (w :: ws) h
def evIt (Φ : Nat → List W → M W) : It → Ev → M Src
  | .over e, env, h => (evE Φ e env h).bind fun w h => lift (srcOf w h) h
  | .rng1 e, env, h => (evE Φ e env h).bind fun w h => match w with
    | .d (.int j) => if rngOk j then .ok (rngFrom 0 j.toNat, none) h else .stuck
    | _ => .stuck
  | .rng2 a b, env, h => (evE Φ a env h).bind fun v h => (evE Φ b env h).bind fun w h => match v, w with
    | .d (.int i), .d (.int j) => if rngOk i && rngOk j then .ok (rngFrom i (j - i).toNat, none) h else .stuck
    | _, _ => .stuck
end
mutual
def evS (Φ : Nat → List W → M W) : S → Ev → MH → RS
  | .ex e, env, h => (evE Φ e env h).toS env fun _ h => .ok (.nx env) h
  | .set i e, env, h => (evE Φ e env h).toS env fun w h => .ok (.nx (env.set i (some w))) h
  | .setT is e, env, h => (evE Φ e env h).toS env fun w h => match setTg is true w env with
    | some env' => .ok (.nx env') h
    | none => .stuck
  | .ret e, env, h => (evE Φ e env h).toS env fun w h => .ok (.ret w) h
  | .ite c a b, env, h => (evT Φ c env h).toS env fun k h => if k then evSs Φ a env h else evSs Φ b env h
  | .for tg tup it b, env, h => (evIt Φ it env h).toS env fun src h => forL src tg tup (fun env h => evSs Φ b env h) src.1 env h
  | .while c b, env, h => whileL (fun env h => evT Φ c env h) (fun env h => evSs Φ b env h) fuel env h
  | .brk, env, h => .ok (.brk env) h
  | .cnt, env, h => .ok (.cnt env) h
  | .pass, env, h => .ok (.nx env) h
  | .raise c none, env, h => .exc ⟨c, none⟩ env h
  | .raise c (some e), env, h => (evE Φ e env h).toS env fun w h => match w with
    | .d x => .exc ⟨c, some x⟩ env h
    | _ => .stuck
  | .try1 b c i hd, env, h => match evSs Φ b env h with
    | .exc e env1 h1 => if e.cls == c || c == 0 then
        (match evSs Φ hd (setEx i e env1) h1 with
          | .ok o h2 => if noExH h2 then (match unsetO i o with
            | some o2 => .ok o2 h2
            | none => .stuck) else .stuck
          | _ => .stuck) else .exc e env1 h1
    | r => r
def evSs (Φ : Nat → List W → M W) : Ss → Ev → MH → RS
  | .nil, env, h => .ok (.nx env) h
  | .cons s ss, env, h => match evS Φ s env h with
    | .ok (.nx env1) h1 => evSs Φ ss env1 h1
    | r => r
end
/-- a def: its parameters' number, its names' number, its body -/
structure FD where
  np : Nat
  ns : Nat
  body : Ss
def runF (Φ : Nat → List W → M W) (fd : FD) (ws : List W) : M W := fun h =>
  if ws.length == fd.np then match evSs Φ fd.body (ws.map some ++ List.replicate (fd.ns - ws.length) none) h with
    | .ok (.ret w) h' => .ok w h'
    | .ok (.nx _) h' => .ok (.d .none) h'
    | .exc e _ h' => .exc e h'
    | _ => .stuck
  else .stuck
def callN (P : List FD) : Nat → Nat → List W → M W
  | 0, _, _, _ => .stuck
  | n + 1, f, ws, h => match P[f]? with
    | some fd => runF (callN P n) fd ws h
    | none => .stuck
end Mi

set_option maxRecDepth 100000
/-! Mi, second part: what ties the small language's state to the abstract heap of HandS. -/
namespace Mi
open PySem PySem.Spec PyProof.Rows L2

/-- what is fixed of the top: where the defs and the own classes stand -/
structure Top where
  K : PySem.W.Frag
  fa : Nat → Addr
  ca : Nat → Addr
  /-- how many own error classes there are -/
  nc : Nat
  /-- the name of an own class's one value -/
  xf : Nat → Str
  /-- how an error that is held looks -/
  xw : Nat → Option PyData → V → Prop

theorem SqT.up {K : PySem.W.Frag} {F F' : Hp} (s : ∀ a o, F a = some o → F' a = some o) {a : Addr} {xs : List V} : SqT K F a xs → SqT K F' a xs
  | .inl (.inl h) => .inl (.inl (s _ _ h))
  | .inl (.inr ⟨o, h⟩) => .inl (.inr ⟨o, s _ _ h⟩)
  | .inr h => .inr h
theorem SqL.up {K : PySem.W.Frag} {F F' : Hp} (s : ∀ a o, F a = some o → F' a = some o) {a : Addr} {xs : List V} : SqL K F a xs → SqL K F' a xs
  | .inl (.inl h) => .inl (.inl (s _ _ h))
  | .inl (.inr ⟨o, h⟩) => .inl (.inr ⟨o, s _ _ h⟩)
  | .inr h => .inr h
mutual
/-- data as it stands in the heap, its lists tracked -/
inductive Dq (K : PySem.W.Frag) (F : Hp) : V → PyData → Prop
  | non : Dq K F .non .none
  | bl (b : Bool) : Dq K F (.bl b) (.bool b)
  | int (i : Int) : Dq K F (.int i) (.int i)
  | str (x : Str) : Dq K F (.str x) (.str x)
  | lst {a : Addr} {xs : List V} {ds : List PyData} : F a = some (.lst xs) → DqAll K F xs ds → Dq K F (.ref a) (.list ds)
  | tup {a : Addr} {xs : List V} {ds : List PyData} : SqT K F a xs → DqAll K F xs ds → Dq K F (.ref a) (.tuple ds)
inductive DqAll (K : PySem.W.Frag) (F : Hp) : List V → List PyData → Prop
  | nil : DqAll K F [] []
  | cons {v : V} {vs : List V} {d : PyData} {ds : List PyData} : Dq K F v d → DqAll K F vs ds → DqAll K F (v :: vs) (d :: ds)
end
mutual
theorem Dq.up {K : PySem.W.Frag} {F F' : Hp} (s : ∀ a o, F a = some o → F' a = some o) : ∀ {v : V} {d : PyData}, Dq K F v d → Dq K F' v d
  | _, _, .non => .non
  | _, _, .bl b => .bl b
  | _, _, .int i => .int i
  | _, _, .str x => .str x
  | _, _, .lst h t => .lst (s _ _ h) (DqAll.up s t)
  | _, _, .tup h t => .tup (SqT.up s h) (DqAll.up s t)
theorem DqAll.up {K : PySem.W.Frag} {F F' : Hp} (s : ∀ a o, F a = some o → F' a = some o) : ∀ {v : List V} {d : List PyData}, DqAll K F v d → DqAll K F' v d
  | _, _, .nil => .nil
  | _, _, .cons h t => .cons (Dq.up s h) (DqAll.up s t)
end
mutual
theorem Dq.dp {K : PySem.W.Frag} {F F' : Hp} (s : ∀ a o, F a = some o → F' a = some o) : ∀ {v : V} {d : PyData}, Dq K F v d → Dp K F' v d
  | _, _, .non => .non
  | _, _, .bl b => .bl b
  | _, _, .int i => .int i
  | _, _, .str x => .str x
  | _, _, .lst h t => .lst (.inl (.inl (s _ _ h))) (DqAll.dp s t)
  | _, _, .tup h t => .tup (SqT.up s h) (DqAll.dp s t)
theorem DqAll.dp {K : PySem.W.Frag} {F F' : Hp} (s : ∀ a o, F a = some o → F' a = some o) : ∀ {v : List V} {d : List PyData}, DqAll K F v d → DpAll K F' v d
  | _, _, .nil => .nil
  | _, _, .cons h t => .cons (Dq.dp s h) (DqAll.dp s t)
end
theorem DqAll.len {K : PySem.W.Frag} {F : Hp} : ∀ {vs : List V} {ds : List PyData}, DqAll K F vs ds → vs.length = ds.length
  | _, _, .nil => rfl
  | _, _, .cons _ t => congrArg (· + 1) (DqAll.len t)
theorem DqAll.app {K : PySem.W.Frag} {F : Hp} : ∀ {vs us : List V} {ds es : List PyData}, DqAll K F vs ds → DqAll K F us es → DqAll K F (vs ++ us) (ds ++ es)
  | _, _, _, _, .nil, q => q
  | _, _, _, _, .cons h t, q => .cons h (DqAll.app t q)
theorem DqAll.take {K : PySem.W.Frag} {F : Hp} : ∀ {vs : List V} {ds : List PyData} (n : Nat), DqAll K F vs ds → DqAll K F (vs.take n) (ds.take n)
  | _, _, 0, _ => .nil
  | _, _, _ + 1, .nil => .nil
  | _, _, n + 1, .cons h t => .cons h (DqAll.take n t)
theorem DqAll.drop {K : PySem.W.Frag} {F : Hp} : ∀ {vs : List V} {ds : List PyData} (n : Nat), DqAll K F vs ds → DqAll K F (vs.drop n) (ds.drop n)
  | _, _, 0, q => q
  | _, _, _ + 1, .nil => .nil
  | _, _, n + 1, .cons _ t => DqAll.drop n t
theorem DqAll.get {K : PySem.W.Frag} {F : Hp} : ∀ {vs : List V} {ds : List PyData} {i : Nat} {d : PyData}, DqAll K F vs ds → ds[i]? = some d → ∃ v, vs[i]? = some v ∧ Dq K F v d
  | _, _, _, _, .nil, e => by simp at e
  | _, _, 0, _, .cons h _, e => by simp at e; subst e; exact ⟨_, rfl, h⟩
  | _, _, i + 1, d, .cons _ t, e => by
    obtain ⟨v, h1, h2⟩ := DqAll.get (i := i) (d := d) t (by simpa using e)
    exact ⟨v, by simpa using h1, h2⟩

variable (T : Top)
/-- a small value, as HandS sees it -/
def WR (F : Hp) (m : List Addr) : W → V → Prop
  | .d x, v => Dq T.K F v x
  | .ref i, v => ∃ a, m[i]? = some a ∧ v = .ref a
  | .fn i, v => v = .ref (T.fa i)
  | .ex c x, v => T.xw c x v
  | .ro xs, v => ∃ a vs, v = .ref a ∧ SqL T.K F a vs ∧ DqAll T.K F vs xs
def WRs (F : Hp) (m : List Addr) : List W → List V → Prop := Paired (WR T F m)
def CellR (F : Hp) (m : List Addr) (H : Hp) (a : Addr) : Cell → Prop
  | .lst ws => F a = none ∧ ∃ vs, H a = some (.lst vs) ∧ WRs T F m ws vs
  | .frz x => (∃ o, F a = some o) ∧ Dq T.K F (.ref a) x
  | .ins _ _ => False
structure Sim (F : Hp) (m : List Addr) (h : MH) (H : Hp) : Prop where
  sub : ∀ a o, F a = some o → H a = some o
  len : m.length = h.length
  nd : m.Nodup
  cell : ∀ (i : Nat) (c : Cell) (a : Addr), h[i]? = some c → m[i]? = some a → CellR T F m H a c
structure Ext (F : Hp) (m : List Addr) (H : Hp) (F' : Hp) (m' : List Addr) (H' : Hp) : Prop where
  sub : ∀ a o, F a = some o → F' a = some o
  pre : ∃ t, m' = m ++ t ∧ ∀ a ∈ t, H a = none
  keep : ∀ a o, H a = some o → a ∉ m → H' a = some o
  new : ∀ a o, F' a = some o → F a = none → H a = none ∨ a ∈ m
def EnvR (F : Hp) (m : List Addr) (env : Ev) (σ : L2.St) : Prop :=
  env.length = σ.length ∧ ∀ (i : Nat) (w : W), env[i]? = some (some w) → ∃ v, σ[i]? = some (some v) ∧ WR T F m w v
/-- an own error in the air -/
def ExnR (F : Hp) (H : Hp) (e : Exn) (cls : Value) (d : Option Addr) : Prop :=
  cls = .ref (T.ca e.cls) ∧ e.cls < T.nc ∧ match e.arg with
    | none => d = none
    | some x => ∃ dd v, d = some dd ∧ H dd = some (.xd [(T.xf e.cls, v)]) ∧ Dq T.K F v x

variable {T}
variable {F F' F1 F2 : Hp} {m m' m1 m2 : List Addr} {h h' : MH} {H H' H1 H2 : Hp}
theorem Ext.refl : Ext F m H F m H := ⟨fun _ _ e => e, ⟨[], by simp, by simp⟩, fun _ _ e _ => e, fun a o e n => by rw [n] at e; cases e⟩
theorem Ext.trans (x : Ext F m H F1 m1 H1) (y : Ext F1 m1 H1 F2 m2 H2) (nd : m2.Nodup) : Ext F m H F2 m2 H2 := by
  obtain ⟨t1, e1, n1⟩ := x.pre
  obtain ⟨t2, e2, n2⟩ := y.pre
  have live : ∀ a, H1 a = none → H a = none ∨ a ∈ m := fun a n => by
    cases q : H a with
    | none => exact .inl rfl
    | some o =>
      by_cases hm : a ∈ m
      · exact .inr hm
      · rw [x.keep a o q hm] at n; cases n
  refine ⟨fun a o e => y.sub _ _ (x.sub _ _ e), ⟨t1 ++ t2, by rw [e2, e1, List.append_assoc], fun a ha => ?_⟩, fun a o e n => ?_, fun a o e n => ?_⟩
  · rcases List.mem_append.mp ha with ha | ha
    · exact n1 a ha
    · rcases live a (n2 a ha) with z | z
      · exact z
      · rw [e2, e1] at nd
        exact absurd ha ((List.nodup_append.mp nd).2.2 a (List.mem_append_left _ z) a · rfl)
  · refine y.keep a o (x.keep a o e n) fun z => ?_
    rw [e1] at z
    rcases List.mem_append.mp z with z | z
    · exact n z
    · rw [n1 a z] at e; cases e
  · cases q : F1 a with
    | some o1 => exact x.new a o1 q n
    | none =>
      rcases y.new a o e q with z | z
      · exact live a z
      · rw [e1] at z
        rcases List.mem_append.mp z with z | z
        · exact .inr z
        · exact .inl (n1 a z)
theorem WR.up {w : W} {v : V} (s : ∀ a o, F a = some o → F' a = some o) (p : ∃ t, m' = m ++ t) (r : WR T F m w v) : WR T F' m' w v := by
  cases w with
  | d x => exact Dq.up s r
  | ref i =>
    obtain ⟨a, e, z⟩ := r
    obtain ⟨t, rfl⟩ := p
    refine ⟨a, ?_, z⟩
    rw [List.getElem?_append_left (List.getElem?_eq_some_iff.mp e).1]
    exact e
  | fn i => exact r
  | ex c x => exact r
  | ro xs =>
    obtain ⟨a, vs, e, q, d⟩ := r
    exact ⟨a, vs, e, SqL.up s q, DqAll.up s d⟩
theorem WRs.up {ws : List W} {vs : List V} (s : ∀ a o, F a = some o → F' a = some o) (p : ∃ t, m' = m ++ t) (r : WRs T F m ws vs) : WRs T F' m' ws vs := Paired.mapP r fun _ _ q => q.up s p
theorem Ext.p (x : Ext F m H F' m' H') : ∃ t, m' = m ++ t := let ⟨t, e, _⟩ := x.pre; ⟨t, e⟩
theorem WR.ext {w : W} {v : V} (x : Ext F m H F' m' H') (r : WR T F m w v) : WR T F' m' w v := r.up x.sub x.p
theorem WRs.ext {ws : List W} {vs : List V} (x : Ext F m H F' m' H') (r : WRs T F m ws vs) : WRs T F' m' ws vs := r.up x.sub x.p
theorem EnvR.ext {env : Ev} {σ : L2.St} (x : Ext F m H F' m' H') (r : EnvR T F m env σ) : EnvR T F' m' env σ :=
  ⟨r.1, fun i w e => let ⟨v, h1, h2⟩ := r.2 i w e; ⟨v, h1, h2.ext x⟩⟩
theorem EnvR.set {env : Ev} {σ : L2.St} {w : W} {v : V} (r : EnvR T F m env σ) (i : Nat) (q : WR T F m w v) : EnvR T F m (env.set i (some w)) (σ.set i (some v)) := by
  refine ⟨by rw [List.length_set, List.length_set]; exact r.1, fun j u e => ?_⟩
  by_cases hj : i = j
  · subst hj
    by_cases hl : i < env.length
    · rw [List.getElem?_set_self hl] at e
      cases e
      exact ⟨v, by rw [List.getElem?_set_self (by rw [← r.1]; exact hl)], q⟩
    · rw [List.getElem?_eq_none (by rw [List.length_set]; omega)] at e
      cases e
  · rw [List.getElem?_set_ne hj] at e
    obtain ⟨x, h1, h2⟩ := r.2 j u e
    exact ⟨x, by rw [List.getElem?_set_ne hj]; exact h1, h2⟩
theorem EnvR.setN {env : Ev} {σ : L2.St} (r : EnvR T F m env σ) (i : Nat) (o : Option V) : EnvR T F m (env.set i none) (σ.set i o) := by
  refine ⟨by rw [List.length_set, List.length_set]; exact r.1, fun j u e => ?_⟩
  by_cases hj : i = j
  · subst hj
    by_cases hl : i < env.length
    · rw [List.getElem?_set_self hl] at e; cases e
    · rw [List.getElem?_eq_none (by rw [List.length_set]; omega)] at e
      cases e
  · rw [List.getElem?_set_ne hj] at e
    obtain ⟨x, h1, h2⟩ := r.2 j u e
    exact ⟨x, by rw [List.getElem?_set_ne hj]; exact h1, h2⟩
theorem EnvR.wipe {env : Ev} {σ : L2.St} (r : EnvR T F m env σ) : ∀ vs : List Nat, EnvR T F m (wipeE env vs) (wipe σ vs)
  | [] => r
  | v :: vs => (EnvR.wipe r vs).setN v none
theorem Sim.at {i : Nat} {c : Cell} (S : Sim T F m h H) (e : h[i]? = some c) : ∃ a, m[i]? = some a ∧ CellR T F m H a c := by
  have hi : i < m.length := by rw [S.len]; exact (List.getElem?_eq_some_iff.mp e).1
  exact ⟨m[i], List.getElem?_eq_getElem hi, S.cell i c _ e (List.getElem?_eq_getElem hi)⟩
/-- every cell stands in the heap -/
theorem CellR.there {c : Cell} {a : Addr} (S : Sim T F m h H) (r : CellR T F m H a c) : ∃ o, H a = some o := by
  cases c with
  | lst ws => obtain ⟨_, vs, e, _⟩ := r; exact ⟨_, e⟩
  | frz x => obtain ⟨⟨o, e⟩, _⟩ := r; exact ⟨o, S.sub _ _ e⟩
  | ins c fs => exact r.elim
theorem Sim.there {a : Addr} (S : Sim T F m h H) (hm : a ∈ m) : ∃ o, H a = some o := by
  obtain ⟨i, hi, e⟩ := List.mem_iff_getElem.mp hm
  have hh : i < h.length := by rw [← S.len]; exact hi
  exact (S.cell i h[i] a (List.getElem?_eq_getElem hh) (by rw [List.getElem?_eq_getElem hi, e])).there S
theorem Sim.notM {a : Addr} (S : Sim T F m h H) (n : H a = none) : a ∉ m := fun z => by
  obtain ⟨o, e⟩ := S.there z
  rw [n] at e; cases e
theorem Sim.notF {a : Addr} (S : Sim T F m h H) (n : H a = none) : F a = none := by
  cases q : F a with
  | none => rfl
  | some o => rw [S.sub _ _ q] at n; cases n
/-- a new object that is data from now on -/
theorem Sim.newF {p : Addr} {o : HO} (S : Sim T F m h H) (n : H p = none) : Sim T (upd F p o) m h (upd H p o) ∧ Ext F m H (upd F p o) m (upd H p o) := by
  have nF := S.notF n
  have nM := S.notM n
  have sF : ∀ a u, F a = some u → upd F p o a = some u := fun a u e => by rw [upd_ne (ne_of_none e nF)]; exact e
  refine ⟨⟨fun a u e => ?_, S.len, S.nd, fun i c a e1 e2 => ?_⟩, ⟨sF, ⟨[], by simp, by simp⟩, fun a u e _ => by rw [upd_ne (ne_of_none e n)]; exact e, fun a u e z => ?_⟩⟩
  · by_cases q : a = p
    · subst q; rw [upd_same] at e ⊢; exact e
    · rw [upd_ne q] at e ⊢; exact S.sub _ _ e
  · have ne : a ≠ p := fun z => nM (z ▸ List.mem_of_getElem? e2)
    have r := S.cell i c a e1 e2
    cases c with
    | lst ws =>
      obtain ⟨z, vs, q, ws'⟩ := r
      exact ⟨by rw [upd_ne ne]; exact z, vs, by rw [upd_ne ne]; exact q, ws'.up sF ⟨[], by simp⟩⟩
    | frz x =>
      obtain ⟨⟨u, q⟩, d⟩ := r
      exact ⟨⟨u, sF _ _ q⟩, Dq.up sF d⟩
    | ins _ _ => exact r.elim
  · by_cases q : a = p
    · exact .inl (q ▸ n)
    · rw [upd_ne q, z] at e; cases e
/-- a new object that the small program may change -/
theorem Sim.newC {p : Addr} {ws : List W} {vs : List V} (S : Sim T F m h H) (n : H p = none) (r : WRs T F m ws vs) :
    Sim T F (m ++ [p]) (h ++ [.lst ws]) (upd H p (.lst vs)) ∧ Ext F m H F (m ++ [p]) (upd H p (.lst vs)) := by
  have nF := S.notF n
  have nM := S.notM n
  refine ⟨⟨fun a u e => by rw [upd_ne (ne_of_none e nF)]; exact S.sub _ _ e, by simp [S.len], ?_, fun i c a e1 e2 => ?_⟩, ⟨fun _ _ e => e, ⟨[p], rfl, by simpa using n⟩, fun a u e _ => by rw [upd_ne (ne_of_none e n)]; exact e, fun a u e z => by rw [z] at e; cases e⟩⟩
  · rw [List.nodup_append]
    exact ⟨S.nd, by simp, fun a ha b hb => by simp at hb; subst hb; exact fun e => nM (e ▸ ha)⟩
  · by_cases hi : i < h.length
    · rw [List.getElem?_append_left hi] at e1
      rw [List.getElem?_append_left (by rw [S.len]; exact hi)] at e2
      have ne : a ≠ p := fun z => nM (z ▸ List.mem_of_getElem? e2)
      have q := S.cell i c a e1 e2
      cases c with
      | lst us =>
        obtain ⟨z, xs, q, rs⟩ := q
        exact ⟨z, xs, by rw [upd_ne ne]; exact q, rs.up (fun _ _ e => e) ⟨[p], rfl⟩⟩
      | frz x => exact q
      | ins _ _ => exact q.elim
    · have hl : i < (h ++ [Cell.lst ws]).length := (List.getElem?_eq_some_iff.mp e1).1
      rw [List.length_append] at hl
      have hi' : i = h.length := by simp at hl; omega
      subst hi'
      rw [List.getElem?_append_right (Nat.le_refl _), Nat.sub_self] at e1
      rw [List.getElem?_append_right (by rw [S.len]; exact Nat.le_refl _), S.len, Nat.sub_self] at e2
      cases e1
      cases e2
      exact ⟨nF, vs, upd_same, r.up (fun _ _ e => e) ⟨[p], rfl⟩⟩
/-- a cell is written -/
theorem Sim.put {i : Nat} {a : Addr} {us ws : List W} {vs : List V} (S : Sim T F m h H) (e : h[i]? = some (.lst us)) (ea : m[i]? = some a) (r : WRs T F m ws vs) :
    Sim T F m (h.set i (.lst ws)) (upd H a (.lst vs)) ∧ Ext F m H F m (upd H a (.lst vs)) := by
  obtain ⟨nF, xs, eH, _⟩ := S.cell i _ a e ea
  have hi : i < h.length := (List.getElem?_eq_some_iff.mp e).1
  refine ⟨⟨fun b u q => by rw [upd_ne (ne_of_none q nF)]; exact S.sub _ _ q, by rw [List.length_set]; exact S.len, S.nd, fun j c b e1 e2 => ?_⟩, ⟨fun _ _ q => q, ⟨[], by simp, by simp⟩, fun b u q n => by rw [upd_ne (fun z : b = a => n (by rw [z]; exact List.mem_of_getElem? ea))]; exact q, fun b u q z => by rw [z] at q; cases q⟩⟩
  by_cases hj : i = j
  · subst hj
    rw [List.getElem?_set_self hi] at e1
    rw [ea] at e2
    cases e1
    cases e2
    exact ⟨nF, vs, upd_same, r⟩
  · rw [List.getElem?_set_ne hj] at e1
    have ne : b ≠ a := fun z => by
      subst z
      obtain ⟨h1, q1⟩ := List.getElem?_eq_some_iff.mp ea
      obtain ⟨h2, q2⟩ := List.getElem?_eq_some_iff.mp e2
      exact hj ((List.getElem_inj S.nd).mp (q1.trans q2.symm))
    have q := S.cell j c b e1 e2
    cases c with
    | lst _ =>
      obtain ⟨z, xs, q, rs⟩ := q
      exact ⟨z, xs, by rw [upd_ne ne]; exact q, rs⟩
    | frz x => exact q
    | ins _ _ => exact q.elim

/-! ### runs -/
section
variable (T)
def Run {α : Type} (Wx : WX) (σ : L2.St) (F : Hp) (m : List Addr) (H : Hp) (r : R α) (k : α → Hp → List Addr → MH → Hp → Prop) : Prop := match r with
  | .ok a h' => ∀ F' m' H', Sim T F' m' h' H' → Ext F m H F' m' H' → k a F' m' h' H'
  | .exc e h' => ∀ F' m' H' cls d, Sim T F' m' h' H' → Ext F m H F' m' H' → ExnR T F' H' e cls d → Wx cls d σ H'
  | .stuck => False
end
variable {α β : Type} {Wx : WX} {σ : L2.St}
theorem Run.bind {r : R α} {f : α → M β} {k : β → Hp → List Addr → MH → Hp → Prop} (x : Run T Wx σ F m H (r.bind f) k) :
    Run T Wx σ F m H r (fun a F1 m1 h1 H1 => Run T Wx σ F1 m1 H1 (f a h1) k) := by
  cases r with
  | ok a h1 =>
    intro F1 m1 H1 S1 X1
    have x' : Run T Wx σ F m H (f a h1) k := x
    revert x'
    cases f a h1 with
    | ok b h2 => exact fun x' F2 m2 H2 S2 X2 => x' F2 m2 H2 S2 (X1.trans X2 S2.nd)
    | exc e h2 => exact fun x' F2 m2 H2 cls d S2 X2 ex => x' F2 m2 H2 cls d S2 (X1.trans X2 S2.nd) ex
    | stuck => exact fun x' => x'
  | exc e h1 => exact x
  | stuck => exact x
theorem Run.imp {r : R α} {k k' : α → Hp → List Addr → MH → Hp → Prop} (x : Run T Wx σ F m H r k) (f : ∀ a F' m' h' H', Sim T F' m' h' H' → Ext F m H F' m' H' → k a F' m' h' H' → k' a F' m' h' H') : Run T Wx σ F m H r k' := by
  cases r with
  | ok a h1 => exact fun F1 m1 H1 S1 X1 => f _ _ _ _ _ S1 X1 (x F1 m1 H1 S1 X1)
  | exc e h1 => exact x
  | stuck => exact x
theorem Run.here {a : α} {k : α → Hp → List Addr → MH → Hp → Prop} (S : Sim T F m h H) (x : Run T Wx σ F m H (.ok a h) k) : k a F m h H := x F m H S Ext.refl
theorem Run.lift {o : Option α} {k : α → Hp → List Addr → MH → Hp → Prop} (S : Sim T F m h H) (x : Run T Wx σ F m H (lift o h) k) : ∃ a, o = some a ∧ k a F m h H := by
  cases o with
  | none => exact x.elim
  | some a => exact ⟨a, rfl, Run.here S x⟩
end Mi

set_option maxRecDepth 100000
set_option maxHeartbeats 1000000
/-! Mi, third part: operations on values. -/
namespace Mi
open PySem PySem.Spec PyProof.Rows L2
variable {T : Top} {F F' : Hp} {m m' : List Addr} {h h' : MH} {H H' : Hp} {Wx : WX} {σ0 : L2.St}

theorem toDs_eq : ∀ {ws : List W} {xs : List PyData}, toDs ws = some xs → ws = xs.map .d
  | [], xs, e => by cases e; rfl
  | .d x :: r, xs, e => by
    unfold toDs at e
    cases q : toDs r with
    | none => rw [q] at e; cases e
    | some ys =>
      rw [q] at e
      cases e
      rw [toDs_eq q]
      rfl
  | .ref _ :: _, _, e => by cases e
  | .fn _ :: _, _, e => by cases e
  | .ex _ _ :: _, _, e => by cases e
  | .ro _ :: _, _, e => by cases e
theorem wrs_d : ∀ {xs : List PyData} {vs : List V}, WRs T F m (xs.map .d) vs → DqAll T.K F vs xs
  | [], _, .nil => .nil
  | _ :: _, _, .cons h t => .cons h (wrs_d t)
theorem d_wrs : ∀ {xs : List PyData} {vs : List V}, DqAll T.K F vs xs → WRs T F m (xs.map .d) vs
  | [], _, .nil => .nil
  | _ :: _, _, .cons h t => .cons h (d_wrs t)
theorem wrs_toDs {ws : List W} {xs : List PyData} {vs : List V} (e : toDs ws = some xs) (r : WRs T F m ws vs) : DqAll T.K F vs xs := by
  rw [toDs_eq e] at r
  exact wrs_d r
theorem WRs.len {ws : List W} {vs : List V} (r : WRs T F m ws vs) : ws.length = vs.length := Paired.length r
theorem WRs.app : ∀ {ws us : List W} {vs xs : List V}, WRs T F m ws vs → WRs T F m us xs → WRs T F m (ws ++ us) (vs ++ xs)
  | _, _, _, _, .nil, q => q
  | _, _, _, _, .cons h t, q => .cons h (WRs.app t q)
theorem WRs.get : ∀ {ws : List W} {vs : List V} {i : Nat} {w : W}, WRs T F m ws vs → ws[i]? = some w → ∃ v, vs[i]? = some v ∧ WR T F m w v
  | _, _, _, _, .nil, e => by simp at e
  | _, _, 0, _, .cons h _, e => by simp at e; subst e; exact ⟨_, rfl, h⟩
  | _, _, i + 1, w, .cons _ t, e => by
    obtain ⟨v, h1, h2⟩ := WRs.get (i := i) (w := w) t (by simpa using e)
    exact ⟨v, by simpa using h1, h2⟩
theorem WRs.rev {ws : List W} {vs : List V} (r : WRs T F m ws vs) : WRs T F m ws.reverse vs.reverse := by
  induction r with
  | nil => exact .nil
  | cons h _ ih =>
    rw [List.reverse_cons, List.reverse_cons]
    exact WRs.app ih (.cons h .nil)
theorem WRs.dropLast : ∀ {ws : List W} {vs : List V}, WRs T F m ws vs → WRs T F m ws.dropLast vs.dropLast
  | _, _, .nil => .nil
  | _, _, .cons _ .nil => .nil
  | _, _, .cons h (.cons h2 t) => .cons h (WRs.dropLast (.cons h2 t))
theorem WRs.take : ∀ {ws : List W} {vs : List V} (n : Nat), WRs T F m ws vs → WRs T F m (ws.take n) (vs.take n)
  | _, _, 0, _ => .nil
  | _, _, _ + 1, .nil => .nil
  | _, _, n + 1, .cons h t => .cons h (WRs.take n t)
theorem cell_lst {i : Nat} {ws : List W} {v : V} (S : Sim T F m h H) (e : (match h[i]? with
    | some (.lst ws) => some ws
    | some (.frz (.list xs)) => some (xs.map .d)
    | _ => none) = some ws) (r : WR T F m (.ref i) v) : ∃ a vs, v = .ref a ∧ H a = some (.lst vs) ∧ WRs T F m ws vs := by
  obtain ⟨a, ea, rfl⟩ := r
  split at e
  · rename_i ws' e1
    cases e
    obtain ⟨_, vs, e2, rs⟩ := S.cell i _ a e1 ea
    exact ⟨a, vs, rfl, e2, rs⟩
  · rename_i xs e1
    cases e
    obtain ⟨_, d⟩ := S.cell i _ a e1 ea
    cases d with
    | lst q d => exact ⟨_, _, rfl, S.sub _ _ q, d_wrs d⟩
  · cases e
theorem listOf_ok {w : W} {ws : List W} {v : V} (S : Sim T F m h H) (e : listOf w h = some ws) (r : WR T F m w v) : ∃ a vs, v = .ref a ∧ H a = some (.lst vs) ∧ WRs T F m ws vs := by
  cases w with
  | d x =>
    cases x with
    | list xs =>
      cases e
      cases r with
      | lst q d => exact ⟨_, _, rfl, S.sub _ _ q, d_wrs d⟩
    | _ => cases e
  | ref i => exact cell_lst S e r
  | _ => cases e
theorem seqOf_ok {w : W} {ws : List W} {v : V} (S : Sim T F m h H) (e : seqOf w h = some ws) (r : WR T F m w v) : ∃ a vs, v = .ref a ∧ (SqL T.K H a vs ∨ SqT T.K H a vs) ∧ WRs T F m ws vs := by
  have lo : listOf w h = some ws → ∃ a vs, v = .ref a ∧ (SqL T.K H a vs ∨ SqT T.K H a vs) ∧ WRs T F m ws vs := fun e => by
    obtain ⟨a, vs, e1, e2, rs⟩ := listOf_ok S e r
    exact ⟨a, vs, e1, .inl (.inl (.inl e2)), rs⟩
  cases w with
  | d x =>
    cases x with
    | list xs => exact lo e
    | tuple xs =>
      cases e
      cases r with
      | tup q d => exact ⟨_, _, rfl, .inr (SqT.up S.sub q), d_wrs d⟩
    | _ => cases e
  | ref i => exact lo e
  | _ => cases e
theorem dOf_ok {w : W} {x : PyData} {v : V} (S : Sim T F m h H) (e : dOf w h = some x) (r : WR T F m w v) : Dp T.K H v x := by
  cases w with
  | d y =>
    cases e
    exact Dq.dp S.sub r
  | ref i =>
    obtain ⟨a, ea, rfl⟩ := r
    simp only [dOf] at e
    split at e
    · rename_i ws' e1
      obtain ⟨_, vs, e2, rs⟩ := S.cell i _ a e1 ea
      cases q : toDs ws' with
      | none => rw [q] at e; cases e
      | some ds =>
        rw [q] at e
        cases e
        exact .lst (.inl (.inl e2)) (DqAll.dp S.sub (wrs_toDs q rs))
    · rename_i xs e1
      cases e
      obtain ⟨_, d⟩ := S.cell i _ a e1 ea
      exact Dq.dp S.sub d
    · cases e
  | _ => cases e

/-! ### readings by the small evaluator -/
variable (T)
/-- what is wanted of a value, by what the evaluator gives -/
def rW1 (o : W → M W) : V → Hp → VK → Prop := fun x H Q => ∃ Wx σ F m h w, Sim T F m h H ∧ WR T F m w x ∧ Run T Wx σ F m H (o w h) fun r F' m' _ H' => ∀ v, WR T F' m' r v → Q v H'
def rW2 (o : W → W → M W) : R2 := fun x y H Q => ∃ Wx σ F m h w1 w2, Sim T F m h H ∧ WR T F m w1 x ∧ WR T F m w2 y ∧ Run T Wx σ F m H (o w1 w2 h) fun r F' m' _ H' => ∀ v, WR T F' m' r v → Q v H'
def rWs (o : List W → M W) : List V → Hp → VK → Prop := fun xs H Q => ∃ Wx σ F m h ws, Sim T F m h H ∧ WRs T F m ws xs ∧ Run T Wx σ F m H (o ws h) fun r F' m' _ H' => ∀ v, WR T F' m' r v → Q v H'
variable {T}
theorem mkL_ok {nw : Bool} {ws : List W} {vs : List V} {Q : VK} (S : Sim T F m h H) (r : WRs T F m ws vs) (x : Run T Wx σ0 F m H (mkL nw ws h) fun w F' m' _ H' => ∀ v, WR T F' m' w v → Q v H') :
    ∀ p, H p = none → Q (.ref p) (upd H p (.lst vs)) := fun p n => by
  unfold mkL at x
  split at x
  · obtain ⟨S1, X1⟩ := S.newC n r
    refine x _ _ _ S1 X1 (.ref p) ⟨p, ?_, rfl⟩
    rw [← S.len, List.getElem?_append_right (Nat.le_refl _), Nat.sub_self]
    rfl
  · split at x
    · rename_i ds e
      obtain ⟨S1, X1⟩ := S.newF (o := .lst vs) n
      exact x _ _ _ S1 X1 (.ref p) (.lst upd_same (DqAll.up X1.sub (wrs_toDs e r)))
    · exact x.elim
theorem tup_ok {xs : List PyData} {vs : List V} {Q : VK} (S : Sim T F m h H) (r : DqAll T.K F vs xs) (x : Run T Wx σ0 F m H (.ok (.d (.tuple xs)) h) fun w F' m' _ H' => ∀ v, WR T F' m' w v → Q v H') :
    ∀ p, H p = none → Q (.ref p) (upd H p (.tup vs)) := fun p n => by
  obtain ⟨S1, X1⟩ := S.newF (o := .tup vs) n
  exact x _ _ _ S1 X1 (.ref p) (.tup (.inl (.inl upd_same)) (DqAll.up X1.sub r))
theorem lst_ok {xs : List PyData} {vs : List V} {Q : VK} (S : Sim T F m h H) (r : DqAll T.K F vs xs) (x : Run T Wx σ0 F m H (.ok (.d (.list xs)) h) fun w F' m' _ H' => ∀ v, WR T F' m' w v → Q v H') :
    ∀ p, H p = none → Q (.ref p) (upd H p (.lst vs)) := fun p n => by
  obtain ⟨S1, X1⟩ := S.newF (o := .lst vs) n
  exact x _ _ _ S1 X1 (.ref p) (.lst upd_same (DqAll.up X1.sub r))
theorem lineOk_le {n : Nat} (e : lineOk n = true) : n ≤ sizeLine := by
  rw [sizeLine_eq]
  exact Nat.le_of_ble_eq_true e
theorem int_inv {K : PySem.W.Frag} {v : V} {i : Int} (r : Dq K F v (.int i)) : v = .int i := by cases r; rfl
theorem str_inv {K : PySem.W.Frag} {v : V} {i : Str} (r : Dq K F v (.str i)) : v = .str i := by cases r; rfl
theorem bool_inv {K : PySem.W.Frag} {v : V} {i : Bool} (r : Dq K F v (.bool i)) : v = .bl i := by cases r; rfl

section
variable {X : Cx}
theorem mulOk_iff {i j : Int} (e : mulOk i j = true) : CMul i j := by
  unfold mulOk at e
  rw [Bool.or_eq_true] at e
  unfold CMul
  rcases e with e | e
  · have := Nat.le_of_ble_eq_true e
    exact .inl ⟨by omega, by omega⟩
  · have := Nat.le_of_ble_eq_true e
    exact .inr ⟨by omega, by omega⟩
theorem powOk_iff {i j : Int} (e : powOk i j = true) : CPow i j := by
  unfold powOk at e
  rw [Bool.and_eq_true] at e
  have h2 := Nat.le_of_ble_eq_true e.2
  unfold CPow
  cases j with
  | ofNat n =>
    have h1 := Nat.le_of_ble_eq_true e.1
    exact ⟨Int.natCast_nonneg n, by show (n : Int) ≤ 1000000; omega, by omega⟩
  | negSucc n => exact absurd e.1 Bool.false_ne_true
theorem or_int {op : Operator} {i j k : Int} (e : intOp op i j = some k) : ∀ (pins : List (Addr × Obj)) (s : Shared) (σ : L2.St) (H : Hp) (v u : Value) (Q : VK), Inv X pins σ H s → RelV (.int i) v → RelV (.int j) u → Q (.int k) H →
    wpAny (model X.prog X.w) X.A (binaryOp op v u) (EP X pins σ Q) X.xe s := fun pins s σ H v u Q I rx ry q => by
  cases op with
  | Add => cases e; exact op_add pins s σ H _ _ v u Q I rx ry ⟨i, j, rfl, rfl, q⟩
  | Sub => cases e; exact op_sub pins s σ H _ _ v u Q I rx ry ⟨i, j, rfl, rfl, q⟩
  | Mult =>
    simp only [intOp] at e
    split at e
    · rename_i c; cases e; exact op_mul pins s σ H _ _ v u Q I rx ry ⟨i, j, rfl, rfl, mulOk_iff c, q⟩
    · cases e
  | FloorDiv =>
    simp only [intOp] at e
    split at e
    · rename_i c
      simp only [Bool.and_eq_true, decide_eq_true_eq] at c
      cases e; exact op_fdivN pins s σ H _ _ v u Q I rx ry ⟨i, j, rfl, rfl, ⟨c.1, by have := Nat.le_of_ble_eq_true c.2; omega⟩, q⟩
    · cases e
  | Mod =>
    simp only [intOp] at e
    split at e
    · rename_i c
      simp only [decide_eq_true_eq] at c
      cases e; exact op_modN pins s σ H _ _ v u Q I rx ry ⟨i, j, rfl, rfl, c, q⟩
    · cases e
  | Pow =>
    simp only [intOp] at e
    split at e
    · rename_i c; cases e; exact op_pow pins s σ H _ _ v u Q I rx ry ⟨i, j, rfl, rfl, powOk_iff c, q⟩
    · cases e
  | LShift =>
    simp only [intOp] at e
    split at e
    · rename_i c; cases e; exact op_shl pins s σ H _ _ v u Q I rx ry ⟨i, j, rfl, rfl, powOk_iff c, q⟩
    · cases e
  | RShift =>
    simp only [intOp] at e
    split at e
    · rename_i c
      simp only [decide_eq_true_eq] at c
      cases e; exact op_shr pins s σ H _ _ v u Q I rx ry ⟨i, j, rfl, rfl, c, q⟩
    · cases e
  | BitAnd => cases e; exact op_and pins s σ H _ _ v u Q I rx ry ⟨i, j, rfl, rfl, q⟩
  | BitOr => cases e; exact op_or pins s σ H _ _ v u Q I rx ry ⟨i, j, rfl, rfl, q⟩
  | BitXor => cases e; exact op_xor pins s σ H _ _ v u Q I rx ry ⟨i, j, rfl, rfl, q⟩
  | _ => cases e
theorem or_bin {nw : Bool} {op : Operator} (hK : X.K = T.K) : OpR X (binaryOp op) (rW2 T (binV nw op)) := by
  rintro pins s σ H x y v u Q I rx ry ⟨Wx, σ0, F, m, h, w1, w2, S, r1, r2, R⟩
  unfold binV at R
  split at R
  · rename_i i j
    cases int_inv r1
    cases int_inv r2
    split at R
    · rename_i k e
      exact or_int e pins s σ H v u Q I rx ry (Run.here S R (.int k) (.int k))
    · exact R.elim
  · rename_i a b
    cases str_inv r1
    cases str_inv r2
    split at R
    · split at R
      · rename_i c
        exact op_add_str pins s σ H _ _ v u Q I rx ry ⟨a, b, rfl, rfl, lineOk_le c, Run.here S R (.str _) (.str _)⟩
      · exact R.elim
    · exact R.elim
  · rename_i a b
    cases r1 with
    | tup q1 d1 =>
      cases r2 with
      | tup q2 d2 =>
        split at R
        · split at R
          · rename_i c
            have l1 := d1.len
            have l2 := d2.len
            have z := lineOk_le c
            have one : ∀ {v}, Dq T.K F v (.tuple (a ++ b)) → Q v H := fun d => Run.here S R _ d
            exact op_catA pins s σ H _ _ v u Q I rx ry ⟨_, _, _, _, rfl, rfl, by rw [hK]; exact SqT.up S.sub q1, by rw [hK]; exact SqT.up S.sub q2, by omega,
              fun e => one (by subst e; cases d1; exact .tup q2 d2), fun _ e => one (by subst e; cases d2; rw [List.append_nil]; exact .tup q1 d1), fun _ _ => tup_ok S (d1.app d2) R⟩
          · exact R.elim
        · exact R.elim
  · split at R
    · rename_i a b e1 e2
      split at R
      · rename_i c
        obtain ⟨p1, v1, rfl, g1, t1⟩ := listOf_ok S e1 r1
        obtain ⟨p2, v2, rfl, g2, t2⟩ := listOf_ok S e2 r2
        have l1 := t1.len
        have l2 := t2.len
        have z := lineOk_le c
        exact op_cat pins s σ H _ _ v u Q I rx ry ⟨p1, p2, v1, v2, rfl, rfl, g1, g2, by omega, mkL_ok S (t1.app t2) R⟩
      · exact R.elim
    · exact R.elim
end
end Mi

set_option maxRecDepth 100000
set_option maxHeartbeats 1000000
/-! Mi, fourth part: comparisons, truth, places, built-ins, methods. -/
namespace Mi
open PySem PySem.Spec PyProof.Rows L2
variable {T : Top} {F F' : Hp} {m m' : List Addr} {h h' : MH} {H H' : Hp} {Wx : WX} {σ0 : L2.St}
mutual
theorem Dp.plain {K : PySem.W.Frag} {H : Hp} : ∀ {v : V} {d : PyData}, Dp K H v d → d.plain = true
  | _, _, .non => rfl
  | _, _, .bl _ => rfl
  | _, _, .int _ => rfl
  | _, _, .str _ => rfl
  | _, _, .lst _ t => by simp only [PyData.plain]; exact DpAll.plain t
  | _, _, .tup _ t => by simp only [PyData.plain]; exact DpAll.plain t
theorem DpAll.plain {K : PySem.W.Frag} {H : Hp} : ∀ {v : List V} {d : List PyData}, DpAll K H v d → PyData.plainAll d = true
  | _, _, .nil => rfl
  | _, _, .cons h t => by simp only [PyData.plainAll, Dp.plain h, DpAll.plain t, Bool.and_self]
end
mutual
theorem noDict_plain : ∀ d : PyData, d.plain = true → d.hasDict = false
  | .none, _ => by simp only [PyData.hasDict]
  | .bool _, _ => by simp only [PyData.hasDict]
  | .int _, _ => by simp only [PyData.hasDict]
  | .str _, _ => by simp only [PyData.hasDict]
  | .list xs, h => by simp only [PyData.hasDict]; exact noDict_plains xs (by simpa [PyData.plain] using h)
  | .tuple xs, h => by simp only [PyData.hasDict]; exact noDict_plains xs (by simpa [PyData.plain] using h)
  | .dict _, h => by simp [PyData.plain] at h
theorem noDict_plains : ∀ d : List PyData, PyData.plainAll d = true → PyData.hasDictAll d = false
  | [], _ => by simp only [PyData.hasDictAll]
  | x :: xs, h => by
    simp only [PyData.plainAll, Bool.and_eq_true] at h
    simp only [PyData.hasDictAll, noDict_plain x h.1, noDict_plains xs h.2, Bool.or_self]
end
theorem depOk_le {d : PyData} (e : depOk d = true) : d.depth ≤ 100 := Nat.le_of_ble_eq_true e
section
variable {X : Cx}
def rDq (K : PySem.W.Frag) (neg : Bool) : R2 := fun x y H Q => ∃ d e b, Dp K H x d ∧ Dp K H y e ∧ eqD d e = some b ∧ Q (.bl (if neg then !b else b)) H
theorem eqD_iff {d e : PyData} {b : Bool} (h : eqD d e = some b) : b = PyData.eqv d e ∧ min d.depth e.depth ≤ 100 := by
  unfold eqD at h
  split at h
  · rename_i c
    cases h
    refine ⟨rfl, ?_⟩
    rcases Bool.or_eq_true_iff.mp c with c | c
    · have := depOk_le c; omega
    · have := depOk_le c; omega
  · cases h
theorem or_eq (hu : X.A.units + 150 < cLine) : OpR X (compareOp .Eq) (rDq X.K false) := by
  rintro pins s σ H x y v u Q I rx ry ⟨d, e, b, hd, he, hb, q⟩
  obtain ⟨as, r1⟩ := Dp.reads I d x v hd rx
  obtain ⟨bs, r2⟩ := Dp.reads I e y u he ry
  obtain ⟨rfl, hz⟩ := eqD_iff hb
  exact SeqAt.eq_plain r1 r2 (Dp.plain hd) (Dp.plain he) (by omega) ⟨.bl _, H, I, rfl, q⟩
theorem or_ne (hu : X.A.units + 150 < cLine) : OpR X (compareOp .NotEq) (rDq X.K true) := by
  rintro pins s σ H x y v u Q I rx ry ⟨d, e, b, hd, he, hb, q⟩
  obtain ⟨as, r1⟩ := Dp.reads I d x v hd rx
  obtain ⟨bs, r2⟩ := Dp.reads I e y u he ry
  obtain ⟨rfl, hz⟩ := eqD_iff hb
  exact SeqAt.ne_plain r1 r2 (Dp.plain hd) (Dp.plain he) (by omega) ⟨.bl _, H, I, rfl, q⟩
/-- x in a list, a tuple of data -/
def SqD (K : PySem.W.Frag) (H : Hp) (y : V) (ds : List PyData) : Prop := Dp K H y (.list ds) ∨ Dp K H y (.tuple ds)
def rIq (K : PySem.W.Frag) (neg : Bool) : R2 := fun x y H Q => ∃ d ds b, Dp K H x d ∧ SqD K H y ds ∧ inD d ds = some b ∧ Q (.bl (if neg then !b else b)) H
theorem inD_iff {d : PyData} {ds : List PyData} {b : Bool} (h : inD d ds = some b) : b = (ds.any fun z => PyData.eqv z d) ∧ d.depth ≤ 100 := by
  unfold inD at h
  split at h
  · rename_i c
    cases h
    exact ⟨rfl, depOk_le c⟩
  · cases h
theorem or_in (hu : X.A.units + 150 < cLine) : OpR X (compareOp .In) (rIq X.K false) := by
  rintro pins s σ H x y v u Q I rx ry ⟨d, ds, b, hd, he, hb, q⟩
  obtain ⟨as, r1⟩ := Dp.reads I d x v hd rx
  obtain ⟨rfl, hz⟩ := inD_iff hb
  rcases he with he | he
  · obtain ⟨bs, r2⟩ := Dp.reads I _ y u he ry
    have pl : PyData.plainAll ds = true := by have := Dp.plain he; simpa [PyData.plain] using this
    exact SeqAt.in_list_data r2 r1 pl (Dp.plain hd) (by omega) ⟨.bl _, H, I, rfl, q⟩
  · obtain ⟨bs, r2⟩ := Dp.reads I _ y u he ry
    have pl : PyData.plainAll ds = true := by have := Dp.plain he; simpa [PyData.plain] using this
    exact SeqAt.in_tuple_data r2 r1 pl (Dp.plain hd) (by omega) ⟨.bl _, H, I, rfl, q⟩
theorem or_notin (hu : X.A.units + 150 < cLine) : OpR X (compareOp .NotIn) (rIq X.K true) := by
  rintro pins s σ H x y v u Q I rx ry ⟨d, ds, b, hd, he, hb, q⟩
  obtain ⟨as, r1⟩ := Dp.reads I d x v hd rx
  obtain ⟨rfl, hz⟩ := inD_iff hb
  rcases he with he | he
  · obtain ⟨bs, r2⟩ := Dp.reads I _ y u he ry
    have pl : PyData.plainAll ds = true := by have := Dp.plain he; simpa [PyData.plain] using this
    exact SeqAt.notIn_list_data r2 r1 pl (Dp.plain hd) (by omega) ⟨.bl _, H, I, rfl, q⟩
  · obtain ⟨bs, r2⟩ := Dp.reads I _ y u he ry
    have pl : PyData.plainAll ds = true := by have := Dp.plain he; simpa [PyData.plain] using this
    exact SeqAt.notIn_tuple_data r2 r1 pl (Dp.plain hd) (by omega) ⟨.bl _, H, I, rfl, q⟩
theorem strIn_found {x z : Str} : strIn x z = !(Builtin.Str.occurrences z x 0 z.length 1).isEmpty := by
  unfold strIn
  split
  · rename_i c e
    have hx : x = ⟨#[c]⟩ := by
      obtain ⟨cp⟩ := x
      have : cp = #[c] := by
        apply Array.ext'
        simpa using e
      rw [this]
    rw [hx]
    exact (PySem.StrLaws.found_one z c).symm
  · rfl
theorem seq_data {w : W} {ws : List W} {ds : List PyData} {v : V} (S : Sim T F m h H) (e : seqOf w h = some ws) (e2 : toDs ws = some ds) (r : WR T F m w v) : SqD T.K H v ds := by
  obtain ⟨a, vs, rfl, q, rs⟩ := seqOf_ok S e r
  have d := DqAll.dp S.sub (wrs_toDs e2 rs)
  rcases q with q | q
  · exact .inl (.lst q d)
  · exact .inr (.tup q d)
def rCmp (T : Top) (op : CmpOp) : R2 := fun x y H Q => ∃ F m h w1 w2 b, Sim T F m h H ∧ WR T F m w1 x ∧ WR T F m w2 y ∧ cmpV op w1 w2 h = some b ∧ Q (.bl b) H
theorem inV_ok {op : CmpOp} {neg : Bool} {x y : V} {w1 w2 : W} {b : Bool} {Q : VK} (hK : X.K = T.K) (S : Sim T F m h H) (r1 : WR T F m w1 x) (r2 : WR T F m w2 y) (e : inV w1 w2 h = some b) (q : Q (.bl (if neg then !b else b)) H) :
    (∃ i j, x = .str i ∧ y = .str j ∧ Q (.bl (if neg then !(!(Builtin.Str.occurrences j i 0 j.length 1).isEmpty) else !(Builtin.Str.occurrences j i 0 j.length 1).isEmpty)) H) ∨ rIq X.K neg x y H Q := by
  unfold inV at e
  split at e
  · rename_i a z
    cases e
    cases str_inv r1
    cases str_inv r2
    refine .inl ⟨a, z, rfl, rfl, ?_⟩
    rw [← strIn_found]
    exact q
  · split at e
    · rename_i d ws e1 e2
      cases e3 : toDs ws with
      | none => rw [e3] at e; cases e
      | some ds =>
        rw [e3] at e
        exact .inr ⟨d, ds, b, by rw [hK]; exact dOf_ok S e1 r1, by rw [hK]; exact seq_data S e2 e3 r2, e, q⟩
    · cases e
theorem or_cmp {op : CmpOp} (hK : X.K = T.K) (hu : X.A.units + 150 < cLine) : OpR X (compareOp op) (rCmp T op) := by
  rintro pins s σ H x y v u Q I rx ry ⟨F, m, h, w1, w2, b, S, r1, r2, e, q⟩
  cases op with
  | Eq =>
    simp only [cmpV] at e
    cases e1 : dOf w1 h with
    | none => rw [e1] at e; cases e
    | some d1 =>
      cases e2 : dOf w2 h with
      | none => rw [e1, e2] at e; cases e
      | some d2 =>
        rw [e1, e2] at e
        exact or_eq hu pins s σ H x y v u Q I rx ry ⟨d1, d2, b, by rw [hK]; exact dOf_ok S e1 r1, by rw [hK]; exact dOf_ok S e2 r2, e, q⟩
  | NotEq =>
    simp only [cmpV] at e
    cases e1 : dOf w1 h with
    | none => rw [e1] at e; cases e
    | some d1 =>
      cases e2 : dOf w2 h with
      | none => rw [e1, e2] at e; cases e
      | some d2 =>
        rw [e1, e2] at e
        simp only [Option.bind_some] at e
        cases e3 : eqD d1 d2 with
        | none => rw [e3] at e; cases e
        | some c =>
          rw [e3] at e
          cases e
          exact or_ne hu pins s σ H x y v u Q I rx ry ⟨d1, d2, c, by rw [hK]; exact dOf_ok S e1 r1, by rw [hK]; exact dOf_ok S e2 r2, e3, q⟩
  | In =>
    rcases inV_ok (op := .In) (neg := false) hK S r1 r2 e q with z | z
    · exact op_in_str pins s σ H x y v u Q I rx ry z
    · exact or_in hu pins s σ H x y v u Q I rx ry z
  | NotIn =>
    simp only [cmpV] at e
    cases e3 : inV w1 w2 h with
    | none => rw [e3] at e; cases e
    | some c =>
      rw [e3] at e
      cases e
      rcases inV_ok (op := .NotIn) (neg := true) hK S r1 r2 e3 q with z | z
      · exact op_notin_str pins s σ H x y v u Q I rx ry z
      · exact or_notin hu pins s σ H x y v u Q I rx ry z
  | Is =>
    have fin : ∀ c : Bool, y = .non → decide (x = .non) = c → b = c → wpAny (model X.prog X.w) X.A (compareOp .Is v u) (EP X pins σ Q) X.xe s := fun c hy hx hb => by
      subst hb
      subst hx
      exact op_isN pins s σ H x y v u Q I rx ry ⟨hy, q⟩
    unfold cmpV at e
    simp only at e
    split at e
    · rename_i d
      have hy : y = .non := by cases r2; rfl
      cases e
      refine fin _ hy ?_ rfl
      cases d <;> cases r1 <;> first | rfl | simp
    · have hy : y = .non := by cases r2; rfl
      cases e
      obtain ⟨a, _, rfl⟩ := r1
      exact fin _ hy (by simp) rfl
    · cases e
  | IsNot =>
    have fin : ∀ c : Bool, y = .non → decide (x = .non) = c → b = !c → wpAny (model X.prog X.w) X.A (compareOp .IsNot v u) (EP X pins σ Q) X.xe s := fun c hy hx hb => by
      subst hb
      subst hx
      exact op_notN pins s σ H x y v u Q I rx ry ⟨hy, q⟩
    unfold cmpV at e
    simp only at e
    split at e
    · rename_i d
      have hy : y = .non := by cases r2; rfl
      cases e
      cases d with
      | none => exact fin true hy (by cases r1; simp) rfl
      | _ => exact fin false hy (by cases r1 <;> simp) rfl
    · have hy : y = .non := by cases r2; rfl
      cases e
      obtain ⟨a, _, rfl⟩ := r1
      exact fin false hy (by simp) rfl
    · cases e
  | Lt =>
    unfold cmpV at e
    simp only at e
    split at e
    · cases int_inv r1
      cases int_inv r2
      cases e
      exact op_lt pins s σ H _ _ v u Q I rx ry ⟨_, _, rfl, rfl, q⟩
    · cases str_inv r1
      cases str_inv r2
      cases e
      exact op_lt_str pins s σ H _ _ v u Q I rx ry ⟨_, _, rfl, rfl, q⟩
    · cases e
  | LtE =>
    unfold cmpV at e
    simp only at e
    split at e
    · cases int_inv r1
      cases int_inv r2
      cases e
      exact op_le pins s σ H _ _ v u Q I rx ry ⟨_, _, rfl, rfl, q⟩
    · cases str_inv r1
      cases str_inv r2
      cases e
      refine op_le_str pins s σ H _ _ v u Q I rx ry ⟨_, _, rfl, rfl, ?_⟩
      rw [← decide_not]
      exact q
    · cases e
  | Gt =>
    unfold cmpV at e
    simp only at e
    split at e
    · cases int_inv r1
      cases int_inv r2
      cases e
      exact op_gt pins s σ H _ _ v u Q I rx ry ⟨_, _, rfl, rfl, q⟩
    · cases e
  | GtE =>
    unfold cmpV at e
    simp only at e
    split at e
    · cases int_inv r1
      cases int_inv r2
      cases e
      exact op_ge pins s σ H _ _ v u Q I rx ry ⟨_, _, rfl, rfl, q⟩
    · cases e
/-! ### truth -/
theorem tru_ok' {w : W} {x : V} {b : Bool} (hK : X.K = T.K) (S : Sim T F m h H) (r : WR T F m w x) (e : truV w h = some b) : TruV X.K x H b := by
  rw [hK]
  have emp : ∀ {ws : List W} {vs : List V}, WRs T F m ws vs → (!vs.isEmpty) = !ws.isEmpty := fun r => by cases r <;> rfl
  have emd : ∀ {ws : List PyData} {vs : List V}, DqAll T.K F vs ws → (!vs.isEmpty) = !ws.isEmpty := fun r => by cases r <;> rfl
  cases w with
  | d y =>
    cases y with
    | none => cases r; cases e; rfl
    | bool k => cases r; cases e; rfl
    | int i => cases r; cases e; rfl
    | str z =>
      cases r
      simp only [truV] at e
      split at e
      · rename_i c
        cases e
        exact ⟨lineOk_le c, rfl⟩
      · cases e
    | list xs =>
      cases e
      cases r with
      | lst q d => exact .inl ⟨_, .inl (.inl (S.sub _ _ q)), (emd d).symm⟩
    | tuple xs =>
      cases e
      cases r with
      | tup q d => exact .inr (.inl ⟨_, SqT.up S.sub q, (emd d).symm⟩)
    | dict _ => cases e
  | ref i =>
    obtain ⟨a, ea, rfl⟩ := r
    simp only [truV] at e
    split at e
    · rename_i ws e1
      cases e
      obtain ⟨_, vs, e2, rs⟩ := S.cell i _ a e1 ea
      exact .inl ⟨_, .inl (.inl e2), (emp rs).symm⟩
    · rename_i xs e1
      cases e
      obtain ⟨_, d⟩ := S.cell i _ a e1 ea
      cases d with
      | lst q d => exact .inl ⟨_, .inl (.inl (S.sub _ _ q)), (emd d).symm⟩
    · cases e
  | _ => cases e
/-! ### places -/
theorem atI_len {α β : Type} {xs : List α} {ys : List β} {i : Int} {a : α} (hl : ys.length = xs.length) (e : atI xs i = some a) : ∃ j : Nat, xs[j]? = some a ∧ ∀ b, ys[j]? = some b → atI ys i = some b := by
  unfold atI at e
  cases q : ixN xs.length i with
  | none => rw [q] at e; cases e
  | some j =>
    rw [q] at e
    refine ⟨j, e, fun b hb => ?_⟩
    unfold atI
    rw [hl, q]
    exact hb
def rIdx (T : Top) : R2 := fun x y H Q => ∃ F m h w1 w2 w, Sim T F m h H ∧ WR T F m w1 x ∧ WR T F m w2 y ∧ idxV w1 w2 h = some w ∧ ∀ v, WR T F m w v → Q v H
theorem ix_ok (hK : X.K = T.K) : IxR X (rIdx T) := by
  rintro value slice pins s σ H x y v u Q I rx ry ⟨F, m, h, w1, w2, w, S, r1, r2, e, q⟩ hs
  refine ix_seq value slice pins s σ H x y v u Q I rx ry ?_ hs
  have seq : ∀ {j : Int}, y = .int j → ((seqOf w1 h).bind fun ws => atI ws j) = some w → rIx X.K x y H Q := fun {j} hy e => by
    cases e1 : seqOf w1 h with
    | none => rw [e1] at e; cases e
    | some ws =>
      rw [e1] at e
      obtain ⟨a, vs, rfl, z, rs⟩ := seqOf_ok S e1 r1
      obtain ⟨k, h1, h2⟩ := atI_len rs.len.symm e
      obtain ⟨b, h3, h4⟩ := rs.get h1
      rcases z with z | z
      · exact .inl ⟨a, vs, j, b, rfl, hy, by rw [hK]; exact z, h2 b h3, q b h4⟩
      · exact .inr (.inl ⟨a, vs, j, b, rfl, hy, by rw [hK]; exact z, h2 b h3, q b h4⟩)
  unfold idxV at e
  split at e
  · have hy := int_inv r2
    split at e
    · rename_i z
      cases str_inv r1
      split at e
      · rename_i c
        cases e1 : atI z.cps.toList _ with
        | none => rw [e1] at e; cases e
        | some k =>
          rw [e1] at e
          cases e
          exact .inr (.inr ⟨z, _, k, rfl, hy, lineOk_le c, e1, q _ (.str _)⟩)
      · cases e
    · exact seq hy e
  · cases e
def rSli (T : Top) : V → Option Int → Option Int → Hp → VK → Prop := fun x lo hi H Q => ∃ Wx σ F m h w1, Sim T F m h H ∧ WR T F m w1 x ∧ Run T Wx σ F m H (lift (sliceV w1 lo hi h) h) fun r F' m' _ H' => ∀ v, WR T F' m' r v → Q v H'
theorem sl_ok (hK : X.K = T.K) : SlR X (rSli T) := by
  rintro pins s σ H x v vl vu lo hi sl Q I rx hs pl pu ⟨Wx, σ1, F, m, h, w1, S, r1, R⟩
  have lst : (R : Run T Wx σ1 F m H (lift ((listOf w1 h).bind fun ws => (toDs ws).map fun xs => W.d (.list (cutD xs lo hi))) h) fun r F' m' _ H' => ∀ v, WR T F' m' r v → Q v H') → rSlL X.K x lo hi H Q := fun R => by
    cases e1 : listOf w1 h with
    | none => rw [e1] at R; exact R.elim
    | some ws =>
      cases e2 : toDs ws with
      | none => rw [e1] at R; simp only [Option.bind_some, e2] at R; exact R.elim
      | some xs =>
        rw [e1] at R
        simp only [Option.bind_some, e2] at R
        obtain ⟨a, vs, rfl, g, rs⟩ := listOf_ok S e1 r1
        have d := wrs_toDs e2 rs
        have hl := d.len
        have dc : DqAll T.K F (cutV vs lo hi) (cutD xs lo hi) := by
          unfold cutV cutD
          rw [hl]
          exact (d.drop _).take _
        exact ⟨a, vs, rfl, .inl (.inl g), lst_ok S dc R⟩
  cases w1 with
  | d y =>
    cases y with
    | str z =>
      cases str_inv r1
      simp only [sliceV] at R
      split at R
      · rename_i c
        exact sl_str pins s σ H _ v vl vu lo hi sl Q I rx hs pl pu ⟨z, rfl, lineOk_le c, Run.here S R _ (.str _)⟩
      · exact R.elim
    | tuple xs =>
      cases r1 with
      | @tup a vs _ g d =>
        have hl := d.len
        have dc : DqAll T.K F (cutV vs lo hi) (cutD xs lo hi) := by
          unfold cutV cutD
          rw [hl]
          exact (d.drop _).take _
        refine sl_tupA pins s σ H _ v vl vu lo hi sl Q I rx hs pl pu ⟨a, vs, rfl, by rw [hK]; exact SqT.up S.sub g, fun hw => ?_, fun _ => tup_ok S dc R⟩
        refine Run.here S R _ ?_
        have e : cutD xs lo hi = xs := by
          unfold cutD
          rw [← hl, hw.1, hw.2, List.drop_zero, Nat.sub_zero, hl, List.take_length]
        rw [e]
        exact .tup g d
    | list xs => exact sl_list pins s σ H x v vl vu lo hi sl Q I rx hs pl pu (lst R)
    | _ => exact R.elim
  | ref i => exact sl_list pins s σ H x v vl vu lo hi sl Q I rx hs pl pu (lst R)
  | _ => exact R.elim
end
end Mi

set_option maxRecDepth 100000
set_option maxHeartbeats 1000000
/-! Mi, fifth part: built-ins and methods by values. -/
namespace Mi
open PySem PySem.Spec PyProof.Rows L2
variable {T : Top} {F F' : Hp} {m m' : List Addr} {h h' : MH} {H H' : Hp} {Wx : WX} {σ0 : L2.St}
theorem bools_ok : ∀ {ws : List W} {bs : List Bool} {vs : List V}, bools ws = some bs → WRs T F m ws vs → vs = bs.map V.bl
  | [], bs, _, e, .nil => by cases e; rfl
  | .d x :: r, bs, _, e, .cons q t => by
    cases x with
    | bool b =>
      unfold bools at e
      cases e1 : bools r with
      | none => rw [e1] at e; cases e
      | some cs =>
        rw [e1] at e
        cases e
        cases bool_inv q
        rw [bools_ok e1 t]
        rfl
    | _ => cases e
  | .ref _ :: _, _, _, e, _ => by cases e
  | .fn _ :: _, _, _, e, _ => by cases e
  | .ex _ _ :: _, _, _, e, _ => by cases e
  | .ro _ :: _, _, _, e, _ => by cases e
theorem txts_ok : ∀ {ws : List W} {bs : List Str} {vs : List V}, txts ws = some bs → WRs T F m ws vs → vs = bs.map V.str
  | [], bs, _, e, .nil => by cases e; rfl
  | .d x :: r, bs, _, e, .cons q t => by
    cases x with
    | str b =>
      unfold txts at e
      cases e1 : txts r with
      | none => rw [e1] at e; cases e
      | some cs =>
        rw [e1] at e
        cases e
        cases str_inv q
        rw [txts_ok e1 t]
        rfl
    | _ => cases e
  | .ref _ :: _, _, _, e, _ => by cases e
  | .fn _ :: _, _, _, e, _ => by cases e
  | .ex _ _ :: _, _, _, e, _ => by cases e
  | .ro _ :: _, _, _, e, _ => by cases e
theorem nums_ok : ∀ {ws : List W} {bs : List Int} {vs : List V}, nums ws = some bs → WRs T F m ws vs → vs = bs.map V.int
  | [], bs, _, e, .nil => by cases e; rfl
  | .d x :: r, bs, _, e, .cons q t => by
    cases x with
    | int b =>
      unfold nums at e
      cases e1 : nums r with
      | none => rw [e1] at e; cases e
      | some cs =>
        rw [e1] at e
        cases e
        cases int_inv q
        rw [nums_ok e1 t]
        rfl
    | _ => cases e
  | .ref _ :: _, _, _, e, _ => by cases e
  | .fn _ :: _, _, _, e, _ => by cases e
  | .ex _ _ :: _, _, _, e, _ => by cases e
  | .ro _ :: _, _, _, e, _ => by cases e
theorem DqAll.strs {K : PySem.W.Frag} {F : Hp} : ∀ ys : List Str, DqAll K F (ys.map V.str) (ys.map PyData.str)
  | [] => .nil
  | y :: ys => .cons (.str y) (DqAll.strs ys)
theorem WRs.one {ws : W} {vs : List V} (r : WRs T F m [ws] vs) : ∃ v, vs = [v] ∧ WR T F m ws v := by
  cases r with
  | cons h t => cases t; exact ⟨_, rfl, h⟩
theorem WRs.two {w1 w2 : W} {vs : List V} (r : WRs T F m [w1, w2] vs) : ∃ v1 v2, vs = [v1, v2] ∧ WR T F m w1 v1 ∧ WR T F m w2 v2 := by
  cases r with
  | cons h t =>
    obtain ⟨v, rfl, q⟩ := WRs.one t
    exact ⟨_, v, rfl, h, q⟩
theorem Run.liftB {α : Type} {k : α → Hp → List Addr → MH → Hp → Prop} {β : Type} {o : Option β} {f : β → Option α} (x : Run T Wx σ0 F m H (Mi.lift (o.bind f) h) k) : ∃ b, o = some b ∧ Run T Wx σ0 F m H (Mi.lift (f b) h) k := by
  cases o with
  | none => exact x.elim
  | some b => exact ⟨b, rfl, x⟩
theorem Run.liftM {α : Type} {k : α → Hp → List Addr → MH → Hp → Prop} {β : Type} {o : Option β} {f : β → α} (S : Sim T F m h H) (x : Run T Wx σ0 F m H (Mi.lift (o.map f) h) k) : ∃ b, o = some b ∧ k (f b) F m h H := by
  cases o with
  | none => exact x.elim
  | some b => exact ⟨b, rfl, Run.here S x⟩
/-- which built-in a word names -/
def bltF : Blt → Value
  | .len => .builtin "len"
  | .int => .type "int"
  | .str => .type "str"
  | .repr => .builtin "repr"
  | .all => .builtin "all"
  | .any => .builtin "any"
  | .tuple => .type "tuple"
  | .list _ => .type "list"
  | .abs => .builtin "abs"
  | .max => .builtin "max"
  | .min => .builtin "min"
  | .sum => .builtin "sum"
section
variable {X : Cx}
theorem repr_ok (hg : X.A.guards = some []) (hu : X.A.units + 150 < cLine) : CallR X (.builtin "repr") (fun xs H Q => ∃ x d, xs = [x] ∧ Dp X.K H x d ∧ shOk d = true ∧ Q (.str d.shown) H) := by
  rintro pins s σ H xs us Q I r ⟨x, d, rfl, hd, c, q⟩
  obtain ⟨u, rfl, ru⟩ := vals1 r
  unfold shOk at c
  simp only [Bool.and_eq_true] at c
  obtain ⟨⟨c1, c2⟩, c3⟩ := c
  have hz := lineOk_le c3
  have hdp := depOk_le c2
  obtain ⟨as, rd⟩ := Dp.reads I d x u hd ru
  have end_ : ∀ (h' : Heap) (tk : Nat) (t : Tok), (∀ b o, s.heap.get? b = some o → h'.get? b = some o) → EP X pins σ Q (.str d.shown t) { s with heap := h', toks := tk } := fun h' tk t hk => ⟨.str d.shown, H, I.kept hk, ⟨t, rfl⟩, q⟩
  have nd : d.hasDict = true → sysModules ∉ as := fun e => by rw [noDict_plain d (Dp.plain hd)] at e; cases e
  have ref : ∀ a, u = .ref a → wpAny (model X.prog X.w) X.A (call (.builtin "repr") [u]) (EP X pins σ Q) X.xe s := fun a e => by
    subst e
    exact PySem.repr_of_reads' rd c1 nd hg (by omega) (fun _ _ e => e) (fun h' t tk hk => end_ h' tk t hk) hz
  cases hd with
  | non => cases ru; exact PySem.P.repr_of_none (end_ _ _ _ fun _ _ e => e)
  | bl b =>
    cases ru
    exact PySem.P.repr_of_bool (end_ _ _ _ fun _ _ e => e)
  | int i =>
    obtain ⟨t, rfl⟩ := ru
    have hi : i.natAbs.log2 < 1920 := by simpa [PyData.showable] using c1
    exact PySem.P.repr_of_int hi (end_ _ _ _ fun _ _ e => e)
  | str z =>
    obtain ⟨t, rfl⟩ := ru
    exact PySem.P.repr_of_str (end_ _ _ _ fun _ _ e => e) hz
  | lst _ _ => exact ref _ ru
  | tup _ _ => exact ref _ ru
theorem blt_ok {b : Blt} (hK : X.K = T.K) (hc : X.calm = true) (hg : X.A.guards = some []) (hu : X.A.units + 150 < cLine) : CallR X (bltF b) (rWs T (bltV b)) := by
  rintro pins s σ H xs us Q I r ⟨Wx, σ0, F, m, h, ws, S, rw', R⟩
  have seqs : ∀ {a : W} {x : V} {ys : List W}, seqOf a h = some ys → WR T F m a x → ∃ p vs, x = .ref p ∧ (SqL X.K H p vs ∨ SqT X.K H p vs) ∧ WRs T F m ys vs := fun {a x ys} e q => by rw [hK]; exact seqOf_ok S e q
  have lists : ∀ {a : W} {x : V} {ys : List W}, listOf a h = some ys → WR T F m a x → ∃ p vs, x = .ref p ∧ SqL X.K H p vs ∧ WRs T F m ys vs := fun {a x ys} e q => by
    obtain ⟨p, vs, e1, e2, e3⟩ := listOf_ok S e q
    exact ⟨p, vs, e1, .inl (.inl e2), e3⟩
  cases b with
  | len =>
    simp only [bltV, lenV] at R
    split at R
    · obtain ⟨x, rfl, q⟩ := rw'.one
      cases str_inv q
      split at R
      · rename_i c
        exact call_len pins s σ H _ us Q I r ⟨_, _, rfl, ⟨lineOk_le c, rfl⟩, Run.here S R _ (.int _)⟩
      · exact R.elim
    · obtain ⟨x, rfl, q⟩ := rw'.one
      obtain ⟨ys, e, k⟩ := Run.liftM S R
      obtain ⟨p, vs, rfl, z, rs⟩ := seqs e q
      refine call_len pins s σ H _ us Q I r ⟨.ref p, ys.length, rfl, ?_, k _ (.int _)⟩
      rw [rs.len]
      rcases z with z | z
      · exact .inl ⟨vs, z, rfl⟩
      · exact .inr ⟨vs, z, rfl⟩
    · exact R.elim
  | int =>
    simp only [bltV, intV] at R
    split at R
    · obtain ⟨x, rfl, q⟩ := rw'.one
      cases int_inv q
      exact call_int1 pins s σ H _ us Q I r (.inl ⟨_, rfl, Run.here S R _ (.int _)⟩)
    · obtain ⟨x, rfl, q⟩ := rw'.one
      cases bool_inv q
      exact call_int1 pins s σ H _ us Q I r (.inr ⟨_, rfl, Run.here S R _ (.int _)⟩)
    · obtain ⟨x, rfl, q⟩ := rw'.one
      cases str_inv q
      split at R
      · rename_i n e
        split at R
        · rename_i c
          exact call_int_str pins s σ H _ us Q I r ⟨_, n, rfl, e, Nat.le_of_ble_eq_true c, Run.here S R _ (.int _)⟩
        · exact R.elim
      · exact R.elim
    · exact R.elim
  | str =>
    simp only [bltV, strV] at R
    split at R
    · obtain ⟨x, rfl, q⟩ := rw'.one
      cases int_inv q
      split at R
      · rename_i c
        exact call_str_int pins s σ H _ us Q I r ⟨_, rfl, Nat.lt_succ_of_le (Nat.le_of_ble_eq_true c), Run.here S R _ (.str _)⟩
      · exact R.elim
    · exact R.elim
  | repr =>
    simp only [bltV, reprV] at R
    split at R
    · obtain ⟨x, rfl, q⟩ := rw'.one
      split at R
      · rename_i d e
        split at R
        · rename_i c
          exact repr_ok hg hu pins s σ H _ us Q I r ⟨x, d, rfl, by rw [hK]; exact dOf_ok S e q, c, Run.here S R _ (.str _)⟩
        · exact R.elim
      · exact R.elim
    · exact R.elim
  | all =>
    simp only [bltV, boolsV] at R
    split at R
    · obtain ⟨x, rfl, q⟩ := rw'.one
      obtain ⟨ys, e, R⟩ := Run.liftB R
      obtain ⟨bs, e2, k⟩ := Run.liftM S R
      obtain ⟨p, vs, rfl, z, rs⟩ := lists e q
      cases bools_ok e2 rs
      exact cr_all hc pins s σ H _ us Q I r ⟨p, bs, rfl, z, k _ (.bl _)⟩
    · exact R.elim
  | any =>
    simp only [bltV, boolsV] at R
    split at R
    · obtain ⟨x, rfl, q⟩ := rw'.one
      obtain ⟨ys, e, R⟩ := Run.liftB R
      obtain ⟨bs, e2, k⟩ := Run.liftM S R
      obtain ⟨p, vs, rfl, z, rs⟩ := lists e q
      cases bools_ok e2 rs
      exact cr_any hc pins s σ H _ us Q I r ⟨p, bs, rfl, z, k _ (.bl _)⟩
    · exact R.elim
  | tuple =>
    simp only [bltV, tupV] at R
    split at R
    · obtain ⟨x, rfl, q⟩ := rw'.one
      split at R
      · cases q with
        | tup g d => exact call_tuple_of pins s σ H _ us Q I r ⟨_, _, rfl, .inr ⟨by rw [hK]; exact SqT.up S.sub g, Run.here S R _ (.tup g d)⟩⟩
      · obtain ⟨ys, e, R⟩ := Run.liftB R
        obtain ⟨ds, e2, k⟩ : ∃ ds, _ ∧ _ := by
          cases q2 : toDs ys with
          | none => rw [q2] at R; exact R.elim
          | some ds => exact ⟨ds, q2, R⟩
        obtain ⟨p, vs, rfl, z, rs⟩ := lists e q
        rw [e2] at k
        exact call_tuple_of pins s σ H _ us Q I r ⟨p, vs, rfl, .inl ⟨z, tup_ok S (wrs_toDs e2 rs) k⟩⟩
    · exact R.elim
  | list nw =>
    simp only [bltV, lstV] at R
    split at R
    · obtain ⟨x, rfl, q⟩ := rw'.one
      split at R
      · rename_i ys e
        obtain ⟨p, vs, rfl, z, rs⟩ := seqs e q
        exact call_list_of pins s σ H _ us Q I r ⟨p, vs, rfl, z, mkL_ok S rs R⟩
      · exact R.elim
    · exact R.elim
  | abs =>
    simp only [bltV, absV] at R
    split at R
    · obtain ⟨x, rfl, q⟩ := rw'.one
      cases int_inv q
      exact call_abs pins s σ H _ us Q I r ⟨_, rfl, Run.here S R _ (.int _)⟩
    · exact R.elim
  | max =>
    simp only [bltV, maxV] at R
    split at R
    · obtain ⟨x, y, rfl, q, q2⟩ := rw'.two
      cases int_inv q
      cases int_inv q2
      exact call_max2 hc pins s σ H _ us Q I r ⟨_, _, rfl, Run.here S R _ (.int _)⟩
    · exact R.elim
  | min =>
    simp only [bltV, minV] at R
    split at R
    · obtain ⟨x, y, rfl, q, q2⟩ := rw'.two
      cases int_inv q
      cases int_inv q2
      exact call_min2 hc pins s σ H _ us Q I r ⟨_, _, rfl, Run.here S R _ (.int _)⟩
    · exact R.elim
  | sum =>
    simp only [bltV, sumV] at R
    split at R
    · obtain ⟨x, rfl, q⟩ := rw'.one
      obtain ⟨ys, e, R⟩ := Run.liftB R
      obtain ⟨bs, e2, k⟩ := Run.liftM S R
      obtain ⟨p, vs, rfl, z, rs⟩ := lists e q
      cases nums_ok e2 rs
      exact cr_sum hc pins s σ H _ us Q I r ⟨p, bs, rfl, z, k _ (.int _)⟩
    · exact R.elim
/-! ### methods -/
theorem cellL_eq {i : Nat} {xs : List W} (e : cellL i h = some xs) : h[i]? = some (.lst xs) := by
  unfold cellL at e
  split at e
  · rename_i ws e1
    cases e
    exact e1
  · cases e
/-- a method's call by values: the receiver, the arguments -/
def rMth (T : Top) (o : W → List W → M W) : V → List V → Hp → VK → Prop := fun x xs H Q => ∃ Wx σ F m h w ws, Sim T F m h H ∧ WR T F m w x ∧ WRs T F m ws xs ∧ Run T Wx σ F m H (o w ws h) fun r F' m' _ H' => ∀ v, WR T F' m' r v → Q v H'
theorem app_ok' : MtM X "list.append" (rMth T appendV) := by
  rintro pins s σ H x xs v us Q I rx rs ⟨Wx, σ0, F, m, h, w, ws, S, r1, r2, R⟩
  simp only [appendV] at R
  split at R
  · obtain ⟨a, ea, rfl⟩ := r1
    obtain ⟨y, rfl, q⟩ := r2.one
    split at R
    · rename_i ys e
      obtain ⟨_, vs, eH, rv⟩ := S.cell _ _ a (cellL_eq e) ea
      split at R
      · rename_i c
        obtain ⟨S1, X1⟩ := S.put (cellL_eq e) ea (rv.app (.cons q .nil))
        exact mt_append pins s σ H _ _ v us Q I rx rs ⟨a, vs, y, rfl, rfl, eH, by rw [sizeLine_eq, ← rv.len]; exact Nat.le_of_ble_eq_true c, R _ _ _ S1 X1 _ .non⟩
      · exact R.elim
    · exact R.elim
  · exact R.elim
theorem ext_ok' : MtM X "list.extend" (rMth T extendV) := by
  rintro pins s σ H x xs v us Q I rx rs ⟨Wx, σ0, F, m, h, w, ws, S, r1, r2, R⟩
  simp only [extendV] at R
  split at R
  · obtain ⟨a, ea, rfl⟩ := r1
    obtain ⟨y, rfl, q⟩ := r2.one
    split at R
    · rename_i ys zs e e2
      obtain ⟨_, vs, eH, rv⟩ := S.cell _ _ a (cellL_eq e) ea
      obtain ⟨p, us2, rfl, g, rz⟩ := listOf_ok S e2 q
      split at R
      · rename_i c
        obtain ⟨S1, X1⟩ := S.put (cellL_eq e) ea (rv.app rz)
        have l1 := rv.len
        have l2 := rz.len
        have z := lineOk_le c
        exact mt_extend pins s σ H _ _ v us Q I rx rs ⟨a, p, vs, us2, rfl, rfl, eH, g, by omega, R _ _ _ S1 X1 _ .non⟩
      · exact R.elim
    · exact R.elim
  · exact R.elim
theorem rev_ok' : MtM X "list.reverse" (rMth T reverseV) := by
  rintro pins s σ H x xs v us Q I rx rs ⟨Wx, σ0, F, m, h, w, ws, S, r1, r2, R⟩
  simp only [reverseV] at R
  split at R
  · obtain ⟨a, ea, rfl⟩ := r1
    cases r2
    split at R
    · rename_i ys e
      obtain ⟨_, vs, eH, rv⟩ := S.cell _ _ a (cellL_eq e) ea
      obtain ⟨S1, X1⟩ := S.put (cellL_eq e) ea rv.rev
      exact mt_reverse pins s σ H _ _ v us Q I rx rs ⟨a, vs, rfl, rfl, eH, R _ _ _ S1 X1 _ .non⟩
    · exact R.elim
  · exact R.elim
theorem pop_ok' : MtM X "list.pop" (rMth T popV) := by
  rintro pins s σ H x xs v us Q I rx rs ⟨Wx, σ0, F, m, h, w, ws, S, r1, r2, R⟩
  simp only [popV] at R
  split at R
  · obtain ⟨a, ea, rfl⟩ := r1
    cases r2
    split at R
    · rename_i ys e
      obtain ⟨_, vs, eH, rv⟩ := S.cell _ _ a (cellL_eq e) ea
      split at R
      · rename_i y e3
        obtain ⟨y', g1, g2⟩ := rv.get e3
        obtain ⟨S1, X1⟩ := S.put (cellL_eq e) ea (WRs.dropLast rv)
        exact mt_pop pins s σ H _ _ v us Q I rx rs ⟨a, vs, y', rfl, rfl, eH, by rw [← rv.len]; exact g1, R _ _ _ S1 X1 _ (g2.ext X1)⟩
      · exact R.elim
    · exact R.elim
  · exact R.elim
theorem split_ok' : MtR X "str.split" (rMth T splitV) := by
  rintro pins s σ H x xs v us Q I rx rs ⟨Wx, σ0, F, m, h, w, ws, S, r1, r2, R⟩
  simp only [splitV] at R
  split at R
  · cases str_inv r1
    obtain ⟨y, rfl, q⟩ := r2.one
    cases str_inv q
    split at R
    · rename_i c
      simp only [Bool.and_eq_true, Bool.not_eq_true'] at c
      exact mt_split pins s σ H _ _ v us Q I rx rs ⟨_, _, rfl, rfl, c.1, lineOk_le c.2, lst_ok S (DqAll.strs _) R⟩
    · exact R.elim
  · exact R.elim
theorem join_ok' (hK : X.K = T.K) : MtR X "str.join" (rMth T joinV) := by
  rintro pins s σ H x xs v us Q I rx rs ⟨Wx, σ0, F, m, h, w, ws, S, r1, r2, R⟩
  simp only [joinV] at R
  split at R
  · rename_i x0 w2
    cases str_inv r1
    obtain ⟨y, rfl, q⟩ := r2.one
    split at R
    · rename_i ys e
      cases e1 : seqOf w2 h with
      | none => rw [e1] at e; cases e
      | some zs =>
        rw [e1] at e
        obtain ⟨p, vs, rfl, z, rz⟩ := seqOf_ok S e1 q
        cases txts_ok e rz
        split at R
        · rename_i c
          exact mt_join pins s σ H _ _ v us Q I rx rs ⟨_, p, ys, rfl, rfl, by rw [hK]; exact z, Nat.le_of_ble_eq_true c, Run.here S R _ (.str _)⟩
        · exact R.elim
    · exact R.elim
  · exact R.elim
theorem list_data {w : W} {ds : List PyData} {x : V} (S : Sim T F m h H) (e : (listOf w h).bind toDs = some ds) (r : WR T F m w x) : ∃ a, x = .ref a ∧ Dp T.K H (.ref a) (.list ds) := by
  cases e1 : listOf w h with
  | none => rw [e1] at e; cases e
  | some ws =>
    rw [e1] at e
    obtain ⟨a, vs, rfl, g, rs⟩ := listOf_ok S e1 r
    exact ⟨a, rfl, .lst (.inl (.inl g)) (DqAll.dp S.sub (wrs_toDs e rs))⟩
theorem reads_list {pins : List (Addr × Obj)} {σ : L2.St} {s : Shared} {a : Addr} {ds : List PyData} (I : Inv X pins σ H s) (d : Dp X.K H (.ref a) (.list ds)) :
    ∃ (vs : Array Value) (as : List Addr), s.heap.IsList a vs ∧ ReadsAll s.heap vs.toList ds as ∧ PyData.plainAll ds = true ∧ vs.size ≤ sizeLine := by
  cases d with
  | lst hs ha =>
    obtain ⟨its, rv, p, hz⟩ := I.list hs
    obtain ⟨as, q⟩ := Dp.readsAll I ds _ its ha rv
    exact ⟨its.toArray, as, p.isList, q, DpAll.plain ha, by have := rv.length; simp; omega⟩
theorem count_ok' (hK : X.K = T.K) (hu : X.A.units + 150 < cLine) : MtR X "list.count" (rMth T countV) := by
  rintro pins s σ H x xs v us Q I rx rs ⟨Wx, σ0, F, m, h, w, ws, S, r1, r2, R⟩
  simp only [countV] at R
  split at R
  · rename_i d0
    obtain ⟨y, rfl, q⟩ := r2.one
    split at R
    · rename_i ds e
      split at R
      · rename_i c
        obtain ⟨a, rfl, dl⟩ := list_data S e r1
        obtain ⟨u, rfl, ru⟩ := rs.one
        cases rx
        rw [← hK] at dl
        obtain ⟨as, l1, l2, l3, l4, _⟩ := reads_list I dl
        have dy : Dp X.K H y d0 := by rw [hK]; exact Dq.dp S.sub q
        obtain ⟨bs, ry⟩ := Dp.reads I d0 y u dy ru
        have := depOk_le c
        exact PySem.SeqAt.count_list_data l2 l3 ry l4 (Dp.plain dy) (by omega) ⟨.int _, H, I.tok _, ⟨_, rfl⟩, Run.here S R _ (.int _)⟩
      · exact R.elim
    · exact R.elim
  · exact R.elim
theorem index_ok' (hK : X.K = T.K) (hu : X.A.units + 150 < cLine) : MtR X "list.index" (rMth T indexV) := by
  rintro pins s σ H x xs v us Q I rx rs ⟨Wx, σ0, F, m, h, w, ws, S, r1, r2, R⟩
  simp only [indexV] at R
  split at R
  · rename_i d0
    obtain ⟨y, rfl, q⟩ := r2.one
    split at R
    · rename_i ds e
      split at R
      · rename_i c
        split at R
        · rename_i j ej
          obtain ⟨a, rfl, dl⟩ := list_data S e r1
          obtain ⟨u, rfl, ru⟩ := rs.one
          cases rx
          rw [← hK] at dl
          obtain ⟨as, l1, l2, l3, l4, l5⟩ := reads_list I dl
          have dy : Dp X.K H y d0 := by rw [hK]; exact Dq.dp S.sub q
          obtain ⟨bs, ry⟩ := Dp.reads I d0 y u dy ru
          have dep := depOk_le c
          have hs := sizeLine_eq
          obtain ⟨⟨cls, dd, data, sl⟩, ho, hc, n, hd⟩ := id l2
          simp only at hc hd
          subst hc hd
          obtain ⟨hj, hit, miss⟩ := PySem.SeqAt.hit_at (d := d0) (xs := ds) l3 l4 (j := j) ej
          refine call_meets PySem.F.slot_list_index ⟨_, ho, rfl⟩ PySem.F.entry_list_index (PySem.F.args_list_index_2 _ _)
            (PySem.SeqAt.list_indexAt a as n dd sl u (fun z => PyData.eqv (PySem.SeqAt.readOf s.heap z) d0) j hj (by omega) hit miss) ⟨ho, PySem.SeqAt.items_plain l3 ry l4 (Dp.plain dy) (by show X.A.units + 1 + _ < cLine; omega), ?_⟩
          exact ⟨.int _, H, I.tok _, ⟨_, rfl⟩, Run.here S R _ (.int _)⟩
        · exact R.elim
      · exact R.elim
    · exact R.elim
  · exact R.elim
end
end Mi

set_option maxRecDepth 100000
set_option maxHeartbeats 1000000
/-! Mi, sixth part: what a def promises; a call by the cells that go along. -/
namespace Mi
open PySem PySem.Spec PyProof.Rows L2
variable {T : Top} {F F' : Hp} {m m' : List Addr} {h h' : MH} {H H' : Hp} {Wx : WX} {σ0 : L2.St}

/-- a def that keeps a promise, called where no repr runs -/
structure FnG (P : Program) (w : World) (K : PySem.W.Frag) (mg : Str → Option Value) (base : Heap) (k : Nat) (f : Addr) (fd : FuncData) (ps : List Str) (sp : Sp) : Prop where
  len : ∀ vs H Q E, sp vs H Q E → vs.length = ps.length
  run : ∀ (A : Around) (outer : List Env) (s : Shared) (H : Hp) (args : Args) (us : List Value) (vs : List V) (Q : VK) (E : XK), Room k A → A.guards = some [] → Env0 P w K mg base A outer s H → BindsTo s fd args (ps.zip us) → Vals vs us → sp vs H Q E →
    codeAny (model P w) A (.call (.ref f) args) (CR (L2N.CX P w) outer P w H s Q E) s
variable (T) in
/-- the promise of the f-th def: it gives what the small evaluator gives -/
def spF (Φ : Nat → List W → M W) (f np : Nat) : Sp := fun vs H Q E => vs.length = np ∧ ∃ F m h ws, Sim T F m h H ∧ WRs T F m ws vs ∧ match Φ f ws h with
  | .ok w h' => ∀ F' m' H' v, Sim T F' m' h' H' → Ext F m H F' m' H' → WR T F' m' w v → Q v H'
  | .exc e h' => ∀ F' m' H' cls d, Sim T F' m' h' H' → Ext F m H F' m' H' → ExnR T F' H' e cls d → E cls d H'
  | .stuck => False

/-- the top where one error is held -/
def Top.at (T : Top) (c : Nat) (x : Option PyData) (a : Addr) : Top := { T with xw := fun c' x' v => c' = c ∧ x' = x ∧ v = .ref a }
/-- a def that keeps its promise in an except suite -/
def FnK (P : Program) (w : World) (K : PySem.W.Frag) (mg : Str → Option Value) (base : Heap) (T : Top) (Φ : Nat → List W → M W) (k : Nat) (f np : Nat) (fd : FuncData) (ps : List Str) : Prop :=
  ∀ (A : Around) (outer : List Env) (s : Shared) (H : Hp) (args : Args) (us : List Value) (vs : List V) (Q : VK) (E : XK) (p : Addr × Obj) (c : Nat) (x : Option PyData), L2H.RoomH k A → A.guards = some [] → L2H.Hot1 A p → c < T.nc → (x = none → L2N.Zn (.ref (T.ca c)) none p.2) →
    L2H.PinOk outer H s p → Env0 P w K mg base A outer s H → BindsTo s fd args (ps.zip us) → Vals vs us → spF (T.at c x p.1) Φ f np vs H Q E → codeAny (model P w) A (.call (.ref (T.fa f)) args) (CR (L2N.CX P w) outer P w H s Q E) s
section
variable {X : Cx} {k : Nat} {f : Addr} {fd : FuncData} {ps : List Str} {sp : Sp}
/-- the callee runs in an except suite -/
theorem runK {Φ : Nat → List W → M W} {f np : Nat} {p : Addr × Obj} {c : Nat} {x : Option PyData} {pins : List (Addr × Obj)} {σ : L2.St} {s : Shared} {Q : VK} {us : List Value} {vs : List V} (G : FnK X.prog X.w X.K X.mg X.base T Φ k f np fd ps) (hl : ps.length = np) (hr : L2H.RoomH k X.A) (hg : X.A.guards = some [])
    (h1 : L2H.Hot1 X.A p) (hp : p ∈ X.pn) (hcl : c < T.nc) (hz : x = none → L2N.Zn (.ref (T.ca c)) none p.2) (hb : Binds X.K fd ps []) (tk : L2N.Takes X Wx)
    (I : Inv X pins σ H s) (r : Vals vs us) (hs : spF (T.at c x p.1) Φ f np vs H Q fun cls d H' => Wx cls d σ H') : wpAny (model X.prog X.w) X.A (PySem.call (.ref (T.fa f)) us) (EP X pins σ Q) X.xe s := by
  have e1 : us.length = ps.length := by rw [← r.length, hs.1, hl]
  have bt := hb s us I.kIn (by rw [List.append_nil]; exact e1)
  rw [List.append_nil] at bt
  have P1 := I.pin p (List.mem_append_left _ hp)
  have hpin : L2H.PinOk X.stack H s p := ⟨P1.1, P1.2.1, fun hm => (List.mem_cons.mp (I.stkSub p.1 hm)).elim P1.2.2.1 P1.2.2.2.1, P1.2.2.2.2⟩
  have go := G X.A X.stack s H ⟨us, []⟩ us vs Q (fun cls d H' => Wx cls d σ H') p c x hr hg h1 hcl hz hpin I.env0 bt r hs
  refine wpAny_call (codeAny_mono go fun res s' hq => ?_)
  match res, hq with
  | .error e, hq => exact tk e s' (L2N.XE.of_call I (fun _ _ _ z => z) hq)
  | .ok (.ret u), hq => exact I.after hq
  | .ok .next, hq => exact hq.elim
  | .ok .brk, hq => exact hq.elim
  | .ok .cont, hq => exact hq.elim
/-- the callee runs -/
theorem runG {pins : List (Addr × Obj)} {σ : L2.St} {s : Shared} {Q : VK} {us : List Value} {vs : List V} (G : FnG X.prog X.w X.K X.mg X.base k f fd ps sp) (hr : Room k X.A) (hg : X.A.guards = some []) (hb : Binds X.K fd ps []) (tk : L2N.Takes X Wx)
    (I : Inv X pins σ H s) (r : Vals vs us) (hs : sp vs H Q fun cls d H' => Wx cls d σ H') : wpAny (model X.prog X.w) X.A (PySem.call (.ref f) us) (EP X pins σ Q) X.xe s := by
  have e1 : us.length = ps.length := by rw [← r.length]; exact G.len _ _ _ _ hs
  have bt := hb s us I.kIn (by rw [List.append_nil]; exact e1)
  rw [List.append_nil] at bt
  have go := G.run X.A X.stack s H ⟨us, []⟩ us vs Q (fun cls d H' => Wx cls d σ H') hr hg I.env0 bt r hs
  refine wpAny_call (codeAny_mono go fun res s' hq => ?_)
  match res, hq with
  | .error e, hq => exact tk e s' (L2N.XE.of_call I (fun _ _ _ z => z) hq)
  | .ok (.ret u), hq => exact I.after hq
  | .ok .next, hq => exact hq.elim
  | .ok .brk, hq => exact hq.elim
  | .ok .cont, hq => exact hq.elim
end

/-! ### the cells that go along -/
theorem flatC_up {c : Cell} {a : Addr} (e : flatC c = true) (r : CellR T F m H a c) : CellR T F m' H a c := by
  cases c with
  | lst ws =>
    obtain ⟨z, vs, q, rs⟩ := r
    cases e1 : toDs ws with
    | none => simp [flatC, e1] at e
    | some ds =>
      refine ⟨z, vs, q, ?_⟩
      have d := wrs_toDs e1 rs
      rw [toDs_eq e1]
      exact d_wrs d
  | frz x => exact r
  | ins _ _ => exact r.elim
/-- the places of the cells, by their numbers -/
abbrev Ats (m : List Addr) : List Nat → List Addr → Prop := Paired fun i a => m[i]? = some a
theorem Ats.get {rs : List Nat} {as : List Addr} (x : Ats m rs as) : ∀ {j : Nat} {a : Addr}, as[j]? = some a → ∃ i, rs[j]? = some i ∧ m[i]? = some a := by
  induction x with
  | nil => intro j a e; simp at e
  | cons h t ih =>
    intro j a e
    cases j with
    | zero => simp at e; subst e; exact ⟨_, rfl, h⟩
    | succ j =>
      obtain ⟨i, h1, h2⟩ := ih (j := j) (a := a) (by simpa using e)
      exact ⟨i, by simpa using h1, h2⟩
theorem Ats.get' {rs : List Nat} {as : List Addr} (x : Ats m rs as) : ∀ {j : Nat} {i : Nat}, rs[j]? = some i → ∃ a, as[j]? = some a ∧ m[i]? = some a := by
  induction x with
  | nil => intro j a e; simp at e
  | cons h t ih =>
    intro j a e
    cases j with
    | zero => simp at e; subst e; exact ⟨_, rfl, h⟩
    | succ j =>
      obtain ⟨i, h1, h2⟩ := ih (j := j) (i := a) (by simpa using e)
      exact ⟨i, by simpa using h1, h2⟩
theorem Ats.mem {rs : List Nat} {as : List Addr} (x : Ats m rs as) {a : Addr} (ha : a ∈ as) : a ∈ m := by
  obtain ⟨j, hj, e⟩ := List.mem_iff_getElem.mp ha
  obtain ⟨i, _, h2⟩ := x.get (j := j) (a := a) (by rw [List.getElem?_eq_getElem hj, e])
  exact List.mem_of_getElem? h2
theorem nodupN_iff : ∀ {l : List Nat}, nodupN l = true → l.Nodup
  | [], _ => List.nodup_nil
  | i :: r, e => by
    simp only [nodupN, Bool.and_eq_true, Bool.not_eq_true'] at e
    refine List.nodup_cons.mpr ⟨fun z => ?_, nodupN_iff e.2⟩
    rw [List.contains_eq_mem, decide_eq_false_iff_not] at e
    exact e.1 z
theorem ix_inj {α : Type} {l : List α} (nd : l.Nodup) {i j : Nat} {a : α} (e1 : l[i]? = some a) (e2 : l[j]? = some a) : i = j := by
  obtain ⟨h1, q1⟩ := List.getElem?_eq_some_iff.mp e1
  obtain ⟨h2, q2⟩ := List.getElem?_eq_some_iff.mp e2
  exact (List.getElem_inj nd).mp (q1.trans q2.symm)
theorem Ats.nodup (ndm : m.Nodup) {rs : List Nat} {as : List Addr} (x : Ats m rs as) : rs.Nodup → as.Nodup := by
  induction x with
  | nil => exact fun _ => List.nodup_nil
  | @cons i a r as' h t ih =>
    intro nd
    obtain ⟨n1, n2⟩ := List.nodup_cons.mp nd
    refine List.nodup_cons.mpr ⟨fun z => ?_, ih n2⟩
    obtain ⟨j, hj, e⟩ := List.mem_iff_getElem.mp z
    obtain ⟨i', h1, h2⟩ := Ats.get t (j := j) (a := a) (by rw [List.getElem?_eq_getElem hj, e])
    exact n1 (ix_inj ndm h h2 ▸ List.mem_of_getElem? h1)
/-- the arguments by the callee's numbers -/
theorem wrs_renum : ∀ {ws : List W} {vs : List V}, WRs T F m ws vs → ∃ as, Ats m (refsOf ws) as ∧ ∀ pre : List Addr, WRs T F (pre ++ as) (renum pre.length ws) vs
  | [], _, .nil => ⟨[], .nil, fun _ => .nil⟩
  | .d x :: r, _, .cons q t => by
    obtain ⟨as, h1, h2⟩ := wrs_renum t
    exact ⟨as, h1, fun pre => .cons q (h2 pre)⟩
  | .fn x :: r, _, .cons q t => by
    obtain ⟨as, h1, h2⟩ := wrs_renum t
    exact ⟨as, h1, fun pre => .cons q (h2 pre)⟩
  | .ex c x :: r, _, .cons q t => by
    obtain ⟨as, h1, h2⟩ := wrs_renum t
    exact ⟨as, h1, fun pre => .cons q (h2 pre)⟩
  | .ro x :: r, _, .cons q t => by
    obtain ⟨as, h1, h2⟩ := wrs_renum t
    exact ⟨as, h1, fun pre => .cons q (h2 pre)⟩
  | .ref i :: r, _, .cons q t => by
    obtain ⟨as, h1, h2⟩ := wrs_renum t
    obtain ⟨a, ea, rfl⟩ := q
    refine ⟨a :: as, .cons ea h1, fun pre => .cons ⟨a, ?_, rfl⟩ ?_⟩
    · rw [List.getElem?_append_right (Nat.le_refl _), Nat.sub_self]
      rfl
    · have := h2 (pre ++ [a])
      rw [List.append_assoc, List.length_append] at this
      exact this
theorem cells_sim (S : Sim T F m h H) : ∀ {rs : List Nat} {cs : List Cell} {as : List Addr}, cellsAt h rs = some cs → Ats m rs as → cs.length = as.length ∧ ∀ (j : Nat) (c : Cell) (a : Addr), cs[j]? = some c → as[j]? = some a → flatC c = true ∧ CellR T F m H a c
  | [], cs, as, e, x => by
    cases x
    cases e
    exact ⟨rfl, fun j c a e _ => by simp at e⟩
  | i :: r, cs, _, e, .cons (b := a) q t => by
    unfold cellsAt at e
    split at e
    · rename_i c e1
      split at e
      · rename_i fl
        cases e2 : cellsAt h r with
        | none => rw [e2] at e; cases e
        | some cs' =>
          rw [e2] at e
          cases e
          obtain ⟨l, g⟩ := cells_sim S e2 t
          refine ⟨by simp [l], fun j c' a' e3 e4 => ?_⟩
          cases j with
          | zero => simp at e3 e4; subst e3; subst e4; exact ⟨fl, S.cell i c a e1 q⟩
          | succ j => exact g j c' a' (by simpa using e3) (by simpa using e4)
      · cases e
    · cases e
theorem sim_callee (S : Sim T F m h H) {rs : List Nat} {cs : List Cell} {as : List Addr} (nd : rs.Nodup) (e : cellsAt h rs = some cs) (x : Ats m rs as) : Sim T F as cs H := by
  obtain ⟨l, g⟩ := cells_sim S e x
  exact ⟨S.sub, l.symm, x.nodup S.nd nd, fun i c a e1 e2 => flatC_up (g i c a e1 e2).1 (g i c a e1 e2).2⟩
theorem putBack_at : ∀ {rs : List Nat} {cs : List Cell} {h h2 : MH}, putBack h rs cs = some h2 → rs.Nodup → h2.length = h.length ∧ (∀ i, i ∉ rs → h2[i]? = h[i]?) ∧
    ∀ (j i : Nat), rs[j]? = some i → i < h.length → ∃ c, cs[j]? = some c ∧ flatC c = true ∧ h2[i]? = some c
  | [], _, h, h2, e, _ => by
    simp only [putBack] at e
    cases e
    exact ⟨rfl, fun _ _ => rfl, fun j i e _ => by simp at e⟩
  | i :: r, [], _, _, e, _ => by cases e
  | i :: r, c :: cs, h, h2, e, nd => by
    unfold putBack at e
    split at e
    · rename_i fl
      obtain ⟨n1, n2⟩ := List.nodup_cons.mp nd
      obtain ⟨l, g1, g2⟩ := putBack_at e n2
      refine ⟨by rw [l, List.length_set], fun k hk => ?_, fun j k e1 hk => ?_⟩
      · rw [g1 k fun z => hk (List.mem_cons_of_mem _ z), List.getElem?_set_ne (fun z => hk (by rw [z]; exact List.mem_cons_self))]
      · cases j with
        | zero =>
          simp at e1
          subst e1
          exact ⟨c, rfl, fl, by rw [g1 i n1, List.getElem?_set_self hk]⟩
        | succ j =>
          obtain ⟨c', h1, h2, h3⟩ := g2 j k (by simpa using e1) (by rw [List.length_set]; exact hk)
          exact ⟨c', by simpa using h1, h2, h3⟩
    · cases e
/-- behind a call: the caller's cells -/
theorem sim_back {rs : List Nat} {hc : List Cell} {as mc : List Addr} {h2 : MH} (S : Sim T F m h H) (nd : rs.Nodup) (x : Ats m rs as) (Sc : Sim T F' mc hc H') (Xc : Ext F as H F' mc H') (e : putBack h rs hc = some h2) :
    Sim T F' m h2 H' ∧ Ext F m H F' m H' := by
  obtain ⟨l, g1, g2⟩ := putBack_at e nd
  obtain ⟨t, et, nt⟩ := Xc.pre
  have sub : ∀ a ∈ as, a ∈ m := fun a ha => x.mem ha
  refine ⟨⟨Sc.sub, by rw [l]; exact S.len, S.nd, fun i c a e1 e2 => ?_⟩, ⟨Xc.sub, ⟨[], by simp, by simp⟩, fun a o q n => Xc.keep a o q fun z => n (sub a z), fun a o q n => ?_⟩⟩
  · by_cases hi : i ∈ rs
    · obtain ⟨j, hj, ej⟩ := List.mem_iff_getElem.mp hi
      have ej' : rs[j]? = some i := by rw [List.getElem?_eq_getElem hj, ej]
      obtain ⟨a', h1, h2'⟩ := x.get' ej'
      rw [e2] at h2'
      cases h2'
      have hil : i < h.length := by rw [← S.len]; exact (List.getElem?_eq_some_iff.mp e2).1
      obtain ⟨c', k1, k2, k3⟩ := g2 j i ej' hil
      rw [e1] at k3
      cases k3
      have mcj : mc[j]? = some a := by
        rw [et, List.getElem?_append_left (List.getElem?_eq_some_iff.mp h1).1]
        exact h1
      exact flatC_up k2 (Sc.cell j c a k1 mcj)
    · rw [g1 i hi] at e1
      have na : a ∉ as := fun z => by
        obtain ⟨j, hj, ej⟩ := List.mem_iff_getElem.mp z
        obtain ⟨i', h1, h2'⟩ := x.get (j := j) (a := a) (by rw [List.getElem?_eq_getElem hj, ej])
        exact hi (ix_inj S.nd e2 h2' ▸ List.mem_of_getElem? h1)
      have r := S.cell i c a e1 e2
      cases c with
      | lst ws =>
        obtain ⟨z, vs, q, rs'⟩ := r
        refine ⟨?_, vs, Xc.keep a _ q na, rs'.up Xc.sub ⟨[], by simp⟩⟩
        cases q2 : F' a with
        | none => rfl
        | some o =>
          rcases Xc.new a o q2 z with w | w
          · rw [q] at w; cases w
          · exact absurd w na
      | frz y =>
        obtain ⟨⟨o, q⟩, d⟩ := r
        exact ⟨⟨o, Xc.sub _ _ q⟩, Dq.up Xc.sub d⟩
      | ins _ _ => exact r.elim
  · rcases Xc.new a o q n with z | z
    · exact .inl z
    · exact .inr (sub a z)
/-- what a call hands back -/
theorem res_ok {rs : List Nat} {hc : List Cell} {as mc : List Addr} {h2 : MH} {mu : Bool} {w : W} {v : V} {k : W → Hp → List Addr → MH → Hp → Prop} (S : Sim T F m h H) (nd : rs.Nodup) (x : Ats m rs as) (Sc : Sim T F' mc hc H') (Xc : Ext F as H F' mc H')
    (e : putBack h rs hc = some h2) (rw' : WR T F' mc w v) (R : Run T Wx σ0 F m H (resW mu rs w hc h2) k) : ∃ w2 F2 m2 h3, WR T F2 m2 w2 v ∧ k w2 F2 m2 h3 H' := by
  obtain ⟨S2, X2⟩ := sim_back S nd x Sc Xc e
  obtain ⟨t, et, nt⟩ := Xc.pre
  have plain : ∀ {u : W}, (∀ i, u ≠ .ref i) → WR T F' mc u v → WR T F' m u v := fun {u} hu r => by
    cases u with
    | ref i => exact absurd rfl (hu i)
    | d x => exact r
    | fn x => exact r
    | ex c x => exact r
    | ro xs => exact r
  cases w with
  | ref j =>
    obtain ⟨a, ea, rfl⟩ := rw'
    unfold resW at R
    simp only at R
    split at R
    · rename_i i ei
      obtain ⟨a', h1, h2'⟩ := x.get' ei
      have : mc[j]? = some a' := by
        rw [et, List.getElem?_append_left (List.getElem?_eq_some_iff.mp h1).1]
        exact h1
      rw [ea] at this
      cases this
      exact ⟨.ref i, F', m, h2, ⟨a, h2', rfl⟩, R _ _ _ S2 X2⟩
    · rename_i ei
      have hj : rs.length ≤ j := List.getElem?_eq_none_iff.mp ei
      have la : as.length = rs.length := (Paired.length x).symm
      have hat : a ∈ t := by
        rw [et, List.getElem?_append_right (by omega)] at ea
        exact List.mem_of_getElem? ea
      have nH := nt a hat
      have nm := S.notM nH
      split at R
      · rename_i ws e1
        obtain ⟨nF, vs, eH, rs'⟩ := Sc.cell j _ a e1 ea
        split at R
        · rename_i ds e2
          have d := wrs_toDs e2 rs'
          split at R
          · refine ⟨.ref h2.length, F', m ++ [a], h2 ++ [.lst ws], ⟨a, ?_, rfl⟩, R _ _ _ ⟨S2.sub, by simp [S2.len], ?_, fun i c b e3 e4 => ?_⟩ ⟨X2.sub, ⟨[a], rfl, by simpa using nH⟩, X2.keep, X2.new⟩⟩
            · rw [← S2.len, List.getElem?_append_right (Nat.le_refl _), Nat.sub_self]
              rfl
            · rw [List.nodup_append]
              exact ⟨S.nd, by simp, fun b hb c hc => by simp at hc; subst hc; exact fun e => nm (e ▸ hb)⟩
            · by_cases hi : i < h2.length
              · rw [List.getElem?_append_left hi] at e3
                rw [List.getElem?_append_left (by rw [S2.len]; exact hi)] at e4
                have q := S2.cell i c b e3 e4
                cases c with
                | lst us =>
                  obtain ⟨z, xs, q, rs2⟩ := q
                  exact ⟨z, xs, q, rs2.up (fun _ _ e => e) ⟨[a], rfl⟩⟩
                | frz y => exact q
                | ins _ _ => exact q.elim
              · have hl : i < (h2 ++ [Cell.lst ws]).length := (List.getElem?_eq_some_iff.mp e3).1
                rw [List.length_append] at hl
                have hi' : i = h2.length := by simp at hl; omega
                subst hi'
                rw [List.getElem?_append_right (Nat.le_refl _), Nat.sub_self] at e3
                rw [List.getElem?_append_right (by rw [S2.len]; exact Nat.le_refl _), S2.len, Nat.sub_self] at e4
                cases e3
                cases e4
                refine ⟨nF, vs, eH, ?_⟩
                rw [toDs_eq e2]
                exact d_wrs d
          · -- it is data from now on
            have sF : ∀ b o, F' b = some o → upd F' a (.lst vs) b = some o := fun b o q => by rw [upd_ne (ne_of_none q nF)]; exact q
            refine ⟨.d (.list ds), upd F' a (.lst vs), m, h2, .lst upd_same (DqAll.up sF d), R _ _ _ ⟨fun b o q => ?_, S2.len, S2.nd, fun i c b e3 e4 => ?_⟩ ⟨fun b o q => sF b o (X2.sub _ _ q), X2.pre, X2.keep, fun b o q n => ?_⟩⟩
            · by_cases hb : b = a
              · subst hb; rw [upd_same] at q; cases q; exact eH
              · rw [upd_ne hb] at q; exact S2.sub _ _ q
            · have hb : b ≠ a := fun z => nm (z ▸ List.mem_of_getElem? e4)
              have q := S2.cell i c b e3 e4
              cases c with
              | lst us =>
                obtain ⟨z, xs, q, rs2⟩ := q
                exact ⟨by rw [upd_ne hb]; exact z, xs, q, rs2.up sF ⟨[], by simp⟩⟩
              | frz y =>
                obtain ⟨⟨o, q⟩, d⟩ := q
                exact ⟨⟨o, sF _ _ q⟩, Dq.up sF d⟩
              | ins _ _ => exact q.elim
            · by_cases hb : b = a
              · exact .inl (hb ▸ nH)
              · rw [upd_ne hb] at q; exact X2.new b o q n
        · exact R.elim
      · rename_i y e1
        obtain ⟨_, d⟩ := Sc.cell j _ a e1 ea
        exact ⟨.d y, F', m, h2, d, R _ _ _ S2 X2⟩
      · exact R.elim
  | d y => exact ⟨_, _, _, _, plain (fun _ => by simp) rw', R _ _ _ S2 X2⟩
  | fn y => exact ⟨_, _, _, _, plain (fun _ => by simp) rw', R _ _ _ S2 X2⟩
  | ex c y => exact ⟨_, _, _, _, plain (fun _ => by simp) rw', R _ _ _ S2 X2⟩
  | ro y => exact ⟨_, _, _, _, plain (fun _ => by simp) rw', R _ _ _ S2 X2⟩
/-- a call of the small evaluator gives the callee's promise -/
theorem call_sp {Φ : Nat → List W → M W} {mu : Bool} {f np : Nat} {ws : List W} {vs : List V} {σ : L2.St} {Q : VK} (hn : vs.length = np) (S : Sim T F m h H) (r : WRs T F m ws vs)
    (R : Run T Wx σ F m H (callW Φ mu f ws h) fun w F' m' _ H' => ∀ v, WR T F' m' w v → Q v H') : spF T Φ f np vs H Q fun cls d H' => Wx cls d σ H' := by
  unfold callW at R
  split at R
  · rename_i c
    have nd := nodupN_iff c
    split at R
    · rename_i cs e
      obtain ⟨as, x, rn⟩ := wrs_renum r
      have Sc := sim_callee S nd e x
      refine ⟨hn, F, as, cs, renum 0 ws, Sc, rn [], ?_⟩
      split at R
      · rename_i w hc e1
        try rw [e1]
        split at R
        · rename_i h2 e2
          intro F' m' H' v Sc' Xc q
          obtain ⟨w2, F2, m2, h3, q2, k⟩ := res_ok S nd x Sc' Xc e2 q R
          exact k v q2
        · exact R.elim
      · rename_i ex hc e1
        try rw [e1]
        split at R
        · rename_i h2 e2
          intro F' m' H' cls d Sc' Xc q
          obtain ⟨S2, X2⟩ := sim_back S nd x Sc' Xc e2
          exact R _ _ _ cls d S2 X2 q
        · exact R.elim
      · exact R.elim
    · exact R.elim
  · exact R.elim
end Mi

set_option maxRecDepth 100000
set_option maxHeartbeats 1000000
/-! Mi, seventh part: does a small text stand for a text of Python? -/
namespace Mi
open PySem PySem.Spec PyProof.Rows L2
/-- what the check knows of the top: the defs by number (name, parameters), the own classes' names, the built-ins that stand -/
structure Info where
  fns : List (Str × Nat)
  clss : List Str
  blts : List Str
  gls : List (Str × PyData)
  tabs : List (Str × List (Str × Nat))
  hot : Bool
  hfns : List Nat
def visB (sc : Scope) (x : Str) : Bool := match sc.names.lookup x with
  | some .local => true
  | some .cell => true
  | some .free => true
  | _ => false
def locB (sc : Scope) (x : Str) : Bool := match sc.names.lookup x with
  | some .local => true
  | some .cell => true
  | _ => false
def loc1 (sc : Scope) (x : Str) : Bool := match sc.names.lookup x with
  | some .local => true
  | _ => false
def glB (sc : Scope) (x : Str) : Bool := match sc.names.lookup x with
  | some .globalImplicit => true
  | _ => false
def dbg (x : Str) : Bool := !(x == ("__debug__" : Str)) && !(x == ("__classdict__" : Str)) && !decide (x = ("__name__" : Str))
def varB (N : List Str) (sc : Scope) (i : Nat) (x : Str) : Bool := decide (N[i]? = some x) && visB sc x && dbg x
def litB : PyData → Const → Bool
  | .none, .none => true
  | .bool a, .bool b => a == b
  | .int a, .int b => a == b
  | .str a, .str b => decide (a = b)
  | _, _ => false
def bltN : Blt → Str
  | .len => "len"
  | .int => "int"
  | .str => "str"
  | .repr => "repr"
  | .all => "all"
  | .any => "any"
  | .tuple => "tuple"
  | .list _ => "list"
  | .abs => "abs"
  | .max => "max"
  | .min => "min"
  | .sum => "sum"
def tyN : Ty → Str
  | .int => "int"
  | .str => "str"
  | .tuple => "tuple"
  | .list => "list"
def mthN : Mth → Str
  | .append => "append"
  | .extend => "extend"
  | .reverse => "reverse"
  | .pop => "pop"
  | .split => "split"
  | .join => "join"
  | .count => "count"
  | .index => "index"
def mthA : Mth → Bool
  | .reverse => false
  | .pop => false
  | _ => true
def starB : Expr → Bool
  | .Starred _ _ => true
  | _ => false
def compB : Expr → Bool
  | .ListComp .. => true
  | .SetComp .. => true
  | .DictComp .. => true
  | _ => false
def setB : Expr → Bool
  | .Set .. => true
  | _ => false
def sliceB : Expr → Bool
  | .Slice .. => true
  | _ => false
def callB : Expr → Bool
  | .Call .. => true
  | _ => false
/-- an expression whose test is its value's truth -/
def plainT : Expr → Bool
  | .UnaryOp .. => false
  | .BoolOp .. => false
  | .IfExp .. => false
  | .Compare .. => false
  | _ => true
def ownN (N : List Str) (own : List Nat) : List (Str × Nat) := own.filterMap fun i => (N[i]?).map fun x => (x, i)
def nmB (N : List Str) (sc : Scope) (fb : Str → Bool) (i : Nat) (x : Str) : Bool := decide (N[i]? = some x) && locB sc x && (fb x || loc1 sc x) && dbg x
def nmsB (N : List Str) (sc : Scope) (fb : Str → Bool) : List Nat → List Expr → Bool
  | [], [] => true
  | i :: is, .Name x _ :: es => nmB N sc fb i x && nmsB N sc fb is es
  | _, _ => false
def tgB (N : List Str) (sc : Scope) (fb : Str → Bool) (tg : List Nat) (tup : Bool) (x : Expr) : Bool := match tup, tg, x with
  | false, [i], .Name n _ => nmB N sc fb i n
  | true, is, .Tuple es _ _ => nmsB N sc fb is es
  | _, _, _ => false
def blkFb (scope : Scope) : Str → Bool := fun x => scope.names.lookup x == some .cell
def tabB (I : Info) (g : Str) (tab : List (Str × Nat)) : Bool := match lookS g I.tabs with
  | some t => decide (t = tab)
  | none => false
def tabNp (I : Info) (tab : List (Str × Nat)) (n : Nat) : Bool := tab.all fun q => match I.fns[q.2]? with
  | some (_, np) => np == n && !I.hfns.contains q.2
  | none => false
def inOp (neg : Bool) : CmpOp := if neg then .NotIn else .In
/-- a display of texts and plain data -/
def dkB : List (Str × PyData) → List (Option Expr) → List Expr → Bool
  | [], [], [] => true
  | (k, d) :: r, some (.Constant (.str k') _ _) :: ks, .Constant c _ _ :: vs => decide (k = k') && litB d c && dkB r ks vs
  | _, _, _ => false
variable (I : Info) (N : List Str)
mutual
def chkE : E → Scope → Expr → Bool
  | .var i, sc, x => match x with
    | .Name n _ => varB N sc i n
    | _ => false
  | .lit d, _, x => match x with
    | .Constant c _ _ => litB d c
    | _ => false
  | .gl g d, sc, x => match x with
    | .Name n _ => decide (n = g) && glB sc n && dbg n && (match lookS g I.gls with
      | some d' => beqD d d'
      | none => false)
    | _ => false
  | .bin _ op a b, sc, x => match x with
    | .BinOp a' op' b' _ => decide (op = op') && chkE a sc a' && chkE b sc b'
    | _ => false
  | .neg a, sc, x => match x with
    | .UnaryOp .USub a' _ => chkE a sc a'
    | _ => false
  | .not t, sc, x => match x with
    | .UnaryOp .Not a' _ => chkE t sc a'
    | _ => false
  | .and a b, sc, x => match x with
    | .BoolOp .And (a' :: b' :: r) p => chkE a sc a' && (match r with
      | [] => chkE b sc b'
      | _ :: _ => chkE b sc (.BoolOp .And (b' :: r) p))
    | _ => false
  | .or a b, sc, x => match x with
    | .BoolOp .Or (a' :: b' :: r) p => chkE a sc a' && (match r with
      | [] => chkE b sc b'
      | _ :: _ => chkE b sc (.BoolOp .Or (b' :: r) p))
    | _ => false
  | .cmp op a b, sc, x => match x with
    | .Compare a' [op'] [b'] _ => decide (op = op') && chkE a sc a' && chkE b sc b' && !setB b'
    | _ => false
  | .chain op1 op2 a b c, sc, x => match x with
    | .Compare a' [op1', op2'] [b', c'] _ => decide (op1 = op1') && decide (op2 = op2') && chkE a sc a' && chkE b sc b' && chkE c sc c' && !setB c'
    | _ => false
  | .ite c a b, sc, x => match x with
    | .IfExp c' a' b' _ => chkT c sc c' && chkE a sc a' && chkE b sc b'
    | _ => false
  | .tup es, sc, x => match x with
    | .Tuple xs _ _ => chkEs es sc xs && Nat.blt xs.length 1000
    | _ => false
  | .lst _ es, sc, x => match x with
    | .List xs _ => chkEs es sc xs && Nat.blt xs.length 1000
    | _ => false
  | .idx a i, sc, x => match x with
    | .Subscript a' i' _ => chkE a sc a' && chkE i sc i' && !sliceB i'
    | _ => false
  | .slice a l u, sc, x => match x with
    | .Subscript a' (.Slice l' u' none _) _ => chkE a sc a' && chkP l sc l' && chkP u sc u'
    | _ => false
  | .call f _ es, sc, x => match x with
    | .Call (.Name n _) args [] _ => (I.hot == I.hfns.contains f) && glB sc n && dbg n && (match I.fns[f]? with
      | some (g, np) => decide (g = n) && args.length == np
      | none => false) && chkEs es sc args
    | _ => false
  | .callg g tab a es, sc, x => match x with
    | .Call (.Subscript (.Name n _) a' _) (y :: ys) [] _ => (!I.hot) && glB sc n && decide (n = g) && dbg n && tabB I g tab && chkE a sc a' && !sliceB a' && chkEs es sc (y :: ys) && tabNp I tab (y :: ys).length
    | _ => false
  | .gdin neg g tab a, sc, x => match x with
    | .Compare a' [op] [.Name n _] _ => decide (op = inOp neg) && glB sc n && decide (n = g) && dbg n && tabB I g tab && chkE a sc a'
    | _ => false
  | .dget ks a, sc, x => match x with
    | .Subscript (.Dict keys vals _) a' _ => dkB ks keys vals && decide ((ks.map (·.1)).Nodup) && Nat.blt ks.length 16 && Nat.blt 0 ks.length && chkE a sc a' && !sliceB a'
    | _ => false
  | .isi a t, sc, x => match x with
    | .Call (.Name n _) [a', .Name tn _] [] _ => decide (n = "isinstance") && glB sc n && I.blts.contains n && decide (tn = tyN t) && glB sc tn && I.blts.contains tn && chkE a sc a' && !starB a'
    | _ => false
  | .isx a c, sc, x => match x with
    | .Call (.Name n _) [a', .Name tn _] [] _ => I.hot && decide (n = "isinstance") && glB sc n && I.blts.contains n && glB sc tn && dbg tn && decide (I.clss[c]? = some tn) && chkE a sc a' && !starB a'
    | _ => false
  | .blt b es, sc, x => match x with
    | .Call (.Name n _) (a1 :: args) [] _ => !I.hot && decide (n = bltN b) && glB sc n && I.blts.contains n && chkEs es sc (a1 :: args)
    | _ => false
  | .meth m a es, sc, x => match x with
    | .Call (.Attribute o nm apos) args [] cpos => decide (nm = mthN m) && (apos.endLine == cpos.line) && !callB o && chkE a sc o && chkEs es sc args && (match args with
      | [] => !mthA m
      | [_] => mthA m
      | _ => false)
    | _ => false
  | .comp _ own tg tup it c e, sc, x => match x with
    | .ListComp elt [⟨tgx, itx, ifs, 0⟩] scope _ => !I.hot && blkC N sc scope (ownN N own) && decide ((ownN N own).map (·.2) = own) && decide (own = tg) && tgB N (relS scope sc) (blkFb scope) tg tup tgx && chkIt it sc itx && !setB itx && (match ifs with
      | [] => (match c with
        | .yes => true
        | _ => false)
      | [c'] => chkT c (relS scope sc) c'
      | _ => false) && chkE e (relS scope sc) elt
    | _ => false
def chkT : T → Scope → Expr → Bool
  | .not t, sc, x => match x with
    | .UnaryOp .Not a' _ => chkT t sc a'
    | _ => false
  | .and a b, sc, x => match x with
    | .BoolOp .And (a' :: b' :: r) p => chkT a sc a' && (match r with
      | [] => chkT b sc b'
      | _ :: _ => chkT b sc (.BoolOp .And (b' :: r) p))
    | _ => false
  | .or a b, sc, x => match x with
    | .BoolOp .Or (a' :: b' :: r) p => chkT a sc a' && (match r with
      | [] => chkT b sc b'
      | _ :: _ => chkT b sc (.BoolOp .Or (b' :: r) p))
    | _ => false
  | .val e, sc, x => chkE e sc x && (plainT x || match e with
    | .cmp .. => true
    | .chain .. => true
    | .gdin .. => true
    | _ => false)
  | .yes, _, _ => false
def chkP : Pt → Scope → Option Expr → Bool
  | .no, _, x => match x with
    | none => true
    | some _ => false
  | .at e, sc, x => match x with
    | some y => chkE e sc y
    | none => false
def chkEs : Es → Scope → List Expr → Bool
  | .nil, _, xs => xs.isEmpty
  | .cons e es, sc, xs => match xs with
    | x :: r => !starB x && chkE e sc x && chkEs es sc r
    | [] => false
def chkIt : It → Scope → Expr → Bool
  | .over e, sc, x => chkE e sc x
  | .rng1 e, sc, x => match x with
    | .Call (.Name n _) [a] [] _ => decide (n = "range") && glB sc n && I.blts.contains n && chkE e sc a && !starB a
    | _ => false
  | .rng2 a b, sc, x => match x with
    | .Call (.Name n _) [a', b'] [] _ => decide (n = "range") && glB sc n && I.blts.contains n && chkE a sc a' && chkE b sc b' && !starB a' && !starB b'
    | _ => false
end
end Mi

set_option maxRecDepth 100000
set_option maxHeartbeats 2000000
/-! Mi, eighth part: the rules of expressions. -/
namespace Mi
open PySem PySem.Spec PyProof.Rows L2
variable {T : Top} {F F' F0 F1 : Hp} {m m' m0 m1 : List Addr} {h h' : MH} {H H' H0 H1 : Hp} {Wx : WX} {σ0 : L2.St}

/-! ### readings -/
section
variable (T) (Φ : Nat → List W → M W) (Wx : WX)
/-- the state that the small evaluator sees -/
structure At (σ : L2.St) (F : Hp) (m : List Addr) (h : MH) (env : Ev) (H : Hp) : Prop where
  sim : Sim T F m h H
  env : EnvR T F m env σ
def tE (e : E) : TE := fun σ H Q => ∃ F m h env, At T σ F m h env H ∧ Run T Wx σ F m H (evE Φ e env h) fun w F' m' _ H' => ∀ v, WR T F' m' w v → Q v H'
def tT (t : Mi.T) : TT := fun σ H Q => ∃ F m h env, At T σ F m h env H ∧ Run T Wx σ F m H (evT Φ t env h) fun b _ _ _ H' => Q b H'
def tEs (es : Es) : TA := fun σ H Q => ∃ F m h env, At T σ F m h env H ∧ Run T Wx σ F m H (evEs Φ es env h) fun ws F' m' _ H' => ∀ vs, WRs T F' m' ws vs → Q vs H'
/-- the iterator J walks the items of the source -/
def JOk (J : L2.It) (src : Src) (F0 : Hp) (m0 : List Addr) (H0 : Hp) : Prop := ∀ (i : Nat) (F : Hp) (m : List Addr) (h : MH) (H : Hp), Sim T F m h H → Ext F0 m0 H0 F m H → srcOk src h = true →
  (∀ w, src.1[i]? = some w → J.go i H ∧ ∀ x H1, J.yld i H x H1 → ∃ F1, Sim T F1 m h H1 ∧ Ext F m H F1 m H1 ∧ WR T F1 m w x) ∧ (src.1.length ≤ i → J.stop i H)
def tIt (it : Mi.It) : TI := fun σ H R => ∃ F m h env, At T σ F m h env H ∧ Run T Wx σ F m H (evIt Φ it env h) fun src F' m' h' H' => srcOk src h' = true ∧ ∀ J, JOk T J src F' m' H' → R J H'
end
theorem At.step {σ : L2.St} {env : Ev} (a : At T σ F m h env H) (S : Sim T F' m' h' H') (X : Ext F m H F' m' H') : At T σ F' m' h' env H' := ⟨S, a.env.ext X⟩

theorem _root_.L2.PE.imp {X : Cx} {e : Expr} {t t' : TE} (p : PE X e t) (f : ∀ σ H Q, t' σ H Q → t σ H Q) : PE X e t' := ⟨fun pins s σ H Q I h => p.run pins s σ H Q I (f _ _ _ h)⟩
theorem _root_.L2.PT.imp {X : Cx} {e : Expr} {t t' : TT} (p : PT X e t) (f : ∀ σ H Q, t' σ H Q → t σ H Q) : PT X e t' := ⟨fun pins s σ H Q I h => p.run pins s σ H Q I (f _ _ _ h)⟩
theorem _root_.L2.PA.imp {X : Cx} {e : List Expr} {t t' : TA} (p : PA X e t) (f : ∀ σ H Q, t' σ H Q → t σ H Q) : PA X e t' := ⟨fun pos pins s σ H Q I h => p.run pos pins s σ H Q I (f _ _ _ h)⟩
theorem Run.impE {α : Type} {r : R α} {k k' : α → Hp → List Addr → MH → Hp → Prop} (x : Run T Wx σ0 F m H r k) (f : ∀ a F' m' h' H', r = .ok a h' → Sim T F' m' h' H' → Ext F m H F' m' H' → k a F' m' h' H' → k' a F' m' h' H') : Run T Wx σ0 F m H r k' := by
  cases r with
  | ok a h1 => exact fun F1 m1 H1 S1 X1 => f _ _ _ _ _ rfl S1 X1 (x F1 m1 H1 S1 X1)
  | exc e h1 => exact x
  | stuck => exact x
/-- from a run at a base to a run from where one stands -/
theorem Run.at {α β : Type} {r : R α} {f : α → M β} {k : β → Hp → List Addr → MH → Hp → Prop} (x : Run T Wx σ0 F0 m0 H0 (r.bind f) k) (X : Ext F0 m0 H0 F m H) :
    Run T Wx σ0 F m H r (fun a _ _ h' _ => Run T Wx σ0 F0 m0 H0 (f a h') k) := by
  cases r with
  | ok a h1 => exact fun _ _ _ _ _ => x
  | exc e h1 => exact fun F' m' H' cls d S' X' q => x F' m' H' cls d S' (X.trans X' S'.nd) q
  | stuck => exact x

section
variable {Φ : Nat → List W → M W} {X : Cx} {pos : Pos} {a b c : E} {xa xb xc : Expr}
/-! ### two in a row, three in a row -/
theorem tE_two {σ : L2.St} {env : Ev} {f : W → W → M W} {k : W → Hp → List Addr → MH → Hp → Prop} (A : At T σ F m h env H)
    (R : Run T Wx σ F m H ((evE Φ a env h).bind fun x h => (evE Φ b env h).bind fun y h => f x y h) k) {K : V → V → Hp → Prop}
    (g : ∀ w1 w2 x y F' m' h' H', At T σ F' m' h' env H' → WR T F' m' w1 x → WR T F' m' w2 y → Run T Wx σ F' m' H' (f w1 w2 h') k → K x y H') :
    tE T Φ Wx a σ H fun x H1 => tE T Φ Wx b σ H1 fun y H2 => K x y H2 := by
  refine ⟨F, m, h, env, A, R.bind.imp fun w1 F1 m1 h1 H1 S1 X1 R1 x r1 => ⟨F1, m1, h1, env, A.step S1 X1, R1.bind.imp fun w2 F2 m2 h2 H2 S2 X2 R2 y r2 => ?_⟩⟩
  exact g w1 w2 x y F2 m2 h2 H2 ((A.step S1 X1).step S2 X2) (r1.ext X2) r2 R2
theorem pe_bin' {nw : Bool} {op : Operator} (hK : X.K = T.K) (ha : PE X xa (tE T Φ Wx a)) (hb : PE X xb (tE T Φ Wx b)) : PE X (.BinOp xa op xb pos) (tE T Φ Wx (.bin nw op a b)) :=
  (pe_op (or_bin (nw := nw) hK) ha hb).imp fun σ H Q ⟨F, m, h, env, A, R⟩ => tE_two A (f := binV nw op) R fun w1 w2 x y F' m' h' H' A' r1 r2 R' => ⟨Wx, σ, F', m', h', w1, w2, A'.sim, r1, r2, R'⟩
theorem cmp_use {σ : L2.St} {op : CmpOp} {w1 w2 : W} {x y : V} {Q : VK} (S : Sim T F m h H) (r1 : WR T F m w1 x) (r2 : WR T F m w2 y) (R : Run T Wx σ F m H (Mi.lift ((cmpV op w1 w2 h).map fun c => W.d (.bool c)) h) fun w F' m' _ H' => ∀ v, WR T F' m' w v → Q v H') :
    rCmp T op x y H Q := by
  obtain ⟨b, e, k⟩ := Run.liftM S R
  exact ⟨F, m, h, w1, w2, b, S, r1, r2, e, k _ (.bl b)⟩
theorem pe_cmp' {op : CmpOp} (hK : X.K = T.K) (hu : X.A.units + 150 < cLine) (ha : PE X xa (tE T Φ Wx a)) (hb : PE X xb (tE T Φ Wx b)) (hm : behindInMarks op xb = false) : PE X (.Compare xa [op] [xb] pos) (tE T Φ Wx (.cmp op a b)) :=
  (pe_cmpR (or_cmp hK hu) ha hb hm).imp fun σ H Q ⟨F, m, h, env, A, R⟩ => tE_two A (f := fun x y h => Mi.lift ((cmpV op x y h).map fun c => W.d (.bool c)) h) R fun w1 w2 x y F' m' h' H' A' r1 r2 R' => cmp_use A'.sim r1 r2 R'
theorem lift_bool {o : Option Bool} {w : W} {h h' : MH} (e : Mi.lift (o.map fun c => W.d (.bool c)) h = .ok w h') : ∃ b, w = .d (.bool b) := by
  cases o with
  | none => cases e
  | some b => cases e; exact ⟨b, rfl⟩
theorem cmp_bool {op : CmpOp} {env : Ev} {w : W} {h h' : MH} (e : evE Φ (.cmp op a b) env h = .ok w h') : ∃ b, w = .d (.bool b) := by
  simp only [evE] at e
  cases e1 : evE Φ a env h with
  | ok x h1 =>
    rw [e1] at e
    simp only [R.bind] at e
    cases e2 : evE Φ b env h1 with
    | ok y h2 => rw [e2] at e; exact lift_bool e
    | exc _ _ => rw [e2] at e; cases e
    | stuck => rw [e2] at e; cases e
  | exc _ _ => rw [e1] at e; cases e
  | stuck => rw [e1] at e; cases e
theorem chain_bool {op op' : CmpOp} {env : Ev} {w : W} {h h' : MH} (e : evE Φ (.chain op op' a b c) env h = .ok w h') : ∃ b, w = .d (.bool b) := by
  simp only [evE] at e
  cases e1 : evE Φ a env h with
  | ok x h1 =>
    rw [e1] at e
    simp only [R.bind] at e
    cases e2 : evE Φ b env h1 with
    | ok y h2 =>
      rw [e2] at e
      simp only [R.bind] at e
      split at e
      · cases e3 : evE Φ c env h2 with
        | ok z h3 => rw [e3] at e; exact lift_bool e
        | exc _ _ => rw [e3] at e; cases e
        | stuck => rw [e3] at e; cases e
      · cases e; exact ⟨_, rfl⟩
      · cases e
    | exc _ _ => rw [e2] at e; cases e
    | stuck => rw [e2] at e; cases e
  | exc _ _ => rw [e1] at e; cases e
  | stuck => rw [e1] at e; cases e
/-- a test whose value is a truth value -/
theorem tst_use {σ : L2.St} {e : E} {env : Ev} {Q : Bool → Hp → Prop} (hb : ∀ w h', evE Φ e env h = .ok w h' → ∃ b, w = .d (.bool b)) (A : At T σ F m h env H)
    (R : Run T Wx σ F m H ((evE Φ e env h).bind fun x h => Mi.lift (truV x h) h) fun b _ _ _ H' => Q b H') : tE T Φ Wx e σ H fun x H' => ∃ k, x = .bl k ∧ Q k H' :=
  ⟨F, m, h, env, A, R.bind.impE fun w F1 m1 h1 H1 ew S1 X1 R1 x r => by
    obtain ⟨b, rfl⟩ := hb w h1 ew
    exact ⟨b, bool_inv r, Run.here S1 R1⟩⟩
theorem pt_cmp' {op : CmpOp} (hK : X.K = T.K) (hu : X.A.units + 150 < cLine) (ha : PE X xa (tE T Φ Wx a)) (hb : PE X xb (tE T Φ Wx b)) (hm : behindInMarks op xb = false) : PT X (.Compare xa [op] [xb] pos) (tT T Φ Wx (.val (.cmp op a b))) :=
  (pt_cmpR (or_cmp hK hu) ha hb hm).imp fun σ H Q ⟨F, m, h, env, A, R⟩ => by
    obtain ⟨F, m, h, env, A, R⟩ := tst_use (e := .cmp op a b) (fun _ _ e => cmp_bool e) A R
    exact tE_two A (f := fun x y h => Mi.lift ((cmpV op x y h).map fun c => W.d (.bool c)) h) R fun w1 w2 x y F' m' h' H' A' r1 r2 R' => cmp_use A'.sim r1 r2 R'
theorem pe_one' {x : V} {d : PyData} {e : E} (he : ∀ Φ env h, evE Φ e env h = .ok (.d d) h) (hx : ∀ F, Dq T.K F x d) {σ : L2.St} {Q : VK} : tE T Φ Wx e σ H Q → Q x H := fun ⟨F, m, h, env, A, R⟩ => by
  rw [he] at R
  exact Run.here A.sim R x (hx _)
theorem lit_ok {d : PyData} {k : Const} {j : Nat} (hl : litB d k = true) : PE X (.Constant k j pos) (tE T Φ Wx (.lit d)) := by
  unfold litB at hl
  split at hl
  · exact pe_non.imp fun σ H Q q => pe_one' (fun _ _ _ => rfl) (fun _ => .non) q
  · rename_i a b
    have e : a = b := by simpa using hl
    subst e
    exact pe_bl.imp fun σ H Q q => pe_one' (fun _ _ _ => rfl) (fun _ => .bl _) q
  · rename_i a b
    have e : a = b := by simpa using hl
    subst e
    exact pe_int.imp fun σ H Q q => pe_one' (fun _ _ _ => rfl) (fun _ => .int _) q
  · rename_i a b
    have e : a = b := by simpa using hl
    subst e
    exact pe_str.imp fun σ H Q q => pe_one' (fun _ _ _ => rfl) (fun _ => .str _) q
  · cases hl
theorem visB_iff {sc : Scope} {x : Str} (hv : visB sc x = true) : Vis sc x := by
  unfold visB at hv
  split at hv
  · exact .inl (by assumption)
  · exact .inr (.inl (by assumption))
  · exact .inr (.inr (by assumption))
  · cases hv
theorem locB_iff {sc : Scope} {x : Str} (hv : locB sc x = true) : Loc sc x := by
  unfold locB at hv
  split at hv
  · exact .inl (by assumption)
  · exact .inr (by assumption)
  · cases hv
theorem loc1_iff {sc : Scope} {x : Str} (hv : loc1 sc x = true) : sc.names.lookup x = some .local := by
  unfold loc1 at hv
  split at hv
  · assumption
  · cases hv
theorem glB_iff {sc : Scope} {x : Str} (hv : glB sc x = true) : sc.names.lookup x = some .globalImplicit := by
  unfold glB at hv
  split at hv
  · assumption
  · cases hv
theorem dbg_iff {x : Str} (hv : dbg x = true) : (x == ("__debug__" : Str)) = false ∧ (x == ("__classdict__" : Str)) = false ∧ x ≠ "__name__" := by
  unfold dbg at hv
  simp only [Bool.and_eq_true, Bool.not_eq_true', decide_eq_false_iff_not] at hv
  exact ⟨hv.1.1, hv.1.2, hv.2⟩
theorem var_ok {i : Nat} {x : Str} {N : List Str} (hN : X.N = N) (hl : varB N X.env.scope i x = true) : PE X (.Name x pos) (tE T Φ Wx (.var i)) := by
  unfold varB at hl
  simp only [Bool.and_eq_true, decide_eq_true_eq] at hl
  obtain ⟨d1, d2, _⟩ := dbg_iff hl.2
  refine (pe_var (i := i) (by rw [hN]; exact hl.1.1) (visB_iff hl.1.2) d1 d2).imp fun σ H Q ⟨F, m, h, env, A, R⟩ => ?_
  obtain ⟨w, e, k⟩ := Run.lift A.sim R
  have e' : env[i]? = some (some w) := by
    cases q : env[i]? with
    | none => rw [q] at e; cases e
    | some o =>
      rw [q] at e
      cases o with
      | none => cases e
      | some u => cases e; rfl
  obtain ⟨v, e1, r⟩ := A.env.2 i w e'
  exact ⟨v, e1, k v r⟩
theorem neg_ok (ha : PE X xa (tE T Φ Wx a)) : PE X (.UnaryOp .USub xa pos) (tE T Φ Wx (.neg a)) :=
  (pe_un un_neg ha).imp fun σ H Q ⟨F, m, h, env, A, R⟩ => ⟨F, m, h, env, A, R.bind.imp fun w F1 m1 h1 H1 S1 X1 R1 x r => by
    revert R1
    split
    · intro R1
      cases int_inv r
      exact ⟨_, rfl, Run.here S1 R1 _ (.int _)⟩
    · intro R1; exact R1.elim⟩
/-! ### tests -/
variable {t u : Mi.T}
theorem not_t (ha : PT X xa (tT T Φ Wx t)) : PT X (.UnaryOp .Not xa pos) (tT T Φ Wx (.not t)) :=
  (pt_not ha).imp fun σ H Q ⟨F, m, h, env, A, R⟩ => ⟨F, m, h, env, A, R.bind.imp fun b F1 m1 h1 H1 S1 X1 R1 => Run.here S1 R1⟩
theorem not_ok (hK : X.K = T.K) (ha : PE X xa (tE T Φ Wx a)) : PE X (.UnaryOp .Not xa pos) (tE T Φ Wx (.not a)) :=
  (pe_notT ha).imp fun σ H Q ⟨F, m, h, env, A, R⟩ => ⟨F, m, h, env, A, R.bind.imp fun w F1 m1 h1 H1 S1 X1 R1 x r => by
    obtain ⟨b, e, k⟩ := Run.liftM S1 R1
    exact ⟨b, tru_ok' hK S1 r e, k _ (.bl _)⟩⟩
theorem _root_.L2.PT.pw {e : Expr} {tt : TT} (p : PT X e tt) (he : ∀ w w', isTrue e X.env w = isTrue e X.env w') : PW X e tt := ⟨fun whole pins s σ H Q I h => by
  rw [he whole (eval e X.env)]
  exact p.run pins s σ H Q I h⟩
theorem and_use {σ : L2.St} {Q : Bool → Hp → Prop} : tT T Φ Wx (.and t u) σ H Q → tAnd (tT T Φ Wx t) (tT T Φ Wx u) σ H Q := fun ⟨F, m, h, env, A, R⟩ => ⟨F, m, h, env, A, R.bind.imp fun b F1 m1 h1 H1 S1 X1 R1 => by
  cases b with
  | true => exact ⟨F1, m1, h1, env, A.step S1 X1, R1⟩
  | false => exact Run.here S1 R1⟩
theorem or_use {σ : L2.St} {Q : Bool → Hp → Prop} : tT T Φ Wx (.or t u) σ H Q → tOr (tT T Φ Wx t) (tT T Φ Wx u) σ H Q := fun ⟨F, m, h, env, A, R⟩ => ⟨F, m, h, env, A, R.bind.imp fun b F1 m1 h1 H1 S1 X1 R1 => by
  cases b with
  | true => exact Run.here S1 R1
  | false => exact ⟨F1, m1, h1, env, A.step S1 X1, R1⟩⟩
theorem and_t1 (ha : PT X xa (tT T Φ Wx t)) (hb : PT X xb (tT T Φ Wx u)) : PT X (.BoolOp .And [xa, xb] pos) (tT T Φ Wx (.and t u)) := (PW.pt (pw_and ha (pw_and1 hb))).imp fun _ _ _ => and_use
theorem or_t1 (ha : PT X xa (tT T Φ Wx t)) (hb : PT X xb (tT T Φ Wx u)) : PT X (.BoolOp .Or [xa, xb] pos) (tT T Φ Wx (.or t u)) := (PW.pt (pw_or ha (pw_or1 hb))).imp fun _ _ _ => or_use
theorem and_t {r : List Expr} (ha : PT X xa (tT T Φ Wx t)) (hb : PT X (.BoolOp .And (xb :: r) pos) (tT T Φ Wx u)) : PT X (.BoolOp .And (xa :: xb :: r) pos) (tT T Φ Wx (.and t u)) :=
  (PW.pt (pw_and ha (hb.pw fun _ _ => rfl))).imp fun _ _ _ => and_use
theorem or_t {r : List Expr} (ha : PT X xa (tT T Φ Wx t)) (hb : PT X (.BoolOp .Or (xb :: r) pos) (tT T Φ Wx u)) : PT X (.BoolOp .Or (xa :: xb :: r) pos) (tT T Φ Wx (.or t u)) :=
  (PW.pt (pw_or ha (hb.pw fun _ _ => rfl))).imp fun _ _ _ => or_use
theorem val_t (hK : X.K = T.K) (ha : PE X xa (tE T Φ Wx a)) (hp : plainT xa = true) (ht : ∀ env h, evT Φ (.val a) env h = (evE Φ a env h).bind fun x h => Mi.lift (truV x h) h := by intros; rfl) : PT X xa (tT T Φ Wx (.val a)) := by
  refine (pt_truth ha (fun w => ?_)).imp fun σ H Q ⟨F, m, h, env, A, R⟩ => ?_
  · cases xa <;> first | rfl | (cases hp)
  · rw [ht] at R
    exact ⟨F, m, h, env, A, R.bind.imp fun w F1 m1 h1 H1 S1 X1 R1 x r => by
      obtain ⟨b, e, k⟩ := Run.lift S1 R1
      exact ⟨b, tru_ok' hK S1 r e, k⟩⟩
/-! ### and, or as values -/
theorem andv_use {σ : L2.St} {Q : VK} (hK : X.K = T.K) : tE T Φ Wx (.and a b) σ H Q → tAndT X.K (tE T Φ Wx a) (tE T Φ Wx b) σ H Q := fun ⟨F, m, h, env, A, R⟩ => ⟨F, m, h, env, A, R.bind.imp fun w F1 m1 h1 H1 S1 X1 R1 x r => by
  cases e : truV w h1 with
  | none => rw [e] at R1; exact R1.elim
  | some k =>
    rw [e] at R1
    refine ⟨k, tru_ok' hK S1 r e, ?_⟩
    cases k with
    | true => exact ⟨F1, m1, h1, env, A.step S1 X1, R1⟩
    | false => exact Run.here S1 R1 x r⟩
theorem orv_use {σ : L2.St} {Q : VK} (hK : X.K = T.K) : tE T Φ Wx (.or a b) σ H Q → tOrT X.K (tE T Φ Wx a) (tE T Φ Wx b) σ H Q := fun ⟨F, m, h, env, A, R⟩ => ⟨F, m, h, env, A, R.bind.imp fun w F1 m1 h1 H1 S1 X1 R1 x r => by
  cases e : truV w h1 with
  | none => rw [e] at R1; exact R1.elim
  | some k =>
    rw [e] at R1
    refine ⟨k, tru_ok' hK S1 r e, ?_⟩
    cases k with
    | true => exact Run.here S1 R1 x r
    | false => exact ⟨F1, m1, h1, env, A.step S1 X1, R1⟩⟩
theorem and_v1 (hK : X.K = T.K) (ha : PE X xa (tE T Φ Wx a)) (hb : PE X xb (tE T Φ Wx b)) : PE X (.BoolOp .And [xa, xb] pos) (tE T Φ Wx (.and a b)) := (pe_andT ha (pe_one hb)).imp fun _ _ _ => andv_use hK
theorem or_v1 (hK : X.K = T.K) (ha : PE X xa (tE T Φ Wx a)) (hb : PE X xb (tE T Φ Wx b)) : PE X (.BoolOp .Or [xa, xb] pos) (tE T Φ Wx (.or a b)) := (pe_orT ha (pe_one hb)).imp fun _ _ _ => orv_use hK
theorem and_v {r : List Expr} (hK : X.K = T.K) (ha : PE X xa (tE T Φ Wx a)) (hb : PE X (.BoolOp .And (xb :: r) pos) (tE T Φ Wx b)) : PE X (.BoolOp .And (xa :: xb :: r) pos) (tE T Φ Wx (.and a b)) := (pe_andT ha hb).imp fun _ _ _ => andv_use hK
theorem or_v {r : List Expr} (hK : X.K = T.K) (ha : PE X xa (tE T Φ Wx a)) (hb : PE X (.BoolOp .Or (xb :: r) pos) (tE T Φ Wx b)) : PE X (.BoolOp .Or (xa :: xb :: r) pos) (tE T Φ Wx (.or a b)) := (pe_orT ha hb).imp fun _ _ _ => orv_use hK
theorem ite_ok (hc : PT X xc (tT T Φ Wx t)) (ha : PE X xa (tE T Φ Wx a)) (hb : PE X xb (tE T Φ Wx b)) : PE X (.IfExp xc xa xb pos) (tE T Φ Wx (.ite t a b)) :=
  (pe_ifExp hc ha hb).imp fun σ H Q ⟨F, m, h, env, A, R⟩ => ⟨F, m, h, env, A, R.bind.imp fun k F1 m1 h1 H1 S1 X1 R1 => by
    cases k with
    | true => exact ⟨F1, m1, h1, env, A.step S1 X1, R1⟩
    | false => exact ⟨F1, m1, h1, env, A.step S1 X1, R1⟩⟩
theorem chain_use {σ : L2.St} {op op' : CmpOp} {Q : VK} : tE T Φ Wx (.chain op op' a b c) σ H Q → tChain (rCmp T op) (rCmp T op') (tE T Φ Wx a) (tE T Φ Wx b) (tE T Φ Wx c) σ H Q := fun ⟨F, m, h, env, A, R⟩ =>
  ⟨F, m, h, env, A, R.bind.imp fun w1 F1 m1 h1 H1 S1 X1 R1 x r1 => ⟨F1, m1, h1, env, A.step S1 X1, R1.bind.imp fun w2 F2 m2 h2 H2 S2 X2 R2 y r2 => by
    have A2 := (A.step S1 X1).step S2 X2
    cases e : cmpV op w1 w2 h2 with
    | none => rw [e] at R2; exact R2.elim
    | some k =>
      rw [e] at R2
      refine ⟨F2, m2, h2, w1, w2, k, S2, r1.ext X2, r2, e, k, rfl, ?_⟩
      cases k with
      | true => exact ⟨F2, m2, h2, env, A2, R2.bind.imp fun w3 F3 m3 h3 H3 S3 X3 R3 z r3 => cmp_use S3 (r2.ext X3) r3 R3⟩
      | false => exact Run.here S2 R2 _ (.bl false)⟩⟩
theorem chain_ok {op op' : CmpOp} (hK : X.K = T.K) (hu : X.A.units + 150 < cLine) (ha : PE X xa (tE T Φ Wx a)) (hb : PE X xb (tE T Φ Wx b)) (hc : PE X xc (tE T Φ Wx c)) (hm : lastMarks [op, op'] [xb, xc] = false) :
    PE X (.Compare xa [op, op'] [xb, xc] pos) (tE T Φ Wx (.chain op op' a b c)) := (pe_chain (or_cmp hK hu) (or_cmp hK hu) ha hb hc hm).imp fun _ _ _ => chain_use
theorem chain_t {op op' : CmpOp} (hK : X.K = T.K) (hu : X.A.units + 150 < cLine) (ha : PE X xa (tE T Φ Wx a)) (hb : PE X xb (tE T Φ Wx b)) (hc : PE X xc (tE T Φ Wx c)) (hm : lastMarks [op, op'] [xb, xc] = false) :
    PT X (.Compare xa [op, op'] [xb, xc] pos) (tT T Φ Wx (.val (.chain op op' a b c))) :=
  (pt_chain (or_cmp hK hu) (or_cmp hK hu) ha hb hc hm).imp fun σ H Q ⟨F, m, h, env, A, R⟩ => chain_use (tst_use (e := .chain op op' a b c) (fun _ _ e => chain_bool e) A R)
end
end Mi

set_option maxRecDepth 100000
set_option maxHeartbeats 2000000
/-! Mi, ninth part: displays, places, calls, comprehensions. -/
namespace Mi
open PySem PySem.Spec PyProof.Rows L2
variable {T : Top} {F F' F0 F1 : Hp} {m m' m0 m1 : List Addr} {h h' : MH} {H H' H0 H1 : Hp} {Wx : WX} {σ0 : L2.St}

/-! ### arguments -/
theorem star_cons {e : Expr} {es : List Expr} {env : Env} (he : starB e = false) : starEach (e :: es) env = (false, eval e env) :: starEach es env := by
  cases e <;> first | rfl | (cases he)
theorem star_any {env : Env} {pos : Pos} : ∀ {es : List Expr}, (es.all fun e => !starB e) = true → (backTo pos (starEach es env)).any (·.1) = false
  | [], _ => rfl
  | e :: es, h => by
    simp only [List.all_cons, Bool.and_eq_true, Bool.not_eq_true'] at h
    rw [star_cons h.1]
    exact (show (false || (backTo pos (starEach es env)).any (·.1)) = false from by rw [star_any h.2]; rfl)
section
variable {Φ : Nat → List W → M W} {X : Cx} {pos : Pos} {a b c : E} {xa xb xc : Expr} {es : Es} {xs : List Expr}
theorem es_nil : PA X [] (tEs T Φ Wx .nil) := pa_nil.imp fun σ H Q ⟨F, m, h, env, A, R⟩ => Run.here A.sim R [] .nil
theorem es_cons (ha : PE X xa (tE T Φ Wx a)) (hr : PA X xs (tEs T Φ Wx es)) (hs : starB xa = false) : PA X (xa :: xs) (tEs T Φ Wx (.cons a es)) :=
  (pa_cons ha hr (star_cons hs)).imp fun σ H Q ⟨F, m, h, env, A, R⟩ => ⟨F, m, h, env, A, R.bind.imp fun w F1 m1 h1 H1 S1 X1 R1 x r => ⟨F1, m1, h1, env, A.step S1 X1, R1.bind.imp fun ws F2 m2 h2 H2 S2 X2 R2 vs r2 =>
    Run.here S2 R2 (x :: vs) (.cons (r.ext X2) r2)⟩⟩
theorem evEs_len {env : Ev} : ∀ {es : Es} {h h' : MH} {ws : List W}, evEs Φ es env h = .ok ws h' → ∃ n, ws.length = n ∧ ∀ xs : List Expr, ∀ I N sc, chkEs I N es sc xs = true → xs.length = n
  | .nil, h, h', ws, e => by
    cases e
    exact ⟨0, rfl, fun xs I N sc c => by
      simp only [chkEs] at c
      cases xs with
      | nil => rfl
      | cons _ _ => cases c⟩
  | .cons a r, h, h', ws, e => by
    simp only [evEs] at e
    cases e1 : evE Φ a env h with
    | ok w h1 =>
      rw [e1] at e
      simp only [R.bind] at e
      cases e2 : evEs Φ r env h1 with
      | ok us h2 =>
        rw [e2] at e
        cases e
        obtain ⟨n, l, g⟩ := evEs_len e2
        refine ⟨n + 1, by simp [l], fun xs I N sc c => ?_⟩
        cases xs with
        | nil => cases c
        | cons y ys =>
          simp only [chkEs, Bool.and_eq_true] at c
          simp [g ys I N sc c.2]
      | exc _ _ => rw [e2] at e; cases e
      | stuck => rw [e2] at e; cases e
    | exc _ _ => rw [e1] at e; cases e
    | stuck => rw [e1] at e; cases e
theorem tup_e {k : Nat} (hr : PA X xs (tEs T Φ Wx es)) (hl : xs.length < 1000) (hn : ∀ env h ws h', evEs Φ es env h = .ok ws h' → ws.length = xs.length) : PE X (.Tuple xs k pos) (tE T Φ Wx (.tup es)) :=
  (pe_tup hr).imp fun σ H Q ⟨F, m, h, env, A, R⟩ => ⟨F, m, h, env, A, R.bind.impE fun ws F1 m1 h1 H1 ew S1 X1 R1 vs r => by
    have e := hn _ _ _ _ ew
    have l := r.len
    refine ⟨by rw [sizeLine_eq]; omega, ?_⟩
    cases q : toDs ws with
    | none => rw [q] at R1; exact R1.elim
    | some ds =>
      rw [q] at R1
      exact tup_ok S1 (wrs_toDs q r) R1⟩
theorem lst_e {nw : Bool} (hr : PA X xs (tEs T Φ Wx es)) (hl : xs.length < 1000) (hn : ∀ env h ws h', evEs Φ es env h = .ok ws h' → ws.length = xs.length) : PE X (.List xs pos) (tE T Φ Wx (.lst nw es)) :=
  (pe_lst hr).imp fun σ H Q ⟨F, m, h, env, A, R⟩ => ⟨F, m, h, env, A, R.bind.impE fun ws F1 m1 h1 H1 ew S1 X1 R1 vs r => by
    have e := hn _ _ _ _ ew
    have l := r.len
    exact ⟨by rw [sizeLine_eq]; omega, mkL_ok S1 r R1⟩⟩
theorem idx_e (hK : X.K = T.K) (ha : PE X xa (tE T Φ Wx a)) (hb : PE X xb (tE T Φ Wx b)) (hs : sliceB xb = false) : PE X (.Subscript xa xb pos) (tE T Φ Wx (.idx a b)) := by
  refine (pe_ix (ix_ok hK) ha hb (fun o i => ?_)).imp fun σ H Q ⟨F, m, h, env, A, R⟩ => tE_two A (f := fun x y h => Mi.lift (idxV x y h) h) R fun w1 w2 x y F' m' h' H' A' r1 r2 R' => by
    obtain ⟨w, e, k⟩ := Run.lift A'.sim R'
    exact ⟨F', m', h', w1, w2, w, A'.sim, r1, r2, e, k⟩
  cases xb <;> first | rfl | (cases hs)
/-- a slice's end: told or not -/
def tP (Φ : Nat → List W → M W) (Wx : WX) (T : Top) (p : Pt) : TO := fun σ H Q => ∃ F m h env, At T σ F m h env H ∧ Run T Wx σ F m H (evP Φ p env h) fun o _ _ _ H' => Q o H'
theorem _root_.L2.PO.imp {X : Cx} {e : Option Expr} {t t' : TO} (p : PO X e t) (f : ∀ σ H Q, t' σ H Q → t σ H Q) : PO X e t' := ⟨fun pins s σ H Q I h => p.run pins s σ H Q I (f _ _ _ h)⟩
theorem no_p : PO X none (tP Φ Wx T .no) := po_none.imp fun σ H Q ⟨F, m, h, env, A, R⟩ => Run.here A.sim R
theorem at_p (ha : PE X xa (tE T Φ Wx a)) : PO X (some xa) (tP Φ Wx T (.at a)) := (po_some ha).imp fun σ H Q ⟨F, m, h, env, A, R⟩ => ⟨F, m, h, env, A, R.bind.imp fun w F1 m1 h1 H1 S1 X1 R1 x r => by
  revert R1
  split
  · exact fun R1 => ⟨_, int_inv r, Run.here S1 R1⟩
  · exact fun R1 => R1.elim⟩
theorem slice_e {l u : Pt} {xl xu : Option Expr} {p2 : Pos} (hK : X.K = T.K) (ha : PE X xa (tE T Φ Wx a)) (hl : PO X xl (tP Φ Wx T l)) (hu : PO X xu (tP Φ Wx T u)) :
    PE X (.Subscript xa (.Slice xl xu none p2) pos) (tE T Φ Wx (.slice a l u)) :=
  (pe_slice (sl_ok hK) ha hl hu).imp fun σ H Q ⟨F, m, h, env, A, R⟩ => ⟨F, m, h, env, A, R.bind.imp fun w1 F1 m1 h1 H1 S1 X1 R1 x r1 => ⟨F1, m1, h1, env, A.step S1 X1, R1.bind.imp fun lo F2 m2 h2 H2 S2 X2 R2 =>
    ⟨F2, m2, h2, env, (A.step S1 X1).step S2 X2, R2.bind.imp fun hi F3 m3 h3 H3 S3 X3 R3 => ⟨Wx, σ, F3, m3, h3, w1, S3, (r1.ext X2).ext X3, R3⟩⟩⟩⟩
/-! ### built-ins, methods -/
theorem blt_e {b : Blt} {n : Str} {p : Pos} (hK : X.K = T.K) (hc : X.calm = true) (hg : X.A.guards = some []) (hu : X.A.units + 150 < cLine) (hn : n = bltN b) (gl : Gl X n) (hm : X.mg n = none) (ha : PA X (xa :: xs) (tEs T Φ Wx es)) (hs : ((xa :: xs).all fun e => !starB e) = true) :
    PE X (.Call (.Name n p) (xa :: xs) [] pos) (tE T Φ Wx (.blt b es)) := by
  have s1 : starB xa = false := by simpa using (List.all_eq_true.mp hs xa List.mem_cons_self)
  have s2 : (xs.all fun e => !starB e) = true := List.all_eq_true.mpr fun e he => List.all_eq_true.mp hs e (List.mem_cons_of_mem _ he)
  have use : ∀ σ H Q, tE T Φ Wx (.blt b es) σ H Q → tCB (rWs T (bltV b)) (tEs T Φ Wx es) σ H Q := fun σ H Q ⟨F, m, h, env, A, R⟩ => ⟨F, m, h, env, A, R.bind.imp fun ws F1 m1 h1 H1 S1 X1 R1 vs r => ⟨Wx, σ, F1, m1, h1, ws, S1, r, R1⟩⟩
  have B := blt_ok (T := T) (b := b) hK hc hg hu
  subst hn
  cases b with
  | len => exact (pe_callB (id := "len") B gl hm (by decide +kernel) ha (by decide) (by decide) (star_cons s1) (star_any s2)).imp use
  | int => exact (pe_callTy (T := "int") B gl hm (by decide +kernel) ha (by decide) (by decide) (star_cons s1) (star_any s2)).imp use
  | str => exact (pe_callTy (T := "str") B gl hm (by decide +kernel) ha (by decide) (by decide) (star_cons s1) (star_any s2)).imp use
  | repr => exact (pe_callB (id := "repr") B gl hm (by decide +kernel) ha (by decide) (by decide) (star_cons s1) (star_any s2)).imp use
  | all => exact (pe_callB (id := "all") B gl hm (by decide +kernel) ha (by decide) (by decide) (star_cons s1) (star_any s2)).imp use
  | any => exact (pe_callB (id := "any") B gl hm (by decide +kernel) ha (by decide) (by decide) (star_cons s1) (star_any s2)).imp use
  | tuple => exact (pe_callTy (T := "tuple") B gl hm (by decide +kernel) ha (by decide) (by decide) (star_cons s1) (star_any s2)).imp use
  | list nw => exact (pe_callTy (x := "list") (T := "list") B gl hm (by decide +kernel) ha (by decide) (by decide) (star_cons s1) (star_any s2)).imp use
  | abs => exact (pe_callB (id := "abs") B gl hm (by decide +kernel) ha (by decide) (by decide) (star_cons s1) (star_any s2)).imp use
  | max => exact (pe_callB (id := "max") B gl hm (by decide +kernel) ha (by decide) (by decide) (star_cons s1) (star_any s2)).imp use
  | min => exact (pe_callB (id := "min") B gl hm (by decide +kernel) ha (by decide) (by decide) (star_cons s1) (star_any s2)).imp use
  | sum => exact (pe_callB (id := "sum") B gl hm (by decide +kernel) ha (by decide) (by decide) (star_cons s1) (star_any s2)).imp use
/-- isinstance, by a built-in class -/
theorem tyx_d {K : PySem.W.Frag} {d : PyData} {x : V} (sub : ∀ a o, F a = some o → H a = some o) (r : Dq K F x d) : ∃ n, TyX K H x (.type n) ∧ (n, d) ∈ ([] : List (String × PyData)) ∨ TyX K H x (.type n) ∧ (match d with
    | .none => n = "NoneType" | .bool _ => n = "bool" | .int _ => n = "int" | .str _ => n = "str" | .list _ => n = "list" | .tuple _ => n = "tuple" | .dict _ => False) := by
  cases r with
  | non => exact ⟨_, .inr ⟨.base .non, rfl⟩⟩
  | bl b => exact ⟨_, .inr ⟨.base (.bl b), rfl⟩⟩
  | int i => exact ⟨_, .inr ⟨.base (.int i), rfl⟩⟩
  | str z => exact ⟨_, .inr ⟨.base (.str z), rfl⟩⟩
  | lst q _ => exact ⟨_, .inr ⟨.base (.lst (sub _ _ q)), rfl⟩⟩
  | tup q _ =>
    rcases q with (q | ⟨o, q⟩) | ⟨o, its, n, q, hc, _⟩
    · exact ⟨_, .inr ⟨.base (.tup (sub _ _ q)), rfl⟩⟩
    · exact ⟨_, .inr ⟨.fTuple (sub _ _ q), rfl⟩⟩
    · exact ⟨_, .inr ⟨.kTuple q hc, rfl⟩⟩
def tyS : Ty → String
  | .int => "int"
  | .str => "str"
  | .tuple => "tuple"
  | .list => "list"
theorem isi_e {t : Ty} {n tn : Str} {p p2 : Pos} (hK : X.K = T.K) (gl : Gl X n) (hm : X.mg n = none) (hn : n = "isinstance") (htn : tn = tyN t) (gt : Gl X tn) (hmt : X.mg tn = none) (ha : PE X xa (tE T Φ Wx a)) (hs : starB xa = false) :
    PE X (.Call (.Name n p) [xa, .Name tn p2] [] pos) (tE T Φ Wx (.isi a t)) := by
  subst hn
  have hb : bootBuiltins tn = some (.type (tyS t)) := by subst htn; cases t <;> decide +kernel
  have hd : (tn == ("__debug__" : Str)) = false ∧ tn ≠ "__name__" := by subst htn; cases t <;> exact ⟨by decide, by decide⟩
  refine (pe_callB call_isi gl hm (by decide +kernel) (pa_cons ha (pa_cons (pe_bltn (v := .ty (tyS t)) gt hmt hb rfl hd.2 hd.1) pa_nil) (star_cons hs)) (by decide) (by decide) (star_cons hs) rfl).imp fun σ H Q ⟨F, m, h, env, A, R⟩ => ⟨F, m, h, env, A, R.bind.imp fun w F1 m1 h1 H1 S1 X1 R1 x r => ?_⟩
  obtain ⟨b, e, k⟩ := Run.liftM S1 R1
  have kq := k _ (.bl b)
  cases w with
  | d y =>
    obtain ⟨nm, z | ⟨ty, z⟩⟩ := tyx_d S1.sub r
    · exact absurd z.2 (by simp)
    · refine ⟨x, .ty (tyS t), .type nm, .type (tyS t), b, rfl, .ty _, by rw [hK]; exact ty, kit_ty ?_, kq⟩
      cases y with
      | none => cases z; cases t <;> (cases e; decide +kernel)
      | bool _ => cases z; cases t <;> (cases e; decide +kernel)
      | int _ => cases z; cases t <;> (cases e; decide +kernel)
      | str _ => cases z; cases t <;> (cases e; decide +kernel)
      | list _ => cases z; cases t <;> (cases e; decide +kernel)
      | tuple _ => cases z; cases t <;> (cases e; decide +kernel)
      | dict _ => exact z.elim
  | _ => cases e
end
end Mi

set_option maxRecDepth 100000
set_option maxHeartbeats 2000000
/-! Mi, tenth part: methods, what is walked, comprehensions, calls of defs. -/
namespace Mi
open PySem PySem.Spec PyProof.Rows L2
variable {T : Top} {F F' F0 F1 : Hp} {m m' m0 m1 : List Addr} {h h' : MH} {H H' H0 H1 : Hp} {Wx : WX} {σ0 : L2.St}
section
variable {Φ : Nat → List W → M W} {X : Cx} {pos : Pos} {a b c : E} {xa xb xc : Expr} {es : Es} {xs : List Expr}
theorem ab_of {o : Expr} {name : Str} {env : Env} (hc : callB o = false) : attributeBase o name env (eval o env) = eval o env := by
  cases o <;> first | rfl | (cases hc)
/-- the type that a method asks of its receiver -/
def mthT : Mth → String
  | .split => "str"
  | .join => "str"
  | _ => "list"
theorem ty_list {w : W} {x : V} (hK : X.K = T.K) (S : Sim T F m h H) (e : (listOf w h).isSome = true) (r : WR T F m w x) : tyV X.K "list" x H := by
  obtain ⟨ws, e⟩ := Option.isSome_iff_exists.mp e
  obtain ⟨p, vs, rfl, g, _⟩ := listOf_ok S e r
  exact .inl ⟨rfl, vs, .inl (.inl g)⟩
theorem mth_ty {k : Mth} {w : W} {x : V} (hK : X.K = T.K) (S : Sim T F m h H) (r : WR T F m w x) (e : recvOk k w h = true) : tyV X.K (mthT k) x H := by
  have str : ∀ {w : W} {x : V}, WR T F m w x → recvOk .split w h = true → tyV X.K "str" x H := fun {w x} r e => by
    cases w with
    | d y => cases y with
      | str z => cases str_inv r; rfl
      | _ => cases e
    | _ => cases e
  cases k with
  | split => exact str r e
  | join => exact str r e
  | append => exact ty_list hK S e r
  | extend => exact ty_list hK S e r
  | reverse => exact ty_list hK S e r
  | pop => exact ty_list hK S e r
  | count => exact ty_list hK S e r
  | index => exact ty_list hK S e r
theorem meth_use {k : Mth} {σ : L2.St} {Q : VK} (hK : X.K = T.K) : tE T Φ Wx (.meth k a es) σ H Q → (tE T Φ Wx a) σ H fun x H1 => tyV X.K (mthT k) x H1 ∧ (tEs T Φ Wx es) σ H1 fun xs H2 => rMth T (mthV k) x xs H2 Q := fun ⟨F, m, h, env, A, R⟩ =>
  ⟨F, m, h, env, A, R.bind.imp fun w F1 m1 h1 H1 S1 X1 R1 x r => by
    split at R1
    · rename_i e
      exact ⟨mth_ty hK S1 r e, F1, m1, h1, env, A.step S1 X1, R1.bind.imp fun ws F2 m2 h2 H2 S2 X2 R2 vs rs => ⟨Wx, σ, F2, m2, h2, w, ws, S2, r.ext X2, rs, R2⟩⟩
    · exact R1.elim⟩
theorem few_ok {e : Expr} {cpos : Pos} {env : Env} (hs : starB e = false) : ((backTo cpos (starEach [e] env)).all (fun x => !x.1) && (backToKw cpos (keywordEach [] env)).all (fun x => x.1.isSome)
      && decide ([e].length + ([] : List Keyword).length + (if ([] : List Keyword).isEmpty then 0 else 1) < 30)) = true := by
  rw [star_cons hs]
  rfl
theorem meth1_e {k : Mth} {nm : Str} {apos : Pos} (hK : X.K = T.K) (hu : X.A.units + 150 < cLine) (hn : nm = mthN k) (hk : mthA k = true) (ho : PE X xa (tE T Φ Wx a)) (hb : PA X [xb] (tEs T Φ Wx es)) (hc : callB xa = false) (hl : (apos.endLine == pos.line) = true) (hs : starB xb = false) :
    PE X (.Call (.Attribute xa nm apos) [xb] [] pos) (tE T Φ Wx (.meth k a es)) := by
  subst hn
  have st := star_cons (e := xb) (es := []) (env := X.env) hs
  cases k with
  | append => exact (pe_bm PySem.F.plainAttrs_list PySem.F.slot_list_append PySem.F.type_list_append app_ok' ho hb (ab_of hc) (few_ok hs) hl st rfl).imp fun _ _ _ => meth_use hK
  | extend => exact (pe_bm PySem.F.plainAttrs_list PySem.F.slot_list_extend PySem.F.type_list_extend ext_ok' ho hb (ab_of hc) (few_ok hs) hl st rfl).imp fun _ _ _ => meth_use hK
  | split => exact (pe_bm PySem.F.plainAttrs_str PySem.F.slot_str_split PySem.F.type_str_split split_ok' ho hb (ab_of hc) (few_ok hs) hl st rfl).imp fun _ _ _ => meth_use hK
  | join => exact (pe_bm PySem.F.plainAttrs_str PySem.F.slot_str_join PySem.F.type_str_join (join_ok' hK) ho hb (ab_of hc) (few_ok hs) hl st rfl).imp fun _ _ _ => meth_use hK
  | count => exact (pe_bm PySem.F.plainAttrs_list PySem.F.slot_list_count PySem.F.type_list_count (count_ok' hK hu) ho hb (ab_of hc) (few_ok hs) hl st rfl).imp fun _ _ _ => meth_use hK
  | index => exact (pe_bm PySem.F.plainAttrs_list PySem.F.slot_list_index PySem.F.type_list_index (index_ok' hK hu) ho hb (ab_of hc) (few_ok hs) hl st rfl).imp fun _ _ _ => meth_use hK
  | reverse => cases hk
  | pop => cases hk
theorem meth0_use {k : Mth} {σ : L2.St} {Q : VK} (hK : X.K = T.K) : tE T Φ Wx (.meth k a .nil) σ H Q → (tE T Φ Wx a) σ H fun x H1 => tyV X.K (mthT k) x H1 ∧ rMth T (mthV k) x [] H1 Q := fun ⟨F, m, h, env, A, R⟩ =>
  ⟨F, m, h, env, A, R.bind.imp fun w F1 m1 h1 H1 S1 X1 R1 x r => by
    split at R1
    · rename_i e
      exact ⟨mth_ty hK S1 r e, Wx, σ, F1, m1, h1, w, [], S1, r, .nil, R1⟩
    · exact R1.elim⟩
theorem meth0_e {k : Mth} {nm : Str} {apos : Pos} (hK : X.K = T.K) (hn : nm = mthN k) (hk : mthA k = false) (ho : PE X xa (tE T Φ Wx a)) (hc : callB xa = false) (hl : (apos.endLine == pos.line) = true) :
    PE X (.Call (.Attribute xa nm apos) [] [] pos) (tE T Φ Wx (.meth k a .nil)) := by
  subst hn
  cases k with
  | reverse => exact (pe_bm0 PySem.F.plainAttrs_list PySem.F.slot_list_reverse PySem.F.type_list_reverse rev_ok' ho (ab_of hc) hl).imp fun _ _ _ => meth0_use hK
  | pop => exact (pe_bm0 PySem.F.plainAttrs_list PySem.F.slot_list_pop PySem.F.type_list_pop pop_ok' ho (ab_of hc) hl).imp fun _ _ _ => meth0_use hK
  | _ => cases hk

/-! ### what is walked -/
theorem beqDs_list {xs ys : List PyData} : beqD (.list xs) (.list ys) = beqDs xs ys := by simp only [beqD]
mutual
theorem beqD_eq : ∀ {x y : PyData}, beqD x y = true → x = y
  | .none, y, e => by cases y <;> simp [beqD] at e <;> rfl
  | .bool a, y, e => by cases y <;> simp [beqD] at e <;> rw [e]
  | .int a, y, e => by cases y <;> simp [beqD] at e <;> rw [e]
  | .str a, y, e => by cases y <;> simp [beqD] at e <;> rw [e]
  | .list a, y, e => by cases y <;> simp [beqD] at e; rw [beqDs_eq e]
  | .tuple a, y, e => by cases y <;> simp [beqD] at e; rw [beqDs_eq e]
  | .dict a, y, e => by cases y <;> simp [beqD] at e
theorem beqDs_eq : ∀ {x y : List PyData}, beqDs x y = true → x = y
  | [], [], _ => rfl
  | x :: xs, y :: ys, e => by
    simp only [beqDs, Bool.and_eq_true] at e
    rw [beqD_eq e.1, beqDs_eq e.2]
  | [], _ :: _, e => by simp [beqDs] at e
  | _ :: _, [], e => by simp [beqDs] at e
end
theorem beqW_eq {x y : W} (e : beqW x y = true) : x = y := by
  cases x <;> cases y <;> simp [beqW] at e
  · rw [beqD_eq e]
  · rw [e]
  · rw [e]
theorem beqWs_eq : ∀ {x y : List W}, beqWs x y = true → x = y
  | [], [], _ => rfl
  | x :: xs, y :: ys, e => by
    simp only [beqWs, Bool.and_eq_true] at e
    rw [beqW_eq e.1, beqWs_eq e.2]
  | [], _ :: _, e => by simp [beqWs] at e
  | _ :: _, [], e => by simp [beqWs] at e
theorem jok_list {K : PySem.W.Frag} {p : Addr} {src : Src} (hK : K = T.K) (g : ∀ F m h H, Sim T F m h H → Ext F0 m0 H0 F m H → srcOk src h = true → ∃ vs, SqL K H p vs ∧ WRs T F m src.1 vs) : JOk T (Itl K p) src F0 m0 H0 := by
  intro i F m h H S X c
  obtain ⟨vs, q, rs⟩ := g F m h H S X c
  have l := rs.len
  refine ⟨fun w e => ?_, fun hi => ⟨vs, q, by omega⟩⟩
  obtain ⟨v, e2, r⟩ := rs.get e
  refine ⟨⟨vs, v, q, e2⟩, fun x H1 ⟨y1, y2⟩ => ?_⟩
  subst y1
  have e3 := y2 vs q
  rw [e2] at e3
  cases e3
  exact ⟨F, S, Ext.refl, r⟩
theorem jok_tup {K : PySem.W.Frag} {p : Addr} {src : Src} (hK : K = T.K) (g : ∀ F m h H, Sim T F m h H → Ext F0 m0 H0 F m H → srcOk src h = true → ∃ vs, SqT K H p vs ∧ WRs T F m src.1 vs) : JOk T (Itt K p) src F0 m0 H0 := by
  intro i F m h H S X c
  obtain ⟨vs, q, rs⟩ := g F m h H S X c
  have l := rs.len
  refine ⟨fun w e => ?_, fun hi => ⟨vs, q, by omega⟩⟩
  obtain ⟨v, e2, r⟩ := rs.get e
  refine ⟨⟨vs, v, q, e2⟩, fun x H1 ⟨y1, y2⟩ => ?_⟩
  subst y1
  have e3 := y2 vs q
  rw [e2] at e3
  cases e3
  exact ⟨F, S, Ext.refl, r⟩
theorem jok_str {z : Str} : JOk T (Its z) (signs z, none) F0 m0 H0 := by
  intro i F m h H S X c
  have l : (signs z).length = z.cps.size := by simp [signs]
  refine ⟨fun w e => ?_, fun hi => by show z.cps.size ≤ i; rw [← l]; exact hi⟩
  have hi : i < z.cps.size := by rw [← l]; exact (List.getElem?_eq_some_iff.mp e).1
  refine ⟨hi, fun x H1 ⟨y1, c', y2, y3⟩ => ?_⟩
  subst y1
  subst y3
  have : (signs z)[i]? = some (.d (.str ⟨#[c']⟩)) := by
    simp only [signs, List.getElem?_map]
    rw [Array.getElem?_toList, y2]
    rfl
  rw [this] at e
  cases e
  exact ⟨F, S, Ext.refl, .str _⟩
theorem rngFrom_get : ∀ (n : Nat) (lo : Int) (i : Nat), (rngFrom lo n)[i]? = if i < n then some (.d (.int (lo + i))) else none
  | 0, lo, i => by simp [rngFrom]
  | n + 1, lo, 0 => by simp [rngFrom]
  | n + 1, lo, i + 1 => by
    simp only [rngFrom, List.getElem?_cons_succ]
    rw [rngFrom_get n (lo + 1) i]
    by_cases hi : i < n
    · rw [if_pos hi, if_pos (by omega)]
      congr 3
      push_cast
      omega
    · rw [if_neg hi, if_neg (by omega)]
theorem rngFrom_len (n : Nat) : ∀ lo : Int, (rngFrom lo n).length = n := by
  induction n with
  | zero => intro lo; rfl
  | succ n ih => intro lo; simp [rngFrom, ih]
theorem jok_rng {lo : Int} {n : Nat} : JOk T (Itr lo n) (rngFrom lo n, none) F0 m0 H0 := by
  intro i F m h H S X c
  refine ⟨fun w e => ?_, fun hi => by rw [rngFrom_len] at hi; exact hi⟩
  rw [rngFrom_get] at e
  split at e
  · rename_i hi
    cases e
    refine ⟨hi, fun x H1 ⟨y1, y2⟩ => ?_⟩
    subst y1
    subst y2
    exact ⟨F, S, Ext.refl, .int _⟩
  · cases e
theorem over_i {tg : Expr} (hK : X.K = T.K) (ha : PE X xa (tE T Φ Wx a)) : PI X tg xa (tIt T Φ Wx (.over a)) := by
  refine ⟨fun pins s σ H R I ⟨F, m, h, env, A, Rn⟩ => ?_⟩
  -- what is walked is known ahead
  have Rn' : Run T Wx σ F m H ((evE Φ a env h).bind fun w h => Mi.lift (srcOf w h) h) fun src F' m' h' H' => srcOk src h' = true ∧ ∀ J, JOk T J src F' m' H' → R J H' := Rn
  cases ev : evE Φ a env h with
  | stuck => rw [ev] at Rn'; exact Rn'.elim
  | exc e h1 =>
    rw [ev] at Rn'
    exact (pi_list ha).run pins s σ H R I ⟨F, m, h, env, A, by rw [ev]; exact Rn'⟩
  | ok w h1 =>
    rw [ev] at Rn'
    have Rn' : Run T Wx σ F m H (Mi.lift (srcOf w h1) h1) fun src F' m' h' H' => srcOk src h' = true ∧ ∀ J, JOk T J src F' m' H' → R J H' := Rn'
    cases es : srcOf w h1 with
    | none => rw [es] at Rn'; exact Rn'.elim
    | some src =>
      rw [es] at Rn'
      have R0 : ∀ F' m' H', Sim T F' m' h1 H' → Ext F m H F' m' H' → srcOk src h1 = true ∧ ∀ J, JOk T J src F' m' H' → R J H' := Rn'
      have fz : ∀ {F' : Hp} {m' : List Addr} {H' : Hp} {p : Addr} {vs : List V} {ds : List PyData}, F' p = some (.lst vs) → DqAll T.K F' vs ds → JOk T (Itl X.K p) (ds.map .d, none) F' m' H' := fun {F' m' H' p vs ds} q d => jok_list hK fun F2 m2 h2 H2 S2 X2 _ => ⟨vs, .inl (.inl (S2.sub _ _ (X2.sub _ _ q))), d_wrs (DqAll.up X2.sub d)⟩
      cases w with
      | d y =>
        cases y with
        | str z =>
          cases es
          refine (pi_str ha).run pins s σ H R I ⟨F, m, h, env, A, ?_⟩
          rw [ev]
          intro F' m' H' S' X' x r
          cases str_inv r
          exact ⟨z, rfl, (R0 F' m' H' S' X').2 _ jok_str⟩
        | list ds =>
          cases es
          refine (pi_list ha).run pins s σ H R I ⟨F, m, h, env, A, ?_⟩
          rw [ev]
          intro F' m' H' S' X' x r
          cases r with
          | @lst p vs _ q d => exact ⟨p, rfl, ⟨vs, .inl (.inl (S'.sub _ _ q))⟩, (R0 F' m' H' S' X').2 _ (fz q d)⟩
        | tuple ds =>
          cases es
          refine (pi_tup ha).run pins s σ H R I ⟨F, m, h, env, A, ?_⟩
          rw [ev]
          intro F' m' H' S' X' x r
          cases r with
          | @tup p vs _ q d =>
            exact ⟨p, rfl, ⟨vs, by rw [hK]; exact SqT.up S'.sub q⟩, (R0 F' m' H' S' X').2 _ (jok_tup hK fun F2 m2 h2 H2 S2 X2 _ => ⟨vs, by rw [hK]; exact SqT.up S2.sub (SqT.up X2.sub q), d_wrs (DqAll.up X2.sub d)⟩)⟩
        | _ => cases es
      | ro ds =>
        cases es
        refine (pi_list ha).run pins s σ H R I ⟨F, m, h, env, A, ?_⟩
        rw [ev]
        intro F' m' H' S' X' x r
        obtain ⟨p, vs, rfl, q, d⟩ := r
        exact ⟨p, rfl, ⟨vs, by rw [hK]; exact SqL.up S'.sub q⟩, (R0 F' m' H' S' X').2 _ (jok_list hK fun F2 m2 h2 H2 S2 X2 _ => ⟨vs, by rw [hK]; exact SqL.up S2.sub (SqL.up X2.sub q), d_wrs (DqAll.up X2.sub d)⟩)⟩
      | ref i =>
        refine (pi_list ha).run pins s σ H R I ⟨F, m, h, env, A, ?_⟩
        rw [ev]
        intro F' m' H' S' X' x r
        obtain ⟨p, ep, rfl⟩ := r
        simp only [srcOf] at es
        split at es
        · rename_i ws e1
          cases es
          obtain ⟨_, vs, q, rs⟩ := S'.cell i _ p e1 ep
          refine ⟨p, rfl, ⟨vs, .inl (.inl q)⟩, (R0 F' m' H' S' X').2 _ (jok_list hK fun F2 m2 h2 H2 S2 X2 c => ?_)⟩
          simp only [srcOk] at c
          split at c
          · rename_i ws2 e2
            cases beqWs_eq c
            obtain ⟨t, et, _⟩ := X2.pre
            have ep2 : m2[i]? = some p := by
              rw [et, List.getElem?_append_left (List.getElem?_eq_some_iff.mp ep).1]
              exact ep
            obtain ⟨_, vs2, q2, rs2⟩ := S2.cell i _ p (cellL_eq e2) ep2
            exact ⟨vs2, .inl (.inl q2), rs2⟩
          · cases c
        · rename_i ds e1
          cases es
          obtain ⟨_, d⟩ := S'.cell i _ p e1 ep
          cases d with
          | @lst _ vs _ q d => exact ⟨p, rfl, ⟨vs, .inl (.inl (S'.sub _ _ q))⟩, (R0 F' m' H' S' X').2 _ (fz q d)⟩
        · cases es
      | _ => cases es
theorem rngOk_iff {i : Int} (e : rngOk i = true) : -(2 ^ 62) ≤ i ∧ i < 2 ^ 62 := by
  unfold rngOk at e
  have := Nat.le_of_ble_eq_true e
  omega
theorem rng1_i {tg : Expr} {n : Str} {p : Pos} (hn : n = "range") (gl : Gl X n) (hm : X.mg n = none) (ha : PE X xa (tE T Φ Wx a)) (hs : starB xa = false) : PI X tg (.Call (.Name n p) [xa] [] pos) (tIt T Φ Wx (.rng1 a)) := by
  subst hn
  refine ⟨fun pins s σ H R I ⟨F, m, h, env, A, Rn⟩ => ?_⟩
  refine (pi_range1 gl hm (pa_cons ha pa_nil (star_cons hs)) (star_cons hs)).run pins s σ H R I ⟨F, m, h, env, A, Rn.bind.imp fun w F1 m1 h1 H1 S1 X1 R1 x r => ?_⟩
  revert R1
  split
  · intro R1
    cases int_inv r
    split at R1
    · rename_i c
      obtain ⟨g1, g2⟩ := rngOk_iff c
      exact ⟨_, rfl, g1, g2, (Run.here S1 R1).2 _ jok_rng⟩
    · exact R1.elim
  · exact fun R1 => R1.elim
theorem rng2_i {tg : Expr} {n : Str} {p : Pos} (hn : n = "range") (gl : Gl X n) (hm : X.mg n = none) (ha : PE X xa (tE T Φ Wx a)) (hb : PE X xb (tE T Φ Wx b)) (hs : starB xa = false) (hs2 : starB xb = false) : PI X tg (.Call (.Name n p) [xa, xb] [] pos) (tIt T Φ Wx (.rng2 a b)) := by
  subst hn
  refine ⟨fun pins s σ H R I ⟨F, m, h, env, A, Rn⟩ => ?_⟩
  refine (pi_range2 gl hm (pa_cons ha (pa_cons hb pa_nil (star_cons hs2)) (star_cons hs)) (by rw [star_cons hs, star_cons hs2]; rfl) (star_cons hs2)).run pins s σ H R I ⟨F, m, h, env, A, Rn.bind.imp fun w F1 m1 h1 H1 S1 X1 R1 x r =>
    ⟨F1, m1, h1, env, A.step S1 X1, R1.bind.imp fun w2 F2 m2 h2 H2 S2 X2 R2 y r2 => ?_⟩⟩
  have r := r.ext X2
  revert R2
  split
  · intro R2
    cases int_inv r
    cases int_inv r2
    split at R2
    · rename_i c
      simp only [Bool.and_eq_true] at c
      obtain ⟨g1, g2⟩ := rngOk_iff c.1
      obtain ⟨g3, g4⟩ := rngOk_iff c.2
      exact ⟨_, _, rfl, ⟨g1, g2, g3, g4⟩, (Run.here S2 R2).2 _ jok_rng⟩
    · exact R2.elim
  · exact fun R2 => R2.elim
end
end Mi

set_option maxRecDepth 100000
set_option maxHeartbeats 2000000
/-! Mi, eleventh part: targets, comprehensions, calls of defs. -/
namespace Mi
open PySem PySem.Spec PyProof.Rows L2
variable {T : Top} {F F' F0 F1 : Hp} {m m' m0 m1 : List Addr} {h h' : MH} {H H' H0 H1 : Hp} {Wx : WX} {σ0 : L2.St} {D : Addr}

/-! ### an object beside -/
theorem Sim.side {o : HO} (S : Sim T F m h H) (nF : F D = none) (nM : D ∉ m) : Sim T F m h (upd H D o) := by
  refine ⟨fun a u e => by rw [upd_ne (ne_of_none e nF)]; exact S.sub _ _ e, S.len, S.nd, fun i c a e1 e2 => ?_⟩
  have ne : a ≠ D := fun z => nM (z ▸ List.mem_of_getElem? e2)
  have r := S.cell i c a e1 e2
  cases c with
  | lst ws =>
    obtain ⟨z, vs, q, rs⟩ := r
    exact ⟨z, vs, by rw [upd_ne ne]; exact q, rs⟩
  | frz x => exact r
  | ins _ _ => exact r.elim
theorem Ext.side {o : HO} (X : Ext F0 m0 H0 F m H) (n : H0 D = none) : Ext F0 m0 H0 F m (upd H D o) :=
  ⟨X.sub, X.pre, fun a u e z => by rw [upd_ne (ne_of_none e n)]; exact X.keep a u e z, X.new⟩
theorem Ext.notin {o : HO} (X : Ext F m H F' m' H') (e : H D = some o) (n : D ∉ m) : D ∉ m' := by
  obtain ⟨t, et, nt⟩ := X.pre
  rw [et, List.mem_append]
  rintro (z | z)
  · exact n z
  · rw [nt D z] at e; cases e
theorem Ext.free {o : HO} (X : Ext F m H F' m' H') (e : H D = some o) (n : D ∉ m) (nF : F D = none) : F' D = none := by
  cases q : F' D with
  | none => rfl
  | some u =>
    rcases X.new D u q nF with z | z
    · rw [z] at e; cases e
    · exact absurd z n
theorem Sim.addC {ws : List W} {vs : List V} (S : Sim T F m h H) (nF : F D = none) (nM : D ∉ m) (e : H D = some (.lst vs)) (r : WRs T F m ws vs) : Sim T F (m ++ [D]) (h ++ [.lst ws]) H := by
  refine ⟨S.sub, by simp [S.len], ?_, fun i c b e3 e4 => ?_⟩
  · rw [List.nodup_append]
    exact ⟨S.nd, by simp, fun b hb c hc => by simp at hc; subst hc; exact fun e => nM (e ▸ hb)⟩
  · by_cases hi : i < h.length
    · rw [List.getElem?_append_left hi] at e3
      rw [List.getElem?_append_left (by rw [S.len]; exact hi)] at e4
      have q := S.cell i c b e3 e4
      cases c with
      | lst us =>
        obtain ⟨z, xs, q, rs2⟩ := q
        exact ⟨z, xs, q, rs2.up (fun _ _ e => e) ⟨[D], rfl⟩⟩
      | frz y => exact q
      | ins _ _ => exact q.elim
    · have hl : i < (h ++ [Cell.lst ws]).length := (List.getElem?_eq_some_iff.mp e3).1
      rw [List.length_append] at hl
      have hi' : i = h.length := by simp at hl; omega
      subst hi'
      rw [List.getElem?_append_right (Nat.le_refl _), Nat.sub_self] at e3
      rw [List.getElem?_append_right (by rw [S.len]; exact Nat.le_refl _), S.len, Nat.sub_self] at e4
      cases e3
      cases e4
      exact ⟨nF, vs, e, r.up (fun _ _ e => e) ⟨[D], rfl⟩⟩
theorem Sim.addF {vs : List V} (S : Sim T F m h H) (nF : F D = none) (nM : D ∉ m) (e : H D = some (.lst vs)) : Sim T (upd F D (.lst vs)) m h H := by
  have sF : ∀ b o, F b = some o → upd F D (.lst vs) b = some o := fun b o q => by rw [upd_ne (ne_of_none q nF)]; exact q
  refine ⟨fun b o q => ?_, S.len, S.nd, fun i c b e3 e4 => ?_⟩
  · by_cases hb : b = D
    · subst hb; rw [upd_same] at q; cases q; exact e
    · rw [upd_ne hb] at q; exact S.sub _ _ q
  · have hb : b ≠ D := fun z => nM (z ▸ List.mem_of_getElem? e4)
    have q := S.cell i c b e3 e4
    cases c with
    | lst us =>
      obtain ⟨z, xs, q, rs2⟩ := q
      exact ⟨by rw [upd_ne hb]; exact z, xs, q, rs2.up sF ⟨[], by simp⟩⟩
    | frz y =>
      obtain ⟨⟨o, q⟩, d⟩ := q
      exact ⟨⟨o, sF _ _ q⟩, Dq.up sF d⟩
    | ins _ _ => exact q.elim
/-- a list beside becomes the program's own -/
theorem mkL_side {nw : Bool} {ws : List W} {vs : List V} {Q : VK} (S : Sim T F m h H) (X : Ext F0 m0 H0 F m H) (n0 : H0 D = none) (nF : F D = none) (nM : D ∉ m) (e : H D = some (.lst vs)) (r : WRs T F m ws vs)
    (x : Run T Wx σ0 F0 m0 H0 (mkL nw ws h) fun w F' m' _ H' => ∀ v, WR T F' m' w v → Q v H') : Q (.ref D) H := by
  unfold mkL at x
  split at x
  · refine x F (m ++ [D]) H (S.addC nF nM e r) ⟨X.sub, ?_, X.keep, X.new⟩ (.ref D) ⟨D, ?_, rfl⟩
    · obtain ⟨t, et, nt⟩ := X.pre
      refine ⟨t ++ [D], by rw [et, List.append_assoc], fun a ha => ?_⟩
      rcases List.mem_append.mp ha with ha | ha
      · exact nt a ha
      · simp at ha; subst ha; exact n0
    · rw [← S.len, List.getElem?_append_right (Nat.le_refl _), Nat.sub_self]
      rfl
  · split at x
    · rename_i ds e2
      have sF : ∀ b o, F b = some o → upd F D (.lst vs) b = some o := fun b o q => by rw [upd_ne (ne_of_none q nF)]; exact q
      refine x (upd F D (.lst vs)) m H (S.addF nF nM e) ⟨fun b o q => sF b o (X.sub _ _ q), X.pre, X.keep, fun b o q n => ?_⟩ (.ref D) (.lst upd_same (DqAll.up sF (wrs_toDs e2 r)))
      by_cases hb : b = D
      · exact .inl (hb ▸ n0)
      · rw [upd_ne hb] at q; exact X.new b o q n
    · exact x.elim

/-! ### targets -/
def setVs : List Nat → List V → L2.St → L2.St
  | i :: is, v :: vs, σ => setVs is vs (σ.set i (some v))
  | _, _, σ => σ
def gsOf : List Nat → TGs
  | [] => gNil
  | i :: is => gCons (gName i) (gsOf is)
def gOf (K : PySem.W.Frag) (tg : List Nat) (tup : Bool) : TG := match tup, tg with
  | false, [i] => gName i
  | true, is => gTup K is.length (gsOf is)
  | _, _ => fun _ _ _ _ => False
theorem gs_use : ∀ {is : List Nat} {vs : List V} {σ : L2.St} {Q : L2.St → Hp → Prop}, vs.length = is.length → Q (setVs is vs σ) H → gsOf is vs σ H Q
  | [], [], σ, Q, _, q => ⟨rfl, q⟩
  | i :: is, v :: vs, σ, Q, l, q => ⟨v, vs, rfl, gs_use (by simpa using l) q⟩
  | [], _ :: _, _, _, l, _ => by simp at l
  | _ :: _, [], _, _, l, _ => by simp at l
theorem setAll_env : ∀ {is : List Nat} {ws : List W} {vs : List V} {env env' : Ev} {σ : L2.St}, setAll env is ws = some env' → WRs T F m ws vs → EnvR T F m env σ → vs.length = is.length ∧ EnvR T F m env' (setVs is vs σ)
  | [], [], _, env, env', σ, e, .nil, r => by cases e; exact ⟨rfl, r⟩
  | i :: is, w :: ws, _, env, env', σ, e, .cons q t, r => by
    obtain ⟨l, r'⟩ := setAll_env (is := is) (ws := ws) e t (r.set i q)
    exact ⟨by simp [l], r'⟩
  | [], _ :: _, _, _, _, _, e, _, _ => by cases e
  | _ :: _, [], _, _, _, _, e, _, _ => by cases e
/-- what a store to a target makes of the slots -/
def setTs (tg : List Nat) (tup : Bool) (v : V) (σ σ' : L2.St) : Prop := (tup = false ∧ ∃ i, tg = [i] ∧ σ' = σ.set i (some v)) ∨ (tup = true ∧ ∃ vs, vs.length = tg.length ∧ σ' = setVs tg vs σ)
theorem tg_use {tg : List Nat} {tup : Bool} {w : W} {v : V} {env env' : Ev} {σ : L2.St} {K : PySem.W.Frag} {Q : L2.St → Hp → Prop} (hK : K = T.K) (S : Sim T F m h H) (e : setTg tg tup w env = some env') (r : WR T F m w v) (q : EnvR T F m env σ)
    (k : ∀ σ', setTs tg tup v σ σ' → EnvR T F m env' σ' → Q σ' H) : gOf K tg tup v σ H Q := by
  unfold setTg at e
  split at e
  · cases e
    exact k _ (.inl ⟨rfl, _, rfl, rfl⟩) (q.set _ r)
  · split at e
    · cases r with
      | @tup a vs xs g d =>
        obtain ⟨l, q'⟩ := setAll_env e (d_wrs d) q
        exact ⟨a, vs, rfl, by rw [hK]; exact SqT.up S.sub g, l, gs_use l (k _ (.inr ⟨rfl, vs, l, rfl⟩) q')⟩
    · cases e
  · cases e
section
variable {X : Cx} {N : List Str} {sc : Scope} {fb : Str → Bool}
theorem nm_pg {i : Nat} {x : Str} {p : Pos} (hN : X.N = N) (nd : N.Nodup) (hs : X.env.scope = sc) (hf : ∀ y, fb y = true → X.fn y = true) (c : nmB N sc fb i x = true) : PG X (.Name x p) (gName i) := by
  unfold nmB at c
  simp only [Bool.and_eq_true, decide_eq_true_eq, Bool.or_eq_true] at c
  refine pg_name (by rw [hN]; exact nd) (by rw [hN]; exact c.1.1.1) (by rw [hs]; exact locB_iff c.1.1.2) ?_
  rcases c.1.2 with z | z
  · exact .inl (hf x z)
  · exact .inr (by rw [hs]; exact loc1_iff z)
theorem nms_pg (hN : X.N = N) (nd : N.Nodup) (hs : X.env.scope = sc) (hf : ∀ y, fb y = true → X.fn y = true) : ∀ {is : List Nat} {es : List Expr}, nmsB N sc fb is es = true →
    PGs X es (gsOf is) ∧ (assignEach es X.env).length = is.length ∧ (assignEach es X.env).findIdx? (·.1) = none
  | [], [], _ => ⟨pgs_nil, rfl, rfl⟩
  | i :: is, e :: es, c => by
    cases e with
    | Name x p =>
      simp only [nmsB, Bool.and_eq_true] at c
      obtain ⟨h1, h2, h3⟩ := nms_pg hN nd hs hf c.2
      refine ⟨pgs_cons (nm_pg hN nd hs hf c.1) h1, by show (assignEach es X.env).length + 1 = _; rw [h2]; rfl, ?_⟩
      show ((false, _) :: assignEach es X.env).findIdx? (·.1) = none
      rw [List.findIdx?_cons]
      simp [h3]
    | _ => cases c
  | [], _ :: _, c => by cases c
  | _ :: _, [], c => by cases c
theorem tg_pg {tg : List Nat} {tup : Bool} {x : Expr} (hc : X.calm = true) (hN : X.N = N) (nd : N.Nodup) (hs : X.env.scope = sc) (hf : ∀ y, fb y = true → X.fn y = true) (c : tgB N sc fb tg tup x = true) : PG X x (gOf X.K tg tup) := by
  unfold tgB at c
  split at c
  · exact nm_pg hN nd hs hf c
  · obtain ⟨h1, h2, h3⟩ := nms_pg hN nd hs hf c
    exact pg_tup hc h1 h2 h3
  · cases c
end
/-! ### slots forgotten -/
theorem wipe_get (σ : L2.St) : ∀ (vs : List Nat) (j : Nat), (wipe σ vs)[j]? = if j ∈ vs ∧ j < σ.length then some none else σ[j]?
  | [], j => by simp [wipe]
  | v :: vs, j => by
    unfold wipe
    by_cases hj : v = j
    · subst hj
      by_cases hl : v < σ.length
      · rw [List.getElem?_set_self (by rw [wipe_length]; exact hl), if_pos ⟨by simp, hl⟩]
      · rw [List.getElem?_eq_none (by rw [List.length_set, wipe_length]; omega), if_neg (fun z => hl z.2), List.getElem?_eq_none (by omega)]
    · rw [List.getElem?_set_ne hj, wipe_get σ vs j]
      have : j ∈ v :: vs ↔ j ∈ vs := by simp [Ne.symm hj, eq_comm, hj]
      simp only [this]
theorem setVs_len : ∀ (is : List Nat) (vs : List V) (σ : L2.St), (setVs is vs σ).length = σ.length
  | [], _, _ => rfl
  | _ :: _, [], _ => rfl
  | i :: is, v :: vs, σ => by
    unfold setVs
    rw [setVs_len, List.length_set]
theorem setVs_get : ∀ (is : List Nat) (vs : List V) (σ : L2.St) (j : Nat), j ∉ is → (setVs is vs σ)[j]? = σ[j]?
  | [], _, _, _, _ => rfl
  | _ :: _, [], _, _, _ => rfl
  | i :: is, v :: vs, σ, j, n => by
    unfold setVs
    rw [setVs_get is vs _ j (fun z => n (List.mem_cons_of_mem _ z)), List.getElem?_set_ne (fun z => n (by rw [z]; exact List.mem_cons_self))]
theorem wipe_again {tg : List Nat} {tup : Bool} {v : V} {σ σ' : L2.St} (s : setTs tg tup v (wipe σ tg) σ') : wipe σ' tg = wipe σ tg := by
  have key : σ'.length = σ.length ∧ ∀ j, j ∉ tg → σ'[j]? = (wipe σ tg)[j]? := by
    rcases s with ⟨_, i, rfl, rfl⟩ | ⟨_, vs, _, rfl⟩
    · refine ⟨by rw [List.length_set, wipe_length], fun j n => ?_⟩
      rw [List.getElem?_set_ne (fun z => n (by simp [z]))]
    · exact ⟨by rw [setVs_len, wipe_length], fun j n => setVs_get _ _ _ j n⟩
  apply List.ext_getElem?
  intro j
  rw [wipe_get, wipe_get, key.1]
  by_cases hj : j ∈ tg ∧ j < σ.length
  · rw [if_pos hj, if_pos hj]
  · rw [if_neg hj, if_neg hj]
    by_cases hm : j ∈ tg
    · have hl : ¬ j < σ.length := fun z => hj ⟨hm, z⟩
      rw [List.getElem?_eq_none (by rw [key.1]; omega), List.getElem?_eq_none (by omega)]
    · rw [key.2 j hm, wipe_get, if_neg (fun z => hm z.1)]
/-! ### comprehensions -/
def W0 : WX := fun _ _ _ _ => False
def compF (Φ : Nat → List W → M W) (own tg : List Nat) (tup : Bool) (c : Mi.T) (e : E) (env : Ev) : W → M (Option W) := fun w h => match setTg tg tup w (wipeE env own) with
  | some env1 => (evT Φ c env1 h).bind fun k h => if k then (evE Φ e env1 h).bind fun y h => .ok (some y) h else .ok none h
  | none => .stuck
section
variable {Φ : Nat → List W → M W} {X : Cx} {pos : Pos} {a b c : E} {xa xb xc : Expr} {es : Es} {xs : List Expr}
theorem lc_use {nw : Bool} {own tg : List Nat} {tup : Bool} {it : Mi.It} {t : Mi.T} {e : E} {σ : L2.St} {Q : VK} (hK : X.K = T.K) (ho : own = tg) : tE T Φ Wx (.comp nw own tg tup it t e) σ H Q →
    tLc (tIt T Φ Wx it) (gOf X.K tg tup) (tT T Φ W0 t) (tE T Φ W0 e) own σ H Q := by
  subst ho
  rintro ⟨F, m, h, env, A, R⟩
  refine ⟨F, m, h, env, A, R.bind.imp fun src F1 m1 h1 H1 S1 X1 R1 => ?_⟩
  have A1 := A.step S1 X1
  have c1 : srcOk src h1 = true := by
    cases q : srcOk src h1 with
    | true => rfl
    | false =>
      exfalso
      cases q2 : src.1 with
      | nil => simp only [q2, compL, q, Bool.false_eq_true, if_false, Mi.R.bind] at R1; exact R1.elim
      | cons w ws => simp only [q2, compL, q, Bool.false_eq_true, if_false, Mi.R.bind] at R1; exact R1.elim
  refine ⟨c1, fun J jok D nD => ?_⟩
  have R1 : Run T Wx σ F1 m1 H1 ((compL src (compF Φ own own tup t e env) src.1 [] h1).bind fun ws h => mkL nw ws h) fun w F' m' _ H' => ∀ v, WR T F' m' w v → Q v H' := R1
  refine ⟨fun i n Hc => ∃ F m h acc vs, Sim T F m h Hc ∧ Ext F1 m1 H1 F m Hc ∧ Hc D = some (.lst vs) ∧ F D = none ∧ D ∉ m ∧ WRs T F m acc.reverse vs ∧ i + n = src.1.length ∧
    Run T Wx σ F1 m1 H1 ((compL src (compF Φ own own tup t e env) (src.1.drop i) acc h).bind fun ws h => mkL nw ws h) fun w F' m' _ H' => ∀ v, WR T F' m' w v → Q v H',
    ⟨src.1.length, ?_⟩, ?_⟩
  · exact ⟨F1, m1, h1, [], [], S1.side (S1.notF nD) (S1.notM nD), Ext.refl.side nD, upd_same, S1.notF nD, S1.notM nD, .nil, by omega, R1⟩
  rintro i n Hc ⟨F2, m2, h2, acc, vs, S2, X2, eD, nF, nM, rs, hn, R2⟩
  by_cases hi : i < src.1.length
  · have ew : src.1[i]? = some src.1[i] := List.getElem?_eq_getElem hi
    rw [List.drop_eq_getElem_cons hi] at R2
    simp only [compL] at R2
    cases c2 : srcOk src h2 with
    | false => rw [c2] at R2; simp only [Bool.false_eq_true, if_false, Mi.R.bind] at R2; exact R2.elim
    | true =>
      rw [c2] at R2
      simp only [if_true] at R2
      obtain ⟨go, _⟩ := jok i F2 m2 h2 Hc S2 X2 c2
      obtain ⟨go, yl⟩ := go _ ew
      refine .inr ⟨go, fun Hn => ∃ n', n' < n ∧ ∃ F m h acc vs, Sim T F m h Hn ∧ Ext F1 m1 H1 F m Hn ∧ Hn D = some (.lst vs) ∧ F D = none ∧ D ∉ m ∧ WRs T F m acc.reverse vs ∧ (i + 1) + n' = src.1.length ∧
        Run T Wx σ F1 m1 H1 ((compL src (compF Φ own own tup t e env) (src.1.drop (i + 1)) acc h).bind fun ws h => mkL nw ws h) fun w F' m' _ H' => ∀ v, WR T F' m' w v → Q v H', fun Hn z => z, fun x H3 hy => ?_⟩
      obtain ⟨F3, S3, X3, r3⟩ := yl x H3 hy
      have X13 := X2.trans X3 S3.nd
      have eD3 := X3.keep D _ eD nM
      have nF3 := X3.free eD nM nF
      have en : EnvR T F3 m2 (wipeE env own) (wipe σ own) := (A1.env.ext X13).wipe own
      cases es : setTg own tup src.1[i] (wipeE env own) with
      | none =>
        rw [show compF Φ own own tup t e env src.1[i] h2 = .stuck by simp only [compF, es]] at R2
        exact R2.elim
      | some env1 =>
        refine tg_use hK S3 es r3 en fun σ2 st en2 => ⟨wipe_again st, F3, m2, h2, env1, ⟨S3, en2⟩, ?_⟩
        -- the test
        cases et : evT Φ t env1 h2 with
        | stuck =>
          rw [show compF Φ own own tup t e env src.1[i] h2 = .stuck by simp only [compF, es, et, Mi.R.bind]] at R2
          exact R2.elim
        | exc x h4 =>
          rw [show compF Φ own own tup t e env src.1[i] h2 = .exc x h4 by simp only [compF, es, et, Mi.R.bind]] at R2
          exact R2.elim
        | ok k h4 =>
          intro F4 m4 H4 S4 X4
          have X14 := X13.trans X4 S4.nd
          have eD4 := X4.keep D _ eD3 nM
          have nM4 := X4.notin eD3 nM
          have nF4 := X4.free eD3 nM nF3
          cases k with
          | false =>
            rw [show compF Φ own own tup t e env src.1[i] h2 = .ok none h4 by simp only [compF, es, et, Mi.R.bind, Bool.false_eq_true, if_false]] at R2
            simp only [Bool.false_eq_true, if_false]
            exact ⟨n - 1, by omega, F4, m4, h4, acc, vs, S4, X14, eD4, nF4, nM4, (rs.ext X3).ext X4, by omega, R2⟩
          | true =>
            simp only [if_true]
            refine ⟨F4, m4, h4, env1, ⟨S4, en2.ext X4⟩, ?_⟩
            cases ee : evE Φ e env1 h4 with
            | stuck =>
              rw [show compF Φ own own tup t e env src.1[i] h2 = .stuck by simp only [compF, es, et, ee, Mi.R.bind, if_true]] at R2
              exact R2.elim
            | exc x h5 =>
              rw [show compF Φ own own tup t e env src.1[i] h2 = .exc x h5 by simp only [compF, es, et, ee, Mi.R.bind, if_true]] at R2
              exact R2.elim
            | ok y h5 =>
              rw [show compF Φ own own tup t e env src.1[i] h2 = .ok (some y) h5 by simp only [compF, es, et, ee, Mi.R.bind, if_true]] at R2
              intro F5 m5 H5 S5 X5 v rv
              have X15 := X14.trans X5 S5.nd
              have eD5 := X5.keep D _ eD4 nM4
              have nM5 := X5.notin eD4 nM4
              have nF5 := X5.free eD4 nM4 nF4
              dsimp only at R2
              split at R2
              · rename_i cl
                have rs5 := ((rs.ext X3).ext X4).ext X5
                have l := rs5.len
                rw [List.length_reverse] at l
                refine ⟨vs, eD5, by rw [sizeLine_eq, ← l]; exact Nat.le_of_ble_eq_true cl, n - 1, by omega, F5, m5, h5, y :: acc, vs ++ [v], S5.side nF5 nM5, X15.side nD, upd_same, nF5, nM5, ?_, by omega, R2⟩
                rw [List.reverse_cons]
                exact rs5.app (.cons rv .nil)
              · exact R2.elim
  · have hd : src.1.drop i = [] := List.drop_eq_nil_iff.mpr (by omega)
    rw [hd] at R2
    simp only [compL] at R2
    cases c2 : srcOk src h2 with
    | false => rw [c2] at R2; simp only [Bool.false_eq_true, if_false, Mi.R.bind] at R2; exact R2.elim
    | true =>
      rw [c2] at R2
      simp only [if_true, Mi.R.bind] at R2
      obtain ⟨_, stop⟩ := jok i F2 m2 h2 Hc S2 X2 c2
      exact .inl ⟨stop (by omega), mkL_side S2 X2 nD nF nM eD rs R2⟩
end
end Mi

set_option maxRecDepth 100000
set_option maxHeartbeats 2000000
/-! Mi, twelfth part: every expression that the check lets through. -/
namespace Mi
open PySem PySem.Spec PyProof.Rows L2
variable {T : Top} {F F' F0 F1 : Hp} {m m' m0 m1 : List Addr} {h h' : MH} {H H' H0 H1 : Hp} {Wx : WX} {σ0 : L2.St}
section
variable {Φ : Nat → List W → M W} {X : Cx} {pos : Pos} {a b c : E} {xa xb xc : Expr} {es : Es} {xs : List Expr} {k : Nat}
/-- a def can be called here -/
def Runs (X : Cx) (T : Top) (Φ : Nat → List W → M W) (Wx : WX) (f np : Nat) : Prop := ∀ (pins : List (Addr × Obj)) (s : Shared) (σ : L2.St) (H : Hp) (us : List Value) (vs : List V) (Q : VK), Inv X pins σ H s → Vals vs us → spF T Φ f np vs H Q (fun cls d H' => Wx cls d σ H') →
  wpAny (model X.prog X.w) X.A (PySem.call (.ref (T.fa f)) us) (EP X pins σ Q) X.xe s
theorem call_e {f np : Nat} {mu : Bool} {n : Str} {p : Pos} (gl : Gl X n) (hm : X.mg n = some (.ref (T.fa f))) (hk : PySem.W.keepIn X.K (.ref (T.fa f)) = true)
    (G : Runs X T Φ Wx f np) (ha : PA X (xa :: xs) (tEs T Φ Wx es)) (hs : ((xa :: xs).all fun e => !starB e) = true) (hd : (n == ("__debug__" : Str)) = false)
    (hn : ∀ env h ws h', evEs Φ es env h = .ok ws h' → ws.length = np) : PE X (.Call (.Name n p) (xa :: xs) [] pos) (tE T Φ Wx (.call f mu es)) := by
  have s1 : starB xa = false := by simpa using (List.all_eq_true.mp hs xa List.mem_cons_self)
  have s2 : (xs.all fun e => !starB e) = true := List.all_eq_true.mpr fun e he => List.all_eq_true.mp hs e (List.mem_cons_of_mem _ he)
  refine ⟨fun pins s σ H Q I ⟨F, m, h, env, A, Rn⟩ => ?_⟩
  refine wpAny_Call_Name_kw (ld_glob I gl hm ?_ hd)
  have go := ha.run pos pins s σ H (fun vs H1 => spF T Φ f np vs H1 Q fun cls d H' => Wx cls d σ H') I
    ⟨F, m, h, env, A, Rn.bind.impE fun ws F1 m1 h1 H1 ew S1 X1 R1 vs r => call_sp (by rw [← r.len]; exact hn _ _ _ _ ew) S1 r R1⟩
  exact PySem.W.callWith_K (h₀ := X.base) I.ok.mod.kin hk (thn go fun us s1 ⟨vs, H1, I1, r, q⟩ => ⟨I1.kIn, G pins s1 σ H1 us vs Q I1 r q⟩) (star_cons s1) (star_any s2)
theorem call_e0 {f : Nat} {mu : Bool} {n : Str} {p : Pos} (gl : Gl X n) (hm : X.mg n = some (.ref (T.fa f))) (hk : PySem.W.keepIn X.K (.ref (T.fa f)) = true)
    (G : Runs X T Φ Wx f 0) (hd : (n == ("__debug__" : Str)) = false) : PE X (.Call (.Name n p) [] [] pos) (tE T Φ Wx (.call f mu .nil)) := by
  refine ⟨fun pins s σ H Q I ⟨F, m, h, env, A, Rn⟩ => ?_⟩
  refine wpAny_Call_Name_kw (ld_glob I gl hm ?_ hd)
  exact PySem.W.callWith_K0 I.kIn hk (G pins s σ H [] [] Q I .nil (call_sp rfl A.sim .nil Rn))
/-- isinstance of the error that the context holds -/
theorem call_isx {D C : Addr} {p : Addr × Obj} {bb : Bool} (hp : p ∈ X.pn) (hf : ∃ vs, p.2.data = .fields vs) (C1 : ExcC X.K D) (C2 : PySem.W.kitOne X.K (.ref D) (.ref C) = some bb) :
    CallR X (.builtin "isinstance") fun xs H Q => L2N.Zn (.ref D) none p.2 ∧ xs = [.ref p.1, .ref C] ∧ Q (.bl bb) H := by
  intro pins s σ H xs us Q I r ⟨hz, ex, q⟩
  subst ex
  cases r with
  | cons r1 rr => cases rr with
    | cons r2 rr =>
      cases rr
      cases r1
      cases r2
      obtain ⟨hget, _⟩ := I.pin p (List.mem_append_left _ hp)
      obtain ⟨vs, hv⟩ := hf
      have J : PySem.W.InstAt s.heap p.1 p.2 D none := by
        obtain ⟨a, oc, od, oda, osl⟩ := p
        obtain ⟨h1, h2, _⟩ := hz
        dsimp only at h1 h2 hv
        subst h1 h2 hv
        exact ⟨hget, rfl, rfl, trivial⟩
      exact PySem.W.kia_one (PySem.W.handS_kitx_exc C1.hg C1.hk C1.hs C1.hd C1.ha C1.hn C1.ht C1.hm) I.kIn J C2 (fun z => nomatch z) fun tk => ⟨.bl bb, H, I.kept (t' := tk) fun _ _ z => z, rfl, q⟩
end
/-- what the own error classes say -/
structure Cls1 (T : Top) (I : Info) (X : Cx) (c : Nat) (n : Str) : Prop where
  mg : X.mg n = some (.ref (T.ca c))
  kp : PySem.W.keepIn X.K (.ref (T.ca c)) = true
  exc : ExcC X.K (T.ca c)
  kit : ∀ c', c' < T.nc → PySem.W.kitOne X.K (.ref (T.ca c')) (.ref (T.ca c)) = some (c' == c || c == 0)
  exm : ∀ c', c' < T.nc → PySem.W.exmOne X.K (.ref (T.ca c')) (.ref (T.ca c)) = some (c' == c || c == 0)
  mak : ∃ (B newId initId : String) (bmB : List Value), ExcBaseFacts B newId initId bmB ∧ PySem.W.excIn X.K (T.ca c) bmB newId = true ∧ Raises X (.ref (T.ca c))
/-- what an except suite stands in -/
structure Hot (T : Top) (I : Info) (k : Nat) (Φ : Nat → List W → M W) (X : Cx) (T0 : Top) (p : Addr × Obj) (c : Nat) (x : Option PyData) : Prop where
  top : T = T0.at c x p.1
  h1 : L2H.Hot1 X.A p
  hp : p ∈ X.pn
  cl : c < T.nc
  zn : x = none → L2N.Zn (.ref (T.ca c)) none p.2
  fns : ∀ f n np, I.fns[f]? = some (n, np) → I.hfns.contains f = true → ∃ fd ps, ps.length = np ∧ FnK X.prog X.w X.K X.mg X.base T0 Φ k f np fd ps ∧ Binds X.K fd ps []
/-- what a body stands in -/
structure Bod (T : Top) (I : Info) (k : Nat) (Φ : Nat → List W → M W) (N : List Str) (Wx : WX) (X : Cx) : Prop where
  K : X.K = T.K
  calm : I.hot = false → X.calm = true
  names : X.N = N
  nd : N.Nodup
  gd : X.A.guards = some []
  room : I.hot = false → Room k X.A
  roomH : L2H.RoomH k X.A
  takes : L2N.Takes X Wx
  blt : ∀ x, I.blts.contains x = true → X.mg x = none
  gls : ∀ g d, lookS g I.gls = some d → ∃ v u, X.mg g = some u ∧ RelV v u ∧ ∀ F, Dq T.K F v d
  ncl : I.clss.length = T.nc
  clss : ∀ c n, I.clss[c]? = some n → Cls1 T I X c n
  tabs : ∀ g tab, lookS g I.tabs = some tab → ∃ d es n, X.mg g = some (.ref d) ∧ KDict X.K X.w d es n ∧ ∀ z, PySem.W.nsIn X.K d z = some ((lookS z tab).map fun f => .ref (T.fa f))
  fns : ∀ f n np, I.fns[f]? = some (n, np) → X.mg n = some (.ref (T.fa f)) ∧ PySem.W.keepIn X.K (.ref (T.fa f)) = true ∧ (I.hot = false → I.hfns.contains f = false → ∃ fd ps, ps.length = np ∧ FnG X.prog X.w X.K X.mg X.base k (T.fa f) fd ps (spF T Φ f np) ∧ Binds X.K fd ps [])
  hfn : I.hot = false → (∀ c x v, ¬ T.xw c x v) ∧ ∀ f n np, I.fns[f]? = some (n, np) → I.hfns.contains f = true → ∃ fd ps, ps.length = np ∧ FnK X.prog X.w X.K X.mg X.base T Φ k f np fd ps ∧ Binds X.K fd ps []
  hots : I.hot = true → ∃ T0 p c x, Hot T I k Φ X T0 p c x
variable {I : Info} {k : Nat} {Φ : Nat → List W → M W} {N : List Str} {X : Cx}
theorem Bod.units (C : Bod T I k Φ N Wx X) : X.A.units + 150 < cLine := by
  have := C.roomH.un
  omega
theorem Cls1.of {X' : Cx} {c : Nat} {n : Str} (C : Cls1 T I X c n) (h1 : X'.mg = X.mg) (h2 : X'.K = X.K) : Cls1 T I X' c n := by
  obtain ⟨B, n1, n2, bm, F, e, r⟩ := C.mak
  refine ⟨by rw [h1]; exact C.mg, by rw [h2]; exact C.kp, by rw [h2]; exact C.exc, by rw [h2]; exact C.kit, by rw [h2]; exact C.exm, B, n1, n2, bm, F, by rw [h2]; exact e, ?_⟩
  unfold Raises at r ⊢
  rw [h2]
  exact r
theorem Bod.blk (C : Bod T I k Φ N Wx X) (hh : I.hot = false) (s : Shared) (H : Hp) (scope : Scope) (ce : Env) (fp : List Addr) : Bod T I k Φ N W0 (X.blk s H scope ce fp) :=
  ⟨C.K, C.calm, C.names, C.nd, C.gd, C.room, C.roomH, fun _ _ ⟨_, _, _, _, _, _, _, _, _, _, _, _, _, _, _, _, z⟩ => z.elim, C.blt, C.gls, C.ncl, fun c n e => (C.clss c n e).of rfl rfl, C.tabs, C.fns, C.hfn, fun z => by rw [hh] at z; cases z⟩
theorem Bod.run (C : Bod T I k Φ N Wx X) {f np : Nat} {n : Str} (e : I.fns[f]? = some (n, np)) (ok : I.hot = I.hfns.contains f) : Runs X T Φ Wx f np := by
  intro pins s σ H us vs Q J r q
  cases hh : I.hot with
  | false =>
    obtain ⟨_, _, g⟩ := C.fns f n np e
    obtain ⟨fd, ps, _, G, hb⟩ := g hh (by rw [← ok]; exact hh)
    exact runG G (C.room hh) C.gd hb C.takes J r q
  | true =>
    have ok' : I.hfns.contains f = true := by rw [← ok]; exact hh
    obtain ⟨T0, p, c, x, hot⟩ := C.hots hh
    obtain ⟨fd, ps, l, G, hb⟩ := hot.fns f n np e ok'
    have tp := hot.top
    have q' := q
    rw [tp] at q'
    have ef : T.fa f = T0.fa f := by rw [tp]; rfl
    rw [ef]
    exact runK G l C.roomH C.gd hot.h1 hot.hp (by have := hot.cl; rw [tp] at this; exact this) (fun z => by have := hot.zn z; rw [tp] at this; exact this) hb C.takes J r q'
theorem evEs_n {N : List Str} {sc : Scope} {es : Es} {xs : List Expr} (c : chkEs I N es sc xs = true) : ∀ env h ws h', evEs Φ es env h = .ok ws h' → ws.length = xs.length := fun env h ws h' e => by
  obtain ⟨n, l, g⟩ := evEs_len e
  rw [l, g xs I N sc c]
theorem chkEs_star {sc : Scope} : ∀ {es : Es} {xs : List Expr}, chkEs I N es sc xs = true → (xs.all fun e => !starB e) = true
  | .nil, xs, c => by
    simp only [chkEs] at c
    cases xs with
    | nil => rfl
    | cons _ _ => cases c
  | .cons e es, xs, c => by
    cases xs with
    | nil => cases c
    | cons y ys =>
      simp only [chkEs, Bool.and_eq_true] at c
      rw [List.all_cons, c.1.1, chkEs_star c.2]
      rfl
theorem noset {op : CmpOp} {x : Expr} (c : setB x = false) : behindInMarks op x = false := by
  cases x <;> first | rfl | (cases c)
theorem nofold {x : Expr} {env : Env} (c : setB x = false) : ∀ v, foldedSetIterable x env v = pure v := by
  intro v
  cases x <;> first | rfl | (cases c)
theorem dbg_blt (b : Blt) : (bltN b == ("__debug__" : Str)) = false := by
  cases b <;> first | decide | (rename_i nw; exact (by decide : (("list" : Str) == ("__debug__" : Str)) = false))
theorem isx_e {a : E} {cc c : Nat} {xa : Expr} {n tn : Str} {p p2 pos : Pos} {T0 : Top} {p0 : Addr × Obj} {x0 : Option PyData} (C : Bod T I k Φ N Wx X) (hot : Hot T I k Φ X T0 p0 c x0) (hn : n = "isinstance") (gl : Gl X n) (hm : X.mg n = none) (gt : Gl X tn) (hd : (tn == ("__debug__" : Str)) = false)
    (hc : I.clss[cc]? = some tn) (ha : PE X xa (tE T Φ Wx a)) (hs : starB xa = false) : PE X (.Call (.Name n p) [xa, .Name tn p2] [] pos) (tE T Φ Wx (.isx a cc)) := by
  subst hn
  have K1 := C.clss cc tn hc
  obtain ⟨hh, vs0, hf, _⟩ := hot.h1
  refine (pe_callB (call_isx hot.hp ⟨_, hf⟩ (C.clss c _ (List.getElem?_eq_getElem (by rw [C.ncl]; exact hot.cl))).exc (K1.kit c hot.cl)) gl hm (by decide +kernel) (pa_cons ha (pa_cons (pe_glob (v := .ref (T.ca cc)) gt K1.mg rfl hd) pa_nil) (star_cons hs)) (by decide) (by decide) (star_cons hs) rfl).imp
    fun σ H Q ⟨F, m, h, env, A, R⟩ => ⟨F, m, h, env, A, R.bind.imp fun w F1 m1 h1 H1 S1 X1 R1 x r => ?_⟩
  cases w with
  | ex c' y => cases y with
    | none =>
      have r' : T.xw c' none x := r
      rw [hot.top] at r'
      obtain ⟨e1, e2, e3⟩ := r'
      subst e1
      subst e3
      exact ⟨hot.zn e2.symm, rfl, Run.here S1 R1 _ (.bl _)⟩
    | some _ => exact R1.elim
  | _ => exact R1.elim
section
variable {a : E} {es : Es} {xa y : Expr} {ys : List Expr} {g : Str} {tab : List (Str × Nat)} {p p2 p3 pos : Pos}
theorem tabB_at (C : Bod T I k Φ N Wx X) (c : tabB I g tab = true) : ∃ d es n, X.mg g = some (.ref d) ∧ KDict X.K X.w d es n ∧ ∀ z, PySem.W.nsIn X.K d z = some ((lookS z tab).map fun f => .ref (T.fa f)) := by
  unfold tabB at c
  split at c
  · rename_i t e
    have : t = tab := of_decide_eq_true c
    subst this
    exact C.tabs g t e
  · cases c
def rTab (T : Top) (d : Addr) (tab : List (Str × Nat)) (neg : Bool) : R2 := fun x y H Q => ∃ z, x = .str z ∧ y = .ref d ∧ Q (.bl ((lookS z tab).isSome != neg)) H
theorem op_tab {d : Addr} {es : Array DictEntry} {n : Nat} {neg : Bool} (D : KDict X.K X.w d es n) (h : ∀ z, PySem.W.nsIn X.K d z = some ((lookS z tab).map fun f => .ref (T.fa f))) : OpR X (compareOp (inOp neg)) (rTab T d tab neg) := by
  cases neg with
  | false =>
    rintro pins s σ H x y v u Q I rx ry ⟨z, e1, e2, q⟩
    refine op_in_kd D pins s σ H x y v u Q I rx ry ⟨z, _, e1, e2, h z, ?_⟩
    rw [Option.isSome_map]
    simpa using q
  | true =>
    rintro pins s σ H x y v u Q I rx ry ⟨z, e1, e2, q⟩
    refine op_notIn_kd D pins s σ H x y v u Q I rx ry ⟨z, _, e1, e2, h z, ?_⟩
    rw [Option.isSome_map]
    simpa using q
theorem gdin_use {neg : Bool} {d : Addr} {σ : L2.St} {env : Ev} {K : V → Hp → Prop} (A : At T σ F m h env H)
    (R : Run T Wx σ F m H (evE Φ (.gdin neg g tab a) env h) fun w F' m' _ H' => ∀ v, WR T F' m' w v → K v H') : tOp (rTab T d tab neg) (tE T Φ Wx a) (tC (.ref d)) σ H K := by
  refine ⟨F, m, h, env, A, R.bind.imp fun w F1 m1 h1 H1 S1 X1 R1 x r => ?_⟩
  revert R1
  split
  · intro R1
    rename_i z
    cases str_inv r
    exact ⟨z, rfl, rfl, Run.here S1 R1 _ (.bl _)⟩
  · intro R1; exact R1.elim
theorem gdin_e {neg : Bool} (C : Bod T I k Φ N Wx X) (gl : Gl X g) (hd : (g == ("__debug__" : Str)) = false) (c : tabB I g tab = true) (ha : PE X xa (tE T Φ Wx a)) : PE X (.Compare xa [inOp neg] [.Name g p2] pos) (tE T Φ Wx (.gdin neg g tab a)) := by
  obtain ⟨d, es, n, hm, D, hz⟩ := tabB_at C c
  exact (pe_cmpR (op_tab (T := T) D hz) ha (pe_glob (v := .ref d) gl hm rfl hd) (by cases neg <;> rfl)).imp fun σ H Q ⟨F, m, h, env, A, R⟩ => gdin_use A R
theorem gdin_bool {neg : Bool} {env : Ev} {w : W} {h h' : MH} (e : evE Φ (.gdin neg g tab a) env h = .ok w h') : ∃ b, w = .d (.bool b) := by
  simp only [evE] at e
  cases e1 : evE Φ a env h with
  | ok x h1 =>
    rw [e1] at e
    simp only [R.bind] at e
    split at e
    · cases e; exact ⟨_, rfl⟩
    · cases e
  | exc _ _ => rw [e1] at e; cases e
  | stuck => rw [e1] at e; cases e
theorem gdin_t {neg : Bool} (C : Bod T I k Φ N Wx X) (gl : Gl X g) (hd : (g == ("__debug__" : Str)) = false) (c : tabB I g tab = true) (ha : PE X xa (tE T Φ Wx a)) : PT X (.Compare xa [inOp neg] [.Name g p2] pos) (tT T Φ Wx (.val (.gdin neg g tab a))) := by
  obtain ⟨d, es, n, hm, D, hz⟩ := tabB_at C c
  refine (pt_cmpR (op_tab (T := T) D hz) ha (pe_glob (v := .ref d) gl hm rfl hd) (by cases neg <;> rfl)).imp fun σ H Q ⟨F, m, h, env, A, R⟩ => ?_
  obtain ⟨F, m, h, env, A, R⟩ := tst_use (e := .gdin neg g tab a) (fun _ _ e => gdin_bool e) A R
  exact gdin_use A R
theorem lookS_mem {α : Type} {z : Str} {f : α} : ∀ {l : List (Str × α)}, lookS z l = some f → (z, f) ∈ l
  | [], e => by cases e
  | (k, v) :: r, e => by
    unfold lookS at e
    split at e
    · rename_i c
      cases e
      have : k = z := of_decide_eq_true c
      subst this
      exact List.mem_cons_self
    · exact List.mem_cons_of_mem _ (lookS_mem e)
theorem Run.shift {α : Type} {r : R α} {k : α → Hp → List Addr → MH → Hp → Prop} (x : Run T Wx σ0 F m H r k) (X : Ext F m H F' m' H') : Run T Wx σ0 F' m' H' r k := by
  cases r with
  | ok a h1 => exact fun F2 m2 H2 S2 X2 => x F2 m2 H2 S2 (X.trans X2 S2.nd)
  | exc e h1 => exact fun F2 m2 H2 cls d S2 X2 => x F2 m2 H2 cls d S2 (X.trans X2 S2.nd)
  | stuck => exact x
theorem no_sl {i : Expr} (c : sliceB i = false) : NoSl i := by
  intro ov iv
  cases i <;> first | rfl | (cases c)
/-! a display of texts and plain data -/
def litV : PyData → V
  | .bool b => .bl b
  | .int i => .int i
  | .str x => .str x
  | _ => .non
theorem litV_dq {d : PyData} {c : Const} (h : litB d c = true) {K : PySem.W.Frag} {F : Hp} : Dq K F (litV d) d := by
  unfold litB at h
  split at h
  · exact .non
  · exact .bl _
  · exact .int _
  · exact .str _
  · cases h
theorem litV_pe {d : PyData} {c : Const} {j : Nat} (h : litB d c = true) : PE X (.Constant c j pos) (tC (litV d)) := by
  unfold litB at h
  split at h
  · exact pe_non
  · rename_i a b
    have e : a = b := by simpa using h
    subst e
    exact pe_bl
  · rename_i a b
    have e : a = b := by simpa using h
    subst e
    exact pe_int
  · rename_i a b
    have e : a = b := by simpa using h
    subst e
    exact pe_str
  · cases h
def trsOf (ks : List (Str × PyData)) : List (TE × TE) := ks.map fun q => (tC (.str q.1), tC (litV q.2))
theorem dk_pps : ∀ {ks : List (Str × PyData)} {keys : List (Option Expr)} {vals : List Expr}, dkB ks keys vals = true → PPs X pos keys vals (trsOf ks) ∧ keys.all (·.isSome) = true ∧ keys.length = vals.length ∧ keys.length = ks.length ∧ ∀ q ∈ ks, ∀ {K : PySem.W.Frag} {F : Hp}, Dq K F (litV q.2) q.2
  | [], [], [], _ => ⟨pps_nil, rfl, rfl, rfl, by simp⟩
  | (k, d) :: r, some (.Constant (.str k') _ _) :: ks, .Constant c _ _ :: vs, e => by
    simp only [dkB, Bool.and_eq_true, decide_eq_true_eq] at e
    obtain ⟨⟨e1, e2⟩, e3⟩ := e
    subst e1
    obtain ⟨h1, h2, h3, h4, h5⟩ := dk_pps e3
    refine ⟨pps_cons pe_str (litV_pe e2) h1, by simpa using h2, by simp [h3], by simp [h4], fun q hq K F => ?_⟩
    rcases List.mem_cons.mp hq with z | z
    · subst z; exact litV_dq e2
    · exact h5 q z
  | [], _ :: _, _, e => by simp [dkB] at e
  | [], [], _ :: _, e => by simp [dkB] at e
  | _ :: _, [], _, e => by simp [dkB] at e
  | _ :: _, none :: _, _, e => by simp [dkB] at e
  | _ :: _, some x :: _, [], e => by simp [dkB] at e
def kvsOf (ks : List (Str × PyData)) : List (Key × V) := ks.map fun q => (Sum.inr q.1, litV q.2)
theorem dk_pairs {Q : List (V × V) → Hp → Prop} {σ : L2.St} {H : Hp} : ∀ {ks : List (Str × PyData)} {pre : List (V × V)}, Q (pre ++ (kvsOf ks).map fun kv => (kV kv.1, kv.2)) H → tPairs (trsOf ks) σ H (fun ps H2 => Q (pre ++ ps) H2)
  | [], pre, q => by simpa [trsOf, kvsOf, tPairs] using q
  | (k, d) :: r, pre, q => by
    show tPairs (trsOf r) σ H fun ps H2 => Q (pre ++ (V.str k, litV d) :: ps) H2
    have := dk_pairs (Q := Q) (σ := σ) (H := H) (ks := r) (pre := pre ++ [(V.str k, litV d)]) (by simpa [kvsOf, kV] using q)
    simpa using this
theorem merge_fresh : ∀ {more kvs : List (Key × V)}, ((kvs ++ more).map (·.1)).Nodup → mergeK kvs more = kvs ++ more
  | [], kvs, _ => by simp [mergeK]
  | p :: r, kvs, h => by
    have e : putK kvs p.1 p.2 = kvs ++ [p] := by
      unfold putK
      rw [if_neg]
      intro z
      obtain ⟨q, hq, e⟩ := List.any_eq_true.mp z
      have e := of_decide_eq_true e
      rw [List.map_append, List.nodup_append] at h
      exact h.2.2 q.1 (List.mem_map_of_mem hq) p.1 (by simp) e
    have := merge_fresh (more := r) (kvs := kvs ++ [p]) (by simpa using h)
    show mergeK (putK kvs p.1 p.2) r = _
    rw [e, this]
    simp
theorem val_kvs {z : Str} {x : PyData} : ∀ {ks : List (Str × PyData)}, lookS z ks = some x → valV (kvsOf ks) (Sum.inr z) = some (litV x) ∧ ∃ q ∈ ks, q.2 = x
  | [], e => by cases e
  | (k, v) :: r, e => by
    unfold lookS at e
    split at e
    · rename_i c
      cases e
      have : k = z := of_decide_eq_true c
      subst this
      exact ⟨valV_pos rfl, _, List.mem_cons_self, rfl⟩
    · rename_i c
      obtain ⟨h1, q, h2, h3⟩ := val_kvs e
      refine ⟨?_, q, List.mem_cons_of_mem _ h2, h3⟩
      show valV ((Sum.inr k, litV v) :: kvsOf r) (Sum.inr z) = _
      rw [valV_neg, h1]
      intro z'
      have : k = z := Sum.inr.inj z'
      exact c (decide_eq_true this)
theorem dget_e {ks : List (Str × PyData)} {keys : List (Option Expr)} {vals : List Expr} (C : Bod T I k Φ N Wx X) (c1 : dkB ks keys vals = true) (nd : (ks.map (·.1)).Nodup) (h15 : ks.length < 16) (h0 : 0 < ks.length) (ha : PE X xa (tE T Φ Wx a)) (hs : sliceB xa = false) :
    PE X (.Subscript (.Dict keys vals p2) xa pos) (tE T Φ Wx (.dget ks a)) := by
  obtain ⟨h1, h2, h3, h4, h5⟩ := dk_pps (X := X) (pos := p2) c1
  have hu : X.A.units + 1 < cLine := by have := C.units; omega
  refine (pe_dget hu (pe_disp h1 h2 h3 (fun z => by rw [z] at h4; simp at h4; omega) (by omega)) ha (no_sl hs)).imp fun σ H Q ⟨F, m, h, env, A, R⟩ => fun p np => ?_
  have nF := A.sim.notF np
  have nM := A.sim.notM np
  refine dk_pairs (pre := []) (Q := fun ps H2 => H2 p = some (.dK []) ∧ ∃ kvs : List (Key × V), ps = kvs.map (fun kv => (kV kv.1, kv.2)) ∧ kvs.length ≤ 15 ∧ tE T Φ Wx a σ (upd H2 p (.dK (mergeK [] kvs))) fun y H2 => ∃ a v, V.ref p = .ref a ∧ DGet H2 a y (some v) ∧ Q v H2)
    ⟨upd_same, kvsOf ks, by simp, by simp [kvsOf]; omega, ?_⟩
  have ekv : mergeK [] (kvsOf ks) = kvsOf ks := merge_fresh (kvs := []) (by
    have e : (kvsOf ks).map (·.1) = (ks.map (·.1)).map Sum.inr := by simp [kvsOf]
    rw [List.nil_append, e]
    exact List.pairwise_map.mpr (List.Pairwise.imp (fun h z => h (Sum.inr.inj z)) nd : (ks.map (·.1)).Pairwise fun a b => (Sum.inr a : Key) ≠ Sum.inr b))
  rw [ekv]
  have S0 : Sim T F m h (upd (upd H p (.dK [])) p (.dK (kvsOf ks))) := (A.sim.side nF nM).side nF nM
  have X0 : Ext F m H F m (upd (upd H p (.dK [])) p (.dK (kvsOf ks))) := (Ext.refl.side np).side np
  refine ⟨F, m, h, env, ⟨S0, A.env⟩, (Run.shift R.bind X0).imp fun w F1 m1 h1 H1 S1 X1 R1 y r => ?_⟩
  revert R1
  split
  · intro R1
    rename_i z
    cases str_inv r
    obtain ⟨x, e, kk⟩ := Run.liftM S1 R1
    obtain ⟨e1, q, e2, e3⟩ := val_kvs e
    have hp := X1.keep p _ upd_same nM
    refine ⟨p, litV x, rfl, ?_, kk _ (by rw [← e3]; exact h5 q e2)⟩
    have g := DGet.k (k := Sum.inr z) hp
    rw [e1] at g
    exact g
  · intro R1; exact R1.elim
theorem callg_e (C : Bod T I k Φ N Wx X) (gl : Gl X g) (hd : (g == ("__debug__" : Str)) = false) (c : tabB I g tab = true) (ha : PE X xa (tE T Φ Wx a)) (hsl : sliceB xa = false) (hes : PA X (y :: ys) (tEs T Φ Wx es)) (hs : ((y :: ys).all fun e => !starB e) = true)
    (hf : ∀ q ∈ tab, ∃ nm np, I.fns[q.2]? = some (nm, np) ∧ Runs X T Φ Wx q.2 np ∧ ∀ env h ws h', evEs Φ es env h = .ok ws h' → ws.length = np) :
    PE X (.Call (.Subscript (.Name g p3) xa p2) (y :: ys) [] pos) (tE T Φ Wx (.callg g tab a es)) := by
  have s1 : starB y = false := by simpa using (List.all_eq_true.mp hs y List.mem_cons_self)
  have s2 : (ys.all fun e => !starB e) = true := List.all_eq_true.mpr fun e he => List.all_eq_true.mp hs e (List.mem_cons_of_mem _ he)
  obtain ⟨d, ees, n, hm, D, hz⟩ := tabB_at C c
  refine ⟨fun pins s σ H Q I0 ⟨F, m, h, env, A, Rn⟩ => ?_⟩
  have pf : PE X (.Name g p3) (tC (.ref d)) := pe_glob gl hm rfl hd
  refine Call_ ?_ rfl
  refine subD_of PySem.F.slot_dict_getitem.lookup (no_sl hsl) (thn (pf.run pins s σ H (fun v H1 => v = .ref d ∧ H1 = H) I0 ⟨rfl, rfl⟩) fun u s1' ⟨x1, H1, I1, r1, e1, e2⟩ => ?_)
  subst e1
  subst e2
  obtain rfl : u = Value.ref d := r1
  refine thn (ha.run pins s1' σ H1 (fun v H2 => ∃ z i F2 m2 h2, v = .str z ∧ (z, i) ∈ tab ∧ lookS z tab = some i ∧ At T σ F2 m2 h2 env H2 ∧ Run T Wx σ F2 m2 H2 ((evEs Φ es env h2).bind fun ws h => callW Φ false i ws h) fun w F' m' _ H' => ∀ v, WR T F' m' w v → Q v H') I1
    ⟨F, m, h, env, A, Rn.bind.imp fun w F2 m2 h2 H2 S2 X2 R2 x r => ?_⟩) fun iv s2' ⟨y2, H2, I2, r2, z, i, F2, m2, h2, ey, hmem, hl, A2, R2⟩ => ?_
  · revert R2
    split
    · rename_i z
      split
      · rename_i i hl
        intro R2
        cases str_inv r
        exact ⟨z, i, F2, m2, h2, rfl, lookS_mem hl, hl, A.step S2 X2, R2⟩
      · exact fun R2 => R2.elim
    · exact fun R2 => R2.elim
  subst ey
  obtain ⟨nm, np, e3, run, hn⟩ := hf _ hmem
  obtain ⟨_, kp, _⟩ := C.fns _ _ _ e3
  refine ⟨kd_type D I2, thn (op_item_kd D pins s2' σ H2 (.ref d) (.str z) (.ref d) iv (fun v H3 => v = .ref (T.fa i) ∧ H3 = H2) I2 rfl r2 ⟨z, .ref (T.fa i), .ref (T.fa i), rfl, rfl, by rw [hz, hl]; rfl, rfl, rfl, rfl⟩) fun fv s3' ⟨v3, H3, I3, r3, e4, e5⟩ => ?_⟩
  subst e4
  subst e5
  obtain rfl : fv = Value.ref (T.fa i) := r3
  have go := hes.run pos pins s3' σ H3 (fun vs H4 => spF T Φ i np vs H4 Q fun cls d H' => Wx cls d σ H') I3
    ⟨F2, m2, h2, env, A2, R2.bind.impE fun ws F4 m4 h4 H4 ew S4 X4 R4 vs r => call_sp (by rw [← r.len]; exact hn _ _ _ _ ew) S4 r R4⟩
  exact PySem.W.callWith_K (h₀ := X.base) I3.ok.mod.kin kp (thn go fun us s4 ⟨vs, H4, I4, r, q⟩ => ⟨I4.kIn, run pins s4 σ H4 us vs Q I4 r q⟩) (star_cons s1) (star_any s2)
end
def cmpB : E → Bool
  | .cmp .. => true
  | .chain .. => true
  | .gdin .. => true
  | _ => false
theorem vE {e : E} {sc : Scope} {x : Expr} (c : chkT I N (.val e) sc x = true) : chkE I N e sc x = true := by
  simp only [chkT, Bool.and_eq_true] at c
  exact c.1
theorem vP {e : E} {sc : Scope} {x : Expr} (c : chkT I N (.val e) sc x = true) (d : cmpB e = false) : plainT x = true := by
  simp only [chkT, Bool.and_eq_true, Bool.or_eq_true] at c
  rcases c.2 with c2 | c2
  · exact c2
  · cases e <;> first | exact Bool.noConfusion (show true = false from d) | exact absurd c2 Bool.false_ne_true
mutual
theorem sE : ∀ (e : E) {X : Cx} {Wx : WX} {x : Expr}, Bod T I k Φ N Wx X → chkE I N e X.env.scope x = true → PE X x (tE T Φ Wx e)
  | .var i, X, Wx, x, C, c => by
    cases x with
    | Name n p => exact var_ok C.names c
    | _ => cases c
  | .lit d, X, Wx, x, C, c => by
    cases x with
    | Constant k j p => exact lit_ok c
    | _ => cases c
  | .gl g d, X, Wx, x, C, c => by
    cases x with
    | Name n p =>
      simp only [chkE, Bool.and_eq_true, decide_eq_true_eq] at c
      obtain ⟨⟨⟨c1, c2⟩, c3⟩, c4⟩ := c
      subst c1
      split at c4
      · rename_i d' e
        cases beqD_eq c4
        obtain ⟨v, u, h1, h2, h3⟩ := C.gls _ _ e
        exact (pe_glob (show Gl X n from glB_iff c2) h1 h2 (dbg_iff c3).1).imp fun σ H Q q => pe_one' (fun _ _ _ => rfl) h3 q
      · cases c4
    | _ => cases c
  | .bin nw op a b, X, Wx, x, C, c => by
    cases x with
    | BinOp xa op' xb p =>
      simp only [chkE, Bool.and_eq_true, decide_eq_true_eq] at c
      obtain ⟨⟨c1, c2⟩, c3⟩ := c
      subst c1
      exact pe_bin' C.K (sE a C c2) (sE b C c3)
    | _ => cases c
  | .neg a, X, Wx, x, C, c => by
    cases x with
    | UnaryOp op xa p => cases op with
      | USub => exact neg_ok (sE a C c)
      | _ => cases c
    | _ => cases c
  | .not a, X, Wx, x, C, c => by
    cases x with
    | UnaryOp op xa p => cases op with
      | Not => exact not_ok C.K (sE a C c)
      | _ => cases c
    | _ => cases c
  | .and a b, X, Wx, x, C, c => by
    cases x with
    | BoolOp op vs p => cases op with
      | And => match vs, c with
        | [], c => cases c
        | [_], c => cases c
        | [xa, xb], c =>
          simp only [chkE, Bool.and_eq_true] at c
          exact and_v1 C.K (sE a C c.1) (sE b C c.2)
        | xa :: xb :: y :: r, c =>
          simp only [chkE, Bool.and_eq_true] at c
          exact and_v C.K (sE a C c.1) (sE b C c.2)
      | Or => cases c
    | _ => cases c
  | .or a b, X, Wx, x, C, c => by
    cases x with
    | BoolOp op vs p => cases op with
      | Or => match vs, c with
        | [], c => cases c
        | [_], c => cases c
        | [xa, xb], c =>
          simp only [chkE, Bool.and_eq_true] at c
          exact or_v1 C.K (sE a C c.1) (sE b C c.2)
        | xa :: xb :: y :: r, c =>
          simp only [chkE, Bool.and_eq_true] at c
          exact or_v C.K (sE a C c.1) (sE b C c.2)
      | And => cases c
    | _ => cases c
  | .cmp op a b, X, Wx, x, C, c => by
    cases x with
    | Compare xa ops xs p => match ops, xs, c with
      | [op'], [xb], c =>
        simp only [chkE, Bool.and_eq_true, decide_eq_true_eq, Bool.not_eq_true'] at c
        obtain ⟨⟨⟨c1, c2⟩, c3⟩, c4⟩ := c
        subst c1
        exact pe_cmp' C.K C.units (sE a C c2) (sE b C c3) (noset c4)
      | [], _, c => cases c
      | _ :: _ :: _, _, c => cases c
      | [_], [], c => cases c
      | [_], _ :: _ :: _, c => cases c
    | _ => cases c
  | .chain op op2 a b d, X, Wx, x, C, c => by
    cases x with
    | Compare xa ops xs p => match ops, xs, c with
      | [op', op2'], [xb, xd], c =>
        simp only [chkE, Bool.and_eq_true, decide_eq_true_eq, Bool.not_eq_true'] at c
        obtain ⟨⟨⟨⟨⟨c1, c1'⟩, c2⟩, c3⟩, c4⟩, c5⟩ := c
        subst c1
        subst c1'
        exact chain_ok C.K C.units (sE a C c2) (sE b C c3) (sE d C c4) (noset c5)
      | [], _, c => cases c
      | [_], _, c => cases c
      | _ :: _ :: _ :: _, _, c => cases c
      | [_, _], [], c => cases c
      | [_, _], [_], c => cases c
      | [_, _], _ :: _ :: _ :: _, c => cases c
    | _ => cases c
  | .ite t a b, X, Wx, x, C, c => by
    cases x with
    | IfExp xc xa xb p =>
      simp only [chkE, Bool.and_eq_true] at c
      exact ite_ok (sT t C c.1.1) (sE a C c.1.2) (sE b C c.2)
    | _ => cases c
  | .tup es, X, Wx, x, C, c => by
    cases x with
    | Tuple xs j p =>
      simp only [chkE, Bool.and_eq_true] at c
      exact tup_e (sEs es C c.1) (Nat.le_of_ble_eq_true c.2) (evEs_n c.1)
    | _ => cases c
  | .lst nw es, X, Wx, x, C, c => by
    cases x with
    | List xs p =>
      simp only [chkE, Bool.and_eq_true] at c
      exact lst_e (sEs es C c.1) (Nat.le_of_ble_eq_true c.2) (evEs_n c.1)
    | _ => cases c
  | .idx a i, X, Wx, x, C, c => by
    cases x with
    | Subscript xa xi p =>
      simp only [chkE, Bool.and_eq_true, Bool.not_eq_true'] at c
      exact idx_e C.K (sE a C c.1.1) (sE i C c.1.2) c.2
    | _ => cases c
  | .slice a l u, X, Wx, x, C, c => by
    cases x with
    | Subscript xa xi p => cases xi with
      | Slice xl xu xs p2 => cases xs with
        | none =>
          simp only [chkE, Bool.and_eq_true] at c
          exact slice_e C.K (sE a C c.1.1) (sP l C c.1.2) (sP u C c.2)
        | some _ => cases c
      | _ => cases c
    | _ => cases c
  | .call f mu es, X, Wx, x, C, c => by
    cases x with
    | Call fn args kws p => cases fn with
      | Name n p2 => cases kws with
        | nil =>
          simp only [chkE, Bool.and_eq_true, beq_iff_eq] at c
          obtain ⟨⟨⟨⟨c0, c1⟩, c2⟩, c3⟩, c4⟩ := c
          split at c3
          · rename_i g np e
            simp only [Bool.and_eq_true, decide_eq_true_eq, beq_iff_eq] at c3
            obtain ⟨c3, c5⟩ := c3
            subst c3
            obtain ⟨hm, hk, _⟩ := C.fns f g np e
            have G := C.run e c0
            cases args with
            | nil =>
              cases es with
              | nil =>
                have : np = 0 := by simpa using c5.symm
                subst this
                exact call_e0 (show Gl X g from glB_iff c1) hm hk G (dbg_iff c2).1
              | cons _ _ => cases c4
            | cons xa xs =>
              exact call_e (show Gl X g from glB_iff c1) hm hk G (sEs es C c4) (chkEs_star c4) (dbg_iff c2).1 (fun env h ws h' e => by rw [evEs_n c4 env h ws h' e, c5])
          · cases c3
        | cons _ _ => cases c
      | _ => cases c
    | _ => cases c
  | .callg g tab a es, X, Wx, x, C, c => by
    cases x with
    | Call fn args kws p => cases fn with
      | Subscript o xi p2 => cases o with
        | Name n p3 => cases args with
          | nil => cases c
          | cons y ys => cases kws with
            | cons _ _ => simp [chkE] at c
            | nil =>
              simp only [chkE, Bool.and_eq_true, decide_eq_true_eq, Bool.not_eq_true'] at c
              obtain ⟨⟨⟨⟨⟨⟨⟨⟨c0, c1⟩, c2⟩, c3⟩, c4⟩, c5⟩, c6⟩, c7⟩, c8⟩ := c
              subst c2
              exact callg_e C (show Gl X n from glB_iff c1) (dbg_iff c3).1 c4 (sE a C c5) c6 (sEs es C c7) (chkEs_star c7) (fun f hf => by
                have := List.all_eq_true.mp c8 _ hf
                split at this
                · rename_i nm np e
                  simp only [Bool.and_eq_true, beq_iff_eq, Bool.not_eq_true'] at this
                  obtain ⟨this, th2⟩ := this
                  exact ⟨nm, np, e, C.run e (by rw [c0]; exact th2.symm), fun env h ws h' e => by rw [evEs_n c7 env h ws h' e, this]⟩
                · cases this)
        | _ => cases c
      | _ => cases c
    | _ => cases c
  | .gdin neg g tab a, X, Wx, x, C, c => by
    cases x with
    | Compare xa ops xs p => match ops, xs, c with
      | [op'], [.Name n p2], c =>
        simp only [chkE, Bool.and_eq_true, decide_eq_true_eq] at c
        obtain ⟨⟨⟨⟨⟨c1, c2⟩, c3⟩, c4⟩, c5⟩, c6⟩ := c
        subst c1
        subst c3
        exact gdin_e C (show Gl X n from glB_iff c2) (dbg_iff c4).1 c5 (sE a C c6)
      | [], _, c => cases c
      | _ :: _ :: _, _, c => cases c
      | [_], [], c => cases c
      | [_], _ :: _ :: _, c => simp [chkE] at c
      | [_], [.BoolOp ..], c => cases c
    | _ => cases c
  | .dget ks a, X, Wx, x, C, c => by
    cases x with
    | Subscript o xi p => cases o with
      | Dict keys vals p2 =>
        simp only [chkE, Bool.and_eq_true, decide_eq_true_eq, Bool.not_eq_true'] at c
        obtain ⟨⟨⟨⟨⟨c1, c2⟩, c3⟩, c4⟩, c5⟩, c6⟩ := c
        exact dget_e C c1 c2 (Nat.le_of_ble_eq_true c3) (Nat.le_of_ble_eq_true c4) (sE a C c5) c6
      | _ => cases c
    | _ => cases c
  | .isx a cc, X, Wx, x, C, c => by
    cases x with
    | Call fn args kws p => cases fn with
      | Name n p2 => cases args with
        | nil => cases c
        | cons xa r => cases r with
          | nil => cases c
          | cons y r => cases r with
            | cons _ _ => simp [chkE] at c
            | nil => cases kws with
              | cons _ _ => simp [chkE] at c
              | nil => cases y with
                | Name tn p3 =>
                  simp only [chkE, Bool.and_eq_true, decide_eq_true_eq, Bool.not_eq_true'] at c
                  obtain ⟨⟨⟨⟨⟨⟨⟨⟨c0, c1⟩, c2⟩, c3⟩, c5⟩, c6⟩, c4⟩, c7⟩, c8⟩ := c
                  obtain ⟨T0, p0, c', x', hot⟩ := C.hots c0
                  exact isx_e C hot c1 (show Gl X n from glB_iff c2) (C.blt n c3) (show Gl X tn from glB_iff c5) (dbg_iff c6).1 c4 (sE a C c7) c8
                | _ => simp [chkE] at c
      | _ => cases c
    | _ => cases c
  | .isi a t, X, Wx, x, C, c => by
    cases x with
    | Call fn args kws p => cases fn with
      | Name n p2 => cases args with
        | nil => cases c
        | cons xa r => cases r with
          | nil => cases c
          | cons y r => cases r with
            | cons _ _ => simp [chkE] at c
            | nil => cases kws with
              | cons _ _ => simp [chkE] at c
              | nil => cases y with
                | Name tn p3 =>
                  simp only [chkE, Bool.and_eq_true, decide_eq_true_eq, Bool.not_eq_true'] at c
                  obtain ⟨⟨⟨⟨⟨⟨⟨c1, c2⟩, c3⟩, c4⟩, c5⟩, c6⟩, c7⟩, c8⟩ := c
                  exact isi_e C.K (show Gl X n from glB_iff c2) (C.blt n c3) c1 c4 (show Gl X tn from glB_iff c5) (C.blt tn c6) (sE a C c7) c8
                | _ => simp [chkE] at c
      | _ => cases c
    | _ => cases c
  | .blt b es, X, Wx, x, C, c => by
    cases x with
    | Call fn args kws p => cases fn with
      | Name n p2 => match args, kws, c with
        | xa :: xs, [], c =>
          simp only [chkE, Bool.and_eq_true, decide_eq_true_eq, Bool.not_eq_true'] at c
          obtain ⟨⟨⟨⟨c0, c1⟩, c2⟩, c3⟩, c4⟩ := c
          exact blt_e C.K (C.calm c0) C.gd C.units c1 (show Gl X n from glB_iff c2) (C.blt n c3) (sEs es C c4) (chkEs_star c4)
        | [], _, c => cases c
        | _ :: _, _ :: _, c => cases c
      | _ => cases c
    | _ => cases c
  | .meth m a es, X, Wx, x, C, c => by
    cases x with
    | Call fn args kws p => cases fn with
      | Attribute o nm ap => cases kws with
        | nil =>
          simp only [chkE, Bool.and_eq_true, decide_eq_true_eq, Bool.not_eq_true'] at c
          obtain ⟨⟨⟨⟨⟨c1, c2⟩, c3⟩, c4⟩, c5⟩, c6⟩ := c
          match args, c5, c6 with
          | [], c5, c6 =>
            cases es with
            | nil => exact meth0_e C.K c1 (by simpa using c6) (sE a C c4) c3 c2
            | cons _ _ => cases c5
          | [xb], c5, c6 =>
            have st := chkEs_star c5
            exact meth1_e C.K C.units c1 c6 (sE a C c4) (sEs es C c5) c3 c2 (by simpa using st)
          | _ :: _ :: _, _, c6 => cases c6
        | cons _ _ => cases c
      | _ => cases c
    | _ => cases c
  | .comp nw own tg tup it t e, X, Wx, x, C, c => by
    cases x with
    | ListComp elt gs scope p => cases gs with
      | nil => cases c
      | cons g r => cases r with
        | cons _ _ => simp [chkE] at c
        | nil =>
          obtain ⟨tgx, itx, ifs, ia⟩ := g
          by_cases hia : ia = 0
          · subst hia
            simp only [chkE, Bool.and_eq_true, decide_eq_true_eq, Bool.not_eq_true'] at c
            obtain ⟨⟨⟨⟨⟨⟨⟨⟨c0, c1⟩, c2⟩, c3⟩, c4⟩, c5⟩, c6⟩, c7⟩, c8⟩ := c
            have ok := blkOk_by (by rw [C.names]; exact c1 : blkC X.N X.env.scope scope (ownN N own) = true)
            have B := fun (s : Shared) (H : Hp) (C' : Addr) (cl : List (Str × Addr)) (fp : List Addr) => C.blk c0 s H scope (compEnvC scope cl C' X.env) fp
            have fin : ∀ {ifs : List Expr}, (∀ (s : Shared) (H : Hp) (C' : Addr) (cl : List (Str × Addr)) (fp : List Addr), PTs (X.blk s H scope (compEnvC scope cl C' X.env) fp) ifs (tT T Φ W0 t)) → PE X (.ListComp elt [⟨tgx, itx, ifs, 0⟩] scope p) (tE T Φ Wx (.comp nw own tg tup it t e)) := fun {ifs} hts =>
              (pe_lc (own := ownN N own) (C.calm c0) (by rw [C.names]; exact C.nd) (sIt it C c5) ok
                (fun s H C' cl fp => tg_pg (X := X.blk s H scope (compEnvC scope cl C' X.env) fp) (C.calm c0) C.names C.nd rfl (fun _ z => z) c4) hts (fun s H C' cl fp => sE e (B s H C' cl fp) c8) (nofold c6)).imp fun σ H Q q => by
                rw [c2]
                exact lc_use C.K c3 q
            cases ifs with
            | nil =>
              cases t with
              | yes => exact fin fun s H C' cl fp => ⟨fun pins s1 σ H1 Q I ⟨F, m, h, env, A, R⟩ => pts_nil.run pins s1 σ H1 Q I (Run.here A.sim R)⟩
              | _ => cases c7
            | cons i1 r => cases r with
              | nil => exact fin fun s H C' cl fp => pts_one (sT t (B s H C' cl fp) c7)
              | cons _ _ => cases c7
          · simp [chkE, hia] at c
    | _ => cases c
theorem sT : ∀ (t : Mi.T) {X : Cx} {Wx : WX} {x : Expr}, Bod T I k Φ N Wx X → chkT I N t X.env.scope x = true → PT X x (tT T Φ Wx t)
  | .not t, X, Wx, x, C, c => by
    cases x with
    | UnaryOp op xa p => cases op with
      | Not => exact not_t (sT t C c)
      | _ => cases c
    | _ => cases c
  | .and a b, X, Wx, x, C, c => by
    cases x with
    | BoolOp op vs p => cases op with
      | And => match vs, c with
        | [], c => cases c
        | [_], c => cases c
        | [xa, xb], c =>
          simp only [chkT, Bool.and_eq_true] at c
          exact and_t1 (sT a C c.1) (sT b C c.2)
        | xa :: xb :: y :: r, c =>
          simp only [chkT, Bool.and_eq_true] at c
          exact and_t (sT a C c.1) (sT b C c.2)
      | Or => cases c
    | _ => cases c
  | .or a b, X, Wx, x, C, c => by
    cases x with
    | BoolOp op vs p => cases op with
      | Or => match vs, c with
        | [], c => cases c
        | [_], c => cases c
        | [xa, xb], c =>
          simp only [chkT, Bool.and_eq_true] at c
          exact or_t1 (sT a C c.1) (sT b C c.2)
        | xa :: xb :: y :: r, c =>
          simp only [chkT, Bool.and_eq_true] at c
          exact or_t (sT a C c.1) (sT b C c.2)
      | And => cases c
    | _ => cases c
  | .val (.cmp op a b), X, Wx, x, C, c => by
    cases x with
    | Compare xa ops xs p => match ops, xs, c with
      | [op'], [xb], c =>
        simp only [chkT, chkE, Bool.and_eq_true, decide_eq_true_eq, Bool.not_eq_true'] at c
        obtain ⟨⟨⟨⟨c1, c2⟩, c3⟩, c4⟩, _⟩ := c
        subst c1
        exact pt_cmp' C.K C.units (sE a C c2) (sE b C c3) (noset c4)
      | [], _, c => cases c
      | _ :: _ :: _, _, c => cases c
      | [_], [], c => cases c
      | [_], _ :: _ :: _, c => cases c
    | _ => cases c
  | .val (.chain op op2 a b d), X, Wx, x, C, c => by
    cases x with
    | Compare xa ops xs p => match ops, xs, c with
      | [op', op2'], [xb, xd], c =>
        simp only [chkT, chkE, Bool.and_eq_true, decide_eq_true_eq, Bool.not_eq_true'] at c
        obtain ⟨⟨⟨⟨⟨⟨c1, c1'⟩, c2⟩, c3⟩, c4⟩, c5⟩, _⟩ := c
        subst c1
        subst c1'
        exact chain_t C.K C.units (sE a C c2) (sE b C c3) (sE d C c4) (noset c5)
      | [], _, c => cases c
      | [_], _, c => cases c
      | _ :: _ :: _ :: _, _, c => cases c
      | [_, _], [], c => cases c
      | [_, _], [_], c => cases c
      | [_, _], _ :: _ :: _ :: _, c => cases c
    | _ => cases c
  | .val (.var i), X, Wx, x, C, c => val_t C.K (sE (.var i) C (vE c)) (vP c (by rfl))
  | .val (.lit d), X, Wx, x, C, c => val_t C.K (sE (.lit d) C (vE c)) (vP c (by rfl))
  | .val (.gl g d), X, Wx, x, C, c => val_t C.K (sE (.gl g d) C (vE c)) (vP c (by rfl))
  | .val (.bin nw op a b), X, Wx, x, C, c => val_t C.K (sE (.bin nw op a b) C (vE c)) (vP c (by rfl))
  | .val (.neg a), X, Wx, x, C, c => val_t C.K (sE (.neg a) C (vE c)) (vP c (by rfl))
  | .val (.not a), X, Wx, x, C, c => val_t C.K (sE (.not a) C (vE c)) (vP c (by rfl))
  | .val (.and a b), X, Wx, x, C, c => val_t C.K (sE (.and a b) C (vE c)) (vP c (by rfl))
  | .val (.or a b), X, Wx, x, C, c => val_t C.K (sE (.or a b) C (vE c)) (vP c (by rfl))
  | .val (.ite t a b), X, Wx, x, C, c => val_t C.K (sE (.ite t a b) C (vE c)) (vP c (by rfl))
  | .val (.tup es), X, Wx, x, C, c => val_t C.K (sE (.tup es) C (vE c)) (vP c (by rfl))
  | .val (.lst nw es), X, Wx, x, C, c => val_t C.K (sE (.lst nw es) C (vE c)) (vP c (by rfl))
  | .val (.idx a i), X, Wx, x, C, c => val_t C.K (sE (.idx a i) C (vE c)) (vP c (by rfl))
  | .val (.slice a l u), X, Wx, x, C, c => val_t C.K (sE (.slice a l u) C (vE c)) (vP c (by rfl))
  | .val (.call f mu es), X, Wx, x, C, c => val_t C.K (sE (.call f mu es) C (vE c)) (vP c (by rfl))
  | .val (.callg g tab a es), X, Wx, x, C, c => val_t C.K (sE (.callg g tab a es) C (vE c)) (vP c (by rfl))
  | .val (.gdin neg g tab a), X, Wx, x, C, c => by
    cases x with
    | Compare xa ops xs p => match ops, xs, c with
      | [op'], [.Name n p2], c =>
        simp only [chkT, chkE, Bool.and_eq_true, decide_eq_true_eq] at c
        obtain ⟨⟨⟨⟨⟨⟨c1, c2⟩, c3⟩, c4⟩, c5⟩, c6⟩, _⟩ := c
        subst c1
        subst c3
        exact gdin_t C (show Gl X n from glB_iff c2) (dbg_iff c4).1 c5 (sE a C c6)
      | [], _, c => cases c
      | _ :: _ :: _, _, c => cases c
      | [_], [], c => cases c
      | [_], _ :: _ :: _, c => simp [chkT, chkE] at c
    | _ => cases c
  | .val (.dget ks a), X, Wx, x, C, c => val_t C.K (sE (.dget ks a) C (vE c)) (vP c (by rfl))
  | .val (.isi a t), X, Wx, x, C, c => val_t C.K (sE (.isi a t) C (vE c)) (vP c (by rfl))
  | .val (.isx a i), X, Wx, x, C, c => val_t C.K (sE (.isx a i) C (vE c)) (vP c (by rfl))
  | .val (.blt b es), X, Wx, x, C, c => val_t C.K (sE (.blt b es) C (vE c)) (vP c (by rfl))
  | .val (.meth m a es), X, Wx, x, C, c => val_t C.K (sE (.meth m a es) C (vE c)) (vP c (by rfl))
  | .val (.comp nw own tg tup it t e), X, Wx, x, C, c => val_t C.K (sE (.comp nw own tg tup it t e) C (vE c)) (vP c (by rfl))
  | .yes, _, _, _, _, c => by cases c
theorem sEs : ∀ (es : Es) {X : Cx} {Wx : WX} {xs : List Expr}, Bod T I k Φ N Wx X → chkEs I N es X.env.scope xs = true → PA X xs (tEs T Φ Wx es)
  | .nil, X, Wx, xs, C, c => by
    cases xs with
    | nil => exact es_nil
    | cons _ _ => cases c
  | .cons e es, X, Wx, xs, C, c => by
    cases xs with
    | nil => cases c
    | cons x r =>
      simp only [chkEs, Bool.and_eq_true, Bool.not_eq_true'] at c
      exact es_cons (sE e C c.1.2) (sEs es C c.2) c.1.1
theorem sP : ∀ (p : Pt) {X : Cx} {Wx : WX} {x : Option Expr}, Bod T I k Φ N Wx X → chkP I N p X.env.scope x = true → PO X x (tP Φ Wx T p)
  | .no, X, Wx, x, C, c => by
    cases x with
    | none => exact no_p
    | some _ => cases c
  | .at e, X, Wx, x, C, c => by
    cases x with
    | none => cases c
    | some y => exact at_p (sE e C c)
theorem sIt : ∀ (it : Mi.It) {X : Cx} {Wx : WX} {x tg : Expr}, Bod T I k Φ N Wx X → chkIt I N it X.env.scope x = true → PI X tg x (tIt T Φ Wx it)
  | .over e, X, Wx, x, tg, C, c => over_i C.K (sE e C c)
  | .rng1 a, X, Wx, x, tg, C, c => by
    cases x with
    | Call fn args kws p => cases fn with
      | Name n p2 => match args, kws, c with
        | [xa], [], c =>
          simp only [chkIt, Bool.and_eq_true, decide_eq_true_eq, Bool.not_eq_true'] at c
          obtain ⟨⟨⟨⟨c1, c2⟩, c3⟩, c4⟩, c5⟩ := c
          exact rng1_i c1 (show Gl X n from glB_iff c2) (C.blt n c3) (sE a C c4) c5
        | [], _, c => cases c
        | _ :: _ :: _, _, c => cases c
        | [_], _ :: _, c => cases c
      | _ => cases c
    | _ => cases c
  | .rng2 a b, X, Wx, x, tg, C, c => by
    cases x with
    | Call fn args kws p => cases fn with
      | Name n p2 => match args, kws, c with
        | [xa, xb], [], c =>
          simp only [chkIt, Bool.and_eq_true, decide_eq_true_eq, Bool.not_eq_true'] at c
          obtain ⟨⟨⟨⟨⟨⟨c1, c2⟩, c3⟩, c4⟩, c5⟩, c6⟩, c7⟩ := c
          exact rng2_i c1 (show Gl X n from glB_iff c2) (C.blt n c3) (sE a C c4) (sE b C c5) c6 c7
        | [], _, c => cases c
        | [_], _, c => cases c
        | _ :: _ :: _ :: _, _, c => cases c
        | [_, _], _ :: _, c => cases c
      | _ => cases c
    | _ => cases c
end
end Mi

set_option maxRecDepth 100000
set_option maxHeartbeats 2000000
/-! Mi, thirteenth part: statements. -/
namespace Mi
open PySem PySem.Spec PyProof.Rows L2
variable {T : Top} {F F' F0 F1 : Hp} {m m' m0 m1 : List Addr} {h h' : MH} {H H' H0 H1 : Hp} {Wx : WX} {σ0 : L2.St}
/-! ### the check -/
def tupB : Expr → Bool
  | .Tuple .. => true
  | _ => false
def lcB : Expr → Bool
  | .ListComp .. => true
  | _ => false
/-- name = [.. for ..] on one line -/
def swB (sc : Scope) (n : Str) (pl : Nat) (x : Expr) : Bool := match x with
  | .ListComp _ _ s p => loc1 sc n && pl == p.line && !(s.names.any fun (y, k) => y == n && (k == .local || k == .cell))
  | _ => false
mutual
def chkS : S → Info → List Str → Scope → Stmt → Bool
  | .ex e, I, N, sc, x => match x with
    | .Expr y _ => chkE I N e sc y && !compB y
    | _ => false
  | .set i e, I, N, sc, x => match x with
    | .Assign [.Name n np] y _ => nmB N sc (fun _ => true) i n && chkE I N e sc y && (!compB y || swB sc n np.line y)
    | _ => false
  | .setT is e, I, N, sc, x => match x with
    | .Assign [.Tuple ts k tp] y _ => !I.hot && nmsB N sc (fun _ => true) is ts && chkE I N e sc y && !compB y && !tupB y
    | _ => false
  | .ret e, I, N, sc, x => match x with
    | .Return (some y) _ => chkE I N e sc y
    | .Return none _ => (match e with
      | .lit .none => true
      | _ => false)
    | _ => false
  | .ite c a b, I, N, sc, x => match x with
    | .If y p q _ => chkT I N c sc y && chkSs a I N sc p && chkSs b I N sc q
    | _ => false
  | .for tg tup it b, I, N, sc, x => match x with
    | .For t i body [] _ => !I.hot && tgB N sc (fun _ => true) tg tup t && chkIt I N it sc i && !setB i && chkSs b I N sc body
    | _ => false
  | .while c b, I, N, sc, x => match x with
    | .While y body [] _ => !I.hot && chkT I N c sc y && chkSs b I N sc body
    | _ => false
  | .brk, _, _, _, x => match x with
    | .Break _ => true
    | _ => false
  | .cnt, _, _, _, x => match x with
    | .Continue _ => true
    | _ => false
  | .pass, _, _, _, x => match x with
    | .Pass _ => true
    | _ => false
  | .raise c o, I, N, sc, x => match o, x with
    | none, .Raise (some (.Call (.Name n _) [.Constant (.str _) _ _] [] _)) none _ => !I.hot && glB sc n && dbg n && decide (I.clss[c]? = some n)
    | _, _ => false
  | .try1 b c i hd, I, N, sc, x => match x with
    | .Try body [.ExceptHandler (some (.Name n _)) nm (b0 :: su) _] [] [] _ => !I.hot && glB sc n && dbg n && decide (I.clss[c]? = some n) && (match i, nm with
      | some k, some e => decide (N[k]? = some e) && loc1 sc e
      | _, _ => false) && chkSs b I N sc body && chkSs hd { I with hot := true } N sc (b0 :: su)
    | _ => false
def chkSs : Ss → Info → List Str → Scope → List Stmt → Bool
  | .nil, _, _, _, xs => xs.isEmpty
  | .cons s ss, I, N, sc, xs => match xs with
    | x :: r => chkS s I N sc x && chkSs ss I N sc r
    | [] => false
end

/-! ### readings -/
section
variable (T)
def outK (D : Ends) : O → Hp → List Addr → MH → Hp → Prop
  | .nx env, F', m', _, H' => ∀ σ', EnvR T F' m' env σ' → D.nx σ' H'
  | .ret w, F', m', _, H' => ∀ v, WR T F' m' w v → D.rt v H'
  | .brk env, F', m', _, H' => ∀ σ', EnvR T F' m' env σ' → D.bk σ' H'
  | .cnt env, F', m', _, H' => ∀ σ', EnvR T F' m' env σ' → D.ct σ' H'
def RunS (Wx : WX) (F : Hp) (m : List Addr) (H : Hp) (r : RS) (k : O → Hp → List Addr → MH → Hp → Prop) : Prop := match r with
  | .ok o h' => ∀ F' m' H', Sim T F' m' h' H' → Ext F m H F' m' H' → k o F' m' h' H'
  | .exc e env h' => ∀ F' m' H' σ' cls d, Sim T F' m' h' H' → Ext F m H F' m' H' → EnvR T F' m' env σ' → ExnR T F' H' e cls d → Wx cls d σ' H'
  | .stuck => False
def tS (Φ : Nat → List W → M W) (Wx : WX) (s : S) : TS := fun D σ H => ∃ F m h env, At T σ F m h env H ∧ RunS T Wx F m H (evS Φ s env h) (outK T D)
def tSs (Φ : Nat → List W → M W) (Wx : WX) (s : Ss) : TS := fun D σ H => ∃ F m h env, At T σ F m h env H ∧ RunS T Wx F m H (evSs Φ s env h) (outK T D)
end
theorem RunS.shift {r : RS} {k : O → Hp → List Addr → MH → Hp → Prop} (x : RunS T Wx F m H r k) (X : Ext F m H F' m' H') : RunS T Wx F' m' H' r k := by
  cases r with
  | ok o h1 => exact fun F2 m2 H2 S2 X2 => x F2 m2 H2 S2 (X.trans X2 S2.nd)
  | exc e env h1 => exact fun F2 m2 H2 σ2 cls d S2 X2 => x F2 m2 H2 σ2 cls d S2 (X.trans X2 S2.nd)
  | stuck => exact x
theorem RunS.here {o : O} {k : O → Hp → List Addr → MH → Hp → Prop} (S : Sim T F m h H) (x : RunS T Wx F m H (.ok o h) k) : k o F m h H := x F m H S Ext.refl
theorem RunS.imp {r : RS} {k k' : O → Hp → List Addr → MH → Hp → Prop} (x : RunS T Wx F m H r k) (f : ∀ o F' m' h' H', Sim T F' m' h' H' → Ext F m H F' m' H' → k o F' m' h' H' → k' o F' m' h' H') : RunS T Wx F m H r k' := by
  cases r with
  | ok o h1 => exact fun F2 m2 H2 S2 X2 => f _ _ _ _ _ S2 X2 (x F2 m2 H2 S2 X2)
  | exc e env h1 => exact x
  | stuck => exact x
theorem RunS.bindE {α : Type} {r : R α} {env : Ev} {σ : L2.St} {f : α → MH → RS} {k : O → Hp → List Addr → MH → Hp → Prop} (x : RunS T Wx F m H (r.toS env f) k) (en : EnvR T F m env σ) :
    Run T Wx σ F m H r fun a F1 m1 h1 H1 => RunS T Wx F1 m1 H1 (f a h1) k := by
  cases r with
  | ok a h1 => exact fun F1 m1 H1 S1 X1 => (show RunS T Wx F m H (f a h1) k from x).shift X1
  | exc e h1 => exact fun F1 m1 H1 cls d S1 X1 ex => x F1 m1 H1 σ cls d S1 X1 (en.ext X1) ex
  | stuck => exact x

/-! ### what a def's body stands in -/
structure BodS (T : Top) (I : Info) (k : Nat) (Φ : Nat → List W → M W) (N : List Str) (Wx : WX) (X : Cx) : Prop where
  bod : Bod T I k Φ N Wx X
  pass : I.hot = false → PassesOwn (model X.prog X.w) X.A X.env X.xe
  stk : X.stack = X.env :: X.outer
  frm : X.env.frame = some X.env.locals
  fn : ∀ x, X.fn x = true
  kind : X.env.scope.kind = .function
variable {I : Info} {k : Nat} {Φ : Nat → List W → M W} {N : List Str} {X : Cx}
theorem no_sw {y : Expr} {tg : Option Expr} {l : Nat} {env : Env} (c : compB y = false) : swapsWith y tg l env = pure false := by
  cases y <;> first | rfl | (cases c)
theorem sw_yes {n : Str} {np sp p : Pos} {elt : Expr} {gs : List Comprehension} {s : Scope} {env : Env} (hk : env.scope.kind = .function) (c : swB env.scope n np.line (.ListComp elt gs s p) = true) :
    env.scope.names.lookup n = some .local ∧ swapsWith (.ListComp elt gs s p) (some (.Name n np)) sp.line env = pure true := by
  simp only [swB, Bool.and_eq_true] at c
  obtain ⟨⟨c1, c2⟩, c3⟩ := c
  have l := loc1_iff c1
  refine ⟨l, ?_⟩
  have e1 : (env.blockKind == .function) = true := by
    unfold Env.blockKind
    rw [hk]
    rfl
  have e2 : (env.kindOf n == some .local) = true := by
    unfold Env.kindOf
    rw [l]
    rfl
  unfold swapsWith
  show (pure (env.blockKind == .function && env.kindOf n == some .local && np.line == (Expr.ListComp elt gs s p).pos.line && !(s.names.any fun (y, k) => y == n && (k == .local || k == .cell))) : Sem Bool) = pure true
  rw [e1, e2]
  congr 1
  rw [Bool.true_and, Bool.true_and, Bool.and_eq_true]
  exact ⟨c2, c3⟩

/-! ### small statements -/
section
variable {e : E} {xe : Expr} {pos : Pos}
theorem ex_s (he : PE X xe (tE T Φ Wx e)) (hc : compB xe = false) : PS X (.Expr xe pos) (tS T Φ Wx (.ex e)) := by
  refine ⟨fun pins s σ H D J ⟨F, m, h, env, A, R⟩ => (ps_expr he (no_sw hc)).run pins s σ H D J ⟨F, m, h, env, A, (R.bindE A.env).imp fun w F1 m1 h1 H1 S1 X1 R1 v r => ?_⟩⟩
  exact RunS.here S1 R1 σ (A.env.ext X1)
theorem ret_s (he : PE X xe (tE T Φ Wx e)) : PS X (.Return (some xe) pos) (tS T Φ Wx (.ret e)) := by
  refine ⟨fun pins s σ H D J ⟨F, m, h, env, A, R⟩ => (ps_ret he).run pins s σ H D J ⟨F, m, h, env, A, (R.bindE A.env).imp fun w F1 m1 h1 H1 S1 X1 R1 v r => ?_⟩⟩
  exact RunS.here S1 R1 v r
theorem retN_s : PS X (.Return none pos) (tS T Φ Wx (.ret (.lit .none))) := by
  refine ⟨fun pins s σ H D J ⟨F, m, h, env, A, R⟩ => ps_retN.run pins s σ H D J ?_⟩
  exact RunS.here A.sim R .non .non
theorem set_s {i : Nat} {n : Str} {np : Pos} (C : BodS T I k Φ N Wx X) (hn : nmB N X.env.scope (fun _ => true) i n = true) (he : PE X xe (tE T Φ Wx e)) (hc : compB xe = false) : PS X (.Assign [.Name n np] xe pos) (tS T Φ Wx (.set i e)) := by
  unfold nmB at hn
  simp only [Bool.and_eq_true, decide_eq_true_eq] at hn
  refine ⟨fun pins s σ H D J ⟨F, m, h, env, A, R⟩ => (ps_set (i := i) (by rw [C.bod.names]; exact C.bod.nd) (by rw [C.bod.names]; exact hn.1.1.1) (locB_iff hn.1.1.2) he (no_sw hc) (.inl (C.fn n))).run pins s σ H D J ⟨F, m, h, env, A, (R.bindE A.env).imp fun w F1 m1 h1 H1 S1 X1 R1 v r => ?_⟩⟩
  exact RunS.here S1 R1 _ ((A.env.ext X1).set i r)
theorem setT_s {is : List Nat} {ts : List Expr} {tk : Nat} {tp : Pos} (C : BodS T I k Φ N Wx X) (hh : I.hot = false) (hn : nmsB N X.env.scope (fun _ => true) is ts = true) (he : PE X xe (tE T Φ Wx e)) (hc : compB xe = false) (ht : tupB xe = false) :
    PS X (.Assign [.Tuple ts tk tp] xe pos) (tS T Φ Wx (.setT is e)) := by
  have pg := tg_pg (tg := is) (tup := true) (x := .Tuple ts tk tp) (C.bod.calm hh) C.bod.names C.bod.nd rfl (fun y _ => C.fn y) (show tgB N X.env.scope (fun _ => true) is true (.Tuple ts tk tp) = true from hn)
  refine ⟨fun pins s σ H D J ⟨F, m, h, env, A, R⟩ => (ps_asg he pg (hs := ?_) (hw := ?_)).run pins s σ H D J ⟨F, m, h, env, A, (R.bindE A.env).imp fun w F1 m1 h1 H1 S1 X1 R1 v r => ?_⟩⟩
  · cases xe <;> first | rfl | (cases hc)
  · cases xe <;> first | rfl | (cases ht)
  · cases e1 : setTg is true w env with
    | none => simp only [e1] at R1; exact R1.elim
    | some env1 =>
      simp only [e1] at R1
      exact tg_use C.bod.K S1 e1 r (A.env.ext X1) fun σ' _ en => RunS.here S1 R1 σ' en
end
theorem brk_s {pos : Pos} : PS X (.Break pos) (tS T Φ Wx .brk) := ⟨fun pins s σ H D J ⟨F, m, h, env, A, R⟩ => ps_break.run pins s σ H D J (RunS.here A.sim R σ A.env)⟩
theorem cnt_s {pos : Pos} : PS X (.Continue pos) (tS T Φ Wx .cnt) := ⟨fun pins s σ H D J ⟨F, m, h, env, A, R⟩ => ps_continue.run pins s σ H D J (RunS.here A.sim R σ A.env)⟩
theorem pass_s {pos : Pos} : PS X (.Pass pos) (tS T Φ Wx .pass) := ⟨fun pins s σ H D J ⟨F, m, h, env, A, R⟩ => ps_pass.run pins s σ H D J (RunS.here A.sim R σ A.env)⟩
theorem nil_s : PSs X [] (tSs T Φ Wx .nil) := ⟨fun pins s σ H D J ⟨F, m, h, env, A, R⟩ => pss_nil.run pins s σ H D J (RunS.here A.sim R σ A.env)⟩
theorem cons_s {s : S} {ss : Ss} {x : Stmt} {xs : List Stmt} (h1 : PS X x (tS T Φ Wx s)) (h2 : PSs X xs (tSs T Φ Wx ss)) : PSs X (x :: xs) (tSs T Φ Wx (.cons s ss)) := by
  refine ⟨fun pins s' σ H D J ⟨F, m, h, env, A, R⟩ => (pss_cons h1 h2).run pins s' σ H D J ⟨F, m, h, env, A, ?_⟩⟩
  have R' : RunS T Wx F m H (match evS Φ s env h with
    | .ok (.nx env1) h1 => evSs Φ ss env1 h1
    | r => r) (outK T D) := R
  revert R'
  cases evS Φ s env h with
  | ok o h1 =>
    cases o with
    | nx env1 => exact fun R' F1 m1 H1 S1 X1 σ1 en => ⟨F1, m1, h1, env1, ⟨S1, en⟩, R'.shift X1⟩
    | ret w => exact fun R' F1 m1 H1 S1 X1 => R' F1 m1 H1 S1 X1
    | brk env1 => exact fun R' F1 m1 H1 S1 X1 => R' F1 m1 H1 S1 X1
    | cnt env1 => exact fun R' F1 m1 H1 S1 X1 => R' F1 m1 H1 S1 X1
  | exc e env1 h1 => exact fun R' => R'
  | stuck => exact fun R' => R'
theorem if_s {c : Mi.T} {a b : Ss} {xc : Expr} {xa xb : List Stmt} {pos : Pos} (hc : PT X xc (tT T Φ Wx c)) (ha : PSs X xa (tSs T Φ Wx a)) (hb : PSs X xb (tSs T Φ Wx b)) : PS X (.If xc xa xb pos) (tS T Φ Wx (.ite c a b)) := by
  refine ⟨fun pins s' σ H D J ⟨F, m, h, env, A, R⟩ => (ps_if hc ha hb).run pins s' σ H D J ⟨F, m, h, env, A, (R.bindE A.env).imp fun d F1 m1 h1 H1 S1 X1 R1 => ?_⟩⟩
  cases d with
  | true => exact ⟨F1, m1, h1, env, A.step S1 X1, R1⟩
  | false => exact ⟨F1, m1, h1, env, A.step S1 X1, R1⟩
end Mi

set_option maxRecDepth 100000
set_option maxHeartbeats 2000000
/-! Mi, fourteenth part: loops, raise, try; every statement. -/
namespace Mi
open PySem PySem.Spec PyProof.Rows L2
variable {T : Top} {F F' F0 F1 : Hp} {m m' m0 m1 : List Addr} {h h' : MH} {H H' H0 H1 : Hp} {Wx : WX} {σ0 : L2.St}
variable {I : Info} {k : Nat} {Φ : Nat → List W → M W} {N : List Str} {X : Cx}
/-! ### loops -/
theorem for_use {tg : List Nat} {tup : Bool} {it : Mi.It} {b : Ss} {σ : L2.St} {D : Ends} {K : PySem.W.Frag} (hK : K = T.K) : tS T Φ Wx (.for tg tup it b) D σ H → tFor (tIt T Φ Wx it) (gOf K tg tup) (tSs T Φ Wx b) D σ H := by
  rintro ⟨F, m, h, env, A, R⟩
  refine ⟨F, m, h, env, A, (RunS.bindE R A.env).imp fun src F1 m1 h1 H1 S1 X1 R1 => ?_⟩
  have A1 := A.step S1 X1
  have c1 : srcOk src h1 = true := by
    cases q : srcOk src h1 with
    | true => rfl
    | false =>
      exfalso
      cases q2 : src.1 with
      | nil => simp only [q2, forL, q, Bool.false_eq_true, if_false] at R1; exact R1.elim
      | cons w ws => simp only [q2, forL, q, Bool.false_eq_true, if_false] at R1; exact R1.elim
  refine ⟨c1, fun J jok => ?_⟩
  refine ⟨fun i n σ H => ∃ F m h env, At T σ F m h env H ∧ Ext F1 m1 H1 F m H ∧ i + n = src.1.length ∧ RunS T Wx F1 m1 H1 (forL src tg tup (fun env h => evSs Φ b env h) (src.1.drop i) env h) (outK T D), ⟨src.1.length, F1, m1, h1, env, A1, Ext.refl, by omega, R1⟩, ?_⟩
  rintro i n σ2 H2 ⟨F2, m2, h2, env2, A2, X2, hn, R2⟩
  by_cases hi : i < src.1.length
  · have ew : src.1[i]? = some src.1[i] := List.getElem?_eq_getElem hi
    rw [List.drop_eq_getElem_cons hi] at R2
    simp only [forL] at R2
    cases c2 : srcOk src h2 with
    | false => rw [c2] at R2; simp only [Bool.false_eq_true, if_false] at R2; exact R2.elim
    | true =>
      rw [c2] at R2
      simp only [if_true] at R2
      obtain ⟨go, _⟩ := jok i F2 m2 h2 H2 A2.sim X2 c2
      obtain ⟨go, yl⟩ := go _ ew
      refine .inr ⟨go, fun σ H => ∃ F m h env, At T σ F m h env H ∧ Ext F1 m1 H1 F m H ∧ RunS T Wx F1 m1 H1 (forL src tg tup (fun env h => evSs Φ b env h) (src.1.drop (i + 1)) env h) (outK T D), fun σ' H' ⟨F, m, h, env, a1, a2, a3⟩ => ⟨n - 1, by omega, F, m, h, env, a1, a2, by omega, a3⟩, fun x H3 hy => ?_⟩
      obtain ⟨F3, S3, X3, r3⟩ := yl x H3 hy
      have X13 := X2.trans X3 S3.nd
      cases es : setTg tg tup src.1[i] env2 with
      | none => rw [es] at R2; exact R2.elim
      | some env3 =>
        rw [es] at R2
        refine tg_use hK S3 es r3 (A2.env.ext X3) fun σ3 st en3 => ⟨F3, m2, h2, env3, ⟨S3, en3⟩, ?_⟩
        dsimp only at R2
        revert R2
        cases evSs Φ b env3 h2 with
        | ok o h4 =>
          cases o with
          | nx env4 => exact fun R2 F4 m4 H4 S4 X4 σ4 en4 => ⟨F4, m4, h4, env4, ⟨S4, en4⟩, X13.trans X4 S4.nd, R2⟩
          | cnt env4 => exact fun R2 F4 m4 H4 S4 X4 σ4 en4 => ⟨F4, m4, h4, env4, ⟨S4, en4⟩, X13.trans X4 S4.nd, R2⟩
          | brk env4 => exact fun R2 F4 m4 H4 S4 X4 σ4 en4 => R2 F4 m4 H4 S4 (X13.trans X4 S4.nd) σ4 en4
          | ret v => exact fun R2 F4 m4 H4 S4 X4 v4 r4 => R2 F4 m4 H4 S4 (X13.trans X4 S4.nd) v4 r4
        | exc e env4 h4 => exact fun R2 F4 m4 H4 σ4 cls d S4 X4 => R2 F4 m4 H4 σ4 cls d S4 (X13.trans X4 S4.nd)
        | stuck => exact fun R2 => R2
  · have hd : src.1.drop i = [] := List.drop_eq_nil_iff.mpr (by omega)
    rw [hd] at R2
    simp only [forL] at R2
    cases c2 : srcOk src h2 with
    | false => rw [c2] at R2; simp only [Bool.false_eq_true, if_false] at R2; exact R2.elim
    | true =>
      rw [c2] at R2
      simp only [if_true] at R2
      obtain ⟨_, stop⟩ := jok i F2 m2 h2 H2 A2.sim X2 c2
      exact .inl ⟨stop (by omega), R2 F2 m2 H2 A2.sim X2 σ2 A2.env⟩
theorem while_use {c : Mi.T} {b : Ss} {σ : L2.St} {D : Ends} : tS T Φ Wx (.while c b) D σ H → tWhile (tT T Φ Wx c) (tSs T Φ Wx b) D σ H := by
  rintro ⟨F, m, h, env, A, R⟩
  refine ⟨fun n σ H => ∃ F m h env, At T σ F m h env H ∧ RunS T Wx F m H (whileL (fun env h => evT Φ c env h) (fun env h => evSs Φ b env h) n env h) (outK T D), ⟨fuel, F, m, h, env, A, R⟩, ?_⟩
  rintro n σ2 H2 ⟨F2, m2, h2, env2, A2, R2⟩
  cases n with
  | zero => exact R2.elim
  | succ n =>
    simp only [whileL] at R2
    refine ⟨F2, m2, h2, env2, A2, (RunS.bindE R2 A2.env).imp fun k F3 m3 h3 H3 S3 X3 R3 => ?_⟩
    cases k with
    | false =>
      rw [if_neg Bool.false_ne_true]
      simp only [Bool.false_eq_true, if_false] at R3
      exact RunS.here S3 R3 σ2 (A2.env.ext X3)
    | true =>
      rw [if_pos rfl]
      simp only [if_true] at R3
      refine ⟨fun σ H => ∃ F m h env, At T σ F m h env H ∧ RunS T Wx F m H (whileL (fun env h => evT Φ c env h) (fun env h => evSs Φ b env h) n env h) (outK T D), fun σ' H' q => ⟨n, by omega, q⟩, F3, m3, h3, env2, A2.step S3 X3, ?_⟩
      revert R3
      cases evSs Φ b env2 h3 with
      | ok o h4 =>
        cases o with
        | nx env4 => exact fun R3 F4 m4 H4 S4 X4 σ4 en4 => ⟨F4, m4, h4, env4, ⟨S4, en4⟩, RunS.shift R3 X4⟩
        | cnt env4 => exact fun R3 F4 m4 H4 S4 X4 σ4 en4 => ⟨F4, m4, h4, env4, ⟨S4, en4⟩, RunS.shift R3 X4⟩
        | brk env4 => exact fun R3 F4 m4 H4 S4 X4 σ4 en4 => R3 F4 m4 H4 S4 X4 σ4 en4
        | ret v => exact fun R3 F4 m4 H4 S4 X4 v4 r4 => R3 F4 m4 H4 S4 X4 v4 r4
      | exc e env4 h4 => exact fun R3 F4 m4 H4 σ4 cls d S4 X4 => R3 F4 m4 H4 σ4 cls d S4 X4
      | stuck => exact fun R3 => R3
/-! ### raise -/
theorem raise_s {c : Nat} {n s : Str} {j : Nat} {p p2 pos pos' : Pos} (C : BodS T I k Φ N Wx X) (hh : I.hot = false) (gl : Gl X n) (hd : (n == ("__debug__" : Str)) = false) (hc : I.clss[c]? = some n) :
    PS X (.Raise (some (.Call (.Name n p) [.Constant (.str s) j p2] [] pos)) none pos') (tS T Φ Wx (.raise c none)) := by
  have K1 := C.bod.clss c n hc
  obtain ⟨B, n1, n2, bm, Fb, e, r⟩ := K1.mak
  refine ⟨fun pins s' σ H D J ⟨F, m, h, env, A, R⟩ => (L2N.ps_raise (C.bod.calm hh) C.bod.takes (L2N.pmk_own Fb e K1.mg K1.kp r gl hd)).run pins s' σ H D J ?_⟩
  exact R F m H σ _ none A.sim Ext.refl A.env ⟨rfl, by rw [← C.bod.ncl]; exact (List.getElem?_eq_some_iff.mp hc).1, rfl⟩
/-! ### try -/
theorem noEx_up {c : Nat} {x : Option PyData} {a : Addr} {w : W} {v : V} (e : noExW w = true) (r : WR (T.at c x a) F m w v) : WR T F m w v := by
  cases w with
  | ex _ _ => cases e
  | d _ => exact r
  | ref _ => exact r
  | fn _ => exact r
  | ro _ => exact r
theorem noExs_up {c : Nat} {x : Option PyData} {a : Addr} : ∀ {ws : List W} {vs : List V}, ws.all noExW = true → WRs (T.at c x a) F m ws vs → WRs T F m ws vs
  | [], _, _, .nil => .nil
  | w :: ws, _, e, .cons q t => by
    rw [List.all_cons, Bool.and_eq_true] at e
    exact .cons (noEx_up e.1 q) (noExs_up e.2 t)
theorem noExS_up {c : Nat} {x : Option PyData} {a : Addr} (e : noExH h = true) (S : Sim (T.at c x a) F m h H) : Sim T F m h H := by
  refine ⟨S.sub, S.len, S.nd, fun i cc b e1 e2 => ?_⟩
  have r := S.cell i cc b e1 e2
  have ec : noExC cc = true := List.all_eq_true.mp e cc (List.mem_of_getElem? e1)
  cases cc with
  | lst ws =>
    obtain ⟨z, vs, q, rs⟩ := r
    exact ⟨z, vs, q, noExs_up ec rs⟩
  | frz y => exact r
  | ins _ _ => exact r.elim
theorem WR.dn {c : Nat} {x : Option PyData} {a : Addr} {w : W} {v : V} (nx : ∀ c x v, ¬ T.xw c x v) (r : WR T F m w v) : WR (T.at c x a) F m w v := by
  cases w with
  | ex _ _ => exact absurd r (nx _ _ _)
  | d _ => exact r
  | ref _ => exact r
  | fn _ => exact r
  | ro _ => exact r
theorem Sim.dn {c : Nat} {x : Option PyData} {a : Addr} (nx : ∀ c x v, ¬ T.xw c x v) (S : Sim T F m h H) : Sim (T.at c x a) F m h H := by
  refine ⟨S.sub, S.len, S.nd, fun i cc b e1 e2 => ?_⟩
  have r := S.cell i cc b e1 e2
  cases cc with
  | lst ws =>
    obtain ⟨z, vs, q, rs⟩ := r
    exact ⟨z, vs, q, Paired.mapP rs fun _ _ q => q.dn nx⟩
  | frz y => exact r
  | ins _ _ => exact r.elim
theorem EnvR.dn {c : Nat} {x : Option PyData} {a : Addr} {env : Ev} {σ : L2.St} (nx : ∀ c x v, ¬ T.xw c x v) (r : EnvR T F m env σ) : EnvR (T.at c x a) F m env σ :=
  ⟨r.1, fun i w e => let ⟨v, h1, h2⟩ := r.2 i w e; ⟨v, h1, h2.dn nx⟩⟩
theorem noExE_up {c : Nat} {x : Option PyData} {a : Addr} {env : Ev} {σ : L2.St} (e : env.all noExO = true) (r : EnvR (T.at c x a) F m env σ) : EnvR T F m env σ :=
  ⟨r.1, fun i w e1 => let ⟨v, h1, h2⟩ := r.2 i w e1; ⟨v, h1, noEx_up (show noExO (some w) = true from List.all_eq_true.mp e _ (List.mem_of_getElem? e1)) h2⟩⟩
/-- what an except suite does -/
def tSu (T : Top) (Φ : Nat → List W → M W) (hd : Ss) (a : Addr) (cls : Value) (d : Option Addr) : TS := fun D σ H => ∃ (c : Nat) (x : Option PyData), cls = .ref (T.ca c) ∧ c < T.nc ∧ (x = none → d = none) ∧ tSs (T.at c x a) Φ W0 hd D σ H
theorem try_use {c kx : Nat} {b hd : Ss} {K : PySem.W.Frag} {σ : L2.St} {D : Ends} (nx : ∀ c x v, ¬ T.xw c x v) (hex : ∀ c', c' < T.nc → PySem.W.exmOne K (.ref (T.ca c')) (.ref (T.ca c)) = some (c' == c || c == 0)) :
    tS T Φ Wx (.try1 b c (some kx) hd) D σ H → tSs T Φ (wAs K (.ref (T.ca c)) kx (tSu T Φ hd) Wx D) b D σ H := by
  rintro ⟨F, m, h, env, A, R⟩
  refine ⟨F, m, h, env, A, ?_⟩
  simp only [evS] at R
  revert R
  cases evSs Φ b env h with
  | ok o h1 => exact fun R => R
  | stuck => exact fun R => R
  | exc e env1 h1 =>
    intro R F1 m1 H1 σ1 cls d S1 X1 en1 ex
    obtain ⟨e1, e2, e3⟩ := ex
    subst e1
    refine ⟨_, hex e.cls e2, fun hb a na => ?_, fun hb => ?_⟩
    · dsimp only at R
      rw [if_pos hb] at R
      refine ⟨e.cls, e.arg, rfl, e2, fun z => by rw [z] at e3; exact e3, F1, m1, h1, setEx (some kx) e env1, ⟨S1.dn nx, (en1.dn nx).set kx (w := .ex e.cls e.arg) ⟨rfl, rfl, rfl⟩⟩, ?_⟩
      revert R
      cases evSs Φ hd (setEx (some kx) e env1) h1 with
      | stuck => exact fun R => R
      | exc _ _ _ => exact fun R => R.elim
      | ok o h2 =>
        dsimp only
        intro R F2 m2 H2 S2 X2
        split at R
        · rename_i cl
          have S2' := noExS_up cl S2
          have X2' := X1.trans X2 S2.nd
          cases o with
          | ret w =>
            simp only [unsetO] at R
            split at R
            · rename_i o2 eo
              split at eo
              · rename_i cw
                cases eo
                exact fun v r => R F2 m2 H2 S2' X2' v (noEx_up cw r)
              · cases eo
            · exact R.elim
          | nx env2 =>
            simp only [unsetO, endX] at R
            split at R
            · rename_i o2 eo
              split at eo
              · rename_i ce
                cases eo
                exact fun σ2 en2 => R F2 m2 H2 S2' X2' _ (noExE_up ce (en2.setN kx none))
              · cases eo
            · exact R.elim
          | brk env2 =>
            simp only [unsetO, endX] at R
            split at R
            · rename_i o2 eo
              split at eo
              · rename_i ce
                cases eo
                exact fun σ2 en2 => R F2 m2 H2 S2' X2' _ (noExE_up ce (en2.setN kx none))
              · cases eo
            · exact R.elim
          | cnt env2 =>
            simp only [unsetO, endX] at R
            split at R
            · rename_i o2 eo
              split at eo
              · rename_i ce
                cases eo
                exact fun σ2 en2 => R F2 m2 H2 S2' X2' _ (noExE_up ce (en2.setN kx none))
              · cases eo
            · exact R.elim
        · exact R.elim
    · dsimp only at R
      rw [if_neg (by rw [hb]; exact Bool.false_ne_true)] at R
      exact R F1 m1 H1 σ1 _ d S1 X1 en1 ⟨rfl, e2, e3⟩
theorem Cls1.at {c0 : Nat} {x : Option PyData} {a : Addr} {c : Nat} {n : Str} (C : Cls1 T I X c n) : Cls1 (T.at c0 x a) { I with hot := true } X c n :=
  ⟨C.mg, C.kp, C.exc, C.kit, C.exm, C.mak⟩
/-- in an except suite -/
theorem BodS.suite (C : BodS T I k Φ N Wx X) (hh : I.hot = false) {a : Addr} {oe : Obj} {pn : List (Addr × Obj)} {c : Nat} {x : Option PyData} {d : Option Addr} (hc : c < T.nc) (hx : x = none → d = none) (hz : L2N.Zn (.ref (T.ca c)) d oe) (hf : ∃ vs, oe.data = .fields vs) :
    BodS (T.at c x a) { I with hot := true } k Φ N W0 (X.suite a ((a, oe) :: pn)) := by
  obtain ⟨nx, hfn⟩ := C.bod.hfn hh
  refine ⟨⟨C.bod.K, (fun z => nomatch z), C.bod.names, C.bod.nd, C.bod.gd, (fun z => nomatch z), ⟨C.bod.roomH.dp, C.bod.roomH.un⟩, fun _ _ ⟨_, _, _, _, _, _, _, _, _, _, _, _, _, _, _, _, z⟩ => z.elim, C.bod.blt, C.bod.gls, C.bod.ncl,
    fun c n e => ((C.bod.clss c n e).of (X' := X.suite a ((a, oe) :: pn)) rfl rfl).at, C.bod.tabs, fun f n np e => ⟨(C.bod.fns f n np e).1, (C.bod.fns f n np e).2.1, (fun z => nomatch z)⟩, (fun z => nomatch z), fun _ => ⟨T, (a, oe), c, x, rfl, ⟨rfl, ?_⟩, List.mem_cons_self, hc, fun z => ?_, hfn⟩⟩,
    (fun z => nomatch z), C.stk, C.frm, C.fn, C.kind⟩
  · obtain ⟨vs, e⟩ := hf
    exact ⟨vs, e, hz.2.2 vs e⟩
  · rw [← hx z]
    exact hz
/-- in a try's body -/
theorem BodS.tr (C : BodS T I k Φ N Wx X) {W' : WX} {pn : List (Addr × Obj)} {xe : Value → Shared → Prop} (tk : L2N.Takes (X.tr pn xe) W') (pa : PassesOwn (model X.prog X.w) X.A X.env xe) (hh : I.hot = false) : BodS T I k Φ N W' (X.tr pn xe) :=
  ⟨⟨C.bod.K, C.bod.calm, C.bod.names, C.bod.nd, C.bod.gd, C.bod.room, C.bod.roomH, tk, C.bod.blt, C.bod.gls, C.bod.ncl, fun c n e => (C.bod.clss c n e).of rfl rfl, C.bod.tabs, C.bod.fns, C.bod.hfn, fun z => by rw [hh] at z; cases z⟩, fun _ => pa, C.stk, C.frm, C.fn, C.kind⟩
end Mi

set_option maxRecDepth 100000
set_option maxHeartbeats 2000000
/-! Mi, fifteenth part: every statement. -/
namespace Mi
open PySem PySem.Spec PyProof.Rows L2
variable {k : Nat} {Φ : Nat → List W → M W} {N : List Str}
theorem setLc_s {T : Top} {I : Info} {Wx : WX} {X : Cx} {i : Nat} {e : E} {n : Str} {np pos : Pos} {y : Expr} (C : BodS T I k Φ N Wx X) (hn : nmB N X.env.scope (fun _ => true) i n = true) (hsw : swB X.env.scope n np.line y = true) (c : chkE I N e X.env.scope y = true) :
    PS X (.Assign [.Name n np] y pos) (tS T Φ Wx (.set i e)) := by
  cases y with
  | ListComp elt gs scope p =>
    cases e with
    | comp nw own tg tup it t e => cases gs with
      | nil => cases c
      | cons g r => cases r with
        | cons _ _ => simp [chkE] at c
        | nil =>
          obtain ⟨tgx, itx, ifs, ia⟩ := g
          by_cases hia : ia = 0
          · subst hia
            simp only [chkE, Bool.and_eq_true, decide_eq_true_eq, Bool.not_eq_true'] at c
            obtain ⟨⟨⟨⟨⟨⟨⟨⟨c0, c1⟩, c2⟩, c3⟩, c4⟩, c5⟩, c6⟩, c7⟩, c8⟩ := c
            have C0 := C.bod
            have ok := blkOk_by (by rw [C0.names]; exact c1 : blkC X.N X.env.scope scope (ownN N own) = true)
            have B := fun (s : Shared) (H : Hp) (C' : Addr) (cl : List (Str × Addr)) (fp : List Addr) => C0.blk c0 s H scope (compEnvC scope cl C' X.env) fp
            obtain ⟨l1, sw⟩ := sw_yes (np := np) (sp := pos) C.kind hsw
            unfold nmB at hn
            simp only [Bool.and_eq_true, decide_eq_true_eq] at hn
            have fin : ∀ {ifs : List Expr}, swapsWith (.ListComp elt [⟨tgx, itx, ifs, 0⟩] scope p) (some (.Name n np)) pos.line X.env = pure true → (∀ (s : Shared) (H : Hp) (C' : Addr) (cl : List (Str × Addr)) (fp : List Addr), PTs (X.blk s H scope (compEnvC scope cl C' X.env) fp) ifs (tT T Φ W0 t)) → PS X (.Assign [.Name n np] (.ListComp elt [⟨tgx, itx, ifs, 0⟩] scope p) pos) (tS T Φ Wx (.set i (.comp nw own tg tup it t e))) := fun {ifs} sw hts => by
              have P := ps_setLc (g := gOf X.K tg tup) (tt := tT T Φ W0 t) (te := tE T Φ W0 e) (own := ownN N own) (i := i) (y := n) (py := np) (spos := pos) (C0.calm c0) (by rw [C0.names]; exact C0.nd) (by rw [C0.names]; exact hn.1.1.1) l1 sw (sIt (T := T) (Φ := Φ) (Wx := Wx) it C0 c5) ok
                (fun s H C' cl fp => tg_pg (X := X.blk s H scope (compEnvC scope cl C' X.env) fp) (C0.calm c0) C0.names C0.nd rfl (fun _ z => z) c4) hts (fun s H C' cl fp => sE e (B s H C' cl fp) c8) (nofold c6)
              refine ⟨fun pins s σ H D J ⟨F, m, h, env, A, R⟩ => P.run pins s σ H D J ?_⟩
              rw [c2]
              refine lc_use C0.K c3 ⟨F, m, h, env, A, (RunS.bindE R A.env).imp fun w F1 m1 h1 H1 S1 X1 R1 v r => ?_⟩
              exact RunS.here S1 R1 _ ((A.env.ext X1).set i r)
            cases ifs with
            | nil =>
              cases t with
              | yes => exact fin sw fun s H C' cl fp => ⟨fun pins s1 σ H1 Q I ⟨F, m, h, env, A, R⟩ => pts_nil.run pins s1 σ H1 Q I (Run.here A.sim R)⟩
              | _ => cases c7
            | cons i1 r => cases r with
              | nil => exact fin sw fun s H C' cl fp => pts_one (sT t (B s H C' cl fp) c7)
              | cons _ _ => cases c7
          · simp [chkE, hia] at c
    | _ => cases c
  | _ => cases hsw
mutual
theorem sS : ∀ (s : S) {T : Top} {I : Info} {Wx : WX} {X : Cx} {x : Stmt}, BodS T I k Φ N Wx X → chkS s I N X.env.scope x = true → PS X x (tS T Φ Wx s)
  | .ex e, T, I, Wx, X, x, C, c => by
    cases x with
    | Expr y p =>
      simp only [chkS, Bool.and_eq_true, Bool.not_eq_true'] at c
      exact ex_s (sE e C.bod c.1) c.2
    | _ => cases c
  | .set i e, T, I, Wx, X, x, C, c => by
    cases x with
    | Assign ts y p => cases ts with
      | nil => cases c
      | cons t r => cases t with
        | Name n np => cases r with
          | cons _ _ => simp [chkS] at c
          | nil =>
            simp only [chkS, Bool.and_eq_true, Bool.or_eq_true, Bool.not_eq_true'] at c
            rcases c.2 with c2 | c2
            · exact set_s C c.1.1 (sE e C.bod c.1.2) c2
            · exact setLc_s C c.1.1 c2 c.1.2
        | _ => simp [chkS] at c
    | _ => cases c
  | .setT is e, T, I, Wx, X, x, C, c => by
    cases x with
    | Assign ts y p => cases ts with
      | nil => cases c
      | cons t r => cases t with
        | Tuple es tk tp => cases r with
          | cons _ _ => simp [chkS] at c
          | nil =>
            simp only [chkS, Bool.and_eq_true, Bool.not_eq_true'] at c
            obtain ⟨⟨⟨⟨c1, c2⟩, c3⟩, c4⟩, c5⟩ := c
            exact setT_s C c1 c2 (sE e C.bod c3) c4 c5
        | _ => simp [chkS] at c
    | _ => cases c
  | .ret e, T, I, Wx, X, x, C, c => by
    cases x with
    | Return o p => cases o with
      | some y => exact ret_s (sE e C.bod c)
      | none =>
        simp only [chkS] at c
        split at c
        · exact retN_s
        · cases c
    | _ => cases c
  | .ite t a b, T, I, Wx, X, x, C, c => by
    cases x with
    | If y p q ps =>
      simp only [chkS, Bool.and_eq_true] at c
      exact if_s (sT t C.bod c.1.1) (sSs a C c.1.2) (sSs b C c.2)
    | _ => cases c
  | .for tg tup it b, T, I, Wx, X, x, C, c => by
    cases x with
    | For t i body oe p => cases oe with
      | cons _ _ => cases c
      | nil =>
        simp only [chkS, Bool.and_eq_true, Bool.not_eq_true'] at c
        obtain ⟨⟨⟨⟨c1, c2⟩, c3⟩, c4⟩, c5⟩ := c
        have P := ps_for (pos := p) (C.pass c1) (C.bod.calm c1) (sIt (T := T) (Φ := Φ) (Wx := Wx) it C.bod c3) (tg_pg (C.bod.calm c1) C.bod.names C.bod.nd rfl (fun y _ => C.fn y) c2) (sSs b C c5) (nofold c4)
        exact ⟨fun pins s σ H D J q => P.run pins s σ H D J (for_use C.bod.K q)⟩
    | _ => cases c
  | .while t b, T, I, Wx, X, x, C, c => by
    cases x with
    | While y body oe p => cases oe with
      | cons _ _ => cases c
      | nil =>
        simp only [chkS, Bool.and_eq_true, Bool.not_eq_true'] at c
        have P := ps_while (pos := p) (C.pass c.1.1) (sT t C.bod c.1.2) (sSs b C c.2)
        exact ⟨fun pins s σ H D J q => P.run pins s σ H D J (while_use q)⟩
    | _ => cases c
  | .brk, T, I, Wx, X, x, C, c => by
    cases x with
    | Break p => exact brk_s
    | _ => cases c
  | .cnt, T, I, Wx, X, x, C, c => by
    cases x with
    | Continue p => exact cnt_s
    | _ => cases c
  | .pass, T, I, Wx, X, x, C, c => by
    cases x with
    | Pass p => exact pass_s
    | _ => cases c
  | .raise cc o, T, I, Wx, X, x, C, c => by
    simp only [chkS] at c
    split at c
    · simp only [Bool.and_eq_true, decide_eq_true_eq, Bool.not_eq_true'] at c
      obtain ⟨⟨⟨c1, c2⟩, c3⟩, c4⟩ := c
      exact raise_s C c1 (show Gl X _ from glB_iff c2) (dbg_iff c3).1 c4
    · cases c
  | .try1 b cc i hd, T, I, Wx, X, x, C, c => by
    simp only [chkS] at c
    split at c
    · rename_i body n np nm b0 su hp tp
      simp only [Bool.and_eq_true, decide_eq_true_eq, Bool.not_eq_true'] at c
      obtain ⟨⟨⟨⟨⟨⟨c1, c2⟩, c3⟩, c4⟩, c5⟩, c6⟩, c7⟩ := c
      split at c5
      · simp only [Bool.and_eq_true, decide_eq_true_eq] at c5
        rename_i kx en
        have K1 := C.bod.clss _ _ c4
        have P := L2N.ps_try_as (np := np) (pos' := hp) (pos := tp) (i := kx) (n := en) (ts := tSu T Φ hd) (tb := fun W => tSs T Φ W b) C.stk C.frm (by rw [C.bod.names]; exact C.bod.nd) (by rw [C.bod.names]; exact c5.1) (loc1_iff c5.2) ⟨show Gl X _ from glB_iff c2, (dbg_iff c3).1, .inl K1.mg⟩ C.bod.takes
          (fun W pn xe tk pa => sSs b (C.tr tk pa c1) c6)
          (fun a oe cls d pn hz hf => ⟨fun pins s σ H D J ⟨c', x', e1, e2, e3, q⟩ => by
            subst e1
            exact (sSs hd (C.suite c1 (pn := pn) e2 e3 hz hf) c7).run pins s σ H D J q⟩)
        exact ⟨fun pins s σ H D J q => P.run pins s σ H D J (try_use (C.bod.hfn c1).1 K1.exm q)⟩
      · cases c5
    · cases c
theorem sSs : ∀ (s : Ss) {T : Top} {I : Info} {Wx : WX} {X : Cx} {x : List Stmt}, BodS T I k Φ N Wx X → chkSs s I N X.env.scope x = true → PSs X x (tSs T Φ Wx s)
  | .nil, T, I, Wx, X, x, C, c => by
    cases x with
    | nil => exact nil_s
    | cons _ _ => cases c
  | .cons s ss, T, I, Wx, X, x, C, c => by
    cases x with
    | nil => cases c
    | cons y r =>
      simp only [chkSs, Bool.and_eq_true] at c
      exact cons_s (sS s C c.1) (sSs ss C c.2)
end
end Mi

set_option maxRecDepth 100000
set_option maxHeartbeats 2000000
/-! Mi, sixteenth part: every def keeps its promise. -/
namespace Mi
open PySem PySem.Spec PyProof.Rows L2
/-! ### a def, by its body -/
section
variable {P : Program} {w : World} {K : PySem.W.Frag} {mg : Str → Option Value} {base : Heap} {k : Nat} {f : Addr} {nm : Str} {params : Arguments} {body : List Stmt} {scope : Scope} {fd : FuncData} {N ps : List Str}
theorem zip_kind {A : Nat} {us : List Value} (S : FnScope N ps scope) : ∀ y ∈ ps.zip us, scope.names.lookup y.1 = some .local ∨ (scope.names.lookup y.1 = some .cell ∧ ((cellsFrom A scope.names []).lookup y.1).isSome = true) := by
  rintro ⟨a, v⟩ hy
  have hp := S.par a (List.of_mem_zip hy).1
  exact hp.imp id fun q => ⟨q, PySem.W.cellsFrom_some _ _ _ (Or.inl q)⟩
/-- where a body ends, its call ends -/
theorem SP.back {X : Cx} {A : Around} {outer : List Env} {s s' : Shared} {H : Hp} {Q : VK} {fl : Flow} (hb : ∀ {σ' : L2.St} {H' : Hp}, Inv X [] σ' H' s' → HOk P w H' s'.heap ∧ s'.os = s.os ∧ AllBare s'.gens ∧ Un (frs outer) [] H H' s.heap s'.heap)
    (hs : SP X [] { nx := fun _ H' => Q .non H', rt := Q } fl s') : (match fl with
      | .ret u => CE outer P w H s Q u s'
      | .next => CE outer P w H s Q .none s'
      | _ => False) := by
  have fin : ∀ {σ' : L2.St} {H' : Hp} {v : V} {u : Value}, Inv X [] σ' H' s' → RelV v u → Q v H' → CE outer P w H s Q u s' := fun {σ' H' v u} J rv q => by
    obtain ⟨h1, h2, h3, h4⟩ := hb J
    exact ⟨v, H', h2, h3, h4, h1, rv, q⟩
  cases fl with
  | ret u => obtain ⟨v, σ', H', J, rv, q⟩ := hs; exact fin J rv q
  | next => obtain ⟨σ', H', J, q⟩ := hs; exact fin (v := V.non) (u := Value.none) J rfl q
  | brk => obtain ⟨_, _, _, q⟩ := hs; exact q
  | cont => obtain ⟨_, _, _, q⟩ := hs; exact q
theorem fnG_of {sp : Sp} (Fd : FunD K nm nm params body scope [] [] f fd) (S : FnScope N ps scope) (len : ∀ vs H Q E, sp vs H Q E → vs.length = ps.length)
    (hbody : ∀ (cdv : Value) (A : Around) (outer : List Env) (s : Shared) (H : Hp) (vs : List V) (Q : VK) (E : XK), Room k (A.deeper (envOfC nm scope s.heap.objs.size f cdv)) → A.guards = some [] → sp vs H Q E →
      ∃ t, PSs (cxOf (L2N.CX P w) P w K mg base N nm scope f cdv A outer s H E) body t ∧ t { nx := fun _ H' => Q .non H', rt := Q } (L2.start N vs) H) :
    FnG P w K mg base (k + 1) f fd ps sp := by
  obtain ⟨oc, od, dV, kV, doc, pm, an, cdv, ct, osl, rfl, lk, hcd, _, _⟩ := Fd.ex
  refine ⟨len, fun A outer s H args us vs Q E rm hg env0 bt rel hsp => ?_⟩
  have KX : K.In s.heap := env0.mod.kin.keeps fun b o e => (env0.bs b o e).1
  have nolim : s.heap.NoLimit := env0.mod.nolimit.keeps fun b o e => (env0.bs b o e).1
  refine codeAny_call_function rm.depth (KX _ _ lk) rfl S.co S.gen rfl (PySem.W.codeRec_of KX hcd) (bt _ _ _ _ ?_)
  refine wpAny_newFunctionEnv_cells S.kind (zip_kind S) fun env eenv s1 start1 => ?_
  subst eenv
  refine ⟨nolim.keeps start1.toInCall.keep, codeAny_func ?_⟩
  obtain ⟨t, ht, hq⟩ := hbody cdv A outer s H vs Q E (rm.deeper _) hg hsp
  have J0 : Inv (cxOf (L2N.CX P w) P w K mg base N nm scope f cdv A outer s H E) [] (L2.start N vs) H s1 := inv_start S rm.hd env0 (len _ _ _ _ hsp) rel start1
  refine wpAny_mono (ht.run [] s1 (L2.start N vs) H _ J0 hq) (fun fl s' hs => ?_) fun e s' hs => hs
  have z := SP.back (P := P) (w := w) (A := A) (outer := outer) (s := s) (H := H) (fun J => ⟨J.hok, J.os, J.bare, J.base⟩) hs
  cases fl with
  | ret u => exact z
  | next => exact z
  | brk => exact False.elim z
  | cont => exact False.elim z
theorem fnK_of {T : Top} {Φ : Nat → List W → M W} {g np : Nat} (hf : f = T.fa g) (hnp : ps.length = np) (Fd : FunD K nm nm params body scope [] [] f fd) (S : FnScope N ps scope)
    (hbody : ∀ (cdv : Value) (A : Around) (outer : List Env) (s : Shared) (H : Hp) (vs : List V) (Q : VK) (E : XK) (p : Addr × Obj) (c : Nat) (x : Option PyData), L2H.RoomH k (A.deeper (envOfC nm scope s.heap.objs.size f cdv)) → A.guards = some [] → L2H.Hot1 A p → c < T.nc → (x = none → L2N.Zn (.ref (T.ca c)) none p.2) →
      spF (T.at c x p.1) Φ g np vs H Q E → ∃ t, PSs (L2H.cxH (L2N.CX P w) P w K mg base N nm scope f cdv A outer s H E p) body t ∧ t { nx := fun _ H' => Q .non H', rt := Q } (L2.start N vs) H) :
    FnK P w K mg base T Φ (k + 1) g np fd ps := by
  obtain ⟨oc, od, dV, kV, doc, pm, an, cdv, ct, osl, rfl, lk, hcd, _, _⟩ := Fd.ex
  intro A outer s H args us vs Q E p c x rm hg hot hcl hz hpin env0 bt rel hsp
  rw [← hf]
  have KX : K.In s.heap := env0.mod.kin.keeps fun b o e => (env0.bs b o e).1
  have nolim : s.heap.NoLimit := env0.mod.nolimit.keeps fun b o e => (env0.bs b o e).1
  refine codeAny_call_function rm.depth (KX _ _ lk) rfl S.co S.gen rfl (PySem.W.codeRec_of KX hcd) (bt _ _ _ _ ?_)
  refine wpAny_newFunctionEnv_cells S.kind (zip_kind S) fun env eenv s1 start1 => ?_
  subst eenv
  refine ⟨nolim.keeps start1.toInCall.keep, codeAny_func ?_⟩
  obtain ⟨t, ht, hq⟩ := hbody cdv A outer s H vs Q E p c x (rm.deeper _) hg hot hcl hz hsp
  have J0 : Inv (L2H.cxH (L2N.CX P w) P w K mg base N nm scope f cdv A outer s H E p) [] (L2.start N vs) H s1 := L2H.inv_startH S hpin env0 (by rw [hsp.1, hnp]) rel start1
  refine wpAny_mono (ht.run [] s1 (L2.start N vs) H _ J0 hq) (fun fl s' hs => ?_) fun e s' hs => hs
  have z := SP.back (P := P) (w := w) (A := A) (outer := outer) (s := s) (H := H) (fun J => ⟨J.hok, J.os, J.bare, J.base⟩) hs
  cases fl with
  | ret u => exact z
  | next => exact z
  | brk => exact False.elim z
  | cont => exact False.elim z
end
/-! ### what is known of the top -/
structure Glob (T : Top) (I : Info) (w : World) (K : PySem.W.Frag) (mg : Str → Option Value) : Prop where
  kk : T.K = K
  hot : I.hot = false
  nx : ∀ c x v, ¬ T.xw c x v
  blt : ∀ x, I.blts.contains x = true → mg x = none
  gls : ∀ g d, lookS g I.gls = some d → ∃ v u, mg g = some u ∧ RelV v u ∧ ∀ F, Dq T.K F v d
  ncl : I.clss.length = T.nc
  clss : ∀ X : Cx, X.K = K → X.mg = mg → ∀ c n, I.clss[c]? = some n → Cls1 T I X c n
  tabs : ∀ g tab, lookS g I.tabs = some tab → ∃ d es n, mg g = some (.ref d) ∧ KDict K w d es n ∧ ∀ z, PySem.W.nsIn K d z = some ((lookS z tab).map fun f => .ref (T.fa f))
  fns : ∀ f n np, I.fns[f]? = some (n, np) → mg n = some (.ref (T.fa f)) ∧ PySem.W.keepIn K (.ref (T.fa f)) = true
/-- one def of the text, and its small text -/
structure DefOk (T : Top) (I : Info) (P : List FD) (K : PySem.W.Frag) (f : Nat) (nm : Str) (np : Nat) : Prop where
  ok : ∃ (params : Arguments) (body : List Stmt) (scope : Scope) (fd : FuncData) (N ps : List Str) (F : FD), FunD K nm nm params body scope [] [] (T.fa f) fd ∧ Binds K fd ps [] ∧ FnScope N ps scope ∧ ps.length = np ∧ P[f]? = some F ∧ F.np = np ∧ F.ns = N.length ∧
    (I.hfns.contains f = false → chkSs F.body I N scope body = true) ∧ (I.hfns.contains f = true → chkSs F.body { I with hot := true } N scope body = true)
section
variable {T : Top} {I : Info} {PL : List FD} {P : Program} {w : World} {K : PySem.W.Frag} {mg : Str → Option Value} {base : Heap} {m : List Addr} {F : Hp}
theorem start_env {N : List Str} {ws : List W} {vs : List V} (r : WRs T F m ws vs) : EnvR T F m (ws.map some ++ List.replicate (N.length - ws.length) none) (L2.start N vs) := by
  have l := r.len
  unfold L2.start
  refine ⟨by simp [l], fun i w e => ?_⟩
  by_cases hi : i < ws.length
  · rw [List.getElem?_append_left (by simpa using hi), List.getElem?_map] at e
    cases q : ws[i]? with
    | none => rw [q] at e; cases e
    | some u =>
      rw [q] at e
      cases e
      obtain ⟨v, h1, h2⟩ := WRs.get r q
      refine ⟨v, ?_, h2⟩
      rw [List.getElem?_append_left (by rw [List.length_map, ← l]; exact hi), List.getElem?_map, h1]
      rfl
  · rw [List.getElem?_append_right (by simpa using Nat.le_of_not_lt hi), List.getElem?_replicate] at e
    split at e <;> cases e
/-- the body's run, from the def's promise -/
theorem body_use {Φ : Nat → List W → M W} {fd : FD} {N : List Str} {f np : Nat} {vs : List V} {H : Hp} {Q : VK} {E : XK} {Ψ : Nat → List W → M W} (hΨ : ∀ ws h, Ψ f ws h = runF Φ fd ws h) (hn : fd.ns = N.length) (h : spF T Ψ f np vs H Q E) :
    tSs T Φ (fun cls d _ H => E cls d H) fd.body { nx := fun _ H' => Q .non H', rt := Q } (L2.start N vs) H := by
  obtain ⟨_, F, m, h, ws, S, r, x⟩ := h
  refine ⟨F, m, h, _, ⟨S, start_env r⟩, ?_⟩
  rw [hΨ] at x
  unfold runF at x
  cases hc : (ws.length == fd.np) with
  | false => simp only [hc, Bool.false_eq_true, if_false] at x
  | true =>
    simp only [hc, if_true] at x
    rw [← hn]
    revert x
    cases evSs Φ fd.body (ws.map some ++ List.replicate (fd.ns - ws.length) none) h with
    | ok o h1 =>
      cases o with
      | ret w => exact fun x F' m' H' S' X' v rv => x F' m' H' v S' X' rv
      | nx env => exact fun x F' m' H' S' X' σ' en => x F' m' H' .non S' X' .non
      | brk env => exact fun x => x.elim
      | cnt env => exact fun x => x.elim
    | exc e env h1 => exact fun x F' m' H' σ' cls d S' X' en ex => x F' m' H' cls d S' X' ex
    | stuck => exact fun x => x
theorem all_ok (G : Glob T I w K mg) (D : ∀ f n np, I.fns[f]? = some (n, np) → DefOk T I PL K f n np) : ∀ n : Nat, ∀ f nm np, I.fns[f]? = some (nm, np) →
    (I.hfns.contains f = false → ∃ fd ps, ps.length = np ∧ FnG P w K mg base n (T.fa f) fd ps (spF T (callN PL n) f np) ∧ Binds K fd ps []) ∧
    (I.hfns.contains f = true → ∃ fd ps, ps.length = np ∧ FnK P w K mg base T (callN PL n) n f np fd ps ∧ Binds K fd ps [])
  | 0, f, nm, np, e => by
    obtain ⟨params, body, scope, fd, N, ps, Fd, h1, h2, h3, h4, _⟩ := (D f nm np e).ok
    have no : ∀ {T' : Top} {vs : List V} {H : Hp} {Q : VK} {E : XK}, ¬ spF T' (callN PL 0) f np vs H Q E := fun ⟨_, _, _, _, _, _, _, x⟩ => x
    exact ⟨fun _ => ⟨fd, ps, h4, ⟨fun vs H Q E h => by rw [h.1, h4], fun _ _ _ _ _ _ _ _ _ _ _ _ _ _ x => (no x).elim⟩, h2⟩,
      fun _ => ⟨fd, ps, h4, fun _ _ _ _ _ _ _ _ _ _ _ _ _ _ _ _ _ _ _ _ _ x => (no x).elim, h2⟩⟩
  | n + 1, f, nm, np, e => by
    have ih := all_ok G D n
    obtain ⟨params, body, scope, fd, N, ps, Fd, h1, h2, h3, h4, h5, h6, h7, h8, h9⟩ := (D f nm np e).ok
    have hΨ : ∀ ws h, callN PL (n + 1) f ws h = runF (callN PL n) Fd ws h := fun ws h => by
      show (match PL[f]? with
        | some fd => runF (callN PL n) fd ws h
        | none => .stuck) = _
      rw [h5]
    refine ⟨fun hh => ⟨fd, ps, h4, fnG_of h1 h3 (fun vs H Q E h => by rw [h.1, h4]) fun cdv A outer s H vs Q E rm hg hsp => ⟨_, sSs (k := n) (Φ := callN PL n) (N := N) Fd.body (T := T) (I := I) (Wx := fun cls d _ H => E cls d H) ?_ (h8 hh), body_use hΨ h7 hsp⟩, h2⟩,
      fun hh => ⟨fd, ps, h4, fnK_of rfl h4 h1 h3 fun cdv A outer s H vs Q E p c x rm hg hot hcl hz hsp => ⟨_, sSs (k := n) (Φ := callN PL n) (N := N) Fd.body (T := T.at c x p.1) (I := { I with hot := true }) (Wx := fun cls d _ H => E cls d H) ?_ (h9 hh), body_use hΨ h7 hsp⟩, h2⟩⟩
    · have fns := fun f nm np e => (⟨(G.fns f nm np e).1, (G.fns f nm np e).2, fun _ hh => (ih f nm np e).1 hh⟩ : mg nm = some (.ref (T.fa f)) ∧ PySem.W.keepIn K (.ref (T.fa f)) = true ∧ (I.hot = false → I.hfns.contains f = false → _))
      exact ⟨⟨G.kk.symm, fun _ => rfl, rfl, h3.nd, hg, fun _ => rm, L2H.roomH_of rm, L2N.takes_of rfl rfl rfl rfl, G.blt, G.gls, G.ncl, G.clss _ rfl rfl, G.tabs, fns, fun _ => ⟨G.nx, fun f nm np e hf => (ih f nm np e).2 hf⟩, fun z => by rw [G.hot] at z; cases z⟩,
        fun _ => passes_of rfl, rfl, rfl, fun _ => rfl, h3.kind⟩
    · exact ⟨⟨G.kk.symm, (fun z => nomatch z), rfl, h3.nd, hg, (fun z => nomatch z), rm, L2N.takes_of rfl rfl rfl rfl, G.blt, G.gls, G.ncl, fun c n e => (G.clss _ rfl rfl c n e).at, G.tabs, fun f nm np e => ⟨(G.fns f nm np e).1, (G.fns f nm np e).2, (fun z => nomatch z)⟩, (fun z => nomatch z),
        fun _ => ⟨T, p, c, x, rfl, hot, List.mem_cons_self, hcl, hz, fun f nm np e hf => (ih f nm np e).2 hf⟩⟩, (fun z => nomatch z), rfl, rfl, fun _ => rfl, h3.kind⟩
end
end Mi

set_option maxRecDepth 100000
set_option maxHeartbeats 2000000
/-! Mi, seventeenth part: the head: what a text's top says; the law's end. -/
namespace Mi
open PySem PySem.Spec PyProof.Rows L2
/-! ### one def of a text -/
structure DefS where
  name : Str
  st : Stmt
  N : List Str
  ps : List Str
  F : FD
def DefS.d (x : DefS) : He.DefD := ⟨(x.name, none), x.name, x.name, defArgs x.st, defBody x.st, defScope x.st, [], []⟩
def isLoc (sc : Scope) (x : Str) : Bool := match sc.names.lookup x with
  | some .local => true
  | some .cell => true
  | _ => false
def scB (N ps : List Str) (sc : Scope) : Bool := (match sc.kind with
  | .function => true
  | _ => false) && !sc.isCoroutine && !sc.isGenerator && decide N.Nodup && decide (N.take ps.length = ps) && ps.all (isLoc sc) && sc.names.all fun y => match y.2 with
  | .free => false
  | _ => true
theorem scB_ok {N ps : List Str} {sc : Scope} (c : scB N ps sc = true) : FnScope N ps sc := by
  unfold scB at c
  simp only [Bool.and_eq_true, Bool.not_eq_true', decide_eq_true_eq] at c
  obtain ⟨⟨⟨⟨⟨⟨c1, c2⟩, c3⟩, c4⟩, c5⟩, c6⟩, c7⟩ := c
  refine ⟨?_, c2, c3, c4, c5, fun x hx => ?_, fun y hy e => ?_⟩
  · revert c1
    cases sc.kind <;> first | exact fun _ => rfl | exact fun z => (nomatch z)
  · have := List.all_eq_true.mp c6 x hx
    unfold isLoc at this
    split at this
    · left; assumption
    · right; assumption
    · cases this
  · have := List.all_eq_true.mp c7 y hy
    rw [e] at this
    cases this
def defB (I : Info) (i : Nat) (x : DefS) : Bool := scB x.N x.ps (defScope x.st) && (match I.fns[i]? with
  | some (n, np) => decide (n = x.name) && x.ps.length == np && x.F.np == np
  | none => false) && x.F.ns == x.N.length && (I.hfns.contains i || chkSs x.F.body I x.N (defScope x.st) (defBody x.st)) && (!I.hfns.contains i || chkSs x.F.body { I with hot := true } x.N (defScope x.st) (defBody x.st))
/-- the parameters are bound one by one -/
def BindOk (x : DefS) : Prop := ∀ (kV doc pm : Value) (an : Option Addr) (cdv ct : Value) (us : List Value), us.length = x.ps.length → bindArgs (PySem.W.fnOf x.name x.name (defArgs x.st) (defBody x.st) (defScope x.st) .none kV doc pm an cdv ct) ⟨us, []⟩ = pure (x.ps.zip us)
/-! ### what is looked at in the written part -/
def nmF (I : Info) (i : Nat) : Str := match I.fns[i]? with
  | some q => q.1
  | none => Str.empty
def nmC (I : Info) (i : Nat) : Str := match I.clss[i]? with
  | some q => q
  | none => Str.empty
def topOf (I : Info) (K : PySem.W.Frag) : Top := { K := K, fa := fun i => He.ga K (nmF I i), ca := fun i => He.ga K (nmC I i), nc := I.clss.length, xf := fun _ => Str.empty, xw := fun _ _ _ => False }
def excB (K : PySem.W.Frag) (D : Addr) : Bool :=
  He.eqO (PySem.W.findIn K (.ref D) "__getattribute__") (some (some (.builtin "BaseException.__getattribute__"))) && He.eqO (PySem.W.findIn K (.ref D) "__getattr__") (some none) && decide (PySem.W.subIn K (.ref D) (.type "BaseException") = some true) && PySem.W.hasDictIn K D &&
  He.eqO (PySem.W.findIn K (.ref D) "__class__") (some (some (.builtin "object.__class__"))) && He.eqO (PySem.W.specialIn K (.builtin "object.__class__") "__get__") (some (some (.builtin "getset_descriptor.__get__"))) && decide (PySem.W.takesIn K (.builtin "object.__class__") = some true) && decide (PySem.W.mroIn K D (.type "object") = some true)
theorem excB_ok {K : PySem.W.Frag} {D : Addr} (c : excB K D = true) : ExcC K D := by
  unfold excB at c
  simp only [Bool.and_eq_true, decide_eq_true_eq] at c
  obtain ⟨⟨⟨⟨⟨⟨⟨c1, c2⟩, c3⟩, c4⟩, c5⟩, c6⟩, c7⟩, c8⟩ := c
  exact ⟨He.eqO_ok c1, He.eqO_ok c2, c3, c4, He.eqO_ok c5, He.eqO_ok c6, c7, c8⟩
def clsB (K : PySem.W.Frag) (I : Info) (c : Nat) : Bool := excB K (He.ga K (nmC I c)) && (List.range I.clss.length).all fun c' =>
  decide (PySem.W.kitOne K (.ref (He.ga K (nmC I c'))) (.ref (He.ga K (nmC I c))) = some (c' == c || c == 0)) && decide (PySem.W.exmOne K (.ref (He.ga K (nmC I c'))) (.ref (He.ga K (nmC I c))) = some (c' == c || c == 0))
def tabEs (K : PySem.W.Frag) (I : Info) : List (Str × Nat) → List DictEntry → Bool
  | [], [] => true
  | (k, f) :: r, e :: es => (match e.key with
    | .str x _ => decide (x = k)
    | _ => false) && decide (e.val = .ref (He.ga K (nmF I f))) && tabEs K I r es
  | _, _ => false
def tabAt (K : PySem.W.Frag) (I : Info) (g : Str) (tab : List (Str × Nat)) : Bool := match K.lookup (He.ga K g) with
  | some ⟨_, _, .dict es _, _⟩ => tabEs K I tab es.toList
  | _ => false
theorem tabEs_ok {K : PySem.W.Frag} {I : Info} {z : Str} : ∀ {tab : List (Str × Nat)} {es : List DictEntry}, tabEs K I tab es = true →
    (match es.find? (·.key.isStr z) with
      | some e => some (some e.val)
      | none => if es.any (·.refKey) then none else some none) = some ((lookS z tab).map fun f => Value.ref (He.ga K (nmF I f))) ∧ es.any (·.refKey) = false
  | [], [], _ => ⟨rfl, rfl⟩
  | (k, f) :: r, e :: es, c => by
    simp only [tabEs, Bool.and_eq_true, decide_eq_true_eq] at c
    obtain ⟨⟨c1, c2⟩, c3⟩ := c
    obtain ⟨h1, h2⟩ := tabEs_ok (z := z) c3
    obtain ⟨hh, kk, vv⟩ := e
    dsimp only at c1 c2
    split at c1
    · rename_i x t
      have c1 := of_decide_eq_true c1
      subst c1
      have nr : DictEntry.refKey ⟨hh, .str x t, vv⟩ = false := rfl
      refine ⟨?_, by rw [List.any_cons, nr, h2]; rfl⟩
      unfold lookS
      rw [List.find?_cons, List.any_cons, nr]
      have ek : Value.isStr (.str x t) z = decide (x = z) := by
        show (x == z) = _
        rw [Bool.eq_iff_iff]
        simp
      by_cases hz : x = z
      · subst hz
        simp only [ek, decide_true, if_true, c2, Option.map_some]
      · have hz' : decide (x = z) = false := decide_eq_false hz
        simp only [ek, hz', Bool.false_eq_true, if_false, Bool.false_or]
        exact h1
    · cases c1
  | [], _ :: _, c => by cases c
  | _ :: _, [], c => by cases c
def glB1 (K : PySem.W.Frag) (g : Str) (d : PyData) : Bool := match PySem.W.nsIn K mainGlobals g with
  | some (some (.str y _)) => (match d with
    | .str x => decide (x = y)
    | _ => false)
  | some (some (.int j _)) => (match d with
    | .int i => decide (i = j)
    | _ => false)
  | _ => false
def exB (I : Info) (K : PySem.W.Frag) : Bool := (List.range I.clss.length).all (clsB K I) && I.tabs.all (fun q => tabAt K I q.1 q.2) && I.gls.all fun q => glB1 K q.1 q.2
def faOf (I : Info) : List He.Fa := (I.fns.map fun q => .glo q.1) ++ (I.clss.map .glo ++ (I.clss.map .exc ++ (I.blts.map .free ++ I.tabs.map fun q => .glo q.1)))
def tsOf (I : Info) : List He.Tab := I.tabs.map fun q => (fun K => He.ga K q.1, q.2.map (·.1))
theorem lookS_at {α : Type} {z : Str} {v : α} : ∀ {l : List (Str × α)}, lookS z l = some v → ∃ i : Nat, l[i]? = some (z, v)
  | [], e => by cases e
  | (k, x) :: r, e => by
    unfold lookS at e
    split at e
    · rename_i c
      cases e
      have : k = z := of_decide_eq_true c
      subst this
      exact ⟨0, rfl⟩
    · obtain ⟨i, h⟩ := lookS_at e
      exact ⟨i + 1, h⟩
theorem glob_of {I : Info} {fn : List He.DefD} {tf : List He.Defn} {w : World} {h : Heap} {K : PySem.W.Frag} {mg : Str → Option Value} (hot : I.hot = false) (c : He.SaysX (faOf I) fn (tsOf I) tf (exB I) w h K) (KX : K.In h) (G : h.Ns mainGlobals mg) (kp : ∀ (f : Nat) (n : Str) (np : Nat), I.fns[f]? = some (n, np) → PySem.W.keepIn K (.ref (He.ga K n)) = true) : Glob (topOf I K) I w K mg := by
  have fc : ∀ f ∈ faOf I, f.ok K = true := fun f hf => c.t.d.facts hf
  have ex := c.more
  unfold exB at ex
  simp only [Bool.and_eq_true] at ex
  obtain ⟨⟨x1, x2⟩, x3⟩ := ex
  have efa : ∀ (f : Nat) (n : Str) (np : Nat), I.fns[f]? = some (n, np) → nmF I f = n := fun f n np e => by unfold nmF; rw [e]
  have eca : ∀ (i : Nat) (n : Str), I.clss[i]? = some n → nmC I i = n := fun f n e => by unfold nmC; rw [e]
  refine ⟨rfl, hot, fun _ _ _ z => z, fun x hx => ?_, fun g d e => ?_, rfl, fun X hK hm cc n e => ?_, fun g tab e => ?_, fun f n np e => ?_⟩
  · have hx' : x ∈ I.blts := by simpa using hx
    exact He.free_ok KX G (fc _ (by unfold faOf; simp [hx']))
  · have q := List.all_eq_true.mp x3 _ (lookS_mem e)
    unfold glB1 at q
    cases e1 : PySem.W.nsIn K mainGlobals g with
    | none => rw [e1] at q; cases q
    | some o =>
      rw [e1] at q
      cases o with
      | none => cases q
      | some u =>
        have mm := PySem.W.mg_of KX G e1
        cases u with
        | str y t => cases d with
          | str x => exact ⟨.str x, _, mm, ⟨t, by rw [of_decide_eq_true q]⟩, fun F => .str x⟩
          | _ => cases q
        | int y t => cases d with
          | int x => exact ⟨.int x, _, mm, ⟨t, by rw [of_decide_eq_true q]⟩, fun F => .int x⟩
          | _ => cases q
        | _ => cases q
  · have hn : n ∈ I.clss := List.mem_of_getElem? e
    have hi : cc < I.clss.length := (List.getElem?_eq_some_iff.mp e).1
    have q := List.all_eq_true.mp x1 cc (List.mem_range.mpr hi)
    unfold clsB at q
    rw [Bool.and_eq_true] at q
    obtain ⟨q1, q2⟩ := q
    have q2' : ∀ c', c' < I.clss.length → PySem.W.kitOne K (.ref (He.ga K (nmC I c'))) (.ref (He.ga K (nmC I cc))) = some (c' == cc || cc == 0) ∧ PySem.W.exmOne K (.ref (He.ga K (nmC I c'))) (.ref (He.ga K (nmC I cc))) = some (c' == cc || cc == 0) := fun c' hc => by
      have z := List.all_eq_true.mp q2 c' (List.mem_range.mpr hc)
      simp only [Bool.and_eq_true, decide_eq_true_eq] at z
      exact z
    obtain ⟨e1, e2, e3, e4⟩ := He.exc_ok (fc (.exc n) (by unfold faOf; simp [hn]))
    have en := eca cc n e
    have hg := He.glo_ok KX G (fc (.glo n) (by unfold faOf; simp [hn]))
    refine ⟨?_, ?_, ?_, fun c' hc => ?_, fun c' hc => ?_, "ValueError", "ValueError.__new__", _, He.veBase, PySem.F.excBase_ValueError, ?_, ?_⟩
    · rw [hm, hg]
      show some (Value.ref (He.ga K n)) = some (.ref (He.ga K (nmC I cc)))
      rw [en]
    · rw [hK]
      show PySem.W.keepIn K (.ref (He.ga K (nmC I cc))) = true
      rw [en]; exact e2
    · rw [hK]; exact excB_ok q1
    · rw [hK]; exact (q2' c' hc).1
    · rw [hK]; exact (q2' c' hc).2
    · rw [hK]
      show PySem.W.excIn K (He.ga K (nmC I cc)) He.veBase "ValueError.__new__" = true
      rw [en]; exact e1
    · refine raises_own ?_ ?_
      · rw [hK]
        show PySem.W.subIn K (.ref (He.ga K (nmC I cc))) _ = _
        rw [en]; exact e3
      · rw [hK]
        show PySem.W.typeIn K (.ref (He.ga K (nmC I cc))) = _
        rw [en]; exact e4
  · obtain ⟨i, hi⟩ := lookS_at e
    have hm := lookS_mem e
    have q := List.all_eq_true.mp x2 _ hm
    have hg := He.glo_ok KX G (fc (.glo g) (by
      unfold faOf
      simp only [List.mem_append, List.mem_map]
      exact .inr (.inr (.inr (.inr ⟨_, hm, rfl⟩)))))
    obtain ⟨es, n, D⟩ := c.t.tab i (t := (fun K => He.ga K g, tab.map (·.1))) (by unfold tsOf; rw [List.getElem?_map, hi]; rfl)
    refine ⟨He.ga K g, es, n, hg, D, fun z => ?_⟩
    have at_ : K.lookup (He.ga K g) = _ := D.at_
    have q' : tabAt K I g tab = true := q
    unfold tabAt at q'
    rw [at_] at q'
    have t := (tabEs_ok (z := z) q').1
    unfold PySem.W.nsIn
    rw [at_]
    exact t
  · have hm : (n, np) ∈ I.fns := List.mem_of_getElem? e
    have hg := He.glo_ok KX G (fc (.glo n) (by
      unfold faOf
      simp only [List.mem_append, List.mem_map]
      exact .inl ⟨_, hm, rfl⟩))
    have en := efa f n np e
    refine ⟨?_, ?_⟩
    · rw [hg]
      show some (Value.ref (He.ga K n)) = some (.ref (He.ga K (nmF I f)))
      rw [en]
    · show PySem.W.keepIn K (.ref (He.ga K (nmF I f))) = true
      rw [en]
      exact kp f n np e
end Mi

set_option maxRecDepth 100000
set_option maxHeartbeats 2000000
/-! Mi, eighteenth part: the law's end. -/
namespace Mi
open PySem PySem.Spec PyProof.Rows L2
/-- a law's call, from the promise of its def -/
theorem end_call {P : Program} {w : World} {K : PySem.W.Frag} {mg mb : Str → Option Value} {k : Nat} {fa a : Addr} {sp : Sp} {s₁ : Shared} {vs : List Value} {ns : List Int}
    (KX : K.In s₁.heap) (gm : s₁.heap.Ns mainGlobals mg) (gb : s₁.heap.Ns builtinsNs mb) (bb : ∀ x : Str, x ≠ "__name__" → mb x = bootBuiltins x) (nolim : s₁.heap.NoLimit) (nogen : s₁.gens = #[])
    (obj : s₁.heap.get? a = some { cls := .type "list", data := .seq vs.toArray }) (hints : IntsAre vs ns) (short : ns.length ≤ sizeLine) (rm : Room k callerA)
    (prom : ∀ base : Heap, ∃ (fd : FuncData) (ps : List Str), FnG P w K mg base k fa fd ps sp ∧ BindsTo s₁ fd ⟨[.ref a], []⟩ (ps.zip [.ref a]))
    (give : ∀ H : Hp, Only H → SqL K H a (ns.map V.int) → sp [.ref a] H (fun v _ => v = .bl true) fun _ _ _ => False) :
    codeAny (model P w) callerA (.call (.ref fa) ⟨[.ref a], []⟩) (fun r s' => r = .ok (.ret (.bool true)) ∧ OldK s₁.heap s'.heap ∧ s'.os = s₁.os ∧ AllBare s'.gens) s₁ := by
  have rel := vals_ints hints
  have lens := hints.length
  -- whichever abstract heap tells of the script alone
  have main : ∀ H : Hp, Only H → SqL K H a (ns.map V.int) → HOk P w H s₁.heap → (∀ b, H b ≠ none → b = a) → (H a ≠ none → K.lookup a = none) →
      codeAny (model P w) callerA (.call (.ref fa) ⟨[.ref a], []⟩) (fun r s' => r = .ok (.ret (.bool true)) ∧ OldK s₁.heap s'.heap ∧ s'.os = s₁.os ∧ AllBare s'.gens) s₁ := by
    intro H only seq ok alone out
    have noD : ∀ {b : Addr} {o : Obj} {es : Array DictEntry} {ep : Nat}, s₁.heap.get? b = some o → o.data = .dict es ep → H b = none := fun {b o es ep} e d => by
      by_cases q : H b = none
      · exact q
      · have e' := alone b q
        subst e'
        rw [obj] at e
        cases e
        exact absurd (show Data.seq vs.toArray _ = Data.dict es ep from d) (fun z => nomatch z)
    have nsB : ∀ {b : Addr} {m : Str → Option Value}, s₁.heap.Ns b m → (hidT s₁.heap H).Ns b m := fun {b m} ⟨o, es, ep, e, d, r⟩ => ⟨o, es, ep, hidT_get e (noD e d), d, r⟩
    have kB : K.In (hidT s₁.heap H) := fun b o e => by
      refine hidT_get (KX b o e) ?_
      by_cases q : H b = none
      · exact q
      · have e' := alone b q
        subst e'
        rw [out q] at e
        cases e
    obtain ⟨mc, l1, l2⟩ := nolim
    have env0 : Env0 P w K mg (hidT s₁.heap H) callerA [] s₁ H := ⟨rfl, ⟨kB, nsB gm, ⟨mb, nsB gb, bb⟩, ⟨mc, nsB l1, l2⟩⟩, fun b o e => of_hidT e, Nat.le_of_eq (hidT_size _ _), trivial, fun b hb => absurd (show b ∈ ([] : List Addr) from hb) (by simp), ok, .of_eq nogen⟩
    obtain ⟨fd, ps, gg, bt⟩ := prom (hidT s₁.heap H)
    have go := gg.run callerA [] s₁ H ⟨[.ref a], []⟩ [.ref a] [.ref a] _ _ rm rfl env0 bt (.cons rfl .nil) (give H only seq)
    refine codeAny_mono go fun r s' h => ?_
    match r, h with
    | .error e, ⟨_, _, _, _, _, _, _, _, _, _, _, _, z⟩ => exact z.elim
    | .ok .next, h => exact h.elim
    | .ok .brk, h => exact h.elim
    | .ok .cont, h => exact h.elim
    | .ok (.ret u), ⟨v, H', os, bare, un, ok', rv, q⟩ =>
      have q' : v = .bl true := q
      subst q'
      obtain rfl : u = Value.bool true := rv
      refine ⟨rfl, OldK.of_keep fun b o e => ?_, os, bare⟩
      rcases only b with z | ⟨ob, xs, z⟩
      · exact un.keep b o e z (fun y => absurd (show b ∈ ([] : List Addr) from y) (by simp)) (by simp)
      · obtain ⟨e1, _⟩ := ok b _ z
        obtain ⟨e2, _⟩ := ok' b _ (un.frzs b ob _ z)
        rw [e] at e1
        cases e1
        exact e2
  by_cases hk : K.lookup a = none
  · refine main (fun b => if b = a then some (.frz { cls := .type "list", data := .seq vs.toArray } (.lst (ns.map V.int))) else none) (fun b => ?_) (.inl (.inr ⟨{ cls := .type "list", data := .seq vs.toArray }, if_pos rfl⟩)) (fun b u z => ?_) (fun b z => ?_) fun _ => hk
    · by_cases hb : b = a
      · exact .inr ⟨_, _, if_pos hb⟩
      · exact .inl (if_neg hb)
    · by_cases hb : b = a
      · have z' := (if_pos hb).symm.trans z
        cases z'
        subst hb
        exact ⟨obj, by rw [List.length_map]; exact short, vs, _, rel, obj⟩
      · exact absurd ((if_neg hb).symm.trans z) (fun y => nomatch y)
    · by_cases hb : b = a
      · exact hb
      · exact absurd (if_neg hb) z
  · obtain ⟨o, hk⟩ := Option.ne_none_iff_exists'.mp hk
    have e := KX a o hk
    rw [obj] at e
    cases e
    exact main (fun _ => none) (fun _ => .inl rfl) (.inr ⟨_, vs.toArray, _, hk, rfl, rfl, rfl, by rw [List.size_toArray, lens]; exact short, by simpa using rel⟩) (fun b u z => absurd z (fun y => nomatch y)) (fun b z => absurd rfl z) fun z => absurd rfl z
theorem dq_ints {K : PySem.W.Frag} {F : Hp} : ∀ ns : List Int, DqAll K F (ns.map V.int) (ns.map PyData.int)
  | [] => .nil
  | n :: r => .cons (.int n) (dq_ints r)
theorem mi_walk {l : PySem.W.OpenLaw} {n dep nh lawi : Nat} {q : Program} {loose : List Str} {XP : (Str → Option Value) → Heap → Prop} {d : DefRec} {I : Info} {ds : List DefS}
    (hn : l.most = some n) (hn2 : n ≤ sizeLine) (hdf : d.params.defaults = []) (hot : I.hot = false) (stat : ∀ (i : Nat) (x : DefS), ds[i]? = some x → defB I i x = true) (len : I.fns.length = ds.length) (bd : ∀ x ∈ ds, BindOk x)
    (hd : I.fns[lawi]? = some (d.name, 1)) (hl : I.hfns.contains lawi = false) (rm : Room dep callerA)
    (law : ∀ ns : List Int, ns.length ≤ n → ∃ h', callN (ds.map (·.F)) dep lawi [.ro (ns.map .int)] [] = .ok (.d (.bool true)) h') :
    PySem.W.WalkO q loose XP (He.hookX nh (faOf I) (ds.map (·.d)) (tsOf I) [] (exB I)).says l.row.toRowW d [] (fun f vs => PySem.call f vs) := by
  refine Att.attach_call hn hdf fun w s₀ s₁ mg mb fa o pm cd doc a vs ns G Y ho hd' hcd hmg hobj hints hlen hg => ?_
  obtain ⟨K, KX, c⟩ := Y
  have defs : ∀ (i : Nat) (nm : Str) (np : Nat), I.fns[i]? = some (nm, np) → ∃ x, ds[i]? = some x ∧ x.name = nm ∧ x.ps.length = np ∧ x.F.np = np ∧ ∃ fd, FunD K nm nm (defArgs x.st) (defBody x.st) (defScope x.st) [] [] (He.ga K nm) fd := fun i nm np e => by
    have hi : i < ds.length := by rw [← len]; exact (List.getElem?_eq_some_iff.mp e).1
    have ex := List.getElem?_eq_getElem hi
    have b := stat i _ ex
    unfold defB at b
    rw [e] at b
    simp only [Bool.and_eq_true, decide_eq_true_eq, beq_iff_eq] at b
    obtain ⟨⟨⟨⟨_, ⟨b1, b2⟩, b3⟩, _⟩, _⟩, _⟩ := b
    obtain ⟨fd, F⟩ := c.t.d.defs (d := (ds[i]).d) (List.mem_map_of_mem (List.getElem_mem hi))
    refine ⟨_, ex, b1.symm, b2, b3, fd, ?_⟩
    rw [b1]
    exact F
  have G0 := glob_of hot c KX G.T.g fun f nm np e => by
    obtain ⟨x, _, _, _, _, fd, F⟩ := defs f nm np e
    exact F.kp
  have T0 : ∀ (i : Nat) (nm : Str) (np : Nat), I.fns[i]? = some (nm, np) → (topOf I K).fa i = He.ga K nm := fun i nm np e => by
    show He.ga K (nmF I i) = _
    unfold nmF
    rw [e]
  have D : ∀ f nm np, I.fns[f]? = some (nm, np) → DefOk (topOf I K) I (ds.map (·.F)) K f nm np := fun f nm np e => by
    obtain ⟨x, ex, e1, e2, e3, fd, F⟩ := defs f nm np e
    have b := stat f x ex
    unfold defB at b
    simp only [Bool.and_eq_true, Bool.or_eq_true, Bool.not_eq_true', beq_iff_eq] at b
    obtain ⟨⟨⟨⟨b1, _⟩, b4⟩, b5⟩, b6⟩ := b
    refine ⟨_, _, _, fd, x.N, x.ps, x.F, by rw [T0 f nm np e]; exact F, ?_, scB_ok b1, e2, by rw [List.getElem?_map, ex]; rfl, e3, b4, fun z => ?_, fun z => ?_⟩
    · refine F.bindsN fun kV doc pm an cdv ct us hl => ?_
      have z := bd x (List.mem_of_getElem? ex) kV doc pm an cdv ct us hl
      rw [e1] at z
      exact z
    · rcases b5 with y | y
      · rw [z] at y; cases y
      · exact y
    · rcases b6 with y | y
      · rw [z] at y; cases y
      · exact y
  have efa : fa = (topOf I K).fa lawi := by
    have := (G0.fns lawi _ _ hd).1
    rw [hmg] at this
    exact Value.ref.inj (Option.some.inj this)
  have A := fun base => (all_ok (P := l.prog) (w := w) (base := base) G0 D dep lawi _ _ hd).1 hl
  have prom : ∀ base, ∃ (fd : FuncData) (ps : List Str), FnG l.prog w K mg base dep fa fd ps (spF (topOf I K) (callN (ds.map (·.F)) dep) lawi 1) ∧ BindsTo s₁ fd ⟨[.ref a], []⟩ (ps.zip [.ref a]) := fun base => by
    obtain ⟨fd, ps, l', gg, bnd⟩ := A base
    have bt := bnd s₁ [.ref a] KX (by simpa using l'.symm)
    rw [List.append_nil] at bt
    exact ⟨fd, ps, by rw [efa]; exact gg, bt⟩
  refine end_call KX G.T.g G.T.b G.T.builtins G.T.nolimit hg hobj hints (Nat.le_trans hlen hn2) rm prom fun H hO hS => ?_
  obtain ⟨h', eL⟩ := law ns hlen
  refine ⟨rfl, H, [], [], [.ro (ns.map .int)], ⟨fun _ _ e => e, rfl, List.nodup_nil, fun i c a e => by simp at e⟩, .cons ⟨a, _, rfl, hS, dq_ints ns⟩ .nil, ?_⟩
  rw [eL]
  intro F' m' H' v S' X' r
  cases r
  rfl
end Mi

set_option maxRecDepth 100000
set_option maxHeartbeats 1000000
/-! Mi, the evaluator's own laws: calls, loops, comprehensions; the defs that every law brings. -/
namespace Mi
open PySem L2
def In (is : List Int) : List W := is.map fun i => .d (.int i)
theorem In_len (is : List Int) : (In is).length = is.length := by simp [In]
theorem In_app (a b : List Int) : In a ++ In b = In (a ++ b) := by simp [In]
theorem In_nil : In [] = [] := rfl
theorem In_one (a : List Int) (x : Int) : In a ++ [.d (.int x)] = In (a ++ [x]) := by simp [In]
theorem In_drop (a : List Int) : (In a).dropLast = In a.dropLast := by simp [In]
theorem In_rev (a : List Int) : (In a).reverse = In a.reverse := by simp [In]
theorem In_emp (a : List Int) : (In a).isEmpty = a.isEmpty := by simp [In]
theorem In_nl (a : List Int) : In a = [] ↔ a = [] := by simp [In]
theorem In_get (a : List Int) (i : Nat) : (In a)[i]? = a[i]?.map fun x => .d (.int x) := by simp [In]
theorem toDs_map : ∀ ds : List PyData, toDs (ds.map .d) = some ds
  | [] => rfl
  | d :: r => by simp [toDs, toDs_map r]
theorem toDs_In (is : List Int) : toDs (In is) = some (is.map .int) := by
  have := toDs_map (is.map .int)
  rw [List.map_map] at this
  exact this
theorem In_map (a : List Int) : (a.map PyData.int).map W.d = In a := by
  rw [List.map_map]
  rfl
theorem callN_eq {P : List FD} {n f : Nat} {fd : FD} {ws : List W} {h : MH} (e : P[f]? = some fd) : callN P (n + 1) f ws h = runF (callN P n) fd ws h := by
  show (match P[f]? with
    | some fd => runF (callN P n) fd ws h
    | none => .stuck) = _
  rw [e]
theorem refs_d : ∀ ds : List PyData, refsOf (ds.map .d) = []
  | [] => rfl
  | d :: r => refs_d r
theorem renum_d : ∀ (k : Nat) (ds : List PyData), renum k (ds.map .d) = ds.map .d
  | _, [] => rfl
  | k, d :: r => by
    show W.d d :: renum k (r.map .d) = _
    rw [renum_d k r]
    rfl
/-- a call with data alone -/
theorem callW_data {Φ : Nat → List W → M W} {mu : Bool} {f : Nat} {ds : List PyData} {y : PyData} {hc : MH} (h : MH) (e : Φ f (ds.map .d) [] = .ok (.d y) hc) : callW Φ mu f (ds.map .d) h = .ok (.d y) h := by
  unfold callW
  simp only [refs_d, nodupN, cellsAt, renum_d, e, putBack, resW, if_true]
/-- .. that hands a new list back -/
theorem callW_lst {Φ : Nat → List W → M W} {f : Nat} {ds ys : List PyData} {hc : MH} {j : Nat} {ws : List W} (h : MH) (e : Φ f (ds.map .d) [] = .ok (.ref j) hc) (ej : hc[j]? = some (.lst ws)) (ey : toDs ws = some ys) : callW Φ false f (ds.map .d) h = .ok (.d (.list ys)) h := by
  unfold callW
  simp only [refs_d, nodupN, cellsAt, renum_d, e, putBack, resW, if_true, List.getElem?_nil, ej, ey, Bool.false_eq_true, if_false]
/-- .. that raises -/
theorem callW_exc {Φ : Nat → List W → M W} {mu : Bool} {f : Nat} {ds : List PyData} {x : Exn} {hc : MH} (h : MH) (e : Φ f (ds.map .d) [] = .exc x hc) : callW Φ mu f (ds.map .d) h = .exc x h := by
  unfold callW
  simp only [refs_d, nodupN, cellsAt, renum_d, e, putBack, if_true]
/-- a call with one cell in front -/
theorem callW_cell {Φ : Nat → List W → M W} {mu : Bool} {f i : Nat} {ds : List PyData} {c c' : Cell} {y : PyData} {h : MH} (hi : h[i]? = some c) (fc : flatC c = true) (e : Φ f (.ref 0 :: ds.map .d) [c] = .ok (.d y) [c']) (fc' : flatC c' = true) :
    callW Φ mu f (.ref i :: ds.map .d) h = .ok (.d y) (h.set i c') := by
  unfold callW
  have e1 : refsOf (.ref i :: ds.map W.d) = [i] := by simp only [refsOf, refs_d]
  have e2 : renum 0 (.ref i :: ds.map W.d) = .ref 0 :: ds.map .d := by simp only [renum, renum_d]
  have e3 : cellsAt h [i] = some [c] := by simp [cellsAt, hi, fc]
  have e4 : nodupN [i] = true := by simp [nodupN]
  simp only [e1, e2, e3, e4, e, if_true, putBack, fc', resW]
/-- the cell of the draws -/
abbrev Dc (is : List Int) : Cell := .lst (In is)
theorem flat_Dc (is : List Int) : flatC (Dc is) = true := by
  show (toDs (In is)).isSome = true
  rw [toDs_In]
  rfl
/-! ### the defs that every law brings -/
def bNext : Ss := .cons (.ite (.val (.var 0)) (.cons (.ret (.meth .pop (.var 0) .nil)) .nil) .nil) (.cons (.ret (.lit (.int 0))) .nil)
def nextI (is : List Int) : Int := is.getLast?.getD 0
theorem next_c {P : List FD} {n f : Nat} (e : P[f]? = some ⟨1, 1, bNext⟩) (is : List Int) : callN P (n + 1) f [.ref 0] [Dc is] = .ok (.d (.int (nextI is))) [Dc is.dropLast] := by
  rw [callN_eq e]
  rcases List.eq_nil_or_concat is with rfl | ⟨l, a, rfl⟩
  · rfl
  · simp [runF, bNext, evSs, evS, evT, evE, evEs, lift, truV, recvOk, listOf, mthV, popV, cellL, nextI, In_nl, In_len, In_drop]
    simp [In]
theorem next_w {P : List FD} {n f i : Nat} {mu : Bool} {h : MH} (e : P[f]? = some ⟨1, 1, bNext⟩) (is : List Int) (hi : h[i]? = some (Dc is)) : callW (callN P (n + 1)) mu f [.ref i] h = .ok (.d (.int (nextI is))) (h.set i (Dc is.dropLast)) :=
  callW_cell (ds := []) hi (flat_Dc is) (next_c e is) (flat_Dc _)
/-- the place of a number in a list that is not empty -/
def placeI (v : Int) (n : Nat) : Nat := (v.fmod n).toNat
theorem place_lt {v : Int} {n : Nat} (h : 0 < n) : placeI v n < n := by
  unfold placeI
  have h1 := Int.fmod_nonneg_of_pos v (show (0 : Int) < n by omega)
  have h2 := Int.fmod_lt_of_pos v (show (0 : Int) < n by omega)
  omega
theorem fmod_place {v : Int} {n : Nat} (h : 0 < n) : v.fmod n = (placeI v n : Int) := by
  unfold placeI
  have h1 := Int.fmod_nonneg_of_pos v (show (0 : Int) < n by omega)
  omega
theorem atI_place {α : Type} {xs : List α} {v : Int} (h : 0 < xs.length) : atI xs (v.fmod xs.length) = some (xs[placeI v xs.length]'(place_lt h)) := by
  rw [fmod_place h]
  exact atI_nat (List.getElem?_eq_getElem (place_lt h))
def bPick (next : Nat) : Ss := .cons (.ret (.idx (.var 1) (.bin false .Mod (.blt .int (.cons (.call next false (.cons (.var 0) .nil)) .nil)) (.blt .len (.cons (.var 1) .nil))))) .nil
theorem pick_c {P : List FD} {n f g : Nat} (e : P[f]? = some ⟨2, 2, bPick g⟩) (eg : P[g]? = some ⟨1, 1, bNext⟩) (is : List Int) {ds : List PyData} (hd : 0 < ds.length) :
    callN P (n + 2) f [.ref 0, .d (.list ds)] [Dc is] = .ok (.d (ds[placeI (nextI is) ds.length]'(place_lt hd))) [Dc is.dropLast] := by
  rw [callN_eq e]
  have hw : callW (callN P (n + 1)) false g [.ref 0] [Dc is] = .ok (.d (.int (nextI is))) [Dc is.dropLast] := next_w (i := 0) (h := [Dc is]) eg is rfl
  have hl : ds ≠ [] := fun z => by rw [z] at hd; exact absurd hd (by decide)
  have ha : atI (ds.map W.d) ((nextI is).fmod ds.length) = some (.d (ds[placeI (nextI is) ds.length]'(place_lt hd))) := by
    have := atI_place (xs := ds.map W.d) (v := nextI is) (by simpa using hd)
    simp only [List.length_map, List.getElem_map] at this
    exact this
  simp [runF, bPick, evSs, evS, evE, evEs, lift, hw, bltV, intV, lenV, seqOf, binV, intOp, idxV, hl, ha]
theorem pick_w {P : List FD} {n f g i : Nat} {mu : Bool} {h : MH} (e : P[f]? = some ⟨2, 2, bPick g⟩) (eg : P[g]? = some ⟨1, 1, bNext⟩) (is : List Int) {ds : List PyData} (hd : 0 < ds.length) (hi : h[i]? = some (Dc is)) :
    callW (callN P (n + 2)) mu f [.ref i, .d (.list ds)] h = .ok (.d (ds[placeI (nextI is) ds.length]'(place_lt hd))) (h.set i (Dc is.dropLast)) :=
  callW_cell (ds := [.list ds]) hi (flat_Dc is) (pick_c e eg is hd) (flat_Dc _)
/-! ### loops -/
/-- a loop over a source that stays, by an invariant of the place -/
theorem forL_inv {src : Src} {tg : List Nat} {tup : Bool} {body : Ev → MH → RS} (Q : Nat → Ev → MH → Prop) : ∀ (ws : List W) (i : Nat) (env : Ev) (h : MH), Q i env h → (∀ i env h, Q i env h → srcOk src h = true) →
    (∀ (j : Nat) (env : Ev) (h : MH) (w : W), ws[j]? = some w → Q (i + j) env h → ∃ env1, setTg tg tup w env = some env1 ∧ ∃ env2 h2, (body env1 h = .ok (.nx env2) h2 ∨ body env1 h = .ok (.cnt env2) h2) ∧ Q (i + j + 1) env2 h2) →
    ∃ env2 h2, forL src tg tup body ws env h = .ok (.nx env2) h2 ∧ Q (i + ws.length) env2 h2
  | [], i, env, h, q, so, _ => ⟨env, h, by simp [forL, so i env h q], by simpa using q⟩
  | w :: ws, i, env, h, q, so, st => by
    obtain ⟨env1, e1, env2, h2, e2, q2⟩ := st 0 env h w rfl (by simpa using q)
    obtain ⟨env3, h3, e3, q3⟩ := forL_inv Q ws (i + 1) env2 h2 (by simpa using q2) so fun j env h u hu q => by
      have := st (j + 1) env h u (by simpa using hu) (by rw [show i + (j + 1) = i + 1 + j by omega]; exact q)
      rw [show i + (j + 1) + 1 = i + 1 + j + 1 by omega] at this
      exact this
    refine ⟨env3, h3, ?_, by rw [List.length_cons, show i + (ws.length + 1) = i + 1 + ws.length by omega]; exact q3⟩
    simp only [forL, so i env h q, if_true, e1]
    rcases e2 with e2 | e2 <;> simp only [e2, e3]
/-- .. that may break off -/
theorem forL_brk {src : Src} {tg : List Nat} {tup : Bool} {body : Ev → MH → RS} (Q : Nat → Ev → MH → Prop) (D : Ev → MH → Prop) : ∀ (ws : List W) (i : Nat) (env : Ev) (h : MH), Q i env h → (∀ i env h, Q i env h → srcOk src h = true) → (∀ env h, Q (i + ws.length) env h → D env h) →
    (∀ (j : Nat) (env : Ev) (h : MH) (w : W), ws[j]? = some w → Q (i + j) env h → ∃ env1, setTg tg tup w env = some env1 ∧ ∃ env2 h2, (body env1 h = .ok (.nx env2) h2 ∧ Q (i + j + 1) env2 h2) ∨ (body env1 h = .ok (.cnt env2) h2 ∧ Q (i + j + 1) env2 h2) ∨ (body env1 h = .ok (.brk env2) h2 ∧ D env2 h2)) →
    ∃ env2 h2, forL src tg tup body ws env h = .ok (.nx env2) h2 ∧ D env2 h2
  | [], i, env, h, q, so, dn, _ => ⟨env, h, by simp [forL, so i env h q], dn env h (by simpa using q)⟩
  | w :: ws, i, env, h, q, so, dn, st => by
    obtain ⟨env1, e1, env2, h2, e2⟩ := st 0 env h w rfl (by simpa using q)
    have go : Q (i + 1) env2 h2 → ∃ env3 h3, forL src tg tup body ws env2 h2 = .ok (.nx env3) h3 ∧ D env3 h3 := fun q2 =>
      forL_brk Q D ws (i + 1) env2 h2 q2 so (fun env h q => dn env h (by rw [List.length_cons, show i + (ws.length + 1) = i + 1 + ws.length by omega]; exact q)) fun j env h u hu q => by
        have := st (j + 1) env h u (by simpa using hu) (by rw [show i + (j + 1) = i + 1 + j by omega]; exact q)
        rw [show i + (j + 1) + 1 = i + 1 + j + 1 by omega] at this
        exact this
    rcases e2 with ⟨e2, q2⟩ | ⟨e2, q2⟩ | ⟨e2, d2⟩
    · obtain ⟨env3, h3, e3, d3⟩ := go (by simpa using q2)
      exact ⟨env3, h3, by simp only [forL, so i env h q, if_true, e1, e2, e3], d3⟩
    · obtain ⟨env3, h3, e3, d3⟩ := go (by simpa using q2)
      exact ⟨env3, h3, by simp only [forL, so i env h q, if_true, e1, e2, e3], d3⟩
    · exact ⟨env2, h2, by simp only [forL, so i env h q, if_true, e1, e2], d2⟩
/-- a comprehension, by an invariant of what was made -/
theorem compL_inv {src : Src} {f : W → M (Option W)} (Q : List W → MH → Prop) : ∀ (ws acc : List W) (h : MH), acc.length + ws.length ≤ 16777216 → Q acc h → (∀ acc h, Q acc h → srcOk src h = true) →
    (∀ (w : W) (acc : List W) (h : MH), w ∈ ws → Q acc h → (∃ y h2, f w h = .ok (some y) h2 ∧ Q (y :: acc) h2) ∨ ∃ h2, f w h = .ok none h2 ∧ Q acc h2) →
    ∃ ys h2, compL src f ws acc h = .ok ys.reverse h2 ∧ Q ys h2
  | [], acc, h, _, q, so, _ => ⟨acc, h, by simp [compL, so acc h q], q⟩
  | w :: ws, acc, h, l, q, so, st => by
    rw [List.length_cons] at l
    have st' := fun u acc h hu => st u acc h (List.mem_cons_of_mem _ hu)
    rcases st w acc h List.mem_cons_self q with ⟨y, h2, e, q2⟩ | ⟨h2, e, q2⟩
    · obtain ⟨ys, h3, e3, q3⟩ := compL_inv Q ws (y :: acc) h2 (by rw [List.length_cons]; omega) q2 so st'
      refine ⟨ys, h3, ?_, q3⟩
      have lt : Nat.blt acc.length 16777216 = true := Nat.ble_eq_true_of_le (by omega)
      simp only [compL, so acc h q, if_true, e, lt, e3]
    · obtain ⟨ys, h3, e3, q3⟩ := compL_inv Q ws acc h2 (by omega) q2 so st'
      exact ⟨ys, h3, by simp only [compL, so acc h q, if_true, e, e3], q3⟩
theorem compL_len {src : Src} {f : W → M (Option W)} : ∀ (ws acc : List W) (h : MH) (ys : List W) (h2 : MH), compL src f ws acc h = .ok ys h2 → ys.length ≤ acc.length + ws.length
  | [], acc, h, ys, h2, e => by
    simp only [compL] at e
    split at e
    · cases e; simp
    · cases e
  | w :: ws, acc, h, ys, h2, e => by
    simp only [compL] at e
    split at e
    · split at e
      · split at e
        · have := compL_len ws _ _ _ _ e
          simp only [List.length_cons] at this ⊢
          omega
        · cases e
      · have := compL_len ws _ _ _ _ e
        simp only [List.length_cons]
        omega
      · cases e
    · cases e
/-- a comprehension that changes nothing and makes one of each -/
theorem compL_map {src : Src} {f : W → M (Option W)} {g : W → W} {h : MH} (so : srcOk src h = true) : ∀ (ws acc : List W), acc.length + ws.length ≤ 16777216 → (∀ w ∈ ws, f w h = .ok (some (g w)) h) → compL src f ws acc h = .ok (acc.reverse ++ ws.map g) h
  | [], acc, _, _ => by simp [compL, so]
  | w :: ws, acc, l, st => by
    rw [List.length_cons] at l
    have lt : Nat.blt acc.length 16777216 = true := Nat.ble_eq_true_of_le (by omega)
    have e3 := compL_map (g := g) so ws (g w :: acc) (by rw [List.length_cons]; omega) fun u hu => st u (List.mem_cons_of_mem _ hu)
    simp only [compL, so, if_true, st w List.mem_cons_self, lt, e3]
    simp

def bNum : Ss := .cons (.ite (.val (.cmp .Lt (.var 0) (.lit (.int 0)))) (.cons (.ret (.bin false .Sub (.lit (.int 0)) (.var 0))) .nil) .nil) (.cons (.ret (.var 0)) .nil)
def absI (i : Int) : Int := if i < 0 then 0 - i else i
theorem num_c {P : List FD} {n f : Nat} (e : P[f]? = some ⟨1, 1, bNum⟩) (i : Int) : callN P (n + 1) f [.d (.int i)] [] = .ok (.d (.int (absI i))) [] := by
  rw [callN_eq e]
  by_cases h : i < 0
  · simp [Mi.runF, Mi.evSs, Mi.evS, Mi.evE, Mi.evT, Mi.evP, Mi.evEs, Mi.evIt, Mi.lift, Mi.bltV, Mi.intV, Mi.lenV, Mi.binV, Mi.intOp, Mi.cmpV, Mi.truV, Mi.mthV, Mi.recvOk, Mi.listOf, Mi.seqOf, Mi.dOf, Mi.cellL, Mi.srcOf, Mi.srcOk, Mi.setTg, Mi.setAll, Mi.mkL, Mi.toDs, Mi.In_len, Mi.In_app, Mi.In_one, Mi.In_drop, Mi.In_rev, Mi.In_emp, Mi.In_nl, Mi.In_get, Mi.toDs_In, bNum, absI, h]
  · simp [Mi.runF, Mi.evSs, Mi.evS, Mi.evE, Mi.evT, Mi.evP, Mi.evEs, Mi.evIt, Mi.lift, Mi.bltV, Mi.intV, Mi.lenV, Mi.binV, Mi.intOp, Mi.cmpV, Mi.truV, Mi.mthV, Mi.recvOk, Mi.listOf, Mi.seqOf, Mi.dOf, Mi.cellL, Mi.srcOf, Mi.srcOk, Mi.setTg, Mi.setAll, Mi.mkL, Mi.toDs, Mi.In_len, Mi.In_app, Mi.In_one, Mi.In_drop, Mi.In_rev, Mi.In_emp, Mi.In_nl, Mi.In_get, Mi.toDs_In, bNum, absI, h]
theorem num_w {P : List FD} {n f : Nat} {mu : Bool} (h : MH) (e : P[f]? = some ⟨1, 1, bNum⟩) (i : Int) : callW (callN P (n + 1)) mu f [.d (.int i)] h = .ok (.d (.int (absI i))) h :=
  callW_data (ds := [.int i]) h (num_c e i)
theorem listOf_In {i : Nat} {h : MH} {is : List Int} (e : h[i]? = some (Dc is)) : listOf (.ref i) h = some (In is) := by
  simp only [listOf, e]
theorem append_c {i : Nat} {h : MH} {is : List Int} {x : Int} (e : h[i]? = some (Dc is)) (l : is.length < 16777216) : appendV (.ref i) [.d (.int x)] h = .ok (.d .none) (h.set i (Dc (is ++ [x]))) := by
  simp [appendV, cellL, e, l, In_len, In_one]
theorem extend_c {i : Nat} {h : MH} {is js : List Int} (e : h[i]? = some (Dc is)) (l : is.length + js.length ≤ 16777216) : extendV (.ref i) [.d (.list (js.map .int))] h = .ok (.d .none) (h.set i (Dc (is ++ js))) := by
  have lt : lineOk (is.length + js.length) = true := Nat.ble_eq_true_of_le l
  simp only [extendV, cellL, e, listOf, In_map, In_len, lt, In_app, if_true]
theorem reverse_c {i : Nat} {h : MH} {is : List Int} (e : h[i]? = some (Dc is)) : reverseV (.ref i) [] h = .ok (.d .none) (h.set i (Dc is.reverse)) := by
  simp [reverseV, cellL, e, In_rev]
def bDrawsIn : Ss :=
  .cons (.ite (.val (.cmp .Eq (.var 3) (.lit (.int 0)))) (.cons .brk .nil) .nil)
  (.cons (.ex (.meth .append (.var 1) (.cons (.bin false .Mod (.blt .int (.cons (.var 3) .nil)) (.lit (.int 1000))) .nil)))
  (.cons (.set 3 (.bin false .FloorDiv (.var 3) (.lit (.int 1000)))) .nil))
def bDrawsOne (num : Nat) : Ss :=
  .cons (.set 3 (.call num false (.cons (.var 2) .nil)))
  (.cons (.ite (.val (.cmp .GtE (.var 3) (.lit (.int 1000000000000000000))))
    (.cons (.for [4] false (.rng1 (.lit (.int 60))) bDrawsIn) .nil)
    (.cons (.set 5 (.bin false .Mod (.blt .int (.cons (.bin false .Add (.bin false .Mult (.var 3) (.lit (.int 48271))) (.lit (.int 11))) .nil)) (.lit (.int 2147483647))))
    (.cons (.set 6 (.bin false .Mod (.blt .int (.cons (.bin false .Add (.bin false .Mult (.var 5) (.lit (.int 69621))) (.var 3)) .nil)) (.lit (.int 2147483629))))
    (.cons (.ex (.meth .extend (.var 1) (.cons (.lst false (.cons (.bin false .Mod (.blt .int (.cons (.var 3) .nil)) (.lit (.int 1000))) (.cons (.bin false .Mod (.blt .int (.cons (.var 5) .nil)) (.lit (.int 1000))) (.cons (.bin false .Mod (.blt .int (.cons (.var 6) .nil)) (.lit (.int 1000))) .nil)))) .nil))) .nil)))) .nil)
def bDraws (num : Nat) : Ss :=
  .cons (.set 1 (.lst true .nil)) (.cons (.for [2] false (.over (.var 0)) (bDrawsOne num)) (.cons (.ex (.meth .reverse (.var 1) .nil)) (.cons (.ret (.var 1)) .nil)))
theorem rng_len : ∀ (n : Nat) (i : Int), (rngFrom i n).length = n
  | 0, _ => rfl
  | n + 1, i => by
    show (rngFrom (i + 1) n).length + 1 = _
    rw [rng_len n]
theorem rng_at : ∀ (n : Nat) (i : Int) (j : Nat) (w : W), (rngFrom i n)[j]? = some w → w = .d (.int (i + j)) ∧ j < n
  | 0, _, _, _, e => by simp [rngFrom] at e
  | n + 1, i, 0, w, e => by
    simp [rngFrom] at e
    exact ⟨by rw [← e]; simp, by omega⟩
  | n + 1, i, j + 1, w, e => by
    obtain ⟨h1, h2⟩ := rng_at n (i + 1) j w (by simpa [rngFrom] using e)
    exact ⟨by rw [h1]; congr 2; omega, by omega⟩
theorem mulOk_r {i j : Int} (h : j < 18446744073709551616) (h2 : -18446744073709551616 < j) : mulOk i j = true := by
  unfold mulOk
  rw [Bool.or_eq_true]
  exact .inr (Nat.ble_eq_true_of_le (by omega))
theorem drawsIn_ok {Φ : Nat → List W → M W} {e0 e2 e5 e6 : Option W} {r : Int} {k : W} {is : List Int} (l : is.length < 16777216) :
    (r = 0 ∧ evSs Φ bDrawsIn [e0, some (.ref 0), e2, some (.d (.int r)), some k, e5, e6] [Dc is] = .ok (.brk [e0, some (.ref 0), e2, some (.d (.int r)), some k, e5, e6]) [Dc is]) ∨
    evSs Φ bDrawsIn [e0, some (.ref 0), e2, some (.d (.int r)), some k, e5, e6] [Dc is] = .ok (.nx [e0, some (.ref 0), e2, some (.d (.int (r.fdiv 1000))), some k, e5, e6]) [Dc (is ++ [r.fmod 1000])] := by
  have ap := append_c (i := 0) (h := [Dc is]) (is := is) (x := r.fmod 1000) rfl l
  by_cases h : r = 0
  · left
    subst h
    exact ⟨rfl, rfl⟩
  · right
    have e : PyData.eqv (.int r) (.int 0) = false := by simp [PyData.eqv, h]
    simp [Mi.runF, Mi.evSs, Mi.evS, Mi.evE, Mi.evT, Mi.evP, Mi.evEs, Mi.evIt, Mi.lift, Mi.bltV, Mi.intV, Mi.lenV, Mi.binV, Mi.intOp, Mi.cmpV, Mi.truV, Mi.mthV, Mi.recvOk, Mi.listOf, Mi.seqOf, Mi.dOf, Mi.cellL, Mi.srcOf, Mi.srcOk, Mi.setTg, Mi.setAll, Mi.mkL, Mi.toDs, Mi.In_len, Mi.In_app, Mi.In_one, Mi.In_drop, Mi.In_rev, Mi.In_emp, Mi.In_nl, Mi.In_get, Mi.toDs_In, bDrawsIn, eqD, depOk, PyData.depth, e, ap]

theorem drawsOne_ok {P : List FD} {n num : Nat} (en : P[num]? = some ⟨1, 1, bNum⟩) {e0 e3 e4 e5 e6 : Option W} {c : Int} {is : List Int} (l : is.length + 60 < 16777216) :
    ∃ e3' e4' e5' e6' is', evSs (callN P (n + 1)) (bDrawsOne num) [e0, some (.ref 0), some (.d (.int c)), e3, e4, e5, e6] [Dc is] = .ok (.nx [e0, some (.ref 0), some (.d (.int c)), e3', e4', e5', e6']) [Dc is'] ∧ is'.length ≤ is.length + 60 := by
  have hn := num_w (n := n) (mu := false) [Dc is] en c
  by_cases h : absI c ≥ 1000000000000000000
  · have key : ∃ env2 h2, forL (rngFrom 0 60, none) [4] false (fun env h => evSs (callN P (n + 1)) bDrawsIn env h) (rngFrom 0 60) [e0, some (.ref 0), some (.d (.int c)), some (.d (.int (absI c))), e4, e5, e6] [Dc is] = .ok (.nx env2) h2 ∧
        ∃ e3' e4' is', env2 = [e0, some (.ref 0), some (.d (.int c)), e3', e4', e5, e6] ∧ h2 = [Dc is'] ∧ is'.length ≤ is.length + 60 := by
      refine forL_brk (fun i env h => ∃ r e4 is', env = [e0, some (.ref 0), some (.d (.int c)), some (.d (.int r)), e4, e5, e6] ∧ h = [Dc is'] ∧ is'.length ≤ is.length + i) (fun env h => ∃ e3' e4' is', env = [e0, some (.ref 0), some (.d (.int c)), e3', e4', e5, e6] ∧ h = [Dc is'] ∧ is'.length ≤ is.length + 60)
        (rngFrom 0 60) 0 _ _ ⟨_, _, is, rfl, rfl, by omega⟩ (fun _ _ _ _ => rfl) ?_ ?_
      · rintro env h ⟨r, e4, is', h1, h2, h3⟩
        exact ⟨_, _, _, h1, h2, by rw [rng_len] at h3; omega⟩
      · rintro j env h w hw ⟨r, e4, is', rfl, rfl, h3⟩
        obtain ⟨_, hj⟩ := rng_at _ _ _ _ hw
        refine ⟨_, rfl, ?_⟩
        rcases drawsIn_ok (Φ := callN P (n + 1)) (e0 := e0) (e2 := some (.d (.int c))) (e5 := e5) (e6 := e6) (r := r) (k := w) (is := is') (by omega) with ⟨hr, e⟩ | e
        · exact ⟨_, _, .inr (.inr ⟨e, _, _, is', rfl, rfl, by omega⟩)⟩
        · exact ⟨_, _, .inl ⟨e, _, _, _, rfl, rfl, by simp; omega⟩⟩
    obtain ⟨env2, h2, ef, e3', e4', is', rfl, rfl, hl⟩ := key
    refine ⟨e3', e4', e5, e6, is', ?_, hl⟩
    have hr : rngOk 60 = true := rfl
    simp [Mi.runF, Mi.evSs, Mi.evS, Mi.evE, Mi.evT, Mi.evP, Mi.evEs, Mi.evIt, Mi.lift, Mi.bltV, Mi.intV, Mi.lenV, Mi.binV, Mi.intOp, Mi.cmpV, Mi.truV, Mi.mthV, Mi.recvOk, Mi.listOf, Mi.seqOf, Mi.dOf, Mi.cellL, Mi.srcOf, Mi.srcOk, Mi.setTg, Mi.setAll, Mi.mkL, Mi.toDs, Mi.In_len, Mi.In_app, Mi.In_one, Mi.In_drop, Mi.In_rev, Mi.In_emp, Mi.In_nl, Mi.In_get, Mi.toDs_In, bDrawsOne, hn, h, hr, ef]
  · refine ⟨some (.d (.int (absI c))), e4, some (.d (.int ((absI c * 48271 + 11).fmod 2147483647))), some (.d (.int (((absI c * 48271 + 11).fmod 2147483647 * 69621 + absI c).fmod 2147483629))), is ++ [(absI c).fmod 1000, ((absI c * 48271 + 11).fmod 2147483647).fmod 1000, (((absI c * 48271 + 11).fmod 2147483647 * 69621 + absI c).fmod 2147483629).fmod 1000], ?_, by simp⟩
    have m1 : mulOk (absI c) 48271 = true := mulOk_r (by decide) (by decide)
    have m2 : mulOk ((absI c * 48271 + 11).fmod 2147483647) 69621 = true := mulOk_r (by decide) (by decide)
    have ex := extend_c (i := 0) (h := [Dc is]) (is := is) (js := [(absI c).fmod 1000, ((absI c * 48271 + 11).fmod 2147483647).fmod 1000, (((absI c * 48271 + 11).fmod 2147483647 * 69621 + absI c).fmod 2147483629).fmod 1000]) rfl (by simp; omega)
    simp only [List.map_cons, List.map_nil] at ex
    simp [Mi.runF, Mi.evSs, Mi.evS, Mi.evE, Mi.evT, Mi.evP, Mi.evEs, Mi.evIt, Mi.lift, Mi.bltV, Mi.intV, Mi.lenV, Mi.binV, Mi.intOp, Mi.cmpV, Mi.truV, Mi.mthV, Mi.recvOk, Mi.listOf, Mi.seqOf, Mi.dOf, Mi.cellL, Mi.srcOf, Mi.srcOk, Mi.setTg, Mi.setAll, Mi.mkL, Mi.toDs, Mi.In_len, Mi.In_app, Mi.In_one, Mi.In_drop, Mi.In_rev, Mi.In_emp, Mi.In_nl, Mi.In_get, Mi.toDs_In, bDrawsOne, hn, h, m1, m2, ex]
theorem draws_c {P : List FD} {n f num : Nat} (e : P[f]? = some ⟨1, 7, bDraws num⟩) (en : P[num]? = some ⟨1, 1, bNum⟩) (ns : List Int) (hl : ns.length ≤ 10000) :
    ∃ is, is.length ≤ 60 * ns.length ∧ callN P (n + 2) f [.ro (ns.map .int)] [] = .ok (.ref 0) [Dc is] := by
  rw [callN_eq e]
  have key : ∃ env2 h2, forL ((ns.map .int).map .d, none) [2] false (fun env h => evSs (callN P (n + 1)) (bDrawsOne num) env h) ((ns.map .int).map .d) [some (.ro (ns.map .int)), some (.ref 0), none, none, none, none, none] [Cell.lst []] = .ok (.nx env2) h2 ∧
      ∃ e2 e3 e4 e5 e6 is, env2 = [some (.ro (ns.map .int)), some (.ref 0), e2, e3, e4, e5, e6] ∧ h2 = [Dc is] ∧ is.length ≤ 60 * ns.length := by
    obtain ⟨env2, h2, e1, e2⟩ := forL_inv (src := ((ns.map .int).map .d, none)) (tg := [2]) (tup := false) (body := fun env h => evSs (callN P (n + 1)) (bDrawsOne num) env h)
      (fun i env h => ∃ e2 e3 e4 e5 e6 is, env = [some (.ro (ns.map .int)), some (.ref 0), e2, e3, e4, e5, e6] ∧ h = [Dc is] ∧ is.length ≤ 60 * i)
      ((ns.map PyData.int).map W.d) 0 [some (.ro (ns.map .int)), some (.ref 0), none, none, none, none, none] [Cell.lst []] ⟨_, _, _, _, _, [], rfl, rfl, by simp⟩ (fun _ _ _ _ => rfl) (by
        rintro j env h w hw ⟨e2, e3, e4, e5, e6, is, rfl, rfl, h3⟩
        have hj : j < ns.length := by
          have := (List.getElem?_eq_some_iff.mp hw).1
          simpa using this
        have ew : w = .d (.int (ns[j])) := by
          rw [List.getElem?_map, List.getElem?_map, List.getElem?_eq_getElem hj] at hw
          simpa using hw.symm
        subst ew
        refine ⟨_, rfl, ?_⟩
        obtain ⟨e3', e4', e5', e6', is', q, ql⟩ := drawsOne_ok (n := n) en (e0 := some (.ro (ns.map .int))) (e3 := e3) (e4 := e4) (e5 := e5) (e6 := e6) (c := ns[j]) (is := is) (by omega)
        exact ⟨_, _, .inl q, _, _, _, _, _, is', rfl, rfl, by omega⟩)
    refine ⟨env2, h2, e1, ?_⟩
    simpa using e2
  obtain ⟨env2, h2, ef, e2, e3, e4, e5, e6, is, rfl, rfl, hb⟩ := key
  refine ⟨is.reverse, by simpa using hb, ?_⟩
  have rv := reverse_c (i := 0) (h := [Dc is]) (is := is) rfl
  simp only [List.map_map] at ef
  simp [Mi.runF, Mi.evSs, Mi.evS, Mi.evE, Mi.evT, Mi.evP, Mi.evEs, Mi.evIt, Mi.lift, Mi.bltV, Mi.intV, Mi.lenV, Mi.binV, Mi.intOp, Mi.cmpV, Mi.truV, Mi.mthV, Mi.recvOk, Mi.listOf, Mi.seqOf, Mi.dOf, Mi.cellL, Mi.srcOf, Mi.srcOk, Mi.setTg, Mi.setAll, Mi.mkL, Mi.toDs, Mi.In_len, Mi.In_app, Mi.In_one, Mi.In_drop, Mi.In_rev, Mi.In_emp, Mi.In_nl, Mi.In_get, Mi.toDs_In, bDraws, ef, rv]

/-- the draws' list is made -/
theorem draws_w {P : List FD} {n f num : Nat} (e : P[f]? = some ⟨1, 7, bDraws num⟩) (en : P[num]? = some ⟨1, 1, bNum⟩) (ns : List Int) (hl : ns.length ≤ 10000) :
    ∃ is, is.length ≤ 60 * ns.length ∧ callW (callN P (n + 2)) true f [.ro (ns.map .int)] [] = .ok (.ref 0) [Dc is] := by
  obtain ⟨is, h1, h2⟩ := draws_c (n := n) e en ns hl
  refine ⟨is, h1, ?_⟩
  unfold callW
  simp [refsOf, nodupN, cellsAt, renum, h2, putBack, resW, toDs_In]
def bMoreIn : Ss := (.cons (.set 2 (.bin false .Mod (.blt .int (.cons (.bin false .Add (.bin false .Mult (.var 2) (.lit (.int 48271))) (.lit (.int 12345))) .nil)) (.lit (.int 2147483647))))
    (.cons (.ex (.meth .append (.var 3) (.cons (.bin false .Mod (.blt .int (.cons (.bin false .FloorDiv (.var 2) (.lit (.int 7))) .nil)) (.lit (.int 1000))) .nil))) .nil))
def bMore (next : Nat) : Ss :=
  .cons (.set 2 (.bin false .Add (.bin false .Add (.bin false .Mult (.lit (.int 1000)) (.call next false (.cons (.var 0) .nil))) (.call next false (.cons (.var 0) .nil))) (.lit (.int 1))))
  (.cons (.set 3 (.lst true .nil))
  (.cons (.for [4] false (.rng1 (.var 1))
    bMoreIn)
  (.cons (.ret (.bin true .Add (.var 3) (.var 0))) .nil)))
theorem more_c {P : List FD} {n f g : Nat} (e : P[f]? = some ⟨2, 5, bMore g⟩) (eg : P[g]? = some ⟨1, 1, bNext⟩) (is : List Int) (m : Nat) (hm : m ≤ 10000) (hl : is.length ≤ 1000000) :
    ∃ is' bs js, js.length ≤ m + is.length ∧ callN P (n + 2) f [.ref 0, .d (.int m)] [Dc is] = .ok (.ref 2) [Dc is', Dc bs, Dc js] := by
  rw [callN_eq e]
  have w1 : callW (callN P (n + 1)) false g [.ref 0] [Dc is] = .ok (.d (.int (nextI is))) [Dc is.dropLast] := next_w (i := 0) (h := [Dc is]) eg is rfl
  have w2 : callW (callN P (n + 1)) false g [.ref 0] [Dc is.dropLast] = .ok (.d (.int (nextI is.dropLast))) [Dc is.dropLast.dropLast] := next_w (i := 0) (h := [Dc is.dropLast]) eg is.dropLast rfl
  obtain ⟨env2, h2, ef, hq⟩ := forL_inv (src := (rngFrom 0 m, none)) (tg := [4]) (tup := false)
    (body := fun env h => evSs (callN P (n + 1)) bMoreIn env h)
    (fun i env h => ∃ s e4 bs, env = [some (.ref 0), some (.d (.int m)), some (.d (.int s)), some (.ref 1), e4] ∧ h = [Dc is.dropLast.dropLast, Dc bs] ∧ bs.length = i)
    (rngFrom 0 m) 0 [some (.ref 0), some (.d (.int m)), some (.d (.int (1000 * nextI is + nextI is.dropLast + 1))), some (.ref 1), none] [Dc is.dropLast.dropLast, Cell.lst []] ⟨_, _, [], rfl, rfl, rfl⟩ (fun _ _ _ _ => rfl) (by
      rintro j env h w hw ⟨s, e4, bs, rfl, rfl, h3⟩
      obtain ⟨_, hj⟩ := rng_at _ _ _ _ hw
      refine ⟨_, rfl, ?_⟩
      have m1 : mulOk s 48271 = true := mulOk_r (by decide) (by decide)
      have ap := append_c (i := 1) (h := [Dc is.dropLast.dropLast, Dc bs]) (is := bs) (x := (((s * 48271 + 12345).fmod 2147483647).fdiv 7).fmod 1000) rfl (by omega)
      refine ⟨[some (.ref 0), some (.d (.int m)), some (.d (.int ((s * 48271 + 12345).fmod 2147483647))), some (.ref 1), some w], [Dc is.dropLast.dropLast, Dc (bs ++ [(((s * 48271 + 12345).fmod 2147483647).fdiv 7).fmod 1000])], .inl ?_, _, _, _, rfl, rfl, by simp; omega⟩
      simp [Mi.runF, Mi.evSs, Mi.evS, Mi.evE, Mi.evT, Mi.evP, Mi.evEs, Mi.evIt, Mi.lift, Mi.bltV, Mi.intV, Mi.lenV, Mi.binV, Mi.intOp, Mi.cmpV, Mi.truV, Mi.mthV, Mi.recvOk, Mi.listOf, Mi.seqOf, Mi.dOf, Mi.cellL, Mi.srcOf, Mi.srcOk, Mi.setTg, Mi.setAll, Mi.mkL, Mi.toDs, Mi.In_len, Mi.In_app, Mi.In_one, Mi.In_drop, Mi.In_rev, Mi.In_emp, Mi.In_nl, Mi.In_get, Mi.toDs_In, bMoreIn, m1, ap])
  obtain ⟨s, e4, bs, rfl, rfl, h3⟩ := hq
  rw [rng_len] at h3
  refine ⟨is.dropLast.dropLast, bs, bs ++ is.dropLast.dropLast, by simp; omega, ?_⟩
  have m1 : mulOk 1000 (nextI is) = true := rfl
  have hr : rngOk (m : Int) = true := Nat.ble_eq_true_of_le (by omega)
  have ln : lineOk (bs.length + (is.length - 1 - 1)) = true := Nat.ble_eq_true_of_le (by omega)
  simp [Mi.runF, Mi.evSs, Mi.evS, Mi.evE, Mi.evT, Mi.evP, Mi.evEs, Mi.evIt, Mi.lift, Mi.bltV, Mi.intV, Mi.lenV, Mi.binV, Mi.intOp, Mi.cmpV, Mi.truV, Mi.mthV, Mi.recvOk, Mi.listOf, Mi.seqOf, Mi.dOf, Mi.cellL, Mi.srcOf, Mi.srcOk, Mi.setTg, Mi.setAll, Mi.mkL, Mi.toDs, Mi.In_len, Mi.In_app, Mi.In_one, Mi.In_drop, Mi.In_rev, Mi.In_emp, Mi.In_nl, Mi.In_get, Mi.toDs_In, bMore, w1, w2, m1, hr, ef, ln]
theorem callW_cellL {Φ : Nat → List W → M W} {f i j : Nat} {ds : List PyData} {c c' : Cell} {hc : MH} {ws : List W} {h : MH} (hi : h[i]? = some c) (fc : flatC c = true) (e : Φ f (.ref 0 :: ds.map .d) [c] = .ok (.ref (j + 1)) (c' :: hc)) (fc' : flatC c' = true)
    (ej : hc[j]? = some (.lst ws)) (ew : (toDs ws).isSome = true) : callW Φ true f (.ref i :: ds.map .d) h = .ok (.ref h.length) (h.set i c' ++ [.lst ws]) := by
  unfold callW
  have e1 : refsOf (.ref i :: ds.map W.d) = [i] := by simp only [refsOf, refs_d]
  have e2 : renum 0 (.ref i :: ds.map W.d) = .ref 0 :: ds.map .d := by simp only [renum, renum_d]
  have e3 : cellsAt h [i] = some [c] := by simp [cellsAt, hi, fc]
  have e4 : nodupN [i] = true := by simp [nodupN]
  obtain ⟨ys, ey⟩ := Option.isSome_iff_exists.mp ew
  simp [e1, e2, e3, e4, e, putBack, fc', resW, ej, ey]
theorem more_w {P : List FD} {n f g : Nat} (e : P[f]? = some ⟨2, 5, bMore g⟩) (eg : P[g]? = some ⟨1, 1, bNext⟩) (is : List Int) (m : Nat) (hm : m ≤ 10000) (hl : is.length ≤ 1000000) :
    ∃ is' js, js.length ≤ m + is.length ∧ callW (callN P (n + 2)) true f [.ref 0, .d (.int m)] [Dc is] = .ok (.ref 1) [Dc is', Dc js] := by
  obtain ⟨is', bs, js, h1, h2⟩ := more_c (n := n) e eg is m hm hl
  exact ⟨is', js, h1, callW_cellL (i := 0) (h := [Dc is]) (ds := [.int m]) rfl (flat_Dc is) h2 (flat_Dc _) rfl (by rw [toDs_In]; rfl)⟩

/-! ### comprehensions with one name -/
theorem set2 (env : Ev) (i : Nat) (w : W) : (wipeE env [i]).set i (some w) = env.set i (some w) := by
  simp [wipeE]
theorem toDs_of {g : W → PyData} : ∀ ws : List W, toDs (ws.map fun w => .d (g w)) = some (ws.map g)
  | [] => rfl
  | w :: r => by simp [toDs, toDs_of r]
section
variable {Φ : Nat → List W → M W} {it : It} {e : E} {t : T} {i : Nat} {env : Ev} {h h1 : MH} {ws : List W}
/-- nothing changes, one of each -/
theorem comp_data {g : W → PyData} (hi : evIt Φ it env h = .ok (ws, none) h) (hl : ws.length ≤ 16777216) (he : ∀ w ∈ ws, evE Φ e (env.set i (some w)) h = .ok (.d (g w)) h) :
    evE Φ (.comp false [i] [i] false it .yes e) env h = .ok (.d (.list (ws.map g))) h := by
  have q := compL_map (src := (ws, none)) (f := compG (fun env h => evT Φ .yes env h) (fun env h => evE Φ e env h) [i] [i] false env) (g := fun w => .d (g w)) (h := h) rfl ws [] (by simpa using hl) fun w hw => by
    simp only [compG, setTg, set2, evT, bind_ok, if_true, he w hw]
  simp only [evE, hi, bind_ok]
  rw [q]
  simp only [bind_ok, mkL, Bool.false_eq_true, if_false, List.reverse_nil, List.nil_append, toDs_of]
/-- .. the state may change -/
theorem comp_chg (Q : MH → Prop) (P : PyData → Prop) (hi : evIt Φ it env h = .ok (ws, none) h1) (hl : ws.length ≤ 16777216) (q : Q h1) (he : ∀ w ∈ ws, ∀ h, Q h → ∃ d h2, evE Φ e (env.set i (some w)) h = .ok (.d d) h2 ∧ Q h2 ∧ P d) :
    ∃ ds h2, evE Φ (.comp false [i] [i] false it .yes e) env h = .ok (.d (.list ds)) h2 ∧ Q h2 ∧ (∀ d ∈ ds, P d) ∧ ds.length ≤ ws.length := by
  obtain ⟨ys, h2, e1, q2, ds, e2, p2, l2⟩ := compL_inv (src := (ws, none)) (f := compG (fun env h => evT Φ .yes env h) (fun env h => evE Φ e env h) [i] [i] false env) (fun acc h => Q h ∧ ∃ ds : List PyData, acc = ds.map .d ∧ (∀ d ∈ ds, P d) ∧ True) ws [] h1 (by simpa using hl) ⟨q, [], rfl, by simp, trivial⟩ (fun _ _ _ => rfl) fun w acc h hw ⟨q, ds, ea, p, _⟩ => by
    obtain ⟨d, h2, e1, q2, p2⟩ := he w hw h q
    refine .inl ⟨.d d, h2, ?_, q2, d :: ds, by rw [ea]; rfl, fun x hx => ?_, trivial⟩
    · simp only [compG, setTg, set2, evT, bind_ok, if_true, e1]
    · rcases List.mem_cons.mp hx with z | z
      · rw [z]; exact p2
      · exact p x z
  have ll := compL_len ws [] h1 ys.reverse h2 e1
  refine ⟨ds.reverse, h2, ?_, q2, fun d hd => p2 d (List.mem_reverse.mp hd), ?_⟩
  · simp only [evE, hi, bind_ok]
    rw [e1]
    simp only [bind_ok, mkL, Bool.false_eq_true, if_false, e2, ← List.map_reverse, toDs_map]
  · rw [e2] at ll
    simpa using ll
end
end Mi

set_option maxRecDepth 100000
set_option maxHeartbeats 4000000
namespace K21
open PySem Mi

def topS (i : Nat) : Stmt := PySem.Challenge.pw_wherewords_k21_lines_and_forms.main.body.getD i (.Pass ⟨0, 0, 0, 0⟩)
def b_is_integer : Ss :=
  (.cons (.ret (.isi (.var 0) .int))
  .nil)
def s_is_integer : DefS := ⟨"is_integer", topS 10, ["term"], ["term"], ⟨1, 1, b_is_integer⟩⟩
def b_is_row_c1 : E :=
  (.comp false [1] [1] false (.over (.var 0)) .yes (.call 0 false (.cons (.var 1) .nil)))
def b_is_row : Ss :=
  (.cons (.ret (.and (.isi (.var 0) .tuple) (.blt .all (.cons b_is_row_c1 .nil))))
  .nil)
def s_is_row : DefS := ⟨"is_row", topS 11, ["term", "entry"], ["term"], ⟨1, 2, b_is_row⟩⟩
def b_is_network_term : Ss :=
  (.cons (.ret (.and (.isi (.var 0) .tuple) (.and (.cmp .Eq (.blt .len (.cons (.var 0) .nil)) (.lit (.int 2))) (.and (.call 0 false (.cons (.idx (.var 0) (.lit (.int 0))) .nil)) (.call 1 false (.cons (.idx (.var 0) (.lit (.int 1))) .nil))))))
  .nil)
def s_is_network_term : DefS := ⟨"is_network_term", topS 12, ["term"], ["term"], ⟨1, 1, b_is_network_term⟩⟩
def b_are_pairs_c1 : E :=
  (.comp false [1] [1] false (.over (.var 0)) .yes (.call 1 false (.cons (.var 1) .nil)))
def b_are_pairs : Ss :=
  (.cons (.ret (.and (.isi (.var 0) .tuple) (.blt .all (.cons b_are_pairs_c1 .nil))))
  .nil)
def s_are_pairs : DefS := ⟨"are_pairs", topS 13, ["term", "entry"], ["term"], ⟨1, 2, b_are_pairs⟩⟩
def b_is_table_term : Ss :=
  (.cons (.ret (.and (.isi (.var 0) .tuple) (.and (.cmp .Eq (.blt .len (.cons (.var 0) .nil)) (.lit (.int 3))) (.and (.call 2 false (.cons (.slice (.var 0) .no (.at (.lit (.int 2)))) .nil)) (.call 3 false (.cons (.idx (.var 0) (.lit (.int 2))) .nil))))))
  .nil)
def s_is_table_term : DefS := ⟨"is_table_term", topS 14, ["term"], ["term"], ⟨1, 1, b_is_table_term⟩⟩
def b_has_form : Ss :=
  (.cons (.ite (.val (.gdin true "FORMS" [("table", 4), ("network", 2), ("pairs", 3), ("row", 1)] (.var 0)))
  (.cons (.raise 5 none)
  .nil)
  .nil)
  (.cons (.ret (.callg "FORMS" [("table", 4), ("network", 2), ("pairs", 3), ("row", 1)] (.var 0) (.cons (.var 1) .nil)))
  .nil))
def s_has_form : DefS := ⟨"has_form", topS 16, ["thing", "term"], ["thing", "term"], ⟨2, 2, b_has_form⟩⟩
def b_words_of_c1 : E :=
  (.comp false [3] [3] false (.over (.var 2)) .yes (.chain .LtE .LtE (.lit (.str "!")) (.var 3) (.lit (.str "~"))))
def b_words_of_f2 : Ss :=
  (.cons (.ite (.or (.val (.cmp .Eq (.var 2) (.lit (.str "")))) (.not (.val (.blt .all (.cons b_words_of_c1 .nil)))))
  (.cons (.ret (.lit .none))
  .nil)
  .nil)
  .nil)
def b_words_of : Ss :=
  (.cons (.set 1 (.meth .split (.var 0) (.cons (.lit (.str " ")) .nil)))
  (.cons (.for [2] false (.over (.var 1)) b_words_of_f2)
  (.cons (.ret (.var 1))
  .nil)))
def s_words_of : DefS := ⟨"words_of", topS 20, ["line", "words", "word", "char"], ["line"], ⟨1, 4, b_words_of⟩⟩
def b_is_name_c1 : E :=
  (.comp false [1] [1] false (.over (.var 0)) .yes (.cmp .In (.var 1) (.gl "SMALL" (.str "abcdefghijklmnopqrstuvwxyz"))))
def b_is_name : Ss :=
  (.cons (.ret (.and (.chain .LtE .LtE (.lit (.int 1)) (.blt .len (.cons (.var 0) .nil)) (.lit (.int 12))) (.blt .all (.cons b_is_name_c1 .nil))))
  .nil)
def s_is_name : DefS := ⟨"is_name", topS 21, ["word", "char"], ["word"], ⟨1, 2, b_is_name⟩⟩
def b_number_in_c1 : E :=
  (.comp false [1] [1] false (.over (.var 0)) .yes (.cmp .In (.var 1) (.gl "FIGURES" (.str "0123456789"))))
def b_number_in : Ss :=
  (.cons (.ite (.or (.not (.val (.chain .LtE .LtE (.lit (.int 1)) (.blt .len (.cons (.var 0) .nil)) (.lit (.int 2))))) (.not (.val (.blt .all (.cons b_number_in_c1 .nil)))))
  (.cons (.ret (.lit .none))
  .nil)
  .nil)
  (.cons (.ite (.and (.val (.cmp .Eq (.blt .len (.cons (.var 0) .nil)) (.lit (.int 2)))) (.val (.cmp .Eq (.idx (.var 0) (.lit (.int 0))) (.lit (.str "0")))))
  (.cons (.ret (.lit .none))
  .nil)
  .nil)
  (.cons (.ret (.blt .int (.cons (.var 0) .nil)))
  .nil)))
def s_number_in : DefS := ⟨"number_in", topS 22, ["word", "char"], ["word"], ⟨1, 2, b_number_in⟩⟩
def b_law_number : Ss :=
  (.cons (.ite (.val (.cmp .Lt (.var 0) (.lit (.int 0))))
  (.cons (.ret (.bin false .Sub (.lit (.int 0)) (.var 0)))
  .nil)
  .nil)
  (.cons (.ret (.var 0))
  .nil))
def s_law_number : DefS := ⟨"_law_number", topS 24, ["cell"], ["cell"], ⟨1, 1, b_law_number⟩⟩
def b_law_draws_f1 : Ss :=
  (.cons (.ite (.val (.cmp .Eq (.var 3) (.lit (.int 0))))
  (.cons .brk
  .nil)
  .nil)
  (.cons (.ex (.meth .append (.var 1) (.cons (.bin false .Mod (.blt .int (.cons (.var 3) .nil)) (.lit (.int 1000))) .nil)))
  (.cons (.set 3 (.bin false .FloorDiv (.var 3) (.lit (.int 1000))))
  .nil)))
def b_law_draws_f2 : Ss :=
  (.cons (.set 3 (.call 9 false (.cons (.var 2) .nil)))
  (.cons (.ite (.val (.cmp .GtE (.var 3) (.lit (.int 1000000000000000000))))
  (.cons (.for [4] false (.rng1 (.lit (.int 60))) b_law_draws_f1)
  .nil)
  (.cons (.set 5 (.bin false .Mod (.blt .int (.cons (.bin false .Add (.bin false .Mult (.var 3) (.lit (.int 48271))) (.lit (.int 11))) .nil)) (.lit (.int 2147483647))))
  (.cons (.set 6 (.bin false .Mod (.blt .int (.cons (.bin false .Add (.bin false .Mult (.var 5) (.lit (.int 69621))) (.var 3)) .nil)) (.lit (.int 2147483629))))
  (.cons (.ex (.meth .extend (.var 1) (.cons (.lst false (.cons (.bin false .Mod (.blt .int (.cons (.var 3) .nil)) (.lit (.int 1000))) (.cons (.bin false .Mod (.blt .int (.cons (.var 5) .nil)) (.lit (.int 1000))) (.cons (.bin false .Mod (.blt .int (.cons (.var 6) .nil)) (.lit (.int 1000))) .nil)))) .nil)))
  .nil))))
  .nil))
def b_law_draws : Ss :=
  (.cons (.set 1 (.lst true .nil))
  (.cons (.for [2] false (.over (.var 0)) b_law_draws_f2)
  (.cons (.ex (.meth .reverse (.var 1) .nil))
  (.cons (.ret (.var 1))
  .nil))))
def s_law_draws : DefS := ⟨"_law_draws", topS 25, ["script", "draws", "cell", "rest", "k", "once", "twice"], ["script"], ⟨1, 7, b_law_draws⟩⟩
def b_law_next : Ss :=
  (.cons (.ite (.val (.var 0))
  (.cons (.ret (.meth .pop (.var 0) .nil))
  .nil)
  .nil)
  (.cons (.ret (.lit (.int 0)))
  .nil))
def s_law_next : DefS := ⟨"_law_next", topS 26, ["draws"], ["draws"], ⟨1, 1, b_law_next⟩⟩
def b_law_more_f1 : Ss :=
  (.cons (.set 2 (.bin false .Mod (.blt .int (.cons (.bin false .Add (.bin false .Mult (.var 2) (.lit (.int 48271))) (.lit (.int 12345))) .nil)) (.lit (.int 2147483647))))
  (.cons (.ex (.meth .append (.var 3) (.cons (.bin false .Mod (.blt .int (.cons (.bin false .FloorDiv (.var 2) (.lit (.int 7))) .nil)) (.lit (.int 1000))) .nil)))
  .nil))
def b_law_more : Ss :=
  (.cons (.set 2 (.bin false .Add (.bin false .Add (.bin false .Mult (.lit (.int 1000)) (.call 11 false (.cons (.var 0) .nil))) (.call 11 false (.cons (.var 0) .nil))) (.lit (.int 1))))
  (.cons (.set 3 (.lst true .nil))
  (.cons (.for [4] false (.rng1 (.var 1)) b_law_more_f1)
  (.cons (.ret (.bin true .Add (.var 3) (.var 0)))
  .nil))))
def s_law_more : DefS := ⟨"_law_more", topS 27, ["draws", "many", "seed", "more", "k"], ["draws", "many"], ⟨2, 5, b_law_more⟩⟩
def b_law_pick : Ss :=
  (.cons (.ret (.idx (.var 1) (.bin false .Mod (.blt .int (.cons (.call 11 false (.cons (.var 0) .nil)) .nil)) (.blt .len (.cons (.var 1) .nil)))))
  .nil)
def s_law_pick : DefS := ⟨"_law_pick", topS 28, ["draws", "some"], ["draws", "some"], ⟨2, 2, b_law_pick⟩⟩
def b_law_kind : Ss :=
  (.cons (.set 1 (.lst false (.cons (.lit (.str "table")) (.cons (.lit (.str "network")) (.cons (.lit (.str "scene")) (.cons (.lit (.str "paper")) (.cons (.lit (.str "number")) (.cons (.lit (.str "none")) (.cons (.lit (.str "large")) .nil)))))))))
  (.cons (.set 2 (.lst false (.cons (.isx (.var 0) 1) (.cons (.isx (.var 0) 2) (.cons (.isx (.var 0) 3) (.cons (.isx (.var 0) 4) .nil))))))
  (.cons (.set 2 (.bin false .Add (.var 2) (.lst false (.cons (.isx (.var 0) 5) (.cons (.isx (.var 0) 6) (.cons (.isx (.var 0) 7) .nil))))))
  (.cons (.ret (.ite (.val (.cmp .Eq (.meth .count (.var 2) (.cons (.lit (.bool true)) .nil)) (.lit (.int 1)))) (.bin false .Add (.lit (.str "!")) (.idx (.var 1) (.meth .index (.var 2) (.cons (.lit (.bool true)) .nil)))) (.lit (.str "!other"))))
  .nil))))
def s_law_kind : DefS := ⟨"_law_kind", topS 29, ["error", "names", "found"], ["error"], ⟨1, 3, b_law_kind⟩⟩
def b_law_line_c1 : E :=
  (.comp false [3] [3] false (.over (.var 2)) .yes (.chain .LtE .LtE (.lit (.str "!")) (.var 3) (.lit (.str "~"))))
def b_law_line_f2 : Ss :=
  (.cons (.ite (.or (.val (.cmp .Eq (.var 2) (.lit (.str "")))) (.not (.val (.blt .all (.cons b_law_line_c1 .nil)))))
  (.cons (.ret (.lit .none))
  .nil)
  .nil)
  .nil)
def b_law_line : Ss :=
  (.cons (.set 1 (.meth .split (.var 0) (.cons (.lit (.str " ")) .nil)))
  (.cons (.for [2] false (.over (.var 1)) b_law_line_f2)
  (.cons (.ret (.var 1))
  .nil)))
def s_law_line : DefS := ⟨"_law_line", topS 30, ["line", "words", "word", "sign"], ["line"], ⟨1, 4, b_law_line⟩⟩
def b_law_number_of_c1 : E :=
  (.comp false [1] [1] false (.rng1 (.lit (.int 100))) .yes (.blt .str (.cons (.var 1) .nil)))
def b_law_number_of : Ss :=
  (.cons (.ret (.ite (.val (.cmp .In (.var 0) b_law_number_of_c1)) (.blt .int (.cons (.var 0) .nil)) (.lit .none)))
  .nil)
def s_law_number_of : DefS := ⟨"_law_number_of", topS 31, ["word", "k"], ["word"], ⟨1, 2, b_law_number_of⟩⟩
def b_law_is_row_c1 : E :=
  (.comp false [1] [1] false (.over (.var 0)) .yes (.isi (.var 1) .int))
def b_law_is_row : Ss :=
  (.cons (.ret (.and (.isi (.var 0) .tuple) (.blt .all (.cons b_law_is_row_c1 .nil))))
  .nil)
def s_law_is_row : DefS := ⟨"_law_is_row", topS 32, ["term", "entry"], ["term"], ⟨1, 2, b_law_is_row⟩⟩
def b_law_due_c1 : E :=
  (.comp false [2] [2] false (.over (.var 1)) .yes (.call 17 false (.cons (.var 2) .nil)))
def b_law_due_c2 : E :=
  (.comp false [2] [2] false (.over (.idx (.var 1) (.lit (.int 2)))) .yes (.call 17 false (.cons (.var 2) .nil)))
def b_law_due : Ss :=
  (.cons (.ite (.val (.cmp .Eq (.var 0) (.lit (.str "row"))))
  (.cons (.ret (.call 17 false (.cons (.var 1) .nil)))
  .nil)
  .nil)
  (.cons (.ite (.val (.cmp .Eq (.var 0) (.lit (.str "pairs"))))
  (.cons (.ret (.and (.isi (.var 1) .tuple) (.blt .all (.cons b_law_due_c1 .nil))))
  .nil)
  .nil)
  (.cons (.ite (.or (.not (.val (.isi (.var 1) .tuple))) (.val (.cmp .NotEq (.blt .len (.cons (.var 1) .nil)) (.dget [("network", (.int 2)), ("table", (.int 3))] (.var 0)))))
  (.cons (.ret (.lit (.bool false)))
  .nil)
  .nil)
  (.cons (.ret (.and (.isi (.idx (.var 1) (.lit (.int 0))) .int) (.and (.call 17 false (.cons (.idx (.var 1) (.lit (.int 1))) .nil)) (.or (.cmp .Eq (.var 0) (.lit (.str "network"))) (.and (.isi (.idx (.var 1) (.lit (.int 2))) .tuple) (.blt .all (.cons b_law_due_c2 .nil)))))))
  .nil))))
def s_law_due : DefS := ⟨"_law_due", topS 33, ["thing", "term", "entry"], ["thing", "term"], ⟨2, 3, b_law_due⟩⟩
def b_law_spoilt_s1 : S :=
  (.ite (.or (.not (.val (.isi (.var 1) .tuple))) (.val (.cmp .Eq (.bin false .Mod (.blt .int (.cons (.call 11 false (.cons (.var 0) .nil)) .nil)) (.lit (.int 6))) (.lit (.int 0)))))
  (.cons (.ret (.call 13 false (.cons (.var 0) (.cons (.lst false (.cons (.lit .none) (.cons (.lit (.str "ada")) (.cons (.lit (.str "")) (.cons (.lit (.int 5)) (.cons (.tup .nil) (.cons (.tup (.cons (.lit (.int 1)) .nil)) (.cons (.tup (.cons (.tup .nil) .nil)) (.cons (.tup (.cons (.lit (.str "a")) .nil)) (.cons (.var 1) .nil)))))))))) .nil))))
  .nil)
  .nil)
def b_law_spoilt_s2 : S :=
  (.ite (.val (.cmp .Eq (.var 1) (.tup .nil)))
  (.cons (.ret (.call 13 false (.cons (.var 0) (.cons (.lst false (.cons (.tup (.cons (.lit (.int 0)) .nil)) (.cons (.tup (.cons (.lit (.str "")) .nil)) (.cons (.tup (.cons (.tup .nil) .nil)) (.cons (.lit .none) .nil))))) .nil))))
  .nil)
  .nil)
def b_law_spoilt_s3 : S :=
  (.set 2 (.bin false .Mod (.blt .int (.cons (.call 11 false (.cons (.var 0) .nil)) .nil)) (.blt .len (.cons (.var 1) .nil))))
def b_law_spoilt_s4 : S :=
  (.set 3 (.bin false .Mod (.blt .int (.cons (.call 11 false (.cons (.var 0) .nil)) .nil)) (.lit (.int 5))))
def b_law_spoilt_s5 : S :=
  (.ite (.val (.cmp .Eq (.var 3) (.lit (.int 0))))
  (.cons (.ret (.bin false .Add (.slice (.var 1) .no (.at (.var 2))) (.slice (.var 1) (.at (.bin false .Add (.var 2) (.lit (.int 1)))) .no)))
  .nil)
  .nil)
def b_law_spoilt_s6 : S :=
  (.ret (.ite (.val (.cmp .Eq (.var 3) (.lit (.int 1)))) (.bin false .Add (.var 1) (.slice (.var 1) (.at (.var 2)) (.at (.bin false .Add (.var 2) (.lit (.int 1)))))) (.bin false .Add (.bin false .Add (.slice (.var 1) .no (.at (.var 2))) (.tup (.cons (.call 19 false (.cons (.var 0) (.cons (.idx (.var 1) (.var 2)) .nil))) .nil))) (.slice (.var 1) (.at (.bin false .Add (.var 2) (.lit (.int 1)))) .no))))
def b_law_spoilt : Ss :=
  (.cons b_law_spoilt_s1
  (.cons b_law_spoilt_s2
  (.cons b_law_spoilt_s3
  (.cons b_law_spoilt_s4
  (.cons b_law_spoilt_s5
  (.cons b_law_spoilt_s6
  .nil))))))
def s_law_spoilt : DefS := ⟨"_law_spoilt", topS 34, ["draws", "term", "at", "kind"], ["draws", "term"], ⟨2, 4, b_law_spoilt⟩⟩
def b_law_c1 : E :=
  (.comp false [10] [10] false (.rng1 (.bin false .Mod (.blt .int (.cons (.call 11 false (.cons (.var 1) .nil)) .nil)) (.lit (.int 9)))) .yes (.call 13 false (.cons (.var 1) (.cons (.lst false (.cons (.lit (.str "a")) (.cons (.lit (.str "b")) (.cons (.lit (.str " ")) (.cons (.lit (.str "0")) (.cons (.lit (.str "7")) (.cons (.lit (.str "~")) (.cons (.lit (.str "!")) (.cons (.lit (.str "(")) (.cons (.lit (.str "A")) (.cons (.lit (.str "\t")) (.cons (.lit (.str "-")) (.cons (.lit (.str "z")) (.cons (.lit (.str "  ")) .nil)))))))))))))) .nil))))
def b_law_c2 : E :=
  (.comp false [10] [10] false (.rng1 (.bin false .Mod (.blt .int (.cons (.call 11 false (.cons (.var 1) .nil)) .nil)) (.lit (.int 15)))) .yes (.call 13 false (.cons (.var 1) (.cons (.lst false (.cons (.lit (.str "a")) (.cons (.lit (.str "k")) (.cons (.lit (.str "z")) (.cons (.lit (.str "9")) (.cons (.lit (.str "0")) (.cons (.lit (.str "1")) (.cons (.lit (.str "")) (.cons (.lit (.str "")) (.cons (.lit (.str "B")) .nil)))))))))) .nil))))
def b_law_c3 : E :=
  (.comp false [12] [12] false (.over (.var 7)) .yes (.cmp .In (.var 12) (.lit (.str "abcdefghijklmnopqrstuvwxyz"))))
def b_law_f4 : Ss :=
  (.cons (.set 6 (.meth .join (.lit (.str "")) (.cons b_law_c1 .nil)))
  (.cons (.ite (.val (.cmp .NotEq (.blt .repr (.cons (.call 6 false (.cons (.var 6) .nil)) .nil)) (.blt .repr (.cons (.call 15 false (.cons (.var 6) .nil)) .nil))))
  (.cons (.ret (.lit (.bool false)))
  .nil)
  .nil)
  (.cons (.set 7 (.meth .join (.lit (.str "")) (.cons b_law_c2 .nil)))
  (.cons (.set 8 (.and (.chain .LtE .LtE (.lit (.int 1)) (.blt .len (.cons (.var 7) .nil)) (.lit (.int 12))) (.blt .all (.cons b_law_c3 .nil))))
  (.cons (.ite (.val (.cmp .NotEq (.blt .repr (.cons (.lst false (.cons (.call 7 false (.cons (.var 7) .nil)) (.cons (.call 8 false (.cons (.var 7) .nil)) .nil))) .nil)) (.blt .repr (.cons (.lst false (.cons (.var 8) (.cons (.call 16 false (.cons (.var 7) .nil)) .nil))) .nil))))
  (.cons (.ret (.lit (.bool false)))
  .nil)
  .nil)
  .nil)))))
def b_law_c5 : E :=
  (.comp false [7] [7] false (.over (.lst false (.cons (.lit (.str "")) (.cons (.lit (.str "0")) (.cons (.lit (.str "00")) (.cons (.lit (.str "100")) (.cons (.lit (.str "-1")) (.cons (.lit (.str "5")) (.cons (.lit (.str "+5")) (.cons (.lit (.str " 5")) (.cons (.lit (.str "5 ")) .nil))))))))))) .yes (.blt .repr (.cons (.call 8 false (.cons (.var 7) .nil)) .nil)))
def b_law_c6 : E :=
  (.comp false [2] [2] false (.rng1 (.lit (.int 12))) .yes (.call 19 false (.cons (.var 1) (.cons (.call 13 false (.cons (.var 1) (.cons (.var 3) .nil))) .nil))))
def b_law_c7 : E :=
  (.comp false [11] [11] false (.over (.lst false (.cons (.lit (.str "table")) (.cons (.lit (.str "network")) (.cons (.lit (.str "pairs")) (.cons (.lit (.str "row")) .nil)))))) .yes (.call 5 false (.cons (.var 11) (.cons (.var 4) .nil))))
def b_law_c8 : E :=
  (.comp false [11] [11] false (.over (.lst false (.cons (.lit (.str "table")) (.cons (.lit (.str "network")) (.cons (.lit (.str "pairs")) (.cons (.lit (.str "row")) .nil)))))) .yes (.call 18 false (.cons (.var 11) (.cons (.var 4) .nil))))
def b_law_f9 : Ss :=
  (.cons (.ite (.val (.cmp .NotEq b_law_c7 b_law_c8))
  (.cons (.ret (.lit (.bool false)))
  .nil)
  .nil)
  .nil)
def b_law_f10 : Ss :=
  (.cons (.try1 (.cons (.ex (.call 5 false (.cons (.var 5) (.cons (.tup .nil) .nil))))
  (.cons (.ret (.lit (.bool false)))
  .nil)) 0 (some 9)
  (.cons (.ite (.val (.cmp .NotEq (.call 14 false (.cons (.var 9) .nil)) (.lit (.str "!number"))))
  (.cons (.ret (.lit (.bool false)))
  .nil)
  .nil)
  .nil))
  .nil)
def b_law_s11 : S :=
  (.set 1 (.call 10 true (.cons (.var 0) .nil)))
def b_law_s12 : S :=
  (.set 1 (.call 12 true (.cons (.var 1) (.cons (.lit (.int 200)) .nil))))
def b_law_s13 : S :=
  (.ite (.val (.cmp .NotEq (.lst false (.cons (.call 6 false (.cons (.lit (.str "a b")) .nil)) (.cons (.call 7 false (.cons (.lit (.str "abcdefghijkl")) .nil)) (.cons (.call 7 false (.cons (.lit (.str "abcdefghijklm")) .nil)) (.cons (.call 8 false (.cons (.lit (.str "07")) .nil)) (.cons (.call 8 false (.cons (.lit (.str "99")) .nil)) .nil)))))) (.lst false (.cons (.lst false (.cons (.lit (.str "a")) (.cons (.lit (.str "b")) .nil))) (.cons (.lit (.bool true)) (.cons (.lit (.bool false)) (.cons (.lit .none) (.cons (.lit (.int 99)) .nil))))))))
  (.cons (.ret (.lit (.bool false)))
  .nil)
  .nil)
def b_law_s14 : S :=
  (.for [2] false (.rng1 (.lit (.int 6))) b_law_f4)
def b_law_s15 : S :=
  (.ite (.val (.cmp .NotEq b_law_c5 (.lst false (.cons (.lit (.str "None")) (.cons (.lit (.str "0")) (.cons (.lit (.str "None")) (.cons (.lit (.str "None")) (.cons (.lit (.str "None")) (.cons (.lit (.str "5")) (.cons (.lit (.str "None")) (.cons (.lit (.str "None")) (.cons (.lit (.str "None")) .nil))))))))))))
  (.cons (.ret (.lit (.bool false)))
  .nil)
  .nil)
def b_law_s16 : S :=
  (.set 3 (.lst false (.cons (.tup (.cons (.lit (.int 3)) (.cons (.tup (.cons (.lit (.int 2)) (.cons (.lit (.int 2)) (.cons (.lit (.int 4)) .nil)))) .nil))) (.cons (.tup (.cons (.lit (.int 1)) (.cons (.tup (.cons (.lit (.int 0)) .nil)) (.cons (.tup (.cons (.tup (.cons (.lit (.int 0)) (.cons (.lit (.int 0)) (.cons (.lit (.int 0)) .nil)))) .nil)) .nil)))) (.cons (.tup (.cons (.tup (.cons (.lit (.int 0)) (.cons (.lit (.int 1)) .nil))) (.cons (.tup (.cons (.lit (.int 2)) (.cons (.lit (.int 0)) .nil))) .nil))) (.cons (.tup (.cons (.lit (.int 0)) (.cons (.lit (.int 1)) (.cons (.lit (.int 1)) .nil)))) (.cons (.tup (.cons (.lit (.int 2)) (.cons (.tup (.cons (.lit (.int 0)) .nil)) (.cons (.lit (.int 1)) .nil)))) .nil)))))))
def b_law_s17 : S :=
  (.for [4] false (.over (.bin false .Add (.bin false .Add (.var 3) b_law_c6) (.lst false (.cons (.tup .nil) (.cons (.lit .none) (.cons (.lit (.str "")) (.cons (.lit (.int 0)) .nil))))))) b_law_f9)
def b_law_s18 : S :=
  (.for [5] false (.over (.lst false (.cons (.lit (.str "")) (.cons (.lit (.str "Form")) (.cons (.lit (.str "term")) .nil))))) b_law_f10)
def b_law_s19 : S :=
  (.ret (.lit (.bool true)))
def b_law : Ss :=
  (.cons b_law_s11
  (.cons b_law_s12
  (.cons b_law_s13
  (.cons b_law_s14
  (.cons b_law_s15
  (.cons b_law_s16
  (.cons b_law_s17
  (.cons b_law_s18
  (.cons b_law_s19
  .nil)))))))))
def s_law : DefS := ⟨"law", topS 35, ["script", "draws", "turn", "terms", "term", "wrong", "line", "word", "small", "error", "at", "thing", "sign"], ["script"], ⟨1, 13, b_law⟩⟩
def ds : List DefS := [s_is_integer, s_is_row, s_is_network_term, s_are_pairs, s_is_table_term, s_has_form, s_words_of, s_is_name, s_number_in, s_law_number, s_law_draws, s_law_next, s_law_more, s_law_pick, s_law_kind, s_law_line, s_law_number_of, s_law_is_row, s_law_due, s_law_spoilt, s_law]
def info : Info := {
  fns := [("is_integer", 1), ("is_row", 1), ("is_network_term", 1), ("are_pairs", 1), ("is_table_term", 1), ("has_form", 2), ("words_of", 1), ("is_name", 1), ("number_in", 1), ("_law_number", 1), ("_law_draws", 1), ("_law_next", 1), ("_law_more", 2), ("_law_pick", 2), ("_law_kind", 1), ("_law_line", 1), ("_law_number_of", 1), ("_law_is_row", 1), ("_law_due", 2), ("_law_spoilt", 2), ("law", 1)],
  clss := ["WhereError", "NotTable", "NotNetwork", "NotScene", "NotPaper", "BadNumber", "NoAnswer", "TooLarge"],
  blts := ["all", "int", "isinstance", "len", "range", "repr", "str", "tuple"],
  gls := [("SMALL", (.str "abcdefghijklmnopqrstuvwxyz")), ("FIGURES", (.str "0123456789"))],
  tabs := [("FORMS", [("table", 4), ("network", 2), ("pairs", 3), ("row", 1)])],
  hot := false, hfns := [14] }
abbrev f_is_integer : Nat := 0
abbrev f_is_row : Nat := 1
abbrev f_is_network_term : Nat := 2
abbrev f_are_pairs : Nat := 3
abbrev f_is_table_term : Nat := 4
abbrev f_has_form : Nat := 5
abbrev f_words_of : Nat := 6
abbrev f_is_name : Nat := 7
abbrev f_number_in : Nat := 8
abbrev f_law_number : Nat := 9
abbrev f_law_draws : Nat := 10
abbrev f_law_next : Nat := 11
abbrev f_law_more : Nat := 12
abbrev f_law_pick : Nat := 13
abbrev f_law_kind : Nat := 14
abbrev f_law_line : Nat := 15
abbrev f_law_number_of : Nat := 16
abbrev f_law_is_row : Nat := 17
abbrev f_law_due : Nat := 18
abbrev f_law_spoilt : Nat := 19
abbrev f_law : Nat := 20
end K21

set_option maxRecDepth 100000
set_option maxHeartbeats 4000000
namespace K21
open PySem PySem.Spec PyProof.Rows L2 Mi
theorem bd : ∀ x ∈ ds, BindOk x := by
  intro x hx
  simp only [ds, List.mem_cons, List.not_mem_nil, or_false] at hx
  rcases hx with rfl | rfl | rfl | rfl | rfl | rfl | rfl | rfl | rfl | rfl | rfl | rfl | rfl | rfl | rfl | rfl | rfl | rfl | rfl | rfl | rfl
  all_goals
    intro kV doc pm an cdv ct us hl
    first
    | (match us, hl with | [_], _ => rfl)
    | (match us, hl with | [_, _], _ => rfl)
theorem st_all : (ds.zipIdx.all fun q => defB info q.2 q.1) = true := by decide +kernel
theorem stat (i : Nat) (x : DefS) (h : ds[i]? = some x) : defB info i x = true := by
  have := List.all_eq_true.mp st_all (x, i) (by rw [List.mem_zipIdx_iff_getElem?]; exact h)
  exact this
abbrev R : PySem.W.OpenRow := PySem.W.OpenLaw.row PySem.Challenge.rw_wherewords_k21_lines_and_forms
abbrev fn : List He.DefD := ds.map (·.d)
abbrev hk : PySem.W.Hook := He.hookX 4 (faOf info) fn (tsOf info) [] (exB info)
def ob (s : PySem.W.SharedT) : He.AlX := He.obsX 4 (faOf info) fn (tsOf info) [] (exB info) (HandSHeadRun.getT s)
theorem ob_eq (s : PySem.W.SharedT) : ob s = hk.obs s.abs := He.obsX_eq (HandSHeadRun.getT_eq s)
def loose1 : List Str := ["WhereError", "NotTable", "NotNetwork", "NotScene", "NotPaper", "BadNumber", "NoAnswer", "TooLarge"]
def loose2 : List Str := ["is_integer", "is_row", "is_network_term", "are_pairs", "is_table_term", "FORMS", "has_form", "SMALL", "FIGURES", "words_of", "is_name", "number_in"]
def loose3 : List Str := ["_law_number", "_law_draws", "_law_next", "_law_more", "_law_pick", "_law_kind", "_law_line", "_law_number_of", "_law_is_row", "_law_due", "_law_spoilt"]
def loose : List Str := loose1 ++ (loose2 ++ loose3)
end K21

set_option maxRecDepth 100000
set_option maxHeartbeats 4000000
namespace K21
open PySem PySem.Spec PyProof.Rows L2 Mi
theorem run (w : World) : HandSHeadRun.RunEq R (PySem.W.view R.prog [35]) hk ob 6000 loose w := by
  refine PySem.W.byRow2 "special-get-raises" (P := fun w => HandSHeadRun.RunEq R (PySem.W.view R.prog [35]) hk ob 6000 loose w) (fun w => ?_) (fun w => ?_) w
  · intro os
    kernel_rfl
  · intro os
    kernel_rfl
end K21

set_option maxRecDepth 100000
set_option maxHeartbeats 1000000
namespace K21
open PySem L2 Mi
def pr : List FD := ds.map (·.F)
/-! ### forms -/
mutual
/-- no dict, no long tuple -/
def okD : PyData → Bool
  | .dict _ => false
  | .list xs => okDs xs
  | .tuple xs => Nat.ble xs.length 1000 && okDs xs
  | _ => true
def okDs : List PyData → Bool
  | [] => true
  | x :: r => okD x && okDs r
end
theorem okDs_mem : ∀ {xs : List PyData} {x : PyData}, okDs xs = true → x ∈ xs → okD x = true
  | y :: r, x, h, hx => by
    simp only [okDs, Bool.and_eq_true] at h
    rcases List.mem_cons.mp hx with z | z
    · rw [z]; exact h.1
    · exact okDs_mem h.2 z
theorem okDs_of : ∀ {xs : List PyData}, (∀ x ∈ xs, okD x = true) → okDs xs = true
  | [], _ => rfl
  | y :: r, h => by
    simp only [okDs, Bool.and_eq_true]
    exact ⟨h y List.mem_cons_self, okDs_of fun x hx => h x (List.mem_cons_of_mem _ hx)⟩
theorem okD_tup {xs : List PyData} (h : okD (.tuple xs) = true) : xs.length ≤ 1000 ∧ ∀ x ∈ xs, okD x = true := by
  simp only [okD, Bool.and_eq_true] at h
  exact ⟨Nat.le_of_ble_eq_true h.1, fun x hx => okDs_mem h.2 hx⟩
theorem okD_tupI {xs : List PyData} (l : xs.length ≤ 1000) (h : ∀ x ∈ xs, okD x = true) : okD (.tuple xs) = true := by
  simp only [okD, Bool.and_eq_true]
  exact ⟨Nat.ble_eq_true_of_le l, okDs_of h⟩
def isInt : PyData → Bool
  | .int _ => true
  | .bool _ => true
  | _ => false
def isTup : PyData → Bool
  | .tuple _ => true
  | _ => false
theorem isi_int {d : PyData} {h : MH} (n : okD d = true) : isiV (.d d) .int h = some (isInt d) := by
  cases d <;> first | rfl | (cases n)
theorem isi_tup {d : PyData} {h : MH} (n : okD d = true) : isiV (.d d) .tuple h = some (isTup d) := by
  cases d <;> first | rfl | (cases n)
theorem is_integer_w {n : Nat} {mu : Bool} {d : PyData} (h : MH) (nd : okD d = true) : callW (callN pr (n + 1)) mu 0 [.d d] h = .ok (.d (.bool (isInt d))) h := by
  refine callW_data (ds := [d]) (hc := []) h ?_
  rw [callN_eq (fd := ⟨1, 1, b_is_integer⟩) rfl]
  simp [Mi.runF, Mi.evSs, Mi.evS, Mi.evE, Mi.evT, Mi.evP, Mi.evEs, Mi.evIt, Mi.lift, Mi.bltV, Mi.intV, Mi.lenV, Mi.binV, Mi.intOp, Mi.cmpV, Mi.truV, Mi.mthV, Mi.recvOk, Mi.listOf, Mi.seqOf, Mi.dOf, Mi.cellL, Mi.srcOf, Mi.srcOk, Mi.setTg, Mi.setAll, Mi.mkL, Mi.toDs, Mi.In_len, Mi.In_app, Mi.In_one, Mi.In_drop, Mi.In_rev, Mi.In_emp, Mi.In_nl, Mi.In_get, Mi.toDs_In, b_is_integer, isi_int nd]
theorem bools_of {g : PyData → Bool} : ∀ xs : List PyData, bools (xs.map fun x => .d (.bool (g x))) = some (xs.map g)
  | [] => rfl
  | x :: r => by simp [bools, bools_of r]
theorem all_w {g : PyData → Bool} {xs : List PyData} {h : MH} {p : List Bool → Bool} : boolsV p [.d (.list (xs.map fun x => .bool (g x)))] h = .ok (.d (.bool (p (xs.map g)))) h := by
  simp [boolsV, Mi.listOf, lift]
  rw [show (List.map (W.d ∘ fun x => PyData.bool (g x)) xs) = xs.map fun x => W.d (.bool (g x)) from rfl, bools_of]
  rfl
/-- all([f(x) for x in a tuple]) by a fact of each -/
theorem all_comp {Φ : Nat → List W → M W} {e a : E} {i : Nat} {env : Ev} {h : MH} {xs : List PyData} {g : PyData → Bool} (ha : evE Φ a env h = .ok (.d (.tuple xs)) h) (hl : xs.length ≤ 16777216) (he : ∀ x ∈ xs, evE Φ e (env.set i (some (.d x))) h = .ok (.d (.bool (g x))) h) :
    evE Φ (.comp false [i] [i] false (.over a) .yes e) env h = .ok (.d (.list (xs.map fun x => .bool (g x)))) h := by
  have := comp_data (Φ := Φ) (it := .over a) (e := e) (i := i) (env := env) (h := h) (ws := xs.map .d) (g := fun w => match w with
    | .d x => .bool (g x)
    | _ => .none) (by simp [evIt, ha, lift, srcOf]) (by simpa using hl) (fun w hw => by
      obtain ⟨x, hx, rfl⟩ := List.mem_map.mp hw
      exact he x hx)
  rw [this, List.map_map]
  rfl
def rowB : PyData → Bool
  | .tuple xs => xs.all isInt
  | _ => false
theorem tup_or (d : PyData) : (∃ xs, d = .tuple xs) ∨ (isTup d = false ∧ ∀ xs, d ≠ .tuple xs) := by
  cases d <;> first | exact .inl ⟨_, rfl⟩ | exact .inr ⟨rfl, fun _ h => nomatch h⟩
theorem is_row_w {n : Nat} {mu : Bool} {d : PyData} (h : MH) (F : okD d = true) : callW (callN pr (n + 2)) mu 1 [.d d] h = .ok (.d (.bool (rowB d))) h := by
  refine callW_data (ds := [d]) (hc := []) h ?_
  rw [callN_eq (fd := ⟨1, 2, b_is_row⟩) rfl]
  rcases tup_or d with ⟨xs, rfl⟩ | ⟨ht, hn⟩
  · obtain ⟨l, s⟩ := okD_tup F
    have c : evE (callN pr (n + 1)) b_is_row_c1 [some (.d (.tuple xs)), none] [] = .ok (.d (.list (xs.map fun x => .bool (isInt x)))) [] :=
      all_comp (by simp [evE, lift]) (by omega) fun x hx => by simp [evE, evEs, lift, is_integer_w [] (s x hx)]
    have a := all_w (g := isInt) (xs := xs) (h := []) (p := fun bs => bs.all id)
    simp [Mi.runF, Mi.evSs, Mi.evS, Mi.evE, Mi.evT, Mi.evP, Mi.evEs, Mi.evIt, Mi.lift, Mi.bltV, Mi.intV, Mi.lenV, Mi.binV, Mi.intOp, Mi.cmpV, Mi.truV, Mi.mthV, Mi.recvOk, Mi.listOf, Mi.seqOf, Mi.dOf, Mi.cellL, Mi.srcOf, Mi.srcOk, Mi.setTg, Mi.setAll, Mi.mkL, Mi.toDs, Mi.In_len, Mi.In_app, Mi.In_one, Mi.In_drop, Mi.In_rev, Mi.In_emp, Mi.In_nl, Mi.In_get, Mi.toDs_In, b_is_row, isiV, c, a, rowB]
  · have : rowB d = false := by
      cases d <;> first | rfl | exact absurd rfl (hn _)
    simp [Mi.runF, Mi.evSs, Mi.evS, Mi.evE, Mi.evT, Mi.evP, Mi.evEs, Mi.evIt, Mi.lift, Mi.bltV, Mi.intV, Mi.lenV, Mi.binV, Mi.intOp, Mi.cmpV, Mi.truV, Mi.mthV, Mi.recvOk, Mi.listOf, Mi.seqOf, Mi.dOf, Mi.cellL, Mi.srcOf, Mi.srcOk, Mi.setTg, Mi.setAll, Mi.mkL, Mi.toDs, Mi.In_len, Mi.In_app, Mi.In_one, Mi.In_drop, Mi.In_rev, Mi.In_emp, Mi.In_nl, Mi.In_get, Mi.toDs_In, b_is_row, isi_tup F, ht, this]
def pairsB : PyData → Bool
  | .tuple xs => xs.all rowB
  | _ => false
theorem are_pairs_w {n : Nat} {mu : Bool} {d : PyData} (h : MH) (F : okD d = true) : callW (callN pr (n + 3)) mu 3 [.d d] h = .ok (.d (.bool (pairsB d))) h := by
  refine callW_data (ds := [d]) (hc := []) h ?_
  rw [callN_eq (fd := ⟨1, 2, b_are_pairs⟩) rfl]
  rcases tup_or d with ⟨xs, rfl⟩ | ⟨ht, hn⟩
  · obtain ⟨l, s⟩ := okD_tup F
    have c : evE (callN pr (n + 2)) b_are_pairs_c1 [some (.d (.tuple xs)), none] [] = .ok (.d (.list (xs.map fun x => .bool (rowB x)))) [] :=
      all_comp (by simp [evE, lift]) (by omega) fun x hx => by simp [evE, evEs, lift, is_row_w [] (s x hx)]
    have a := all_w (g := rowB) (xs := xs) (h := []) (p := fun bs => bs.all id)
    simp [Mi.runF, Mi.evSs, Mi.evS, Mi.evE, Mi.evT, Mi.evP, Mi.evEs, Mi.evIt, Mi.lift, Mi.bltV, Mi.intV, Mi.lenV, Mi.binV, Mi.intOp, Mi.cmpV, Mi.truV, Mi.mthV, Mi.recvOk, Mi.listOf, Mi.seqOf, Mi.dOf, Mi.cellL, Mi.srcOf, Mi.srcOk, Mi.setTg, Mi.setAll, Mi.mkL, Mi.toDs, Mi.In_len, Mi.In_app, Mi.In_one, Mi.In_drop, Mi.In_rev, Mi.In_emp, Mi.In_nl, Mi.In_get, Mi.toDs_In, b_are_pairs, isiV, c, a, pairsB]
  · have : pairsB d = false := by
      cases d <;> first | rfl | exact absurd rfl (hn _)
    simp [Mi.runF, Mi.evSs, Mi.evS, Mi.evE, Mi.evT, Mi.evP, Mi.evEs, Mi.evIt, Mi.lift, Mi.bltV, Mi.intV, Mi.lenV, Mi.binV, Mi.intOp, Mi.cmpV, Mi.truV, Mi.mthV, Mi.recvOk, Mi.listOf, Mi.seqOf, Mi.dOf, Mi.cellL, Mi.srcOf, Mi.srcOk, Mi.setTg, Mi.setAll, Mi.mkL, Mi.toDs, Mi.In_len, Mi.In_app, Mi.In_one, Mi.In_drop, Mi.In_rev, Mi.In_emp, Mi.In_nl, Mi.In_get, Mi.toDs_In, b_are_pairs, isi_tup F, ht, this]
theorem law_is_row_w {n : Nat} {mu : Bool} {d : PyData} (h : MH) (F : okD d = true) : callW (callN pr (n + 1)) mu 17 [.d d] h = .ok (.d (.bool (rowB d))) h := by
  refine callW_data (ds := [d]) (hc := []) h ?_
  rw [callN_eq (fd := ⟨1, 2, b_law_is_row⟩) rfl]
  rcases tup_or d with ⟨xs, rfl⟩ | ⟨ht, hn⟩
  · obtain ⟨l, s⟩ := okD_tup F
    have c : evE (callN pr n) b_law_is_row_c1 [some (.d (.tuple xs)), none] [] = .ok (.d (.list (xs.map fun x => .bool (isInt x)))) [] :=
      all_comp (by simp [evE, lift]) (by omega) fun x hx => by simp [evE, evEs, lift, isi_int (s x hx)]
    have a := all_w (g := isInt) (xs := xs) (h := []) (p := fun bs => bs.all id)
    simp [Mi.runF, Mi.evSs, Mi.evS, Mi.evE, Mi.evT, Mi.evP, Mi.evEs, Mi.evIt, Mi.lift, Mi.bltV, Mi.intV, Mi.lenV, Mi.binV, Mi.intOp, Mi.cmpV, Mi.truV, Mi.mthV, Mi.recvOk, Mi.listOf, Mi.seqOf, Mi.dOf, Mi.cellL, Mi.srcOf, Mi.srcOk, Mi.setTg, Mi.setAll, Mi.mkL, Mi.toDs, Mi.In_len, Mi.In_app, Mi.In_one, Mi.In_drop, Mi.In_rev, Mi.In_emp, Mi.In_nl, Mi.In_get, Mi.toDs_In, b_law_is_row, isiV, c, a, rowB]
  · have : rowB d = false := by
      cases d <;> first | rfl | exact absurd rfl (hn _)
    simp [Mi.runF, Mi.evSs, Mi.evS, Mi.evE, Mi.evT, Mi.evP, Mi.evEs, Mi.evIt, Mi.lift, Mi.bltV, Mi.intV, Mi.lenV, Mi.binV, Mi.intOp, Mi.cmpV, Mi.truV, Mi.mthV, Mi.recvOk, Mi.listOf, Mi.seqOf, Mi.dOf, Mi.cellL, Mi.srcOf, Mi.srcOk, Mi.setTg, Mi.setAll, Mi.mkL, Mi.toDs, Mi.In_len, Mi.In_app, Mi.In_one, Mi.In_drop, Mi.In_rev, Mi.In_emp, Mi.In_nl, Mi.In_get, Mi.toDs_In, b_law_is_row, isi_tup F, ht, this]
def netB : PyData → Bool
  | .tuple [a, b] => isInt a && rowB b
  | _ => false
theorem is_net_w {n : Nat} {mu : Bool} {d : PyData} (h : MH) (F : okD d = true) : callW (callN pr (n + 3)) mu 2 [.d d] h = .ok (.d (.bool (netB d))) h := by
  refine callW_data (ds := [d]) (hc := []) h ?_
  rw [callN_eq (fd := ⟨1, 1, b_is_network_term⟩) rfl]
  rcases tup_or d with ⟨xs, rfl⟩ | ⟨ht, hn⟩
  · obtain ⟨l, s⟩ := okD_tup F
    match xs, s with
    | [], _ => rfl
    | [_], _ => rfl
    | _ :: _ :: _ :: r, _ =>
      have e : PyData.eqv (.int ((r.length : Int) + 1 + 1 + 1)) (.int 2) = false := by simp [PyData.eqv]; omega
      simp [Mi.runF, Mi.evSs, Mi.evS, Mi.evE, Mi.evT, Mi.evP, Mi.evEs, Mi.evIt, Mi.lift, Mi.bltV, Mi.intV, Mi.lenV, Mi.binV, Mi.intOp, Mi.cmpV, Mi.truV, Mi.mthV, Mi.recvOk, Mi.listOf, Mi.seqOf, Mi.dOf, Mi.cellL, Mi.srcOf, Mi.srcOk, Mi.setTg, Mi.setAll, Mi.mkL, Mi.toDs, Mi.In_len, Mi.In_app, Mi.In_one, Mi.In_drop, Mi.In_rev, Mi.In_emp, Mi.In_nl, Mi.In_get, Mi.toDs_In, b_is_network_term, isiV, eqD, depOk, PyData.depth, netB, e]
    | [a, b], s =>
      have w1 := is_integer_w (n := n + 1) (mu := false) (d := a) [] (s a (by simp))
      have w2 := is_row_w (n := n) (mu := false) (d := b) [] (s b (by simp))
      have e : PyData.eqv (.int 2) (.int 2) = true := rfl
      cases hi : isInt a <;> simp [Mi.runF, Mi.evSs, Mi.evS, Mi.evE, Mi.evT, Mi.evP, Mi.evEs, Mi.evIt, Mi.lift, Mi.bltV, Mi.intV, Mi.lenV, Mi.binV, Mi.intOp, Mi.cmpV, Mi.truV, Mi.mthV, Mi.recvOk, Mi.listOf, Mi.seqOf, Mi.dOf, Mi.cellL, Mi.srcOf, Mi.srcOk, Mi.setTg, Mi.setAll, Mi.mkL, Mi.toDs, Mi.In_len, Mi.In_app, Mi.In_one, Mi.In_drop, Mi.In_rev, Mi.In_emp, Mi.In_nl, Mi.In_get, Mi.toDs_In, b_is_network_term, isiV, eqD, depOk, PyData.depth, netB, e, idxV, atI, ixN, w1, w2, hi]
  · have : netB d = false := by
      cases d <;> first | rfl | exact absurd rfl (hn _)
    simp [Mi.runF, Mi.evSs, Mi.evS, Mi.evE, Mi.evT, Mi.evP, Mi.evEs, Mi.evIt, Mi.lift, Mi.bltV, Mi.intV, Mi.lenV, Mi.binV, Mi.intOp, Mi.cmpV, Mi.truV, Mi.mthV, Mi.recvOk, Mi.listOf, Mi.seqOf, Mi.dOf, Mi.cellL, Mi.srcOf, Mi.srcOk, Mi.setTg, Mi.setAll, Mi.mkL, Mi.toDs, Mi.In_len, Mi.In_app, Mi.In_one, Mi.In_drop, Mi.In_rev, Mi.In_emp, Mi.In_nl, Mi.In_get, Mi.toDs_In, b_is_network_term, isi_tup F, ht, this]
end K21

set_option maxRecDepth 100000
set_option maxHeartbeats 1000000
namespace K21
open PySem L2 Mi
def tabB : PyData → Bool
  | .tuple [a, b, c] => isInt a && rowB b && pairsB c
  | _ => false
theorem is_table_w {n : Nat} {mu : Bool} {d : PyData} (h : MH) (F : okD d = true) : callW (callN pr (n + 4)) mu 4 [.d d] h = .ok (.d (.bool (tabB d))) h := by
  refine callW_data (ds := [d]) (hc := []) h ?_
  rw [callN_eq (fd := ⟨1, 1, b_is_table_term⟩) rfl]
  rcases tup_or d with ⟨xs, rfl⟩ | ⟨ht, hn⟩
  · obtain ⟨l, s⟩ := okD_tup F
    match xs, s with
    | [], _ => rfl
    | [_], _ => rfl
    | [_, _], _ => rfl
    | _ :: _ :: _ :: _ :: r, _ =>
      have e : PyData.eqv (.int ((r.length : Int) + 1 + 1 + 1 + 1)) (.int 3) = false := by simp [PyData.eqv]; omega
      simp [Mi.runF, Mi.evSs, Mi.evS, Mi.evE, Mi.evT, Mi.evP, Mi.evEs, Mi.evIt, Mi.lift, Mi.bltV, Mi.intV, Mi.lenV, Mi.binV, Mi.intOp, Mi.cmpV, Mi.truV, Mi.mthV, Mi.recvOk, Mi.listOf, Mi.seqOf, Mi.dOf, Mi.cellL, Mi.srcOf, Mi.srcOk, Mi.setTg, Mi.setAll, Mi.mkL, Mi.toDs, Mi.In_len, Mi.In_app, Mi.In_one, Mi.In_drop, Mi.In_rev, Mi.In_emp, Mi.In_nl, Mi.In_get, Mi.toDs_In, b_is_table_term, isiV, eqD, depOk, PyData.depth, tabB, e]
    | [a, b, c], s =>
      have w1 := is_net_w (n := n) (mu := false) (d := .tuple [a, b]) [] (okD_tupI (by simp) (fun x hx => s x (by simp at hx ⊢; rcases hx with z | z <;> simp [z])))
      have w2 := are_pairs_w (n := n) (mu := false) (d := c) [] (s c (by simp))
      have e : PyData.eqv (.int 3) (.int 3) = true := rfl
      have ct : cutD [a, b, c] none (some 2) = [a, b] := rfl
      cases hi : isInt a <;> cases hr : rowB b <;> simp [Mi.runF, Mi.evSs, Mi.evS, Mi.evE, Mi.evT, Mi.evP, Mi.evEs, Mi.evIt, Mi.lift, Mi.bltV, Mi.intV, Mi.lenV, Mi.binV, Mi.intOp, Mi.cmpV, Mi.truV, Mi.mthV, Mi.recvOk, Mi.listOf, Mi.seqOf, Mi.dOf, Mi.cellL, Mi.srcOf, Mi.srcOk, Mi.setTg, Mi.setAll, Mi.mkL, Mi.toDs, Mi.In_len, Mi.In_app, Mi.In_one, Mi.In_drop, Mi.In_rev, Mi.In_emp, Mi.In_nl, Mi.In_get, Mi.toDs_In, b_is_table_term, isiV, eqD, depOk, PyData.depth, tabB, netB, e, idxV, atI, ixN, w1, w2, hi, hr, sliceV, ct]
  · have : tabB d = false := by
      cases d <;> first | rfl | exact absurd rfl (hn _)
    simp [Mi.runF, Mi.evSs, Mi.evS, Mi.evE, Mi.evT, Mi.evP, Mi.evEs, Mi.evIt, Mi.lift, Mi.bltV, Mi.intV, Mi.lenV, Mi.binV, Mi.intOp, Mi.cmpV, Mi.truV, Mi.mthV, Mi.recvOk, Mi.listOf, Mi.seqOf, Mi.dOf, Mi.cellL, Mi.srcOf, Mi.srcOk, Mi.setTg, Mi.setAll, Mi.mkL, Mi.toDs, Mi.In_len, Mi.In_app, Mi.In_one, Mi.In_drop, Mi.In_rev, Mi.In_emp, Mi.In_nl, Mi.In_get, Mi.toDs_In, b_is_table_term, isi_tup F, ht, this]
def formB (thing : Nat) (d : PyData) : Bool := match thing with
  | 0 => tabB d
  | 1 => netB d
  | 2 => pairsB d
  | _ => rowB d
def thingS : Nat → Str
  | 0 => "table"
  | 1 => "network"
  | 2 => "pairs"
  | _ => "row"
theorem has_form_w {n : Nat} {mu : Bool} {d : PyData} (h : MH) (F : okD d = true) {k : Nat} (hk : k < 4) : callW (callN pr (n + 5)) mu 5 [.d (.str (thingS k)), .d d] h = .ok (.d (.bool (formB k d))) h := by
  refine callW_data (ds := [.str (thingS k), d]) (hc := []) h ?_
  rw [callN_eq (fd := ⟨2, 2, b_has_form⟩) rfl]
  match k, hk with
  | 0, _ =>
    have w := is_table_w (n := n) (mu := false) [] F
    have e : lookS (thingS 0) [("table", 4), ("network", 2), ("pairs", 3), ("row", 1)] = some 4 := by decide +kernel
    simp [Mi.runF, Mi.evSs, Mi.evS, Mi.evE, Mi.evT, Mi.evP, Mi.evEs, Mi.evIt, Mi.lift, Mi.bltV, Mi.intV, Mi.lenV, Mi.binV, Mi.intOp, Mi.cmpV, Mi.truV, Mi.mthV, Mi.recvOk, Mi.listOf, Mi.seqOf, Mi.dOf, Mi.cellL, Mi.srcOf, Mi.srcOk, Mi.setTg, Mi.setAll, Mi.mkL, Mi.toDs, Mi.In_len, Mi.In_app, Mi.In_one, Mi.In_drop, Mi.In_rev, Mi.In_emp, Mi.In_nl, Mi.In_get, Mi.toDs_In, b_has_form, e, w, formB]
  | 1, _ =>
    have w := is_net_w (n := n + 1) (mu := false) [] F
    have e : lookS (thingS 1) [("table", 4), ("network", 2), ("pairs", 3), ("row", 1)] = some 2 := by decide +kernel
    simp [Mi.runF, Mi.evSs, Mi.evS, Mi.evE, Mi.evT, Mi.evP, Mi.evEs, Mi.evIt, Mi.lift, Mi.bltV, Mi.intV, Mi.lenV, Mi.binV, Mi.intOp, Mi.cmpV, Mi.truV, Mi.mthV, Mi.recvOk, Mi.listOf, Mi.seqOf, Mi.dOf, Mi.cellL, Mi.srcOf, Mi.srcOk, Mi.setTg, Mi.setAll, Mi.mkL, Mi.toDs, Mi.In_len, Mi.In_app, Mi.In_one, Mi.In_drop, Mi.In_rev, Mi.In_emp, Mi.In_nl, Mi.In_get, Mi.toDs_In, b_has_form, e, w, formB]
  | 2, _ =>
    have w := are_pairs_w (n := n + 1) (mu := false) [] F
    have e : lookS (thingS 2) [("table", 4), ("network", 2), ("pairs", 3), ("row", 1)] = some 3 := by decide +kernel
    simp [Mi.runF, Mi.evSs, Mi.evS, Mi.evE, Mi.evT, Mi.evP, Mi.evEs, Mi.evIt, Mi.lift, Mi.bltV, Mi.intV, Mi.lenV, Mi.binV, Mi.intOp, Mi.cmpV, Mi.truV, Mi.mthV, Mi.recvOk, Mi.listOf, Mi.seqOf, Mi.dOf, Mi.cellL, Mi.srcOf, Mi.srcOk, Mi.setTg, Mi.setAll, Mi.mkL, Mi.toDs, Mi.In_len, Mi.In_app, Mi.In_one, Mi.In_drop, Mi.In_rev, Mi.In_emp, Mi.In_nl, Mi.In_get, Mi.toDs_In, b_has_form, e, w, formB]
  | 3, _ =>
    have w := is_row_w (n := n + 2) (mu := false) [] F
    have e : lookS (thingS 3) [("table", 4), ("network", 2), ("pairs", 3), ("row", 1)] = some 1 := by decide +kernel
    simp [Mi.runF, Mi.evSs, Mi.evS, Mi.evE, Mi.evT, Mi.evP, Mi.evEs, Mi.evIt, Mi.lift, Mi.bltV, Mi.intV, Mi.lenV, Mi.binV, Mi.intOp, Mi.cmpV, Mi.truV, Mi.mthV, Mi.recvOk, Mi.listOf, Mi.seqOf, Mi.dOf, Mi.cellL, Mi.srcOf, Mi.srcOk, Mi.setTg, Mi.setAll, Mi.mkL, Mi.toDs, Mi.In_len, Mi.In_app, Mi.In_one, Mi.In_drop, Mi.In_rev, Mi.In_emp, Mi.In_nl, Mi.In_get, Mi.toDs_In, b_has_form, e, w, formB]
/-! ### the law's own -/
theorem eqv_str (a b : Str) : PyData.eqv (.str a) (.str b) = decide (a = b) := by
  show (a == b) = _
  rw [Bool.eq_iff_iff]
  simp
theorem due_w {n : Nat} {mu : Bool} {d : PyData} (h : MH) (F : okD d = true) {k : Nat} (hk : k < 4) : callW (callN pr (n + 2)) mu 18 [.d (.str (thingS k)), .d d] h = .ok (.d (.bool (formB k d))) h := by
  refine callW_data (ds := [.str (thingS k), d]) (hc := []) h ?_
  rw [callN_eq (fd := ⟨2, 3, b_law_due⟩) rfl]
  have wr := law_is_row_w (n := n) (mu := false) (d := d) [] F
  match k, hk with
  | 3, _ =>
    have e1 : PyData.eqv (.str (thingS 3)) (.str "row") = true := by decide +kernel
    simp [Mi.runF, Mi.evSs, Mi.evS, Mi.evE, Mi.evT, Mi.evP, Mi.evEs, Mi.evIt, Mi.lift, Mi.bltV, Mi.intV, Mi.lenV, Mi.binV, Mi.intOp, Mi.cmpV, Mi.truV, Mi.mthV, Mi.recvOk, Mi.listOf, Mi.seqOf, Mi.dOf, Mi.cellL, Mi.srcOf, Mi.srcOk, Mi.setTg, Mi.setAll, Mi.mkL, Mi.toDs, Mi.In_len, Mi.In_app, Mi.In_one, Mi.In_drop, Mi.In_rev, Mi.In_emp, Mi.In_nl, Mi.In_get, Mi.toDs_In, b_law_due, eqD, depOk, PyData.depth, e1, wr, formB]
  | 2, _ =>
    have e1 : PyData.eqv (.str (thingS 2)) (.str "row") = false := by decide +kernel
    have e2 : PyData.eqv (.str (thingS 2)) (.str "pairs") = true := by decide +kernel
    rcases tup_or d with ⟨xs, rfl⟩ | ⟨ht, hn⟩
    · obtain ⟨l, s⟩ := okD_tup F
      have c : evE (callN pr (n + 1)) b_law_due_c1 [some (.d (.str (thingS 2))), some (.d (.tuple xs)), none] [] = .ok (.d (.list (xs.map fun x => .bool (rowB x)))) [] :=
        all_comp (by simp [evE, lift]) (by omega) fun x hx => by simp [evE, evEs, lift, law_is_row_w [] (s x hx)]
      have a := all_w (g := rowB) (xs := xs) (h := []) (p := fun bs => bs.all id)
      simp [Mi.runF, Mi.evSs, Mi.evS, Mi.evE, Mi.evT, Mi.evP, Mi.evEs, Mi.evIt, Mi.lift, Mi.bltV, Mi.intV, Mi.lenV, Mi.binV, Mi.intOp, Mi.cmpV, Mi.truV, Mi.mthV, Mi.recvOk, Mi.listOf, Mi.seqOf, Mi.dOf, Mi.cellL, Mi.srcOf, Mi.srcOk, Mi.setTg, Mi.setAll, Mi.mkL, Mi.toDs, Mi.In_len, Mi.In_app, Mi.In_one, Mi.In_drop, Mi.In_rev, Mi.In_emp, Mi.In_nl, Mi.In_get, Mi.toDs_In, b_law_due, eqD, depOk, PyData.depth, e1, e2, isiV, c, a, formB, pairsB]
    · have : pairsB d = false := by
        cases d <;> first | rfl | exact absurd rfl (hn _)
      simp [Mi.runF, Mi.evSs, Mi.evS, Mi.evE, Mi.evT, Mi.evP, Mi.evEs, Mi.evIt, Mi.lift, Mi.bltV, Mi.intV, Mi.lenV, Mi.binV, Mi.intOp, Mi.cmpV, Mi.truV, Mi.mthV, Mi.recvOk, Mi.listOf, Mi.seqOf, Mi.dOf, Mi.cellL, Mi.srcOf, Mi.srcOk, Mi.setTg, Mi.setAll, Mi.mkL, Mi.toDs, Mi.In_len, Mi.In_app, Mi.In_one, Mi.In_drop, Mi.In_rev, Mi.In_emp, Mi.In_nl, Mi.In_get, Mi.toDs_In, b_law_due, eqD, depOk, PyData.depth, e1, e2, isi_tup F, ht, formB, this]
  | 1, _ =>
    have e1 : PyData.eqv (.str (thingS 1)) (.str "row") = false := by decide +kernel
    have e2 : PyData.eqv (.str (thingS 1)) (.str "pairs") = false := by decide +kernel
    have e3 : lookS (thingS 1) [("network", PyData.int 2), ("table", .int 3)] = some (.int 2) := by rfl
    have e4 : PyData.eqv (.str (thingS 1)) (.str "network") = true := by decide +kernel
    rcases tup_or d with ⟨xs, rfl⟩ | ⟨ht, hn⟩
    · obtain ⟨l, s⟩ := okD_tup F
      match xs, s with
      | [], _ =>
        have e : PyData.eqv (.int 0) (.int 2) = false := rfl
        simp [Mi.runF, Mi.evSs, Mi.evS, Mi.evE, Mi.evT, Mi.evP, Mi.evEs, Mi.evIt, Mi.lift, Mi.bltV, Mi.intV, Mi.lenV, Mi.binV, Mi.intOp, Mi.cmpV, Mi.truV, Mi.mthV, Mi.recvOk, Mi.listOf, Mi.seqOf, Mi.dOf, Mi.cellL, Mi.srcOf, Mi.srcOk, Mi.setTg, Mi.setAll, Mi.mkL, Mi.toDs, Mi.In_len, Mi.In_app, Mi.In_one, Mi.In_drop, Mi.In_rev, Mi.In_emp, Mi.In_nl, Mi.In_get, Mi.toDs_In, b_law_due, eqD, depOk, PyData.depth, e1, e2, e3, e, isiV, formB, netB]
      | [_], _ =>
        have e : PyData.eqv (.int 1) (.int 2) = false := rfl
        simp [Mi.runF, Mi.evSs, Mi.evS, Mi.evE, Mi.evT, Mi.evP, Mi.evEs, Mi.evIt, Mi.lift, Mi.bltV, Mi.intV, Mi.lenV, Mi.binV, Mi.intOp, Mi.cmpV, Mi.truV, Mi.mthV, Mi.recvOk, Mi.listOf, Mi.seqOf, Mi.dOf, Mi.cellL, Mi.srcOf, Mi.srcOk, Mi.setTg, Mi.setAll, Mi.mkL, Mi.toDs, Mi.In_len, Mi.In_app, Mi.In_one, Mi.In_drop, Mi.In_rev, Mi.In_emp, Mi.In_nl, Mi.In_get, Mi.toDs_In, b_law_due, eqD, depOk, PyData.depth, e1, e2, e3, e, isiV, formB, netB]
      | _ :: _ :: _ :: r, _ =>
        have e : PyData.eqv (.int ((r.length : Int) + 1 + 1 + 1)) (.int 2) = false := by simp [PyData.eqv]; omega
        simp [Mi.runF, Mi.evSs, Mi.evS, Mi.evE, Mi.evT, Mi.evP, Mi.evEs, Mi.evIt, Mi.lift, Mi.bltV, Mi.intV, Mi.lenV, Mi.binV, Mi.intOp, Mi.cmpV, Mi.truV, Mi.mthV, Mi.recvOk, Mi.listOf, Mi.seqOf, Mi.dOf, Mi.cellL, Mi.srcOf, Mi.srcOk, Mi.setTg, Mi.setAll, Mi.mkL, Mi.toDs, Mi.In_len, Mi.In_app, Mi.In_one, Mi.In_drop, Mi.In_rev, Mi.In_emp, Mi.In_nl, Mi.In_get, Mi.toDs_In, b_law_due, eqD, depOk, PyData.depth, e1, e2, e3, e, isiV, formB, netB]
      | [a, b], s =>
        have w1 := isi_int (d := a) (h := []) (s a (by simp))
        have w2 := law_is_row_w (n := n) (mu := false) (d := b) [] (s b (by simp))
        have e : PyData.eqv (.int 2) (.int 2) = true := rfl
        have it : isiV (.d (.tuple [a, b])) .tuple [] = some true := rfl
        cases hi : isInt a <;> cases hr : rowB b <;> simp [Mi.runF, Mi.evSs, Mi.evS, Mi.evE, Mi.evT, Mi.evP, Mi.evEs, Mi.evIt, Mi.lift, Mi.bltV, Mi.intV, Mi.lenV, Mi.binV, Mi.intOp, Mi.cmpV, Mi.truV, Mi.mthV, Mi.recvOk, Mi.listOf, Mi.seqOf, Mi.dOf, Mi.cellL, Mi.srcOf, Mi.srcOk, Mi.setTg, Mi.setAll, Mi.mkL, Mi.toDs, Mi.In_len, Mi.In_app, Mi.In_one, Mi.In_drop, Mi.In_rev, Mi.In_emp, Mi.In_nl, Mi.In_get, Mi.toDs_In, b_law_due, eqD, depOk, PyData.depth, e1, e2, e3, e4, e, it, formB, netB, idxV, atI, ixN, w1, w2, hi, hr]
    · have : netB d = false := by
        cases d <;> first | rfl | exact absurd rfl (hn _)
      simp [Mi.runF, Mi.evSs, Mi.evS, Mi.evE, Mi.evT, Mi.evP, Mi.evEs, Mi.evIt, Mi.lift, Mi.bltV, Mi.intV, Mi.lenV, Mi.binV, Mi.intOp, Mi.cmpV, Mi.truV, Mi.mthV, Mi.recvOk, Mi.listOf, Mi.seqOf, Mi.dOf, Mi.cellL, Mi.srcOf, Mi.srcOk, Mi.setTg, Mi.setAll, Mi.mkL, Mi.toDs, Mi.In_len, Mi.In_app, Mi.In_one, Mi.In_drop, Mi.In_rev, Mi.In_emp, Mi.In_nl, Mi.In_get, Mi.toDs_In, b_law_due, eqD, depOk, PyData.depth, e1, e2, isi_tup F, ht, formB, this]
  | 0, _ =>
    have e1 : PyData.eqv (.str (thingS 0)) (.str "row") = false := by decide +kernel
    have e2 : PyData.eqv (.str (thingS 0)) (.str "pairs") = false := by decide +kernel
    have e3 : lookS (thingS 0) [("network", PyData.int 2), ("table", .int 3)] = some (.int 3) := by rfl
    have e4 : PyData.eqv (.str (thingS 0)) (.str "network") = false := by decide +kernel
    rcases tup_or d with ⟨xs, rfl⟩ | ⟨ht, hn⟩
    · obtain ⟨l, s⟩ := okD_tup F
      match xs, s with
      | [], _ =>
        have e : PyData.eqv (.int 0) (.int 3) = false := rfl
        simp [Mi.runF, Mi.evSs, Mi.evS, Mi.evE, Mi.evT, Mi.evP, Mi.evEs, Mi.evIt, Mi.lift, Mi.bltV, Mi.intV, Mi.lenV, Mi.binV, Mi.intOp, Mi.cmpV, Mi.truV, Mi.mthV, Mi.recvOk, Mi.listOf, Mi.seqOf, Mi.dOf, Mi.cellL, Mi.srcOf, Mi.srcOk, Mi.setTg, Mi.setAll, Mi.mkL, Mi.toDs, Mi.In_len, Mi.In_app, Mi.In_one, Mi.In_drop, Mi.In_rev, Mi.In_emp, Mi.In_nl, Mi.In_get, Mi.toDs_In, b_law_due, eqD, depOk, PyData.depth, e1, e2, e3, e, isiV, formB, tabB]
      | [_], _ =>
        have e : PyData.eqv (.int 1) (.int 3) = false := rfl
        simp [Mi.runF, Mi.evSs, Mi.evS, Mi.evE, Mi.evT, Mi.evP, Mi.evEs, Mi.evIt, Mi.lift, Mi.bltV, Mi.intV, Mi.lenV, Mi.binV, Mi.intOp, Mi.cmpV, Mi.truV, Mi.mthV, Mi.recvOk, Mi.listOf, Mi.seqOf, Mi.dOf, Mi.cellL, Mi.srcOf, Mi.srcOk, Mi.setTg, Mi.setAll, Mi.mkL, Mi.toDs, Mi.In_len, Mi.In_app, Mi.In_one, Mi.In_drop, Mi.In_rev, Mi.In_emp, Mi.In_nl, Mi.In_get, Mi.toDs_In, b_law_due, eqD, depOk, PyData.depth, e1, e2, e3, e, isiV, formB, tabB]
      | [_, _], _ =>
        have e : PyData.eqv (.int 2) (.int 3) = false := rfl
        simp [Mi.runF, Mi.evSs, Mi.evS, Mi.evE, Mi.evT, Mi.evP, Mi.evEs, Mi.evIt, Mi.lift, Mi.bltV, Mi.intV, Mi.lenV, Mi.binV, Mi.intOp, Mi.cmpV, Mi.truV, Mi.mthV, Mi.recvOk, Mi.listOf, Mi.seqOf, Mi.dOf, Mi.cellL, Mi.srcOf, Mi.srcOk, Mi.setTg, Mi.setAll, Mi.mkL, Mi.toDs, Mi.In_len, Mi.In_app, Mi.In_one, Mi.In_drop, Mi.In_rev, Mi.In_emp, Mi.In_nl, Mi.In_get, Mi.toDs_In, b_law_due, eqD, depOk, PyData.depth, e1, e2, e3, e, isiV, formB, tabB]
      | _ :: _ :: _ :: _ :: r, _ =>
        have e : PyData.eqv (.int ((r.length : Int) + 1 + 1 + 1 + 1)) (.int 3) = false := by simp [PyData.eqv]; omega
        simp [Mi.runF, Mi.evSs, Mi.evS, Mi.evE, Mi.evT, Mi.evP, Mi.evEs, Mi.evIt, Mi.lift, Mi.bltV, Mi.intV, Mi.lenV, Mi.binV, Mi.intOp, Mi.cmpV, Mi.truV, Mi.mthV, Mi.recvOk, Mi.listOf, Mi.seqOf, Mi.dOf, Mi.cellL, Mi.srcOf, Mi.srcOk, Mi.setTg, Mi.setAll, Mi.mkL, Mi.toDs, Mi.In_len, Mi.In_app, Mi.In_one, Mi.In_drop, Mi.In_rev, Mi.In_emp, Mi.In_nl, Mi.In_get, Mi.toDs_In, b_law_due, eqD, depOk, PyData.depth, e1, e2, e3, e, isiV, formB, tabB]
      | [a, b, c], s =>
        have w1 := isi_int (d := a) (h := []) (s a (by simp))
        have w2 := law_is_row_w (n := n) (mu := false) (d := b) [] (s b (by simp))
        have e : PyData.eqv (.int 3) (.int 3) = true := rfl
        have it : isiV (.d (.tuple [a, b, c])) .tuple [] = some true := rfl
        have Fc := s c (by simp)
        rcases tup_or c with ⟨zs, rfl⟩ | ⟨hc, hcn⟩
        · obtain ⟨lz, sz⟩ := okD_tup Fc
          have ic : isiV (.d (.tuple zs)) .tuple [] = some true := rfl
          have cc : evE (callN pr (n + 1)) b_law_due_c2 [some (.d (.str (thingS 0))), some (.d (.tuple [a, b, .tuple zs])), none] [] = .ok (.d (.list (zs.map fun x => .bool (rowB x)))) [] :=
            all_comp (by simp [evE, lift, idxV, seqOf, atI, ixN]) (by omega) fun x hx => by simp [evE, evEs, lift, law_is_row_w [] (sz x hx)]
          have al := all_w (g := rowB) (xs := zs) (h := []) (p := fun bs => bs.all id)
          cases hi : isInt a <;> cases hr : rowB b <;> simp [Mi.runF, Mi.evSs, Mi.evS, Mi.evE, Mi.evT, Mi.evP, Mi.evEs, Mi.evIt, Mi.lift, Mi.bltV, Mi.intV, Mi.lenV, Mi.binV, Mi.intOp, Mi.cmpV, Mi.truV, Mi.mthV, Mi.recvOk, Mi.listOf, Mi.seqOf, Mi.dOf, Mi.cellL, Mi.srcOf, Mi.srcOk, Mi.setTg, Mi.setAll, Mi.mkL, Mi.toDs, Mi.In_len, Mi.In_app, Mi.In_one, Mi.In_drop, Mi.In_rev, Mi.In_emp, Mi.In_nl, Mi.In_get, Mi.toDs_In, b_law_due, eqD, depOk, PyData.depth, e1, e2, e3, e4, e, it, ic, formB, tabB, idxV, atI, ixN, w1, w2, hi, hr, cc, al, pairsB]
        · have ic := isi_tup (d := c) (h := []) Fc
          have pc : pairsB c = false := by cases c <;> first | rfl | exact absurd rfl (hcn _)
          cases hi : isInt a <;> cases hr : rowB b <;> simp [Mi.runF, Mi.evSs, Mi.evS, Mi.evE, Mi.evT, Mi.evP, Mi.evEs, Mi.evIt, Mi.lift, Mi.bltV, Mi.intV, Mi.lenV, Mi.binV, Mi.intOp, Mi.cmpV, Mi.truV, Mi.mthV, Mi.recvOk, Mi.listOf, Mi.seqOf, Mi.dOf, Mi.cellL, Mi.srcOf, Mi.srcOk, Mi.setTg, Mi.setAll, Mi.mkL, Mi.toDs, Mi.In_len, Mi.In_app, Mi.In_one, Mi.In_drop, Mi.In_rev, Mi.In_emp, Mi.In_nl, Mi.In_get, Mi.toDs_In, b_law_due, eqD, depOk, PyData.depth, e1, e2, e3, e4, e, it, ic, hc, formB, tabB, idxV, atI, ixN, w1, w2, hi, hr, pc]
    · have : tabB d = false := by
        cases d <;> first | rfl | exact absurd rfl (hn _)
      simp [Mi.runF, Mi.evSs, Mi.evS, Mi.evE, Mi.evT, Mi.evP, Mi.evEs, Mi.evIt, Mi.lift, Mi.bltV, Mi.intV, Mi.lenV, Mi.binV, Mi.intOp, Mi.cmpV, Mi.truV, Mi.mthV, Mi.recvOk, Mi.listOf, Mi.seqOf, Mi.dOf, Mi.cellL, Mi.srcOf, Mi.srcOk, Mi.setTg, Mi.setAll, Mi.mkL, Mi.toDs, Mi.In_len, Mi.In_app, Mi.In_one, Mi.In_drop, Mi.In_rev, Mi.In_emp, Mi.In_nl, Mi.In_get, Mi.toDs_In, b_law_due, eqD, depOk, PyData.depth, e1, e2, isi_tup F, ht, formB, this]
end K21

set_option maxRecDepth 100000
set_option maxHeartbeats 1000000
namespace K21
open PySem L2 Mi
/-! ### spoilt terms -/
def lvl : Nat → PyData → Prop
  | 0, d => isTup d = false ∧ okD d = true
  | k + 1, d => (isTup d = false ∧ okD d = true) ∨ ∃ xs, d = .tuple xs ∧ xs.length ≤ 400 ∧ ∀ x ∈ xs, lvl k x
theorem lvl_ok : ∀ {k : Nat} {d : PyData}, lvl k d → okD d = true
  | 0, d, h => h.2
  | k + 1, d, .inl h => h.2
  | k + 1, d, .inr ⟨xs, e, l, s⟩ => by
    rw [e]
    exact okD_tupI (by omega) fun x hx => lvl_ok (s x hx)
theorem next0 {n : Nat} {mu : Bool} (is : List Int) : callW (callN pr (n + 1)) mu 11 [.ref 0] [Dc is] = .ok (.d (.int (nextI is))) [Dc is.dropLast] := next_w (i := 0) (h := [Dc is]) rfl is rfl
theorem pick0 {n : Nat} {mu : Bool} (is : List Int) {ds : List PyData} (hd : 0 < ds.length) : ∃ x ∈ ds, callW (callN pr (n + 2)) mu 13 [.ref 0, .d (.list ds)] [Dc is] = .ok (.d x) [Dc is.dropLast] :=
  ⟨_, List.getElem_mem (place_lt hd), pick_w (i := 0) (g := 11) (h := [Dc is]) rfl rfl is hd rfl⟩
theorem cutD_sub {xs : List PyData} {a b : Option Int} : (∀ x ∈ cutD xs a b, x ∈ xs) ∧ (cutD xs a b).length ≤ xs.length := by
  unfold cutD
  refine ⟨fun x hx => List.mem_of_mem_drop (List.mem_of_mem_take hx), ?_⟩
  rw [List.length_take, List.length_drop]
  omega
theorem add_tup {x y : List PyData} {h : MH} (l : x.length + y.length ≤ 16777216) : binV false .Add (.d (.tuple x)) (.d (.tuple y)) h = .ok (.d (.tuple (x ++ y))) h := by
  have : lineOk (x.length + y.length) = true := Nat.ble_eq_true_of_le l
  simp [binV, this]
def picks1 (t : PyData) : List PyData := [.none, .str "ada", .str "", .int 5, .tuple [], .tuple [.int 1], .tuple [.tuple []], .tuple [.str "a"], t]
def picks2 : List PyData := [.tuple [.int 0], .tuple [.str ""], .tuple [.tuple []], .none]
theorem picks1_ok {t : PyData} (h : okD t = true) : ∀ x ∈ picks1 t, okD x = true := by
  intro x hx
  simp only [picks1, List.mem_cons, List.not_mem_nil, or_false] at hx
  rcases hx with rfl | rfl | rfl | rfl | rfl | rfl | rfl | rfl | rfl <;> first | rfl | exact h
theorem picks2_ok : ∀ x ∈ picks2, okD x = true := by
  intro x hx
  simp only [picks2, List.mem_cons, List.not_mem_nil, or_false] at hx
  rcases hx with rfl | rfl | rfl | rfl <;> rfl
theorem sp1 {n : Nat} {t : PyData} {e2 e3 : Option W} (is : List Int) (ht : okD t = true) :
    (∃ x is', evS (callN pr (n + 2)) b_law_spoilt_s1 [some (.ref 0), some (.d t), e2, e3] [Dc is] = .ok (.ret (.d x)) [Dc is'] ∧ okD x = true) ∨
    (isTup t = true ∧ ∃ is', evS (callN pr (n + 2)) b_law_spoilt_s1 [some (.ref 0), some (.d t), e2, e3] [Dc is] = .ok (.nx [some (.ref 0), some (.d t), e2, e3]) [Dc is']) := by
  have it := isi_tup (d := t) (h := [Dc is]) ht
  have nx := next0 (n := n + 1) (mu := false) is
  cases hi : isTup t with
  | false =>
    left
    obtain ⟨x, hx, e⟩ := pick0 (n := n) (mu := false) is (ds := picks1 t) (by simp [picks1])
    simp only [picks1] at e
    exact ⟨x, is.dropLast, by simp [Mi.runF, Mi.evSs, Mi.evS, Mi.evE, Mi.evT, Mi.evP, Mi.evEs, Mi.evIt, Mi.lift, Mi.bltV, Mi.intV, Mi.lenV, Mi.binV, Mi.intOp, Mi.cmpV, Mi.truV, Mi.mthV, Mi.recvOk, Mi.listOf, Mi.seqOf, Mi.dOf, Mi.cellL, Mi.srcOf, Mi.srcOk, Mi.setTg, Mi.setAll, Mi.mkL, Mi.toDs, Mi.In_len, Mi.In_app, Mi.In_one, Mi.In_drop, Mi.In_rev, Mi.In_emp, Mi.In_nl, Mi.In_get, Mi.toDs_In, b_law_spoilt_s1, it, hi, e], picks1_ok ht x hx⟩
  | true =>
    cases h6 : PyData.eqv (.int ((nextI is).fmod 6)) (.int 0) with
    | true =>
      left
      obtain ⟨x, hx, e⟩ := pick0 (n := n) (mu := false) is.dropLast (ds := picks1 t) (by simp [picks1])
      simp only [picks1] at e
      exact ⟨x, is.dropLast.dropLast, by simp [Mi.runF, Mi.evSs, Mi.evS, Mi.evE, Mi.evT, Mi.evP, Mi.evEs, Mi.evIt, Mi.lift, Mi.bltV, Mi.intV, Mi.lenV, Mi.binV, Mi.intOp, Mi.cmpV, Mi.truV, Mi.mthV, Mi.recvOk, Mi.listOf, Mi.seqOf, Mi.dOf, Mi.cellL, Mi.srcOf, Mi.srcOk, Mi.setTg, Mi.setAll, Mi.mkL, Mi.toDs, Mi.In_len, Mi.In_app, Mi.In_one, Mi.In_drop, Mi.In_rev, Mi.In_emp, Mi.In_nl, Mi.In_get, Mi.toDs_In, b_law_spoilt_s1, it, hi, e, nx, eqD, depOk, PyData.depth, h6], picks1_ok ht x hx⟩
    | false =>
      right
      exact ⟨rfl, is.dropLast, by simp [Mi.runF, Mi.evSs, Mi.evS, Mi.evE, Mi.evT, Mi.evP, Mi.evEs, Mi.evIt, Mi.lift, Mi.bltV, Mi.intV, Mi.lenV, Mi.binV, Mi.intOp, Mi.cmpV, Mi.truV, Mi.mthV, Mi.recvOk, Mi.listOf, Mi.seqOf, Mi.dOf, Mi.cellL, Mi.srcOf, Mi.srcOk, Mi.setTg, Mi.setAll, Mi.mkL, Mi.toDs, Mi.In_len, Mi.In_app, Mi.In_one, Mi.In_drop, Mi.In_rev, Mi.In_emp, Mi.In_nl, Mi.In_get, Mi.toDs_In, b_law_spoilt_s1, it, hi, nx, eqD, depOk, PyData.depth, h6]⟩
theorem eqv_nil {x : PyData} {r : List PyData} : PyData.eqv (.tuple (x :: r)) (.tuple []) = false := by rfl
theorem sp2 {n : Nat} {xs : List PyData} {e2 e3 : Option W} (is : List Int) :
    (∃ x is', evS (callN pr (n + 2)) b_law_spoilt_s2 [some (.ref 0), some (.d (.tuple xs)), e2, e3] [Dc is] = .ok (.ret (.d x)) [Dc is'] ∧ okD x = true) ∨
    (xs ≠ [] ∧ evS (callN pr (n + 2)) b_law_spoilt_s2 [some (.ref 0), some (.d (.tuple xs)), e2, e3] [Dc is] = .ok (.nx [some (.ref 0), some (.d (.tuple xs)), e2, e3]) [Dc is]) := by
  cases xs with
  | nil =>
    left
    obtain ⟨x, hx, e⟩ := pick0 (n := n) (mu := false) is (ds := picks2) (by simp [picks2])
    simp only [picks2] at e
    have q : PyData.eqv (.tuple []) (.tuple []) = true := rfl
    exact ⟨x, is.dropLast, by simp [Mi.runF, Mi.evSs, Mi.evS, Mi.evE, Mi.evT, Mi.evP, Mi.evEs, Mi.evIt, Mi.lift, Mi.bltV, Mi.intV, Mi.lenV, Mi.binV, Mi.intOp, Mi.cmpV, Mi.truV, Mi.mthV, Mi.recvOk, Mi.listOf, Mi.seqOf, Mi.dOf, Mi.cellL, Mi.srcOf, Mi.srcOk, Mi.setTg, Mi.setAll, Mi.mkL, Mi.toDs, Mi.In_len, Mi.In_app, Mi.In_one, Mi.In_drop, Mi.In_rev, Mi.In_emp, Mi.In_nl, Mi.In_get, Mi.toDs_In, b_law_spoilt_s2, e, eqD, depOk, PyData.depth, q, PyData.depthAll], picks2_ok x hx⟩
  | cons y r =>
    right
    have d0 : depOk (.tuple []) = true := rfl
    exact ⟨by simp, by simp [Mi.runF, Mi.evSs, Mi.evS, Mi.evE, Mi.evT, Mi.evP, Mi.evEs, Mi.evIt, Mi.lift, Mi.bltV, Mi.intV, Mi.lenV, Mi.binV, Mi.intOp, Mi.cmpV, Mi.truV, Mi.mthV, Mi.recvOk, Mi.listOf, Mi.seqOf, Mi.dOf, Mi.cellL, Mi.srcOf, Mi.srcOk, Mi.setTg, Mi.setAll, Mi.mkL, Mi.toDs, Mi.In_len, Mi.In_app, Mi.In_one, Mi.In_drop, Mi.In_rev, Mi.In_emp, Mi.In_nl, Mi.In_get, Mi.toDs_In, b_law_spoilt_s2, eqD, d0, eqv_nil]⟩
theorem spoilt_c (n : Nat) : ∀ (k : Nat) (t : PyData), lvl k t → ∀ is, ∃ x is', callN pr (n + k + 3) 19 [.ref 0, .d t] [Dc is] = .ok (.d x) [Dc is'] ∧ okD x = true := by
  intro k
  induction k with
  | zero =>
    intro t ht is
    rw [callN_eq (fd := ⟨2, 4, b_law_spoilt⟩) rfl]
    rcases sp1 (n := n) (t := t) (e2 := none) (e3 := none) is ht.2 with ⟨x, is', e, o⟩ | ⟨q, _⟩
    · exact ⟨x, is', by simp [Mi.runF, Mi.evSs, Mi.evS, Mi.evE, Mi.evT, Mi.evP, Mi.evEs, Mi.evIt, Mi.lift, Mi.bltV, Mi.intV, Mi.lenV, Mi.binV, Mi.intOp, Mi.cmpV, Mi.truV, Mi.mthV, Mi.recvOk, Mi.listOf, Mi.seqOf, Mi.dOf, Mi.cellL, Mi.srcOf, Mi.srcOk, Mi.setTg, Mi.setAll, Mi.mkL, Mi.toDs, Mi.In_len, Mi.In_app, Mi.In_one, Mi.In_drop, Mi.In_rev, Mi.In_emp, Mi.In_nl, Mi.In_get, Mi.toDs_In, b_law_spoilt, e], o⟩
    · rw [ht.1] at q; cases q
  | succ k ih =>
    intro t ht is
    rw [show n + (k + 1) + 3 = n + k + 3 + 1 by omega, callN_eq (fd := ⟨2, 4, b_law_spoilt⟩) rfl]
    have q1 := sp1 (n := n + k + 1) (t := t) (e2 := none) (e3 := none) is (lvl_ok ht)
    rw [show n + k + 1 + 2 = n + k + 3 from rfl] at q1
    rcases q1 with ⟨x, is', e, o⟩ | ⟨q, is1, E1⟩
    · exact ⟨x, is', by simp [Mi.runF, Mi.evSs, Mi.evS, Mi.evE, Mi.evT, Mi.evP, Mi.evEs, Mi.evIt, Mi.lift, Mi.bltV, Mi.intV, Mi.lenV, Mi.binV, Mi.intOp, Mi.cmpV, Mi.truV, Mi.mthV, Mi.recvOk, Mi.listOf, Mi.seqOf, Mi.dOf, Mi.cellL, Mi.srcOf, Mi.srcOk, Mi.setTg, Mi.setAll, Mi.mkL, Mi.toDs, Mi.In_len, Mi.In_app, Mi.In_one, Mi.In_drop, Mi.In_rev, Mi.In_emp, Mi.In_nl, Mi.In_get, Mi.toDs_In, b_law_spoilt, e], o⟩
    rcases ht with ht | ⟨xs, rfl, l, s⟩
    · rw [ht.1] at q; cases q
    have q2 := sp2 (n := n + k + 1) (xs := xs) (e2 := none) (e3 := none) is1
    rw [show n + k + 1 + 2 = n + k + 3 from rfl] at q2
    rcases q2 with ⟨x, is', e, o⟩ | ⟨hne, E2⟩
    · exact ⟨x, is', by simp [Mi.runF, Mi.evSs, Mi.evS, Mi.evE, Mi.evT, Mi.evP, Mi.evEs, Mi.evIt, Mi.lift, Mi.bltV, Mi.intV, Mi.lenV, Mi.binV, Mi.intOp, Mi.cmpV, Mi.truV, Mi.mthV, Mi.recvOk, Mi.listOf, Mi.seqOf, Mi.dOf, Mi.cellL, Mi.srcOf, Mi.srcOk, Mi.setTg, Mi.setAll, Mi.mkL, Mi.toDs, Mi.In_len, Mi.In_app, Mi.In_one, Mi.In_drop, Mi.In_rev, Mi.In_emp, Mi.In_nl, Mi.In_get, Mi.toDs_In, b_law_spoilt, E1, e], o⟩
    have lp : 0 < xs.length := List.length_pos_iff.mpr hne
    have E3 : evS (callN pr (n + k + 3)) b_law_spoilt_s3 [some (.ref 0), some (.d (.tuple xs)), none, none] [Dc is1] = .ok (.nx [some (.ref 0), some (.d (.tuple xs)), some (.d (.int (placeI (nextI is1) xs.length))), none]) [Dc is1.dropLast] := by
      have nx := next0 (n := n + k + 2) (mu := false) is1
      have f := fmod_place (v := nextI is1) lp
      simp [Mi.runF, Mi.evSs, Mi.evS, Mi.evE, Mi.evT, Mi.evP, Mi.evEs, Mi.evIt, Mi.lift, Mi.bltV, Mi.intV, Mi.lenV, Mi.binV, Mi.intOp, Mi.cmpV, Mi.truV, Mi.mthV, Mi.recvOk, Mi.listOf, Mi.seqOf, Mi.dOf, Mi.cellL, Mi.srcOf, Mi.srcOk, Mi.setTg, Mi.setAll, Mi.mkL, Mi.toDs, Mi.In_len, Mi.In_app, Mi.In_one, Mi.In_drop, Mi.In_rev, Mi.In_emp, Mi.In_nl, Mi.In_get, Mi.toDs_In, b_law_spoilt_s3, nx, hne, f]
    have E4 : evS (callN pr (n + k + 3)) b_law_spoilt_s4 [some (.ref 0), some (.d (.tuple xs)), some (.d (.int (placeI (nextI is1) xs.length))), none] [Dc is1.dropLast] = .ok (.nx [some (.ref 0), some (.d (.tuple xs)), some (.d (.int (placeI (nextI is1) xs.length))), some (.d (.int ((nextI is1.dropLast).fmod 5)))]) [Dc is1.dropLast.dropLast] := by
      have nx := next0 (n := n + k + 2) (mu := false) is1.dropLast
      simp [Mi.runF, Mi.evSs, Mi.evS, Mi.evE, Mi.evT, Mi.evP, Mi.evEs, Mi.evIt, Mi.lift, Mi.bltV, Mi.intV, Mi.lenV, Mi.binV, Mi.intOp, Mi.cmpV, Mi.truV, Mi.mthV, Mi.recvOk, Mi.listOf, Mi.seqOf, Mi.dOf, Mi.cellL, Mi.srcOf, Mi.srcOk, Mi.setTg, Mi.setAll, Mi.mkL, Mi.toDs, Mi.In_len, Mi.In_app, Mi.In_one, Mi.In_drop, Mi.In_rev, Mi.In_emp, Mi.In_nl, Mi.In_get, Mi.toDs_In, b_law_spoilt_s4, nx]
    have sx : ∀ x ∈ xs, okD x = true := fun x hx => lvl_ok (s x hx)
    generalize hp : placeI (nextI is1) xs.length = p at *
    have plt : p < xs.length := by rw [← hp]; exact place_lt lp
    generalize (nextI is1.dropLast).fmod 5 = kd at *
    have c1 := cutD_sub (xs := xs) (a := none) (b := some (p : Int))
    have c2 := cutD_sub (xs := xs) (a := some ((p : Int) + 1)) (b := none)
    have c3 := cutD_sub (xs := xs) (a := some (p : Int)) (b := some ((p : Int) + 1))
    cases h5 : PyData.eqv (.int kd) (.int 0) with
    | true =>
      have a1 := add_tup (x := cutD xs none (some (p : Int))) (y := cutD xs (some ((p : Int) + 1)) none) (h := [Dc is1.dropLast.dropLast]) (by omega)
      have E5 : evS (callN pr (n + k + 3)) b_law_spoilt_s5 [some (.ref 0), some (.d (.tuple xs)), some (.d (.int p)), some (.d (.int kd))] [Dc is1.dropLast.dropLast] = .ok (.ret (.d (.tuple (cutD xs none (some (p : Int)) ++ cutD xs (some ((p : Int) + 1)) none)))) [Dc is1.dropLast.dropLast] := by
        simp [b_law_spoilt_s5, evS, evSs, evT, evE, evP, lift, cmpV, dOf, eqD, depOk, PyData.depth, h5, truV, sliceV, a1, show binV false Operator.Add (.d (.int p)) (.d (.int 1)) [Dc is1.dropLast.dropLast] = .ok (.d (.int (p + 1))) [Dc is1.dropLast.dropLast] from rfl]
      refine ⟨.tuple (cutD xs none (some (p : Int)) ++ cutD xs (some ((p : Int) + 1)) none), is1.dropLast.dropLast, by simp [Mi.runF, Mi.evSs, Mi.evS, Mi.evE, Mi.evT, Mi.evP, Mi.evEs, Mi.evIt, Mi.lift, Mi.bltV, Mi.intV, Mi.lenV, Mi.binV, Mi.intOp, Mi.cmpV, Mi.truV, Mi.mthV, Mi.recvOk, Mi.listOf, Mi.seqOf, Mi.dOf, Mi.cellL, Mi.srcOf, Mi.srcOk, Mi.setTg, Mi.setAll, Mi.mkL, Mi.toDs, Mi.In_len, Mi.In_app, Mi.In_one, Mi.In_drop, Mi.In_rev, Mi.In_emp, Mi.In_nl, Mi.In_get, Mi.toDs_In, b_law_spoilt, E1, E2, E3, E4, E5], okD_tupI (by rw [List.length_append]; omega) fun x hx => ?_⟩
      rcases List.mem_append.mp hx with z | z
      · exact sx x (c1.1 x z)
      · exact sx x (c2.1 x z)
    | false =>
      have E5 : evS (callN pr (n + k + 3)) b_law_spoilt_s5 [some (.ref 0), some (.d (.tuple xs)), some (.d (.int p)), some (.d (.int kd))] [Dc is1.dropLast.dropLast] = .ok (.nx [some (.ref 0), some (.d (.tuple xs)), some (.d (.int p)), some (.d (.int kd))]) [Dc is1.dropLast.dropLast] := by
        simp [Mi.runF, Mi.evSs, Mi.evS, Mi.evE, Mi.evT, Mi.evP, Mi.evEs, Mi.evIt, Mi.lift, Mi.bltV, Mi.intV, Mi.lenV, Mi.binV, Mi.intOp, Mi.cmpV, Mi.truV, Mi.mthV, Mi.recvOk, Mi.listOf, Mi.seqOf, Mi.dOf, Mi.cellL, Mi.srcOf, Mi.srcOk, Mi.setTg, Mi.setAll, Mi.mkL, Mi.toDs, Mi.In_len, Mi.In_app, Mi.In_one, Mi.In_drop, Mi.In_rev, Mi.In_emp, Mi.In_nl, Mi.In_get, Mi.toDs_In, b_law_spoilt_s5, eqD, depOk, PyData.depth, h5]
      have p1 : binV false Operator.Add (.d (.int p)) (.d (.int 1)) [Dc is1.dropLast.dropLast] = .ok (.d (.int (p + 1))) [Dc is1.dropLast.dropLast] := rfl
      cases h1 : PyData.eqv (.int kd) (.int 1) with
      | true =>
        have a1 := add_tup (x := xs) (y := cutD xs (some (p : Int)) (some ((p : Int) + 1))) (h := [Dc is1.dropLast.dropLast]) (by omega)
        have E6 : evS (callN pr (n + k + 3)) b_law_spoilt_s6 [some (.ref 0), some (.d (.tuple xs)), some (.d (.int p)), some (.d (.int kd))] [Dc is1.dropLast.dropLast] = .ok (.ret (.d (.tuple (xs ++ cutD xs (some (p : Int)) (some ((p : Int) + 1)))))) [Dc is1.dropLast.dropLast] := by
          simp [b_law_spoilt_s6, evS, evSs, evT, evE, evP, lift, cmpV, dOf, eqD, depOk, PyData.depth, h1, truV, sliceV, a1, p1]
        refine ⟨.tuple (xs ++ cutD xs (some (p : Int)) (some ((p : Int) + 1))), is1.dropLast.dropLast, by simp [Mi.runF, Mi.evSs, Mi.evS, Mi.evE, Mi.evT, Mi.evP, Mi.evEs, Mi.evIt, Mi.lift, Mi.bltV, Mi.intV, Mi.lenV, Mi.binV, Mi.intOp, Mi.cmpV, Mi.truV, Mi.mthV, Mi.recvOk, Mi.listOf, Mi.seqOf, Mi.dOf, Mi.cellL, Mi.srcOf, Mi.srcOk, Mi.setTg, Mi.setAll, Mi.mkL, Mi.toDs, Mi.In_len, Mi.In_app, Mi.In_one, Mi.In_drop, Mi.In_rev, Mi.In_emp, Mi.In_nl, Mi.In_get, Mi.toDs_In, b_law_spoilt, E1, E2, E3, E4, E5, E6], okD_tupI (by rw [List.length_append]; omega) fun x hx => ?_⟩
        rcases List.mem_append.mp hx with z | z
        · exact sx x z
        · exact sx x (c3.1 x z)
      | false =>
        obtain ⟨y, is2, ey, oy⟩ := ih xs[p] (s _ (List.getElem_mem plt)) is1.dropLast.dropLast
        have ix : idxV (.d (.tuple xs)) (.d (.int p)) [Dc is1.dropLast.dropLast] = some (.d xs[p]) := by
          have := atI_nat (xs := xs.map W.d) (j := p) (v := .d xs[p]) (by simp [plt])
          simp [idxV, seqOf, this]
        have cw : callW (callN pr (n + k + 3)) false 19 [.ref 0, .d xs[p]] [Dc is1.dropLast.dropLast] = .ok (.d y) [Dc is2] := callW_cell (i := 0) (ds := [xs[p]]) (h := [Dc is1.dropLast.dropLast]) rfl (flat_Dc _) ey (flat_Dc _)
        have p2 : binV false Operator.Add (.d (.int p)) (.d (.int 1)) [Dc is2] = .ok (.d (.int (p + 1))) [Dc is2] := rfl
        have a1 := add_tup (x := cutD xs none (some (p : Int))) (y := [y]) (h := [Dc is2]) (by simp; omega)
        have a2 := add_tup (x := cutD xs none (some (p : Int)) ++ [y]) (y := cutD xs (some ((p : Int) + 1)) none) (h := [Dc is2]) (by simp; omega)
        have E6 : evS (callN pr (n + k + 3)) b_law_spoilt_s6 [some (.ref 0), some (.d (.tuple xs)), some (.d (.int p)), some (.d (.int kd))] [Dc is1.dropLast.dropLast] = .ok (.ret (.d (.tuple (cutD xs none (some (p : Int)) ++ [y] ++ cutD xs (some ((p : Int) + 1)) none)))) [Dc is2] := by
          simp only [b_law_spoilt_s6, evS, evSs, evT, evE, evEs, evP, lift, List.getElem?_cons_zero, List.getElem?_cons_succ, Option.join_some, bind_ok, toS_ok, cmpV, dOf, eqD, depOk, PyData.depth, Option.bind_some, h1, truV, Option.map_some, Bool.false_eq_true, if_false, sliceV, a1, a2, p2, ix, cw, toDs]
          simp only [List.append_assoc, List.cons_append, List.nil_append] at a2
          simp [h1, a1, a2, ix, cw, p2, toDs]
        refine ⟨.tuple (cutD xs none (some (p : Int)) ++ [y] ++ cutD xs (some ((p : Int) + 1)) none), is2, by simp [Mi.runF, Mi.evSs, Mi.evS, Mi.evE, Mi.evT, Mi.evP, Mi.evEs, Mi.evIt, Mi.lift, Mi.bltV, Mi.intV, Mi.lenV, Mi.binV, Mi.intOp, Mi.cmpV, Mi.truV, Mi.mthV, Mi.recvOk, Mi.listOf, Mi.seqOf, Mi.dOf, Mi.cellL, Mi.srcOf, Mi.srcOk, Mi.setTg, Mi.setAll, Mi.mkL, Mi.toDs, Mi.In_len, Mi.In_app, Mi.In_one, Mi.In_drop, Mi.In_rev, Mi.In_emp, Mi.In_nl, Mi.In_get, Mi.toDs_In, b_law_spoilt, E1, E2, E3, E4, E5, E6], okD_tupI (by simp only [List.length_append, List.length_singleton]; omega) fun x hx => ?_⟩
        rcases List.mem_append.mp hx with z | z
        · rcases List.mem_append.mp z with z | z
          · exact sx x (c1.1 x z)
          · simp at z; rw [z]; exact oy
        · exact sx x (c2.1 x z)
end K21

set_option maxRecDepth 100000
set_option maxHeartbeats 1000000
namespace K21
open PySem L2 Mi
/-! ### texts -/
theorem comp_str {Φ : Nat → List W → M W} {e a : E} {i : Nat} {env : Ev} {h : MH} {z : Str} {g : Nat → Bool} (ha : evE Φ a env h = .ok (.d (.str z)) h) (hl : z.cps.toList.length ≤ 16777216) (he : ∀ c, evE Φ e (env.set i (some (.d (.str ⟨#[c]⟩)))) h = .ok (.d (.bool (g c))) h) :
    evE Φ (.comp false [i] [i] false (.over a) .yes e) env h = .ok (.d (.list (z.cps.toList.map fun c => .bool (g c)))) h := by
  have := comp_data (Φ := Φ) (it := .over a) (e := e) (i := i) (env := env) (h := h) (ws := signs z) (g := fun w => match w with
    | .d (.str s) => .bool (g (s.cps.toList.headD 0))
    | _ => .none) (by simp [evIt, ha, lift, srcOf]) (by simpa [signs] using hl) (fun w hw => by
      obtain ⟨c, hc, rfl⟩ := List.mem_map.mp hw
      exact he c)
  rw [this]
  simp [signs]
theorem all_bools {xs : List Nat} {g : Nat → Bool} {h : MH} {p : List Bool → Bool} : boolsV p [.d (.list (xs.map fun x => .bool (g x)))] h = .ok (.d (.bool (p (xs.map g)))) h := by
  have : bools (xs.map fun x => .d (.bool (g x))) = some (xs.map g) := by
    induction xs with
    | nil => rfl
    | cons x r ih => simp [bools, ih]
  simp [boolsV, Mi.listOf, lift]
  rw [show (List.map (W.d ∘ fun x => PyData.bool (g x)) xs) = xs.map fun x => W.d (.bool (g x)) from rfl, this]
  rfl
theorem eqD_str (a b : Str) : eqD (.str a) (.str b) = some (decide (a = b)) := by
  have e := eqv_str a b
  unfold eqD
  rw [show depOk (.str a) = true from rfl, e]
  rfl
def okC (c : Nat) : Bool := decide (("!" : Str).cps.toList ≤ (⟨#[c]⟩ : Str).cps.toList) && decide ((⟨#[c]⟩ : Str).cps.toList ≤ ("~" : Str).cps.toList)
def okW (w : Str) : Bool := !decide (w = "") && w.cps.toList.all okC
theorem f2_ok {Φ : Nat → List W → M W} {e0 e1 e3 : Option W} {w : Str} {h : MH} (l : w.cps.toList.length ≤ 16777216) :
    evSs Φ b_words_of_f2 [e0, e1, some (.d (.str w)), e3] h = if okW w then .ok (.nx [e0, e1, some (.d (.str w)), e3]) h else .ok (.ret (.d .none)) h := by
  have c : evE Φ b_words_of_c1 [e0, e1, some (.d (.str w)), e3] h = .ok (.d (.list (w.cps.toList.map fun c => .bool (okC c)))) h :=
    comp_str (by simp [evE, lift]) l fun c => by
      cases q : decide (("!" : Str).cps.toList ≤ (⟨#[c]⟩ : Str).cps.toList) with
      | false => simp only [evE, lift, bind_ok, cmpV, List.set_cons_succ, List.set_cons_zero, List.getElem?_cons_succ, List.getElem?_cons_zero, Option.join_some, q, okC, Bool.false_and]
      | true => simp only [evE, lift, bind_ok, cmpV, List.set_cons_succ, List.set_cons_zero, List.getElem?_cons_succ, List.getElem?_cons_zero, Option.join_some, q, okC, Bool.true_and, Option.map_some]
  have a := all_bools (xs := w.cps.toList) (g := okC) (h := h) (p := fun bs => bs.all id)
  rw [List.all_map] at a
  have e : eqD (.str w) (.str "") = some (decide (w = "")) := eqD_str _ _
  unfold okW
  cases q : decide (w = "") with
  | true =>
    rw [q] at e
    simp only [b_words_of_f2, evSs, evS, evT, evE, evEs, lift, bind_ok, toS_ok, List.getElem?_cons_succ, List.getElem?_cons_zero, Option.join_some, cmpV, dOf, e, truV, Option.bind_some, if_true, Option.map_some, Bool.not_true, Bool.false_and, Bool.false_eq_true, if_false]
  | false =>
    rw [q] at e
    cases q2 : w.cps.toList.all okC with
    | true =>
      rw [show (w.cps.toList.all (id ∘ okC)) = true from q2] at a
      simp only [b_words_of_f2, evSs, evS, evT, evE, evEs, lift, bind_ok, toS_ok, List.getElem?_cons_succ, List.getElem?_cons_zero, Option.join_some, cmpV, dOf, e, truV, c, bltV, a, Option.bind_some, if_true, Option.map_some, Bool.false_eq_true, if_false, Bool.not_true, Bool.not_false, Bool.and_true, bind_ok]
    | false =>
      rw [show (w.cps.toList.all (id ∘ okC)) = false from q2] at a
      simp only [b_words_of_f2, evSs, evS, evT, evE, evEs, lift, bind_ok, toS_ok, List.getElem?_cons_succ, List.getElem?_cons_zero, Option.join_some, cmpV, dOf, e, truV, c, bltV, a, Option.bind_some, if_true, Option.map_some, Bool.false_eq_true, if_false, Bool.not_true, Bool.not_false, Bool.and_false, bind_ok]
theorem words_loop {Φ : Nat → List W → M W} {src : Src} {h : MH} (so : srcOk src h = true) : ∀ (ws : List Str) (e0 e1 e2 e3 : Option W), (∀ w ∈ ws, w.cps.toList.length ≤ 16777216) →
    (ws.all okW = true ∧ ∃ e2', forL src [2] false (fun env h => evSs Φ b_words_of_f2 env h) (ws.map fun w => .d (.str w)) [e0, e1, e2, e3] h = .ok (.nx [e0, e1, e2', e3]) h) ∨
    (ws.all okW = false ∧ forL src [2] false (fun env h => evSs Φ b_words_of_f2 env h) (ws.map fun w => .d (.str w)) [e0, e1, e2, e3] h = .ok (.ret (.d .none)) h)
  | [], e0, e1, e2, e3, _ => .inl ⟨rfl, e2, by simp [forL, so]⟩
  | w :: ws, e0, e1, e2, e3, l => by
    have f := f2_ok (Φ := Φ) (e0 := e0) (e1 := e1) (e3 := e3) (w := w) (h := h) (l w List.mem_cons_self)
    cases q : okW w with
    | false =>
      right
      rw [q] at f
      exact ⟨by simp [q], by simp [forL, so, setTg, f]⟩
    | true =>
      rw [q] at f
      rcases words_loop (Φ := Φ) so ws e0 e1 (some (.d (.str w))) e3 (fun u hu => l u (List.mem_cons_of_mem _ hu)) with ⟨h1, e2', h2⟩ | ⟨h1, h2⟩
      · exact .inl ⟨by simp only [List.all_cons, q, h1, Bool.true_and], e2', by simp [forL, so, setTg, f, h2]⟩
      · exact .inr ⟨by simp only [List.all_cons, q, h1, Bool.true_and], by simp [forL, so, setTg, f, h2]⟩

/-! ### the words of a line -/
theorem spl_sum (S : List Nat) : ∀ (xs : List Nat) (k : Nat) (acc : List Nat), ((TL.spl S k acc xs).map List.length).sum + (TL.spl S k acc xs).length ≤ acc.length + xs.length + 1
  | [], k, acc => by cases k <;> simp [TL.spl]
  | c :: r, 0, acc => by
    unfold TL.spl
    split
    · have := spl_sum S r (S.length - 1) []
      simp only [List.map_cons, List.sum_cons, List.length_cons, List.length_nil] at this ⊢
      omega
    · have := spl_sum S r 0 (acc ++ [c])
      simp only [List.length_append, List.length_cons, List.length_nil] at this ⊢
      omega
  | c :: r, k + 1, acc => by
    unfold TL.spl
    have := spl_sum S r k acc
    simp only [List.length_cons] at this ⊢
    omega
theorem split_sum (z : Str) : ((Txt.split z " ").map fun w => w.cps.toList.length).sum + (Txt.split z " ").length ≤ z.cps.toList.length + 1 := by
  have e := TL.split_spl z " " (by decide) (by
    have h1 : Builtin.Str.strKind " " = 1 := by decide +kernel
    rw [h1]
    unfold Builtin.Str.strKind
    split
    · decide
    · split <;> decide)
  have s := spl_sum (TL.tl " ") (TL.tl z) 0 []
  rw [← e] at s
  simp only [List.map_map, List.length_map, List.length_nil, Nat.zero_add] at s
  exact s
theorem le_sum : ∀ {l : List Nat} {x : Nat}, x ∈ l → x ≤ l.sum
  | y :: r, x, h => by
    rw [List.sum_cons]
    rcases List.mem_cons.mp h with z | z
    · omega
    · have := le_sum z
      omega
theorem split_len {z w : Str} (h : w ∈ Txt.split z " ") : w.cps.toList.length ≤ z.cps.toList.length + 1 := by
  have s := split_sum z
  have : w.cps.toList.length ≤ ((Txt.split z " ").map fun w => w.cps.toList.length).sum := le_sum (List.mem_map_of_mem h)
  omega
def WL (z : Str) : PyData := if (Txt.split z " ").all okW then .list ((Txt.split z " ").map .str) else .none
theorem words_body {Φ : Nat → List W → M W} {z : Str} (l : z.length ≤ 1000) : runF Φ ⟨1, 4, b_words_of⟩ [.d (.str z)] [] = .ok (.d (WL z)) [] := by
  have ln : lineOk (z.length + 2) = true := Nat.ble_eq_true_of_le (by omega)
  have lz : z.cps.toList.length = z.length := rfl
  have sp : splitV (.d (.str z)) [.d (.str " ")] [] = .ok (.d (.list ((Txt.split z " ").map .str))) [] := by
    simp only [splitV, ln]
    rfl
  have sz : ∀ w ∈ Txt.split z " ", w.cps.toList.length ≤ 16777216 := fun w hw => by
    have := split_len hw
    omega
  have lp := words_loop (Φ := Φ) (src := (((Txt.split z " ").map fun w => .d (.str w)), none)) (h := []) rfl (Txt.split z " ") (some (.d (.str z))) (some (.d (.list ((Txt.split z " ").map .str)))) none none sz
  have so : srcOf (.d (.list ((Txt.split z " ").map PyData.str))) [] = some (((Txt.split z " ").map fun w => W.d (.str w)), none) := by
    simp [srcOf]
  unfold WL
  rcases lp with ⟨h1, e2', h2⟩ | ⟨h1, h2⟩
  · rw [h1]
    simp only [runF, b_words_of, evSs, evS, evE, evEs, evIt, lift, List.length_cons, List.length_nil, List.map_cons, List.map_nil, List.replicate, List.cons_append, List.nil_append, bind_ok, toS_ok, List.getElem?_cons_zero, List.getElem?_cons_succ, Option.join_some, recvOk, mthV, sp, List.set_cons_succ, List.set_cons_zero, so, h2, if_true, Nat.zero_add, beq_self_eq_true, Nat.reduceSub]
  · rw [h1]
    simp only [runF, b_words_of, evSs, evS, evE, evEs, evIt, lift, List.length_cons, List.length_nil, List.map_cons, List.map_nil, List.replicate, List.cons_append, List.nil_append, bind_ok, toS_ok, List.getElem?_cons_zero, List.getElem?_cons_succ, Option.join_some, recvOk, mthV, sp, List.set_cons_succ, List.set_cons_zero, so, h2, if_true, Nat.zero_add, beq_self_eq_true, Nat.reduceSub, Bool.false_eq_true, if_false]
theorem words_w {n : Nat} {mu : Bool} {z : Str} (h : MH) (l : z.length ≤ 1000) : callW (callN pr (n + 1)) mu 6 [.d (.str z)] h = .ok (.d (WL z)) h := by
  refine callW_data (ds := [.str z]) (hc := []) h ?_
  rw [callN_eq (fd := ⟨1, 4, b_words_of⟩) rfl]
  exact words_body l
theorem line_w {n : Nat} {mu : Bool} {z : Str} (h : MH) (l : z.length ≤ 1000) : callW (callN pr (n + 1)) mu 15 [.d (.str z)] h = .ok (.d (WL z)) h := by
  refine callW_data (ds := [.str z]) (hc := []) h ?_
  rw [callN_eq (fd := ⟨1, 4, b_law_line⟩) rfl]
  exact words_body l
end K21

set_option maxRecDepth 100000
set_option maxHeartbeats 1000000
namespace K21
open PySem L2 Mi
/-! ### what is shown -/
theorem textFrom_ub : ∀ (ts : List Str) (k : Nat) (acc : Str), (textFrom k acc ts).length ≤ acc.length + (ts.map fun t => t.length + 2).sum
  | [], k, acc => by simp [textFrom]
  | t :: r, k, acc => by
    have ih := textFrom_ub r (k + 1) (acc ++ (if k > 0 then ", " else "" : String) ++ t)
    rw [Str.length_append, Str.length_append] at ih
    have hs : (((if k > 0 then ", " else "" : String) : Str)).length ≤ 2 := by split <;> decide +kernel
    simp only [textFrom, List.map_cons, List.sum_cons]
    omega
theorem showAll_str : ∀ ws : List Str, PyData.showableAll (ws.map .str) = true
  | [] => rfl
  | w :: r => by simp [PyData.showableAll, PyData.showable, showAll_str r]
theorem shown_str : ∀ ws : List Str, PyData.shownAll (ws.map .str) = ws.map reprText
  | [] => rfl
  | w :: r => by simp [PyData.shownAll, PyData.shown, shown_str r]
theorem depthAll_str : ∀ ws : List Str, PyData.depthAll (ws.map .str) ≤ 1
  | [] => by simp [PyData.depthAll]
  | w :: r => by
    have := depthAll_str r
    simp [PyData.depthAll, PyData.depth]
    omega
theorem okC_lt {c : Nat} (h : okC c = true) : c ≤ 126 := by
  unfold okC at h
  rw [Bool.and_eq_true] at h
  have h2 := of_decide_eq_true h.2
  have e : ("~" : Str).cps.toList = [126] := by decide +kernel
  rw [e] at h2
  by_cases hc : c ≤ 126
  · exact hc
  · exfalso
    have : ([126] : List Nat) < [c] := by
      apply List.Lex.rel
      omega
    exact h2 this
theorem repr_len {w : Str} (h : okW w = true) : (reprText w).length ≤ 10 * w.cps.toList.length + 2 := by
  refine PySem.StrLaws.reprText_len w fun c hc => ?_
  unfold okW at h
  rw [Bool.and_eq_true] at h
  have := okC_lt (List.all_eq_true.mp h.2 c hc)
  have : 16 ^ 8 = 4294967296 := by decide
  omega
theorem sum_repr : ∀ {ws : List Str}, ws.all okW = true → ((ws.map reprText).map fun t => t.length + 2).sum ≤ 10 * (ws.map fun w => w.cps.toList.length).sum + 4 * ws.length
  | [], _ => by simp
  | w :: r, h => by
    rw [List.all_cons, Bool.and_eq_true] at h
    have h1 := repr_len h.1
    have h2 := sum_repr h.2
    simp only [List.map_cons, List.sum_cons, List.length_cons]
    omega
theorem WL_sh {z : Str} (l : z.length ≤ 1000) : shOk (WL z) = true := by
  unfold WL
  split
  · rename_i h
    have s := split_sum z
    have lz : z.cps.toList.length = z.length := rfl
    have q := sum_repr h
    have t := textFrom_ub ((Txt.split z " ").map reprText) 0 "["
    have l1 : (("[" : String) : Str).length = 1 := by decide +kernel
    have l2 : (("]" : String) : Str).length = 1 := by decide +kernel
    unfold shOk
    rw [Bool.and_eq_true, Bool.and_eq_true]
    refine ⟨⟨showAll_str _, ?_⟩, ?_⟩
    · unfold depOk
      have := depthAll_str (Txt.split z " ")
      exact Nat.ble_eq_true_of_le (by simp only [PyData.depth]; omega)
    · show Nat.ble (listText (PyData.shownAll ((Txt.split z " ").map .str))).length 16777216 = true
      rw [shown_str]
      unfold listText
      rw [Str.length_append]
      exact Nat.ble_eq_true_of_le (by omega)
  · rfl
end K21

set_option maxRecDepth 100000
set_option maxHeartbeats 1000000
namespace K21
open PySem L2 Mi
/-! ### texts that are drawn -/
theorem draw_texts {n : Nat} {es : Es} {pcs : List Str} {M : Nat} {env : Ev} {c0 : Cell} {is : List Int} (hp : 0 < pcs.length) (hM : 0 < M) (hM2 : M ≤ 1000) (hes : ∀ (env : Ev) (h : MH), evEs (callN pr (n + 2)) es env h = .ok (pcs.map fun s => .d (.str s)) h)
    (hv : ∀ w, (env.set 10 w)[1]? = some (some (.ref 1))) (hv1 : env[1]? = some (some (.ref 1))) :
    ∃ (ys : List Str) (is' : List Int), evE (callN pr (n + 2)) (.comp false [10] [10] false (.rng1 (.bin false .Mod (.blt .int (.cons (.call 11 false (.cons (.var 1) .nil)) .nil)) (.lit (.int M)))) .yes (.call 13 false (.cons (.var 1) (.cons (.lst false es) .nil)))) env [c0, Dc is] = .ok (.d (.list (ys.map .str))) [c0, Dc is'] ∧ (∀ y ∈ ys, y ∈ pcs) ∧ ys.length ≤ M := by
  have nx : callW (callN pr (n + 2)) false 11 [.ref 1] [c0, Dc is] = .ok (.d (.int (nextI is))) [c0, Dc is.dropLast] := next_w (n := n + 1) (i := 1) (h := [c0, Dc is]) rfl is rfl
  have hm : ((M : Nat) : Int) ≠ 0 := by omega
  have pl := place_lt (v := nextI is) hM
  have fm := fmod_place (v := nextI is) hM
  have hr : rngOk ((placeI (nextI is) M : Nat) : Int) = true := Nat.ble_eq_true_of_le (by simp; omega)
  have hi : evIt (callN pr (n + 2)) (.rng1 (.bin false .Mod (.blt .int (.cons (.call 11 false (.cons (.var 1) .nil)) .nil)) (.lit (.int M)))) env [c0, Dc is] = .ok (rngFrom 0 (placeI (nextI is) M), none) [c0, Dc is.dropLast] := by
    have hM' : M ≠ 0 := by omega
    simp [Mi.runF, Mi.evSs, Mi.evS, Mi.evE, Mi.evT, Mi.evP, Mi.evEs, Mi.evIt, Mi.lift, Mi.bltV, Mi.intV, Mi.lenV, Mi.binV, Mi.intOp, Mi.cmpV, Mi.truV, Mi.mthV, Mi.recvOk, Mi.listOf, Mi.seqOf, Mi.dOf, Mi.cellL, Mi.srcOf, Mi.srcOk, Mi.setTg, Mi.setAll, Mi.mkL, Mi.toDs, Mi.In_len, Mi.In_app, Mi.In_one, Mi.In_drop, Mi.In_rev, Mi.In_emp, Mi.In_nl, Mi.In_get, Mi.toDs_In, hv1, nx, fm, hr, hM']
  obtain ⟨ds, h2, e1, ⟨is', rfl⟩, p, l⟩ := comp_chg (Φ := callN pr (n + 2)) (e := .call 13 false (.cons (.var 1) (.cons (.lst false es) .nil))) (i := 10) (env := env) (fun h => ∃ is, h = [c0, Dc is]) (fun d => ∃ s ∈ pcs, d = .str s) hi (by rw [rng_len]; omega) ⟨_, rfl⟩ (by
    rintro w hw h ⟨is, rfl⟩
    have hd : 0 < (pcs.map PyData.str).length := by simpa using hp
    have pk := pick_w (P := pr) (n := n) (f := 13) (g := 11) (i := 1) (mu := false) (h := [c0, Dc is]) rfl rfl is hd rfl
    have td : toDs (pcs.map fun s => W.d (.str s)) = some (pcs.map .str) := by
      have := toDs_map (pcs.map .str)
      rw [List.map_map] at this
      exact this
    refine ⟨_, [c0, Dc is.dropLast], ?_, ⟨_, rfl⟩, pcs[placeI (nextI is) (pcs.map PyData.str).length]'(by have := place_lt (v := nextI is) hd; simpa using this), List.getElem_mem _, rfl⟩
    simp only [evE, evEs, lift, hv, Option.join_some, bind_ok, hes, mkL, Bool.false_eq_true, if_false, td, pk]
    simp)
  have : ∃ ys : List Str, ds = ys.map .str ∧ ∀ y ∈ ys, y ∈ pcs := by
    clear e1 l
    induction ds with
    | nil => exact ⟨[], rfl, by simp⟩
    | cons d r ih =>
      obtain ⟨ys, e, q⟩ := ih fun x hx => p x (List.mem_cons_of_mem _ hx)
      obtain ⟨s, hs, rfl⟩ := p d List.mem_cons_self
      refine ⟨s :: ys, by rw [e]; rfl, fun y hy => ?_⟩
      rcases List.mem_cons.mp hy with z | z
      · rw [z]; exact hs
      · exact q y z
  obtain ⟨ys, rfl, q⟩ := this
  refine ⟨ys, is', e1, q, ?_⟩
  rw [rng_len] at l
  simp at l
  omega
theorem txts_str : ∀ ys : List Str, txts (ys.map fun s => .d (.str s)) = some ys
  | [] => rfl
  | y :: r => by simp [txts, txts_str r]
theorem len_sum {ys : List Str} {k : Nat} (h : ∀ y ∈ ys, y.length ≤ k) : (ys.map (·.length)).sum ≤ k * ys.length := by
  induction ys with
  | nil => simp
  | cons y r ih =>
    have h1 := h y List.mem_cons_self
    have h2 := ih fun x hx => h x (List.mem_cons_of_mem _ hx)
    simp only [List.map_cons, List.sum_cons, List.length_cons, Nat.mul_succ]
    omega
theorem join_w {ys : List Str} {k : Nat} {h : MH} (hk : ∀ y ∈ ys, y.length ≤ k) (hk2 : k ≤ 10) (hl : ys.length ≤ 1000) : joinV (.d (.str "")) [.d (.list (ys.map .str))] h = .ok (.d (.str (Txt.join "" ys))) h ∧ (Txt.join "" ys).length ≤ k * ys.length := by
  have s := len_sum hk
  have l0 : ("" : Str).length = 0 := by decide +kernel
  have : k * ys.length ≤ 10 * ys.length := Nat.mul_le_mul_right _ hk2
  have ln : lineOk (strLens ys ("" : Str).length) = true := by
    unfold strLens
    rw [l0]
    exact Nat.ble_eq_true_of_le (by omega)
  refine ⟨?_, ?_⟩
  · have so : (seqOf (.d (.list (ys.map .str))) h).bind txts = some ys := by
      simp only [seqOf, Option.bind_some, List.map_map]
      exact txts_str ys
    simp only [joinV, so, ln, if_true]
  · have := StrLaws.join_length_le "" ys
    rw [← StrLaws.glued_eq_join, l0] at this
    show (Builtin.Str.glued "" ys).length ≤ _
    omega
theorem app_mem {x y : Str} {c : Nat} : c ∈ (x ++ y).cps.toList ↔ c ∈ x.cps.toList ∨ c ∈ y.cps.toList := by
  have : (x ++ y).cps.toList = x.cps.toList ++ y.cps.toList := by
    show (x.cps ++ y.cps).toList = _
    simp
  rw [this, List.mem_append]
theorem join_mem {c : Nat} : ∀ {ys : List Str}, c ∈ (Str.join "" ys).cps.toList → ∃ y ∈ ys, c ∈ y.cps.toList
  | [], h => by
    have e : (Str.join "" []).cps.toList = [] := by decide +kernel
    rw [e] at h
    simp at h
  | [y], h => ⟨y, by simp, h⟩
  | x :: y :: r, h => by
    have h' : c ∈ (x ++ "" ++ Str.join "" (y :: r)).cps.toList := h
    rcases app_mem.mp h' with z | z
    · rcases app_mem.mp z with z | z
      · exact ⟨x, by simp, z⟩
      · have e : ("" : Str).cps.toList = [] := by decide +kernel
        rw [e] at z
        simp at z
    · obtain ⟨u, hu, hc⟩ := join_mem z
      exact ⟨u, List.mem_cons_of_mem _ hu, hc⟩
end K21

set_option maxRecDepth 100000
set_option maxHeartbeats 1000000
namespace K21
open PySem L2 Mi
/-! ### names -/
def smC (c : Nat) : Bool := strIn ⟨#[c]⟩ "abcdefghijklmnopqrstuvwxyz"
def nameB (w : Str) : Bool := if decide ((1 : Int) ≤ w.length) then (if decide ((w.length : Int) ≤ 12) then w.cps.toList.all smC else false) else false
theorem name_eval {Φ : Nat → List W → M W} {s c : E} {i j : Nat} {env : Ev} {h : MH} {w : Str} (lw : w.length ≤ 1000) (hv : env[i]? = some (some (.d (.str w)))) (hc : evE Φ c env h = .ok (.d (.list (w.cps.toList.map fun c => .bool (smC c)))) h) :
    evE Φ (.and (.chain .LtE .LtE (.lit (.int 1)) (.blt .len (.cons (.var i) .nil)) (.lit (.int 12))) (.blt .all (.cons c .nil))) env h = .ok (.d (.bool (nameB w))) h := by
  have ln : lineOk w.length = true := Nat.ble_eq_true_of_le (by omega)
  have a := all_bools (xs := w.cps.toList) (g := smC) (h := h) (p := fun bs => bs.all id)
  rw [List.all_map] at a
  unfold nameB
  cases q1 : decide ((1 : Int) ≤ w.length) with
  | false => simp only [evE, evEs, lift, bind_ok, hv, Option.join_some, bltV, lenV, ln, if_true, cmpV, q1, truV, Bool.false_eq_true, if_false]
  | true =>
    cases q2 : decide ((w.length : Int) ≤ 12) with
    | false => simp only [evE, evEs, lift, bind_ok, hv, Option.join_some, bltV, lenV, ln, if_true, cmpV, q1, q2, truV, Bool.false_eq_true, if_false, Option.map_some]
    | true =>
      simp only [evE, evEs, lift, bind_ok, hv, Option.join_some, bltV, lenV, ln, if_true, cmpV, q1, q2, truV, Option.map_some, hc, a]
      rfl
theorem is_name_w {n : Nat} {mu : Bool} {w : Str} (h : MH) (l : w.length ≤ 1000) : callW (callN pr (n + 1)) mu 7 [.d (.str w)] h = .ok (.d (.bool (nameB w))) h := by
  refine callW_data (ds := [.str w]) (hc := []) h ?_
  rw [callN_eq (fd := ⟨1, 2, b_is_name⟩) rfl]
  have lw : w.cps.toList.length = w.length := rfl
  have c : evE (callN pr n) b_is_name_c1 [some (.d (.str w)), none] [] = .ok (.d (.list (w.cps.toList.map fun c => .bool (smC c)))) [] :=
    comp_str (by simp [evE, lift]) (by omega) fun c => by simp [evE, lift, cmpV, Mi.inV, smC]
  have e := name_eval (Φ := callN pr n) (s := .lit .none) (i := 0) (j := 0) (env := [some (.d (.str w)), none]) (h := []) l rfl c
  simp only [runF, b_is_name, evSs, evS, List.length_cons, List.length_nil, List.map_cons, List.map_nil, List.replicate, List.cons_append, List.nil_append, e, toS_ok, if_true, Nat.zero_add, beq_self_eq_true, Nat.reduceSub]
/-! ### numbers -/
def alph : List Nat := [97, 107, 122, 57, 48, 49, 66]
def shorts : List Str := ⟨#[]⟩ :: (alph.map (fun c => ⟨#[c]⟩) ++ alph.flatMap fun a => alph.map fun b => ⟨#[a, b]⟩)
def digit (c : Nat) : Option Int := if c = 57 then some 9 else if c = 48 then some 0 else if c = 49 then some 1 else none
def numD (w : Str) : PyData := match w.cps.toList with
  | [c] => (match digit c with
    | some i => .int i
    | none => .none)
  | [a, b] => (match digit a, digit b with
    | some i, some j => if i = 0 then .none else .int (10 * i + j)
    | _, _ => .none)
  | _ => .none
theorem num_shorts (Φ : Nat → List W → M W) : (shorts.map fun w => runF Φ ⟨1, 2, b_number_in⟩ [.d (.str w)] []) = shorts.map fun w => .ok (.d (numD w)) [] := by
  kernel_rfl
theorem numof_shorts (Φ : Nat → List W → M W) : (shorts.map fun w => runF Φ ⟨1, 2, b_law_number_of⟩ [.d (.str w)] []) = shorts.map fun w => .ok (.d (numD w)) [] := by
  kernel_rfl

theorem short_mem {w : Str} (hc : ∀ c ∈ w.cps.toList, c ∈ alph) (hl : w.length ≤ 2) : w ∈ shorts := by
  have e : w = ⟨w.cps.toList.toArray⟩ := by simp
  have lw : w.cps.toList.length = w.length := rfl
  revert hc e lw
  match w.cps.toList with
  | [] => intro _ e _; rw [e]; simp [shorts]
  | [a] =>
    intro hc e _
    rw [e]
    have ha := hc a (by simp)
    simp only [shorts, List.mem_cons, List.mem_append, List.mem_map]
    exact .inr (.inl ⟨a, ha, rfl⟩)
  | [a, b] =>
    intro hc e _
    rw [e]
    have ha := hc a (by simp)
    have hb := hc b (by simp)
    simp only [shorts, List.mem_cons, List.mem_append, List.mem_flatMap, List.mem_map]
    exact .inr (.inr ⟨a, ha, b, hb, rfl⟩)
  | _ :: _ :: _ :: r =>
    intro _ _ lw
    simp at lw
    omega
theorem toStr_len : ((List.range 100).all fun j => Nat.ble (toString (j : Int) : Str).length 2) = true := by decide +kernel
theorem num_long {Φ : Nat → List W → M W} {w : Str} (l : w.length ≤ 1000) (h2 : 2 < w.length) : runF Φ ⟨1, 2, b_number_in⟩ [.d (.str w)] [] = .ok (.d .none) [] := by
  have ln : lineOk w.length = true := Nat.ble_eq_true_of_le (by omega)
  have q1 : decide ((1 : Int) ≤ w.length) = true := decide_eq_true (by omega)
  have q2 : decide ((w.length : Int) ≤ 2) = false := decide_eq_false (by omega)
  simp only [runF, b_number_in, evSs, evS, evT, evE, evEs, lift, List.length_cons, List.length_nil, List.map_cons, List.map_nil, List.replicate, List.cons_append, List.nil_append, bind_ok, toS_ok, List.getElem?_cons_zero, Option.join_some, bltV, lenV, ln, if_true, cmpV, q1, q2, truV, Option.map_some, Bool.not_false, Nat.zero_add, beq_self_eq_true, Nat.reduceSub]
theorem numof_long {Φ : Nat → List W → M W} {w : Str} (h2 : 2 < w.length) : runF Φ ⟨1, 2, b_law_number_of⟩ [.d (.str w)] [] = .ok (.d .none) [] := by
  have c : evE Φ b_law_number_of_c1 [some (.d (.str w)), none] [] = .ok (.d (.list ((rngFrom 0 100).map fun u => match u with
    | .d (.int i) => .str (toString i)
    | _ => .none))) [] := by
    refine comp_data (Φ := Φ) (it := .rng1 (.lit (.int 100))) (e := .blt .str (.cons (.var 1) .nil)) (i := 1) (ws := rngFrom 0 100) rfl (by rw [rng_len]; decide) fun u hu => ?_
    obtain ⟨j, hj, e⟩ := List.mem_iff_getElem.mp hu
    obtain ⟨rfl, hlt⟩ := rng_at 100 0 j u (by rw [List.getElem?_eq_getElem hj, e])
    have lg : Nat.ble ((0 : Int) + (j : Int)).natAbs.log2 1919 = true := by
      refine Nat.ble_eq_true_of_le ?_
      have : ((0 : Int) + (j : Int)).natAbs = j := by omega
      rw [this]
      have := Nat.log2_le_self j
      omega
    simp only [evE, evEs, lift, bind_ok, List.set_cons_succ, List.set_cons_zero, List.getElem?_cons_succ, List.getElem?_cons_zero, Option.join_some, bltV, strV, lg, if_true]
  have no : inD (.str w) ((rngFrom 0 100).map fun u => match u with
    | .d (.int i) => .str (toString i)
    | _ => .none) = some false := by
    unfold inD
    rw [show depOk (.str w) = true from rfl, if_pos rfl]
    congr 1
    rw [List.any_eq_false]
    intro x hx
    obtain ⟨u, hu, rfl⟩ := List.mem_map.mp hx
    obtain ⟨j, hj, e⟩ := List.mem_iff_getElem.mp hu
    obtain ⟨rfl, hlt⟩ := rng_at 100 0 j u (by rw [List.getElem?_eq_getElem hj, e])
    have t := List.all_eq_true.mp toStr_len j (List.mem_range.mpr hlt)
    have t := Nat.le_of_ble_eq_true t
    dsimp only
    rw [eqv_str, Int.zero_add]
    intro z
    have z := of_decide_eq_true z
    rw [z] at t
    omega
  have iv : Mi.inV (.d (.str w)) (.d (.list ((rngFrom 0 100).map fun u => match u with
    | .d (.int i) => .str (toString i)
    | _ => .none))) [] = some false := by
    simp only [Mi.inV, dOf, seqOf, toDs_map, Option.bind_some]
    exact no
  simp only [runF, b_law_number_of, evSs, evS, evT, evE, evEs, lift, List.length_cons, List.length_nil, List.map_cons, List.map_nil, List.replicate, List.cons_append, List.nil_append, bind_ok, toS_ok, List.getElem?_cons_zero, Option.join_some, c, cmpV, iv, truV, Option.map_some, Bool.false_eq_true, if_false, if_true, Nat.zero_add, beq_self_eq_true, Nat.reduceSub]
def numX (w : Str) : PyData := if w.length ≤ 2 then numD w else .none
theorem num_w {n : Nat} {mu : Bool} {w : Str} (h : MH) (l : w.length ≤ 1000) (hc : ∀ c ∈ w.cps.toList, c ∈ alph) : callW (callN pr (n + 1)) mu 8 [.d (.str w)] h = .ok (.d (numX w)) h := by
  refine callW_data (ds := [.str w]) (hc := []) h ?_
  rw [callN_eq (fd := ⟨1, 2, b_number_in⟩) rfl]
  unfold numX
  split
  · rename_i h2
    exact List.map_inj_left.mp (num_shorts (callN pr n)) w (short_mem hc h2)
  · exact num_long l (by omega)
theorem numof_w {n : Nat} {mu : Bool} {w : Str} (h : MH) (hc : ∀ c ∈ w.cps.toList, c ∈ alph) : callW (callN pr (n + 1)) mu 16 [.d (.str w)] h = .ok (.d (numX w)) h := by
  refine callW_data (ds := [.str w]) (hc := []) h ?_
  rw [callN_eq (fd := ⟨1, 2, b_law_number_of⟩) rfl]
  unfold numX
  split
  · rename_i h2
    exact List.map_inj_left.mp (numof_shorts (callN pr n)) w (short_mem hc h2)
  · exact numof_long (by omega)
theorem sh_shorts : (shorts.all fun w => shOk (.list [.bool true, numD w]) && shOk (.list [.bool false, numD w])) = true := by decide +kernel
theorem num_sh {w : Str} {b : Bool} (hc : ∀ c ∈ w.cps.toList, c ∈ alph) : shOk (.list [.bool b, numX w]) = true := by
  unfold numX
  split
  · rename_i h2
    have := List.all_eq_true.mp sh_shorts w (short_mem hc h2)
    rw [Bool.and_eq_true] at this
    cases b
    · exact this.2
    · exact this.1
  · cases b <;> decide +kernel
end K21

set_option maxRecDepth 100000
set_option maxHeartbeats 1000000
namespace K21
open PySem L2 Mi
abbrev Φ0 : Nat → List W → M W := callN pr 39
/-! ### the turns -/
def pcs1 : List Str := ["a", "b", " ", "0", "7", "~", "!", "(", "A", "\t", "-", "z", "  "]
def pcs2 : List Str := ["a", "k", "z", "9", "0", "1", "", "", "B"]
theorem pcs1_len : ∀ y ∈ pcs1, y.length ≤ 2 := by decide +kernel
theorem pcs2_len : ∀ y ∈ pcs2, y.length ≤ 1 := by decide +kernel
theorem pcs2_alph : ∀ y ∈ pcs2, ∀ c ∈ y.cps.toList, c ∈ alph := by decide +kernel
theorem reprV_ok {d : PyData} {h : MH} (s : shOk d = true) : reprV [.d d] h = .ok (.d (.str d.shown)) h := by
  simp [reprV, dOf, s]
theorem ne_str {a : Str} {h : MH} : cmpV .NotEq (.d (.str a)) (.d (.str a)) h = some false := by
  simp [cmpV, dOf, eqD_str]
theorem ss_cons {Φ : Nat → List W → M W} {s : S} {ss : Ss} {env env1 : Ev} {h h1 : MH} (e : evS Φ s env h = .ok (.nx env1) h1) : evSs Φ (.cons s ss) env h = evSs Φ ss env1 h1 := by
  simp only [evSs, e]
theorem set_eval {Φ : Nat → List W → M W} {i : Nat} {e : E} {env : Ev} {h h1 : MH} {w : W} (q : evE Φ e env h = .ok w h1) : evS Φ (.set i e) env h = .ok (.nx (env.set i (some w))) h1 := by
  simp only [evS, q, toS_ok]
theorem f4_ok {c0 : Cell} {is : List Int} {e0 e2 e6 e7 e8 : Option W} :
    ∃ (z w : Str) (b : Bool) (is' : List Int), evSs Φ0 b_law_f4 [e0, some (.ref 1), e2, none, none, none, e6, e7, e8, none, none, none, none] [c0, Dc is] =
      .ok (.nx [e0, some (.ref 1), e2, none, none, none, some (.d (.str z)), some (.d (.str w)), some (.d (.bool b)), none, none, none, none]) [c0, Dc is'] := by
  obtain ⟨ys, is1, E1, m1, l1⟩ := draw_texts (n := 37) (pcs := pcs1) (M := 9) (env := [e0, some (.ref 1), e2, none, none, none, e6, e7, e8, none, none, none, none]) (c0 := c0) (is := is)
    (es := (.cons (.lit (.str "a")) (.cons (.lit (.str "b")) (.cons (.lit (.str " ")) (.cons (.lit (.str "0")) (.cons (.lit (.str "7")) (.cons (.lit (.str "~")) (.cons (.lit (.str "!")) (.cons (.lit (.str "(")) (.cons (.lit (.str "A")) (.cons (.lit (.str "\t")) (.cons (.lit (.str "-")) (.cons (.lit (.str "z")) (.cons (.lit (.str "  ")) .nil)))))))))))))) (by decide) (by decide) (by decide) (fun _ _ => rfl) (fun _ => rfl) rfl
  have E1 : evE Φ0 b_law_c1 [e0, some (.ref 1), e2, none, none, none, e6, e7, e8, none, none, none, none] [c0, Dc is] = .ok (.d (.list (ys.map .str))) [c0, Dc is1] := E1
  obtain ⟨J1, L1⟩ := join_w (ys := ys) (k := 2) (h := [c0, Dc is1]) (fun y hy => pcs1_len y (m1 y hy)) (by decide) (by omega)
  have lz : (Txt.join "" ys).length ≤ 1000 := by omega
  generalize Txt.join "" ys = z at *
  have W1 : callW Φ0 false 6 [.d (.str z)] [c0, Dc is1] = .ok (.d (WL z)) [c0, Dc is1] := words_w (n := 38) _ lz
  have W2 : callW Φ0 false 15 [.d (.str z)] [c0, Dc is1] = .ok (.d (WL z)) [c0, Dc is1] := line_w (n := 38) _ lz
  have R1 := reprV_ok (h := [c0, Dc is1]) (WL_sh lz)
  obtain ⟨us, is2, E2, m2, l2⟩ := draw_texts (n := 37) (pcs := pcs2) (M := 15) (env := [e0, some (.ref 1), e2, none, none, none, some (.d (.str z)), e7, e8, none, none, none, none]) (c0 := c0) (is := is1)
    (es := (.cons (.lit (.str "a")) (.cons (.lit (.str "k")) (.cons (.lit (.str "z")) (.cons (.lit (.str "9")) (.cons (.lit (.str "0")) (.cons (.lit (.str "1")) (.cons (.lit (.str "")) (.cons (.lit (.str "")) (.cons (.lit (.str "B")) .nil)))))))))) (by decide) (by decide) (by decide) (fun _ _ => rfl) (fun _ => rfl) rfl
  have E2 : evE Φ0 b_law_c2 [e0, some (.ref 1), e2, none, none, none, some (.d (.str z)), e7, e8, none, none, none, none] [c0, Dc is1] = .ok (.d (.list (us.map .str))) [c0, Dc is2] := E2
  obtain ⟨J2, L2⟩ := join_w (ys := us) (k := 1) (h := [c0, Dc is2]) (fun y hy => pcs2_len y (m2 y hy)) (by decide) (by omega)
  have lw : (Txt.join "" us).length ≤ 1000 := by omega
  have hc : ∀ c ∈ (Txt.join "" us).cps.toList, c ∈ alph := fun c hc => by
    have hc : c ∈ (Builtin.Str.glued "" us).cps.toList := hc
    rw [StrLaws.glued_eq_join] at hc
    obtain ⟨y, hy, h⟩ := join_mem hc
    exact pcs2_alph y (m2 y hy) c h
  generalize Txt.join "" us = w at *
  have lwl : w.cps.toList.length = w.length := rfl
  have C3 : evE Φ0 b_law_c3 [e0, some (.ref 1), e2, none, none, none, some (.d (.str z)), some (.d (.str w)), e8, none, none, none, none] [c0, Dc is2] = .ok (.d (.list (w.cps.toList.map fun c => .bool (smC c)))) [c0, Dc is2] :=
    comp_str (by simp [evE, lift]) (by omega) fun c => by simp [evE, lift, cmpV, Mi.inV, smC]
  have N1 := name_eval (Φ := Φ0) (s := .lit .none) (i := 7) (j := 0) (env := [e0, some (.ref 1), e2, none, none, none, some (.d (.str z)), some (.d (.str w)), e8, none, none, none, none]) (h := [c0, Dc is2]) lw rfl C3
  have N2 : callW Φ0 false 7 [.d (.str w)] [c0, Dc is2] = .ok (.d (.bool (nameB w))) [c0, Dc is2] := is_name_w (n := 38) _ lw
  have N3 : callW Φ0 false 8 [.d (.str w)] [c0, Dc is2] = .ok (.d (numX w)) [c0, Dc is2] := num_w (n := 38) _ lw hc
  have N4 : callW Φ0 false 16 [.d (.str w)] [c0, Dc is2] = .ok (.d (numX w)) [c0, Dc is2] := numof_w (n := 38) _ hc
  have R2 := reprV_ok (h := [c0, Dc is2]) (num_sh (w := w) (b := nameB w) hc)
  refine ⟨z, w, nameB w, is2, ?_⟩
  have r1 : recvOk .join (.d (.str "")) [c0, Dc is] = true := rfl
  have r2 : recvOk .join (.d (.str "")) [c0, Dc is1] = true := rfl
  unfold b_law_f4
  have S1 := set_eval (Φ := Φ0) (i := 6) (e := .meth .join (.lit (.str "")) (.cons b_law_c1 .nil)) (env := [e0, some (.ref 1), e2, none, none, none, e6, e7, e8, none, none, none, none]) (h := [c0, Dc is]) (w := .d (.str z)) (h1 := [c0, Dc is1]) (by
    simp only [evE, evEs, bind_ok, r1, if_true, E1, mthV, J1])
  rw [ss_cons S1]
  simp only [List.set_cons_succ, List.set_cons_zero]
  have S3 := set_eval (Φ := Φ0) (i := 7) (e := .meth .join (.lit (.str "")) (.cons b_law_c2 .nil)) (env := [e0, some (.ref 1), e2, none, none, none, some (.d (.str z)), e7, e8, none, none, none, none]) (h := [c0, Dc is1]) (w := .d (.str w)) (h1 := [c0, Dc is2]) (by
    simp only [evE, evEs, bind_ok, r2, if_true, E2, mthV, J2])
  have S4 := set_eval (i := 8) N1
  rw [ss_cons (env1 := [e0, some (.ref 1), e2, none, none, none, some (.d (.str z)), e7, e8, none, none, none, none]) (h1 := [c0, Dc is1]) (by
    simp only [evS, evSs, evT, evE, evEs, lift, bind_ok, toS_ok, List.getElem?_cons_succ, List.getElem?_cons_zero, Option.join_some, W1, W2, bltV, R1, ne_str, Option.map_some, truV, Bool.false_eq_true, if_false]), ss_cons S3]
  simp only [List.set_cons_succ, List.set_cons_zero]
  rw [ss_cons S4]
  simp only [List.set_cons_succ, List.set_cons_zero]
  rw [ss_cons (env1 := [e0, some (.ref 1), e2, none, none, none, some (.d (.str z)), some (.d (.str w)), some (.d (.bool (nameB w))), none, none, none, none]) (h1 := [c0, Dc is2]) (by
    simp only [evS, evSs, evT, evE, evEs, lift, bind_ok, toS_ok, List.getElem?_cons_succ, List.getElem?_cons_zero, Option.join_some, N2, N3, N4, mkL, toDs, bltV, R2, ne_str, Option.map_some, truV, Bool.false_eq_true, if_false])]
  simp only [evSs]
end K21

set_option maxRecDepth 100000
set_option maxHeartbeats 1000000
namespace K21
open PySem L2 Mi
/-! ### the fixed questions -/
theorem s13_ok {env : Ev} {h : MH} : evS Φ0 b_law_s13 env h = .ok (.nx env) h := by
  have w1 : callW Φ0 false 6 [.d (.str "a b")] h = .ok (.d (.list [.str "a", .str "b"])) h := by
    have := words_w (n := 38) (mu := false) (z := "a b") h (by decide +kernel)
    rw [show WL "a b" = .list [.str "a", .str "b"] by kernel_rfl] at this
    exact this
  have w2 : callW Φ0 false 7 [.d (.str "abcdefghijkl")] h = .ok (.d (.bool true)) h := by
    have := is_name_w (n := 38) (mu := false) (w := "abcdefghijkl") h (by decide +kernel)
    rw [show nameB "abcdefghijkl" = true by decide +kernel] at this
    exact this
  have w3 : callW Φ0 false 7 [.d (.str "abcdefghijklm")] h = .ok (.d (.bool false)) h := by
    have := is_name_w (n := 38) (mu := false) (w := "abcdefghijklm") h (by decide +kernel)
    rw [show nameB "abcdefghijklm" = false by decide +kernel] at this
    exact this
  have w4 : callW Φ0 false 8 [.d (.str "07")] h = .ok (.d .none) h := callW_data (ds := [.str "07"]) (hc := []) h (by kernel_rfl)
  have w5 : callW Φ0 false 8 [.d (.str "99")] h = .ok (.d (.int 99)) h := callW_data (ds := [.str "99"]) (hc := []) h (by kernel_rfl)
  have q : eqD (.list [.list [.str "a", .str "b"], .bool true, .bool false, .none, .int 99]) (.list [.list [.str "a", .str "b"], .bool true, .bool false, .none, .int 99]) = some true := by kernel_rfl
  simp only [b_law_s13, evS, evSs, evT, evE, evEs, lift, bind_ok, toS_ok, w1, w2, w3, w4, w5, mkL, toDs, cmpV, dOf, q, truV, Option.map_some, Option.bind_some, Bool.not_true, Bool.false_eq_true, if_false]
def l9 : List Str := ["", "0", "00", "100", "-1", "5", "+5", " 5", "5 "]
def n9 (w : Str) : PyData := if w = "0" then .int 0 else if w = "5" then .int 5 else .none
theorem num9 : (l9.map fun w => callN pr 39 8 [.d (.str w)] []) = l9.map fun w => .ok (.d (n9 w)) [] := by kernel_rfl
theorem s15_ok {env : Ev} {h : MH} (hv : ∀ w, (env.set 7 w)[7]? = some w) : evS Φ0 b_law_s15 env h = .ok (.nx env) h := by
  have c : evE Φ0 b_law_c5 env h = .ok (.d (.list ((l9.map fun s => W.d (.str s)).map fun w => match w with
    | .d (.str s) => .str (n9 s).shown
    | _ => .none))) h := by
    refine comp_data (it := .over (.lst false (.cons (.lit (.str "")) (.cons (.lit (.str "0")) (.cons (.lit (.str "00")) (.cons (.lit (.str "100")) (.cons (.lit (.str "-1")) (.cons (.lit (.str "5")) (.cons (.lit (.str "+5")) (.cons (.lit (.str " 5")) (.cons (.lit (.str "5 ")) .nil))))))))))) (ws := l9.map fun s => W.d (.str s)) rfl (by decide) fun w hw => ?_
    obtain ⟨s, hs, rfl⟩ := List.mem_map.mp hw
    have e := List.map_inj_left.mp num9 s hs
    have cw : callW Φ0 false 8 [.d (.str s)] h = .ok (.d (n9 s)) h := callW_data (ds := [.str s]) (hc := []) h e
    have sh : shOk (n9 s) = true := by
      unfold n9
      split
      · rfl
      · split <;> rfl
    simp only [evE, evEs, lift, bind_ok, hv, Option.join_some, cw, bltV, reprV_ok sh]
  have q : eqD (.list ((l9.map fun s => W.d (.str s)).map fun w => match w with
    | .d (.str s) => .str (n9 s).shown
    | _ => .none)) (.list [.str "None", .str "0", .str "None", .str "None", .str "None", .str "5", .str "None", .str "None", .str "None"]) = some true := by kernel_rfl
  simp only [b_law_s15, evS, evSs, evT, evE, evEs, lift, bind_ok, toS_ok, c, mkL, toDs, Option.map_some, Option.map_none, cmpV, dOf, Option.bind_some, q, truV, Bool.not_true, Bool.false_eq_true, if_false]
/-! ### the terms -/
def t5 : List PyData := [.tuple [.int 3, .tuple [.int 2, .int 2, .int 4]], .tuple [.int 1, .tuple [.int 0], .tuple [.tuple [.int 0, .int 0, .int 0]]], .tuple [.tuple [.int 0, .int 1], .tuple [.int 2, .int 0]], .tuple [.int 0, .int 1, .int 1], .tuple [.int 2, .tuple [.int 0], .int 1]]
theorem s16_ok {env : Ev} {h : MH} : evS Φ0 b_law_s16 env h = .ok (.nx (env.set 3 (some (.d (.list t5))))) h := set_eval rfl
theorem t5_lvl : ∀ x ∈ t5, lvl 3 x := by
  intro x hx
  simp only [t5, List.mem_cons, List.not_mem_nil, or_false] at hx
  rcases hx with rfl | rfl | rfl | rfl | rfl <;> simp [lvl, isTup, okD, okDs]
theorem c6_ok {env : Ev} {c0 : Cell} {is : List Int} (hv : ∀ w, (env.set 2 w)[1]? = some (some (.ref 1))) (hv3 : ∀ w, (env.set 2 w)[3]? = some (some (.d (.list t5)))) :
    ∃ ds is', evE Φ0 b_law_c6 env [c0, Dc is] = .ok (.d (.list ds)) [c0, Dc is'] ∧ (∀ d ∈ ds, okD d = true) ∧ ds.length ≤ 12 := by
  obtain ⟨ds, h2, e1, ⟨is', rfl⟩, p, l⟩ := comp_chg (Φ := Φ0) (it := .rng1 (.lit (.int 12))) (e := .call 19 false (.cons (.var 1) (.cons (.call 13 false (.cons (.var 1) (.cons (.var 3) .nil))) .nil))) (i := 2) (env := env) (h := [c0, Dc is]) (h1 := [c0, Dc is]) (ws := rngFrom 0 12)
    (fun h => ∃ is, h = [c0, Dc is]) (fun d => okD d = true) rfl (by decide) ⟨_, rfl⟩ (by
    rintro w hw h ⟨is, rfl⟩
    have hd : 0 < t5.length := by decide
    have pk : callW Φ0 false 13 [.ref 1, .d (.list t5)] [c0, Dc is] = .ok (.d (t5[placeI (nextI is) t5.length]'(place_lt hd))) [c0, Dc is.dropLast] := pick_w (P := pr) (n := 37) (f := 13) (g := 11) (i := 1) (mu := false) (h := [c0, Dc is]) rfl rfl is hd rfl
    have hx := t5_lvl _ (List.getElem_mem (place_lt (v := nextI is) hd))
    generalize t5[placeI (nextI is) t5.length]'(place_lt hd) = x at *
    obtain ⟨y, is2, ey, oy⟩ := spoilt_c 33 3 x hx is.dropLast
    have ey : Φ0 19 [.ref 0, .d x] [Dc is.dropLast] = .ok (.d y) [Dc is2] := ey
    have cw : callW Φ0 false 19 [.ref 1, .d x] [c0, Dc is.dropLast] = .ok (.d y) [c0, Dc is2] := callW_cell (i := 1) (ds := [x]) (h := [c0, Dc is.dropLast]) rfl (flat_Dc _) ey (flat_Dc _)
    refine ⟨y, [c0, Dc is2], ?_, ⟨_, rfl⟩, oy⟩
    simp only [evE, evEs, lift, hv, hv3, Option.join_some, bind_ok, pk, cw])
  exact ⟨ds, is', e1, p, l⟩
def formS (s : Str) (d : PyData) : Bool := if s = "table" then tabB d else if s = "network" then netB d else if s = "pairs" then pairsB d else rowB d
theorem formS_0 (d : PyData) : formS (thingS 0) d = formB 0 d := if_pos (by decide +kernel)
theorem formS_1 (d : PyData) : formS (thingS 1) d = formB 1 d := by
  unfold formS
  rw [if_neg (by decide +kernel), if_pos (by decide +kernel)]
  rfl
theorem formS_2 (d : PyData) : formS (thingS 2) d = formB 2 d := by
  unfold formS
  rw [if_neg (by decide +kernel), if_neg (by decide +kernel), if_pos (by decide +kernel)]
  rfl
theorem formS_3 (d : PyData) : formS (thingS 3) d = formB 3 d := by
  unfold formS
  rw [if_neg (by decide +kernel), if_neg (by decide +kernel), if_neg (by decide +kernel)]
  rfl
def gF (t : PyData) : W → PyData
  | .d (.str s) => .bool (formS s t)
  | _ => .none
def things : List W := [.d (.str "table"), .d (.str "network"), .d (.str "pairs"), .d (.str "row")]
theorem things_k {w : W} (h : w ∈ things) : ∃ k, k < 4 ∧ w = .d (.str (thingS k)) := by
  simp only [things, List.mem_cons, List.not_mem_nil, or_false] at h
  rcases h with rfl | rfl | rfl | rfl
  · exact ⟨0, by decide, rfl⟩
  · exact ⟨1, by decide, rfl⟩
  · exact ⟨2, by decide, rfl⟩
  · exact ⟨3, by decide, rfl⟩
theorem gF_k {k : Nat} (h : k < 4) (t : PyData) : gF t (.d (.str (thingS k))) = .bool (formB k t) := by
  match k, h with
  | 0, _ => exact congrArg PyData.bool (formS_0 t)
  | 1, _ => exact congrArg PyData.bool (formS_1 t)
  | 2, _ => exact congrArg PyData.bool (formS_2 t)
  | 3, _ => exact congrArg PyData.bool (formS_3 t)
theorem eqv4 (a b c d : Bool) : eqD (.list [.bool a, .bool b, .bool c, .bool d]) (.list [.bool a, .bool b, .bool c, .bool d]) = some true := by
  cases a <;> cases b <;> cases c <;> cases d <;> rfl
theorem f9_ok {env : Ev} {h : MH} {t : PyData} (ot : okD t = true) (h11 : ∀ w, (env.set 11 w)[11]? = some w) (h4 : ∀ w, (env.set 11 w)[4]? = some (some (.d t))) : evSs Φ0 b_law_f9 env h = .ok (.nx env) h := by
  have c7 : evE Φ0 b_law_c7 env h = .ok (.d (.list (things.map (gF t)))) h := by
    refine comp_data (it := .over (.lst false (.cons (.lit (.str "table")) (.cons (.lit (.str "network")) (.cons (.lit (.str "pairs")) (.cons (.lit (.str "row")) .nil)))))) (ws := things) rfl (by decide) fun w hw => ?_
    obtain ⟨k, hk, rfl⟩ := things_k hw
    have w1 : callW Φ0 false 5 [.d (.str (thingS k)), .d t] h = .ok (.d (.bool (formB k t))) h := has_form_w (n := 34) h ot hk
    simp only [evE, evEs, lift, bind_ok, h11, h4, Option.join_some, w1, gF_k hk]
  have c8 : evE Φ0 b_law_c8 env h = .ok (.d (.list (things.map (gF t)))) h := by
    refine comp_data (it := .over (.lst false (.cons (.lit (.str "table")) (.cons (.lit (.str "network")) (.cons (.lit (.str "pairs")) (.cons (.lit (.str "row")) .nil)))))) (ws := things) rfl (by decide) fun w hw => ?_
    obtain ⟨k, hk, rfl⟩ := things_k hw
    have w1 : callW Φ0 false 18 [.d (.str (thingS k)), .d t] h = .ok (.d (.bool (formB k t))) h := due_w (n := 37) h ot hk
    simp only [evE, evEs, lift, bind_ok, h11, h4, Option.join_some, w1, gF_k hk]
  have q : eqD (.list (things.map (gF t))) (.list (things.map (gF t))) = some true := eqv4 _ _ _ _
  simp only [b_law_f9, evSs, evS, evT, evE, lift, bind_ok, toS_ok, c7, c8, cmpV, dOf, Option.bind_some, q, Option.map_some, truV, Bool.not_true, Bool.false_eq_true, if_false]
end K21

set_option maxRecDepth 100000
set_option maxHeartbeats 1000000
namespace K21
open PySem L2 Mi
theorem noEx_In : ∀ is : List Int, (In is).all noExW = true
  | [] => rfl
  | i :: r => by
    have := noEx_In r
    show (noExW (.d (.int i)) && (In r).all noExW) = true
    rw [this]
    rfl
theorem bin_eval {Φ : Nat → List W → M W} {nw : Bool} {op : Operator} {a b : E} {env : Ev} {h h1 h2 : MH} {x y : W} {r : Mi.R W} (ha : evE Φ a env h = .ok x h1) (hb : evE Φ b env h1 = .ok y h2) (hr : binV nw op x y h2 = r) : evE Φ (.bin nw op a b) env h = r := by
  simp only [evE, ha, hb, bind_ok, hr]
theorem s17_ok {c0 : Cell} {is : List Int} {e0 e2 e6 e7 e8 : Option W} :
    ∃ t is', evS Φ0 b_law_s17 [e0, some (.ref 1), e2, some (.d (.list t5)), none, none, e6, e7, e8, none, none, none, none] [c0, Dc is] =
      .ok (.nx [e0, some (.ref 1), e2, some (.d (.list t5)), some (.d t), none, e6, e7, e8, none, none, none, none]) [c0, Dc is'] := by
  obtain ⟨ds, is', EC, p, l⟩ := c6_ok (env := [e0, some (.ref 1), e2, some (.d (.list t5)), none, none, e6, e7, e8, none, none, none, none]) (c0 := c0) (is := is) (fun _ => rfl) (fun _ => rfl)
  have l5 : t5.length = 5 := rfl
  have ln1 : lineOk (t5.length + ds.length) = true := Nat.ble_eq_true_of_le (by omega)
  have ln2 : lineOk (t5.length + ds.length + 4) = true := Nat.ble_eq_true_of_le (by omega)
  have a1 : binV false .Add (.d (.list t5)) (.d (.list ds)) [c0, Dc is'] = .ok (.d (.list (t5 ++ ds))) [c0, Dc is'] := by
    have td : toDs (t5.map W.d ++ ds.map W.d) = some (t5 ++ ds) := by rw [← List.map_append, toDs_map]
    simp only [binV, Mi.listOf, List.length_map, ln1, if_true, mkL, Bool.false_eq_true, if_false, td]
  have a2 : binV false .Add (.d (.list (t5 ++ ds))) (.d (.list [.tuple [], .none, .str "", .int 0])) [c0, Dc is'] = .ok (.d (.list (t5 ++ ds ++ [.tuple [], .none, .str "", .int 0]))) [c0, Dc is'] := by
    have td : toDs ((t5 ++ ds).map W.d ++ [PyData.tuple [], .none, .str "", .int 0].map W.d) = some (t5 ++ ds ++ [.tuple [], .none, .str "", .int 0]) := by rw [← List.map_append, toDs_map]
    simp only [binV, Mi.listOf, List.length_map, List.length_append, ln2, List.length_cons, List.length_nil, Nat.zero_add, Nat.reduceAdd, if_true, mkL, Bool.false_eq_true, if_false, td]
  have oks : ∀ d ∈ t5 ++ ds ++ [.tuple [], .none, .str "", .int 0], okD d = true := fun d hd => by
    rcases List.mem_append.mp hd with z | z
    · rcases List.mem_append.mp z with z | z
      · exact lvl_ok (t5_lvl d z)
      · exact p d z
    · simp only [List.mem_cons, List.not_mem_nil, or_false] at z
      rcases z with rfl | rfl | rfl | rfl <;> rfl
  generalize hxs : t5 ++ ds ++ [.tuple [], .none, .str "", .int 0] = xs at *
  have ne : xs ≠ [] := by rw [← hxs]; simp
  obtain ⟨env2, h2, ef, e4, hh, q1, q2⟩ := forL_inv (src := (xs.map W.d, none)) (tg := [4]) (tup := false) (body := fun env h => evSs Φ0 b_law_f9 env h)
    (fun i env h => ∃ e4, (0 < i → ∃ t, e4 = some (.d t)) ∧ env = [e0, some (.ref 1), e2, some (.d (.list t5)), e4, none, e6, e7, e8, none, none, none, none] ∧ h = [c0, Dc is'])
    (xs.map W.d) 0 [e0, some (.ref 1), e2, some (.d (.list t5)), none, none, e6, e7, e8, none, none, none, none] [c0, Dc is'] ⟨none, fun z => absurd z (by decide), rfl, rfl⟩ (fun _ _ _ _ => rfl) (by
      rintro j env h w hw ⟨e4, _, rfl, rfl⟩
      rw [List.getElem?_map] at hw
      cases q : xs[j]? with
      | none => rw [q] at hw; cases hw
      | some d =>
        rw [q] at hw
        cases hw
        have od := oks d (List.mem_of_getElem? q)
        exact ⟨_, rfl, _, _, .inl (f9_ok (t := d) od (fun _ => rfl) (fun _ => rfl)), _, fun _ => ⟨d, rfl⟩, rfl, rfl⟩)
  obtain ⟨t, rfl⟩ := hh (by
    have : 0 < xs.length := List.length_pos_iff.mpr ne
    simpa using this)
  subst q1
  subst q2
  refine ⟨t, is', ?_⟩
  have l4 : evE Φ0 (.lst false (.cons (.tup .nil) (.cons (.lit .none) (.cons (.lit (.str "")) (.cons (.lit (.int 0)) .nil))))) [e0, some (.ref 1), e2, some (.d (.list t5)), none, none, e6, e7, e8, none, none, none, none] [c0, Dc is'] = .ok (.d (.list [.tuple [], .none, .str "", .int 0])) [c0, Dc is'] := rfl
  have so : srcOf (.d (.list xs)) [c0, Dc is'] = some (xs.map W.d, none) := rfl
  have l4e := l4
  unfold b_law_s17
  have hit : evIt Φ0 (.over (.bin false .Add (.bin false .Add (.var 3) b_law_c6) (.lst false (.cons (.tup .nil) (.cons (.lit .none) (.cons (.lit (.str "")) (.cons (.lit (.int 0)) .nil))))))) [e0, some (.ref 1), e2, some (.d (.list t5)), none, none, e6, e7, e8, none, none, none, none] [c0, Dc is] = .ok (xs.map W.d, none) [c0, Dc is'] := by
    have v3 : evE Φ0 (.var 3) [e0, some (.ref 1), e2, some (.d (.list t5)), none, none, e6, e7, e8, none, none, none, none] [c0, Dc is] = .ok (.d (.list t5)) [c0, Dc is] := rfl
    have bb := bin_eval (bin_eval v3 EC a1) l4 a2
    simp only [evIt, bb, bind_ok, so, lift]
  simp only [evS, hit, toS_ok, ef]
def wr3 : List Str := ["", "Form", "term"]
theorem raises3 : (wr3.map fun w => callN pr 39 5 [.d (.str w), .d (.tuple [])] []) = wr3.map fun _ => (.exc ⟨5, none⟩ [] : Mi.R W) := by kernel_rfl
theorem kind5 (h : MH) : callW Φ0 false 14 [.ex 5 none] h = .ok (.d (.str "!number")) h := by
  have e : callN pr 39 14 [.ex 5 none] [] = .ok (.d (.str "!number")) [] := by kernel_rfl
  unfold callW
  simp only [refsOf, nodupN, cellsAt, renum, e, putBack, resW, if_true]
theorem f10_ok {c0 : Cell} {is : List Int} {e0 e2 e3 e4 e6 e7 e8 : Option W} {w : Str} (hw : w ∈ wr3) (hc : noExC c0 = true) (n0 : noExO e0 = true) (n2 : noExO e2 = true) (n3 : noExO e3 = true) (n4 : noExO e4 = true) (n6 : noExO e6 = true) (n7 : noExO e7 = true) (n8 : noExO e8 = true) :
    evSs Φ0 b_law_f10 [e0, some (.ref 1), e2, e3, e4, some (.d (.str w)), e6, e7, e8, none, none, none, none] [c0, Dc is] = .ok (.nx [e0, some (.ref 1), e2, e3, e4, some (.d (.str w)), e6, e7, e8, none, none, none, none]) [c0, Dc is] := by
  have x := List.map_inj_left.mp raises3 w hw
  have cw : callW Φ0 false 5 [.d (.str w), .d (.tuple [])] [c0, Dc is] = .exc ⟨5, none⟩ [c0, Dc is] := callW_exc (ds := [.str w, .tuple []]) (hc := []) _ x
  have k5 := kind5 [c0, Dc is]
  have nh : noExH [c0, Dc is] = true := by
    show (noExC c0 && (noExC (Dc is) && true)) = true
    rw [hc]
    show (true && ((In is).all noExW && true)) = true
    rw [noEx_In]
    rfl
  have all : ([e0, some (.ref 1), e2, e3, e4, some (.d (.str w)), e6, e7, e8, none, none, none, none] : Ev).all noExO = true := by
    simp only [List.all_cons, List.all_nil, n0, n2, n3, n4, n6, n7, n8]
    rfl
  have b1 : evSs Φ0 (.cons (.ex (.call 5 false (.cons (.var 5) (.cons (.tup .nil) .nil)))) (.cons (.ret (.lit (.bool false))) .nil)) [e0, some (.ref 1), e2, e3, e4, some (.d (.str w)), e6, e7, e8, none, none, none, none] [c0, Dc is] = .exc ⟨5, none⟩ [e0, some (.ref 1), e2, e3, e4, some (.d (.str w)), e6, e7, e8, none, none, none, none] [c0, Dc is] := by
    simp only [evSs, evS, evE, evEs, lift, List.getElem?_cons_succ, List.getElem?_cons_zero, Option.join_some, bind_ok, toDs, Option.map_some, cw, toS_exc]
  have b2 : evSs Φ0 (.cons (.ite (.val (.cmp .NotEq (.call 14 false (.cons (.var 9) .nil)) (.lit (.str "!number")))) (.cons (.ret (.lit (.bool false))) .nil) .nil) .nil) [e0, some (.ref 1), e2, e3, e4, some (.d (.str w)), e6, e7, e8, some (.ex 5 none), none, none, none] [c0, Dc is] = .ok (.nx [e0, some (.ref 1), e2, e3, e4, some (.d (.str w)), e6, e7, e8, some (.ex 5 none), none, none, none]) [c0, Dc is] := by
    simp only [evSs, evS, evT, evE, evEs, lift, List.getElem?_cons_succ, List.getElem?_cons_zero, Option.join_some, bind_ok, toS_ok, k5, ne_str, Option.map_some, truV, Bool.false_eq_true, if_false]
  have s1 : setEx (some 9) ⟨5, none⟩ [e0, some (.ref 1), e2, e3, e4, some (.d (.str w)), e6, e7, e8, none, none, none, none] = [e0, some (.ref 1), e2, e3, e4, some (.d (.str w)), e6, e7, e8, some (.ex 5 none), none, none, none] := rfl
  have u1 : unsetO (some 9) (.nx [e0, some (.ref 1), e2, e3, e4, some (.d (.str w)), e6, e7, e8, some (.ex 5 none), none, none, none]) = some (.nx [e0, some (.ref 1), e2, e3, e4, some (.d (.str w)), e6, e7, e8, none, none, none, none]) := by
    have : unset (some 9) [e0, some (.ref 1), e2, e3, e4, some (.d (.str w)), e6, e7, e8, some (.ex 5 none), none, none, none] = [e0, some (.ref 1), e2, e3, e4, some (.d (.str w)), e6, e7, e8, none, none, none, none] := rfl
    simp only [unsetO, endX, this, all, if_true, Option.map_some]
  have t1 : evS Φ0 (.try1 (.cons (.ex (.call 5 false (.cons (.var 5) (.cons (.tup .nil) .nil)))) (.cons (.ret (.lit (.bool false))) .nil)) 0 (some 9) (.cons (.ite (.val (.cmp .NotEq (.call 14 false (.cons (.var 9) .nil)) (.lit (.str "!number")))) (.cons (.ret (.lit (.bool false))) .nil) .nil) .nil)) [e0, some (.ref 1), e2, e3, e4, some (.d (.str w)), e6, e7, e8, none, none, none, none] [c0, Dc is] = .ok (.nx [e0, some (.ref 1), e2, e3, e4, some (.d (.str w)), e6, e7, e8, none, none, none, none]) [c0, Dc is] := by
    rw [evS, b1]
    show (if ((5 : Nat) == 0 || (0 : Nat) == 0) = true then _ else _) = _
    rw [if_pos (by decide), s1, b2]
    show (if noExH [c0, Dc is] = true then _ else _) = _
    rw [if_pos nh, u1]
  unfold b_law_f10
  rw [ss_cons t1]
  rfl
end K21

set_option maxRecDepth 100000
set_option maxHeartbeats 1000000
namespace K21
open PySem L2 Mi
theorem law_true (ns : List Int) (hl : ns.length ≤ 63) : ∃ h', callN (ds.map (·.F)) 40 20 [.ro (ns.map .int)] [] = .ok (.d (.bool true)) h' := by
  show ∃ h', callN pr 40 20 [.ro (ns.map .int)] [] = .ok (.d (.bool true)) h'
  have e1 : callN pr 40 20 [.ro (ns.map .int)] [] = runF Φ0 ⟨1, 13, b_law⟩ [.ro (ns.map .int)] [] := callN_eq rfl
  rw [e1]
  obtain ⟨is0, l0, D0⟩ := draws_w (P := pr) (n := 37) (f := 10) (num := 9) rfl rfl ns (by omega)
  have D0 : callW Φ0 true 10 [.ro (ns.map .int)] [] = .ok (.ref 0) [Dc is0] := D0
  obtain ⟨is1, js, l1, D1⟩ := more_w (P := pr) (n := 37) (f := 12) (g := 11) rfl rfl is0 200 (by decide) (by omega)
  have D1 : callW Φ0 true 12 [.ref 0, .d (.int 200)] [Dc is0] = .ok (.ref 1) [Dc is1, Dc js] := D1
  have S11 : evS Φ0 b_law_s11 [some (.ro (ns.map .int)), none, none, none, none, none, none, none, none, none, none, none, none] [] = .ok (.nx [some (.ro (ns.map .int)), some (.ref 0), none, none, none, none, none, none, none, none, none, none, none]) [Dc is0] :=
    set_eval (by simp only [evE, evEs, lift, List.getElem?_cons_zero, Option.join_some, bind_ok, D0])
  have S12 : evS Φ0 b_law_s12 [some (.ro (ns.map .int)), some (.ref 0), none, none, none, none, none, none, none, none, none, none, none] [Dc is0] = .ok (.nx [some (.ro (ns.map .int)), some (.ref 1), none, none, none, none, none, none, none, none, none, none, none]) [Dc is1, Dc js] :=
    set_eval (by simp only [evE, evEs, lift, List.getElem?_cons_zero, List.getElem?_cons_succ, Option.join_some, bind_ok, D1])
  -- the turns
  obtain ⟨env2, h2, F14, e2, e6, e7, e8, js2, q1, q2, n2, n6, n7, n8⟩ := forL_inv (src := (rngFrom 0 6, none)) (tg := [2]) (tup := false) (body := fun env h => evSs Φ0 b_law_f4 env h)
    (fun i env h => ∃ e2 e6 e7 e8 js, env = [some (.ro (ns.map .int)), some (.ref 1), e2, none, none, none, e6, e7, e8, none, none, none, none] ∧ h = [Dc is1, Dc js] ∧ noExO e2 = true ∧ noExO e6 = true ∧ noExO e7 = true ∧ noExO e8 = true)
    (rngFrom 0 6) 0 [some (.ro (ns.map .int)), some (.ref 1), none, none, none, none, none, none, none, none, none, none, none] [Dc is1, Dc js] ⟨none, none, none, none, js, rfl, rfl, rfl, rfl, rfl, rfl⟩ (fun _ _ _ _ => rfl) (by
      rintro j env h w hw ⟨e2, e6, e7, e8, js, rfl, rfl, _, _, _, _⟩
      obtain ⟨rfl, _⟩ := rng_at _ _ _ _ hw
      obtain ⟨z, w, b, js', q⟩ := f4_ok (c0 := Dc is1) (is := js) (e0 := some (.ro (ns.map .int))) (e2 := some (.d (.int (0 + (j : Int))))) (e6 := e6) (e7 := e7) (e8 := e8)
      exact ⟨_, rfl, _, _, .inl q, _, _, _, _, js', rfl, rfl, rfl, rfl, rfl, rfl⟩)
  subst q1
  subst q2
  have S14 : evS Φ0 b_law_s14 [some (.ro (ns.map .int)), some (.ref 1), none, none, none, none, none, none, none, none, none, none, none] [Dc is1, Dc js] = .ok (.nx [some (.ro (ns.map .int)), some (.ref 1), e2, none, none, none, e6, e7, e8, none, none, none, none]) [Dc is1, Dc js2] := by
    have hit : evIt Φ0 (.rng1 (.lit (.int 6))) [some (.ro (ns.map .int)), some (.ref 1), none, none, none, none, none, none, none, none, none, none, none] [Dc is1, Dc js] = .ok (rngFrom 0 6, none) [Dc is1, Dc js] := rfl
    unfold b_law_s14
    simp only [evS, hit, toS_ok, F14]
  obtain ⟨t, js3, S17⟩ := s17_ok (c0 := Dc is1) (is := js2) (e0 := some (.ro (ns.map .int))) (e2 := e2) (e6 := e6) (e7 := e7) (e8 := e8)
  have ni : noExC (Dc is1) = true := noEx_In is1
  -- the wrong names
  obtain ⟨env3, h3, F18, e5, q1, q2⟩ := forL_inv (src := (wr3.map fun s => W.d (.str s), none)) (tg := [5]) (tup := false) (body := fun env h => evSs Φ0 b_law_f10 env h)
    (fun i env h => ∃ e5, env = [some (.ro (ns.map .int)), some (.ref 1), e2, some (.d (.list t5)), some (.d t), e5, e6, e7, e8, none, none, none, none] ∧ h = [Dc is1, Dc js3])
    (wr3.map fun s => W.d (.str s)) 0 [some (.ro (ns.map .int)), some (.ref 1), e2, some (.d (.list t5)), some (.d t), none, e6, e7, e8, none, none, none, none] [Dc is1, Dc js3] ⟨none, rfl, rfl⟩ (fun _ _ _ _ => rfl) (by
      rintro j env h w hw ⟨e5, rfl, rfl⟩
      obtain ⟨s, hs, rfl⟩ := List.mem_map.mp (List.mem_of_getElem? hw)
      exact ⟨_, rfl, _, _, .inl (f10_ok hs ni rfl n2 rfl rfl n6 n7 n8), _, rfl, rfl⟩)
  subst q1
  subst q2
  have S18 : evS Φ0 b_law_s18 [some (.ro (ns.map .int)), some (.ref 1), e2, some (.d (.list t5)), some (.d t), none, e6, e7, e8, none, none, none, none] [Dc is1, Dc js3] = .ok (.nx [some (.ro (ns.map .int)), some (.ref 1), e2, some (.d (.list t5)), some (.d t), e5, e6, e7, e8, none, none, none, none]) [Dc is1, Dc js3] := by
    have hit : ∀ env, evIt Φ0 (.over (.lst false (.cons (.lit (.str "")) (.cons (.lit (.str "Form")) (.cons (.lit (.str "term")) .nil))))) env [Dc is1, Dc js3] = .ok (wr3.map fun s => W.d (.str s), none) [Dc is1, Dc js3] := fun _ => rfl
    unfold b_law_s18
    simp only [evS, hit, toS_ok, F18]
  refine ⟨[Dc is1, Dc js3], ?_⟩
  have body : evSs Φ0 b_law [some (.ro (ns.map .int)), none, none, none, none, none, none, none, none, none, none, none, none] [] = .ok (.ret (.d (.bool true))) [Dc is1, Dc js3] := by
    unfold b_law
    rw [ss_cons S11, ss_cons S12, ss_cons s13_ok, ss_cons S14, ss_cons (s15_ok fun _ => rfl), ss_cons s16_ok]
    simp only [List.set_cons_succ, List.set_cons_zero]
    rw [ss_cons S17, ss_cons S18]
    rfl
  show (if (1 : Nat) == 1 then _ else _) = _
  rw [if_pos (by decide)]
  show (match evSs Φ0 b_law [some (.ro (ns.map .int)), none, none, none, none, none, none, none, none, none, none, none, none] [] with
    | .ok (.ret w) h' => Mi.R.ok w h'
    | .ok (.nx _) h' => .ok (.d .none) h'
    | .exc e _ h' => .exc e h'
    | _ => .stuck) = _
  rw [body]
end K21

set_option maxRecDepth 100000
set_option maxHeartbeats 0
open PySem PySem.W PySem.Calls PyProof.Rows
theorem PySem.Challenge.cw_wherewords_k21_lines_and_forms_holds : PySem.Challenge.rw_wherewords_k21_lines_and_forms.Holds := by
  w_on; o_law
  refine HandSHeadRun.head_any (r := OpenLaw.row PySem.Challenge.rw_wherewords_k21_lines_and_forms) (q := view (OpenLaw.row PySem.Challenge.rw_wherewords_k21_lines_and_forms).prog [35]) (H := K21.hk) (ob := K21.ob) (M := 6000) (loose := K21.loose)
    (d := HandSHeadRun.topDef (OpenLaw.row PySem.Challenge.rw_wherewords_k21_lines_and_forms).prog 35) (kwd := []) K21.ob_eq
    (by kernel_rfl) (fun s => by kernel_rfl) K21.run (by kernel_rfl) (by kernel_rfl) (by kernel_rfl) (by rfl) (by first | assumption | decide +kernel) (by decide +kernel) ⟨rfl, rfl, rfl, rfl, rfl, by decide +kernel⟩ ?hw ?hc
  case hw => w_witness2
  case hc => exact Mi.mi_walk (l := PySem.Challenge.rw_wherewords_k21_lines_and_forms) (n := 63) (dep := 40) (lawi := 20) (I := K21.info) (ds := K21.ds) rfl (by decide) (by kernel_rfl) rfl K21.stat (by decide +kernel) K21.bd (by kernel_rfl) (by decide +kernel) ⟨rfl, by decide, by decide⟩ K21.law_true
