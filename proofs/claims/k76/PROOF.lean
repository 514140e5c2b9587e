import PyProof.Rows.All
import Wide.All
import OpenK.AllK
import Wide.FinOn
import HandS.ForMost
import HandS.Conv
import HandS.TupAny
import HandS.TupMul
import HandS.Wide
import HandS.Gcd
import KE.KDictKeyed
import HandS.DictTup
import HandS.More
import HandS.TupLen
import KE.GoesEnum
import HandS.Zip
import HandS.RevRange
import HandS.Deep
import HandS.SortKw
import KE.SortData
import HandS.Defaults
import KE.RegKMathGC
import HandS.Star
import HandS.HeadEnd
import KE.KDictDisplayH
import PyProof.Rows.ReprR
import PyProof.Rows.ReprShort
import PyProof.Rows.FactsT3
import PySem.Challenge.RW_squareworlds_k76_whole_one_great_corner
/-! Fx, the mirror: plain data, expressions and statements as functions over a list of slots. No Python model in sight. -/
set_option linter.all false
namespace Fx
/-- plain data: what a value of the program is, all its items told; `ref` an object known by its address -/
inductive D where
  | non
  | bl (b : Bool)
  | int (i : Int)
  | str (s : List Nat)
  | tup (l : List D)
  | lst (l : List D)
  | dk (l : List (D × D))
  | dt (l : List (D × D))
  | ref (a : Nat)
  /-- the script: a list that is only read -/
  | fl (l : List D)
/-- a value and how it is held: un: nothing known; sh: shared, never to change; own: a new list or dict that no one else names; vw: a list that is read for a while; io: a parameter that the def changes -/
inductive Sl where
  | un
  | sh (d : D)
  | own (d : D)
  | vw (d : D)
  | io (n : Nat) (d : D)
abbrev Env := List Sl
abbrev ME := Env → Option Sl
inductive Fl where
  | nx
  | rt (r : Sl)
  | bk
  | ct
abbrev MS := Env → Option (Fl × Env)

namespace D
mutual
/-- == -/
def eqv : D → D → Bool
  | .non, .non => true
  | .bl a, .bl b => a == b
  | .int a, .int b => a == b
  | .bl a, .int b => (if a then 1 else 0) == b
  | .int a, .bl b => a == (if b then 1 else 0)
  | .str a, .str b => a == b
  | .tup a, .tup b => eqvL a b
  | .lst a, .lst b => eqvL a b
  | _, _ => false
def eqvL : List D → List D → Bool
  | [], [] => true
  | x :: xs, y :: ys => eqv x y && eqvL xs ys
  | _, _ => false
end
mutual
/-- data without dicts and references: == and repr are plain there -/
def fine : D → Bool
  | .non => true
  | .bl _ => true
  | .int _ => true
  | .str s => s.all fun c => decide (c < 1114112)
  | .tup l => fineL l
  | .lst l => fineL l
  | _ => false
def fineL : List D → Bool
  | [] => true
  | x :: xs => fine x && fineL xs
end
mutual
/-- ints, texts, None and tuples of such: no list within -/
def key : D → Bool
  | .non => true
  | .int _ => true
  | .str _ => true
  | .tup l => keyL l
  | _ => false
def keyL : List D → Bool
  | [] => true
  | x :: xs => key x && keyL xs
end
mutual
def depth : D → Nat
  | .tup l => depthL l + 1
  | .lst l => depthL l + 1
  | _ => 0
def depthL : List D → Nat
  | [] => 0
  | x :: xs => max (depth x) (depthL xs)
end
def scal : D → Bool
  | .non => true
  | .bl _ => true
  | .int _ => true
  | .str _ => true
  | _ => false
/-- .. and not deep -/
def ok (d : D) : Bool := d.fine && decide (d.depth ≤ 60)
/-- an int or a text: a dict's key -/
def isK : D → Bool
  | .int _ => true
  | .str _ => true
  | _ => false
def isInt : D → Bool
  | .int _ => true
  | _ => false
mutual
/-- < of ints and of tuples of ints, nested -/
def ltv : D → D → Bool
  | .int a, .int b => decide (a < b)
  | .tup a, .tup b => ltvL a b
  | _, _ => false
def ltvL : List D → List D → Bool
  | [], _ :: _ => true
  | x :: xs, y :: ys => if eqv x y then ltvL xs ys else ltv x y
  | _, _ => false
end
mutual
/-- may be compared: ints with ints, tuples with tuples, place by place -/
def alike : D → D → Bool
  | .int _, .int _ => true
  | .tup a, .tup b => alikeL a b
  | _, _ => false
def alikeL : List D → List D → Bool
  | x :: xs, y :: ys => alike x y && alikeL xs ys
  | _, _ => true
end
end D

/-! ### values and their modes -/
def Sl.val : Sl → Option D
  | .un => none
  | .sh d => some d
  | .own d => some d
  | .vw d => some d
  | .io _ d => some d
/-- given away: as shared data -/
def Sl.fz : Sl → Option D
  | .sh d => some d
  | .own d => some d
  | _ => none
def D.tr : D → Option Bool
  | .bl b => some b
  | _ => none
def D.asInt : D → Option Int
  | .int i => some i
  | _ => none
def D.asSeq : D → Option (List D)
  | .tup l => some l
  | .lst l => some l
  | _ => none

/-! ### expressions -/
def eVar (i : Nat) : ME := fun e => match e[i]? with
  | some (.sh d) => some (.sh d)
  | some (.own d) => some (.vw d)
  | some (.io _ d) => some (.vw d)
  | some (.vw d) => some (.vw d)
  | _ => none
def eC (d : D) : ME := fun _ => some (.sh d)
abbrev eInt (i : Int) : ME := eC (.int i)
abbrev eNon : ME := eC .non
abbrev eBl (b : Bool) : ME := eC (.bl b)
def eOp1 (g : D → Option Sl) (a : ME) : ME := fun e => (a e).bind fun x => x.val.bind g
def eOp2 (g : D → D → Option Sl) (a b : ME) : ME := fun e => (a e).bind fun x => x.val.bind fun dx => (b e).bind fun y => y.val.bind fun dy => g dx dy
def eOp3 (g : D → D → D → Option Sl) (a b c : ME) : ME := fun e => (a e).bind fun x => x.val.bind fun dx => (b e).bind fun y => y.val.bind fun dy => (c e).bind fun z => z.val.bind fun dz => g dx dy dz
/-- a test -/
def tst (c : ME) : Env → Option Bool := fun e => (c e).bind fun x => x.val.bind D.tr
def eAnd (a b : ME) : ME := fun e => (tst a e).bind fun c => if c = true then (tst b e).bind fun k => some (.sh (.bl k)) else some (.sh (.bl false))
def eOr (a b : ME) : ME := fun e => (tst a e).bind fun c => if c = true then some (.sh (.bl true)) else (tst b e).bind fun k => some (.sh (.bl k))
def eNot (a : ME) : ME := fun e => (tst a e).bind fun c => some (.sh (.bl (!c)))
def eIf (c a b : ME) : ME := fun e => (tst c e).bind fun k => if k = true then a e else b e
/-- a < b < c: b once -/
def eChain (g h : D → D → Option Sl) (a b c : ME) : ME := fun e => (a e).bind fun x => x.val.bind fun dx => (b e).bind fun y => y.val.bind fun dy => (g dx dy).bind fun r => r.val.bind fun dr => dr.tr.bind fun k =>
  if k = true then (c e).bind fun z => z.val.bind fun dz => h dy dz else some (.sh (.bl false))
/-- arguments, items of a display: given away from the left -/
def eAll : List ME → Env → Option (List D)
  | [], _ => some []
  | a :: r, e => (a e).bind fun x => x.fz.bind fun d => (eAll r e).bind fun ds => some (d :: ds)
def line : Nat := 16777216
def eTup (l : List ME) : ME := fun e => (eAll l e).bind fun ds => if ds.length ≤ line then some (.sh (.tup ds)) else none
def eLst (l : List ME) : ME := fun e => (eAll l e).bind fun ds => if ds.length ≤ line then some (.own (.lst ds)) else none
/-- what a def hands back: shared data or a new object of its own -/
def Sl.out : Sl → Option Sl
  | .sh d => some (.sh d)
  | .own d => some (.own d)
  | _ => none
def eCall (f : List D → Option Sl) (l : List ME) : ME := fun e => (eAll l e).bind fun ds => (f ds).bind Sl.out

/-! ### operators -/
def gI (f : Int → Int → Option D) : D → D → Option Sl
  | .int a, .int b => (f a b).map .sh
  | _, _ => none
def gCmp (f : Int → Int → Bool) : D → D → Option Sl
  | .int a, .int b => some (.sh (.bl (f a b)))
  | _, _ => none
/-- + of ints, lists, tuples, texts -/
def gAdd : D → D → Option Sl
  | .int a, .int b => some (.sh (.int (a + b)))
  | .lst a, .lst b => if a.length + b.length ≤ line then some (.own (.lst (a ++ b))) else none
  | .tup a, .tup b => if a.length + b.length ≤ line then some (.sh (.tup (a ++ b))) else none
  | .str a, .str b => if a.length + b.length ≤ line then some (.sh (.str (a ++ b))) else none
  | _, _ => none
def gSub := gI fun a b => some (.int (a - b))
def big : Int := 18446744073709551616
/-- * of ints; of a list or tuple by an int -/
def gMul : D → D → Option Sl
  | .int a, .int b => if (-big < a ∧ a < big) ∨ (-big < b ∧ b < big) then some (.sh (.int (a * b))) else none
  | .lst l, .int k => if l.length * k.toNat ≤ line ∧ -9223372036854775808 ≤ k ∧ k < 9223372036854775808 then some (.own (.lst (List.replicate k.toNat l).flatten)) else none
  | .tup l, .int k => if l.length ≤ 1000 ∧ -1000 ≤ k ∧ k ≤ 1000 then some (.sh (.tup (List.replicate k.toNat l).flatten)) else none
  | _, _ => none
def gFdiv := gI fun a b => if b = 0 ∨ 9000 ≤ b.natAbs.log2 then none else some (.int (a.fdiv b))
def gMod := gI fun a b => if b = 0 then none else some (.int (a.fmod b))
def gNeg : D → Option Sl
  | .int a => some (.sh (.int (-a)))
  | _ => none
def gLt := gCmp fun a b => decide (a < b)
def gLe := gCmp fun a b => decide (a ≤ b)
def gGt := gCmp fun a b => decide (b < a)
def gGe := gCmp fun a b => decide (b ≤ a)
def gEq (x y : D) : Option Sl := if x.ok && y.ok then some (.sh (.bl (x.eqv y))) else none
def gNe (x y : D) : Option Sl := if x.ok && y.ok then some (.sh (.bl (!x.eqv y))) else none
def gIsN : D → Option Sl
  | x => some (.sh (.bl (match x with | .non => true | _ => false)))
def gNotN : D → Option Sl
  | x => some (.sh (.bl (match x with | .non => false | _ => true)))
/-- x in a list, a tuple, a dict -/
def lookD (k : D) : List (D × D) → Option D
  | [] => none
  | (a, v) :: r => if a.eqv k then some v else lookD k r
def gIn (x : D) : D → Option Sl
  | .lst l => if x.ok && l.all D.ok then some (.sh (.bl (l.any fun y => y.eqv x))) else none
  | .tup l => if x.ok && l.all D.ok then some (.sh (.bl (l.any fun y => y.eqv x))) else none
  | .dk l => if x.isK then some (.sh (.bl (lookD x l).isSome)) else none
  | .dt l => (match x with | .tup _ => if x.key && decide (x.depth ≤ 8) then some (.sh (.bl (lookD x l).isSome)) else none | _ => none)
  | _ => none
def flip (r : Option Sl) : Option Sl := r.bind fun x => x.val.bind fun d => d.tr.bind fun b => some (.sh (.bl (!b)))
def gNotIn (x y : D) : Option Sl := flip (gIn x y)
def ixN (n : Nat) (i : Int) : Option Nat := if 0 ≤ i then (if i < n then some i.toNat else none) else if -(n : Int) ≤ i then some (i + n).toNat else none
/-- a[i], d[k] -/
def gIx : D → D → Option Sl
  | .lst l, .int i => (ixN l.length i).bind fun j => l[j]?.map .sh
  | .tup l, .int i => (ixN l.length i).bind fun j => l[j]?.map .sh
  | .str l, .int i => if l.length ≤ line then (ixN l.length i).bind fun j => l[j]?.map fun c => .sh (.str [c]) else none
  | _, _ => none
/-- d[k] -/
def gDx : D → D → Option Sl
  | .dk l, k => if k.isK then (lookD k l).map .sh else none
  | .dt l, .tup k => if (D.tup k).key && decide ((D.tup k).depth ≤ 8) then (lookD (.tup k) l).map .sh else none
  | _, _ => none
def cutIx (n d : Nat) : Option Int → Nat
  | none => d
  | some i => if i < 0 then (i + n).toNat else min i.toNat n
def cutL (xs : List α) (lo hi : Option Int) : List α := (xs.drop (cutIx xs.length 0 lo)).take (cutIx xs.length xs.length hi - cutIx xs.length 0 lo)
def gCut (lo hi : Option Int) : D → Option Sl
  | .fl l => some (.own (.lst (cutL l lo hi)))
  | .lst l => some (.own (.lst (cutL l lo hi)))
  | .tup l => some (.sh (.tup (cutL l lo hi)))
  | .str l => if l.length ≤ line then some (.sh (.str (cutL l lo hi))) else none
  | _ => none
/-- a[lo:hi] -/
def ePart : Option ME → Env → Option (Option Int)
  | none, _ => some none
  | some a, e => (a e).bind fun x => x.val.bind fun d => d.asInt.bind fun i => some (some i)
def eCut (a : ME) (lo hi : Option ME) : ME := fun e => (a e).bind fun x => x.val.bind fun d => (ePart lo e).bind fun l => (ePart hi e).bind fun h => gCut l h d

/-! ### built-in functions -/
def gLen : D → Option Sl
  | .fl l => some (.sh (.int l.length))
  | .lst l => some (.sh (.int l.length))
  | .tup l => some (.sh (.int l.length))
  | .str l => if l.length ≤ line then some (.sh (.int l.length)) else none
  | .dk l => some (.sh (.int l.length))
  | .dt l => some (.sh (.int l.length))
  | _ => none
def gTuple : D → Option Sl
  | .lst l => some (.sh (.tup l))
  | .tup l => some (.sh (.tup l))
  | _ => none
def gList : D → Option Sl
  | .lst l => some (.own (.lst l))
  | .tup l => some (.own (.lst l))
  | .dk l => some (.own (.lst (l.map (·.1))))
  | .dt l => some (.own (.lst (l.map (·.1))))
  | _ => none
def intsD : List D → Option (List Int)
  | [] => some []
  | .int i :: r => (intsD r).map (i :: ·)
  | _ :: _ => none
def bools : List D → Option (List Bool)
  | [] => some []
  | .bl i :: r => (bools r).map (i :: ·)
  | _ :: _ => none
def gSum (d : D) : Option Sl := d.asSeq.bind fun l => (intsD l).bind fun ns => match d with
  | .lst _ => some (.sh (.int ns.sum))
  | .tup _ => some (.sh (.int ns.sum))
  | _ => none
def gAny : D → Option Sl
  | .lst l => (bools l).bind fun bs => some (.sh (.bl (bs.any id)))
  | _ => none
def gAll : D → Option Sl
  | .lst l => (bools l).bind fun bs => some (.sh (.bl (bs.all id)))
  | _ => none
def minI : List Int → Option Int
  | [] => none
  | x :: r => some (r.foldl (fun a b => if b < a then b else a) x)
def maxI : List Int → Option Int
  | [] => none
  | x :: r => some (r.foldl (fun a b => if a < b then b else a) x)
def gMax2 := gI fun a b => some (.int (if a < b then b else a))
def gMin2 := gI fun a b => some (.int (if b < a then b else a))
def gAbs : D → Option Sl
  | .int a => some (.sh (.int a.natAbs))
  | _ => none
/-- int(x) of an int -/
def gInt : D → Option Sl
  | .int a => some (.sh (.int a))
  | _ => none

/-! ### stores -/
def setSl (i : Nat) (x : Sl) (e : Env) : Option Env := match e[i]? with
  | some (.io _ _) => none
  | some _ => some (e.set i x)
  | none => none
/-- what a name may be bound to -/
def Sl.keepable : Sl → Bool
  | .sh _ => true
  | .own _ => true
  | _ => false
inductive Tg where
  | nm (i : Nat)
  | tp (l : List Tg)
mutual
def Tg.bind : Tg → D → Env → Option Env
  | .nm i, d, e => setSl i (.sh d) e
  | .tp ts, d, e => (match d with
    | .tup l => Tg.bindL ts l e
    | _ => none)
def Tg.bindL : List Tg → List D → Env → Option Env
  | [], [], e => some e
  | t :: ts, d :: ds, e => (t.bind d e).bind fun e1 => Tg.bindL ts ds e1
  | _, _, _ => none
end

mutual
def Tg.slots : Tg → List Nat
  | .nm i => [i]
  | .tp ts => Tg.slotsL ts
def Tg.slotsL : List Tg → List Nat
  | [] => []
  | t :: ts => t.slots ++ Tg.slotsL ts
end

/-! ### what is walked -/
abbrev MI := Env → Option (List D)
def iSeq (a : ME) : MI := fun e => (a e).bind fun x => x.val.bind D.asSeq
/-- .. by a statement: given away ahead of the walk -/
def iSeqZ (a : ME) : MI := fun e => (a e).bind fun x => x.fz.bind D.asSeq
def rangeD (lo hi : Int) : List D := (List.range (hi - lo).toNat).map fun (k : Nat) => .int (lo + (k : Int))
def small : Int := 4611686018427387904
def okR (i : Int) : Bool := decide (-small ≤ i ∧ i < small)
def iRange1 (a : ME) : MI := fun e => (a e).bind fun x => x.val.bind fun d => d.asInt.bind fun n => if okR n then some (rangeD 0 n) else none
def iRange2 (a b : ME) : MI := fun e => (a e).bind fun x => x.val.bind fun d => d.asInt.bind fun n => (b e).bind fun y => y.val.bind fun d2 => d2.asInt.bind fun m => if okR n && okR m then some (rangeD n m) else none
def enumD : Nat → List D → List D
  | _, [] => []
  | k, x :: r => .tup [.int k, x] :: enumD (k + 1) r
def zipD : List D → List D → List D
  | x :: xs, y :: ys => .tup [x, y] :: zipD xs ys
  | _, _ => []
/-- .. by a statement -/
def iEnumZ (a : ME) : MI := fun e => (iSeqZ a e).map (enumD 0)
def iZipZ (a b : ME) : MI := fun e => (a e).bind fun x => x.fz.bind fun d => d.asSeq.bind fun l => (b e).bind fun y => y.fz.bind fun d2 => d2.asSeq.bind fun r => some (zipD l r)
def iEnum (a : ME) : MI := fun e => (iSeq a e).map (enumD 0)
def iZip (a b : ME) : MI := fun e => (iSeq a e).bind fun l => (iSeq b e).map fun r => zipD l r
def iRev (a : MI) : MI := fun e => (a e).map List.reverse
def pairD (l : List (D × D)) : List D := l.map fun p => .tup [p.1, p.2]
def iItems (a : ME) : MI := fun e => (a e).bind fun x => x.val.bind fun d => match d with
  | .dk l => some (pairD l)
  | .dt l => some (pairD l)
  | _ => none
/-- the keys of the dict that a name holds -/
def iKeysV (i : Nat) : MI := fun e => match e[i]? with
  | some (.sh (.dk l)) => some (l.map (·.1))
  | some (.sh (.dt l)) => some (l.map (·.1))
  | some (.vw (.dk l)) => some (l.map (·.1))
  | some (.vw (.dt l)) => some (l.map (·.1))
  | _ => none
def viewM (i : Nat) (e : Env) : Env := match e[i]? with
  | some (.own d) => e.set i (.vw d)
  | some (.vw _) => e.set i .un
  | _ => e
def iKeys (a : ME) : MI := fun e => (a e).bind fun x => x.val.bind fun d => match d with
  | .dk l => some (l.map (·.1))
  | .dt l => some (l.map (·.1))
  | _ => none

/-! ### comprehensions -/
def wipe1 (e : Env) (i : Nat) : Env := match e[i]? with
  | some (.io _ _) => e
  | _ => e.set i .un
def wipeM (ws : List Nat) (e : Env) : Env := ws.foldl wipe1 e
def lcGo (tg : Tg) (c : Env → Option Bool) (elt : ME) (e : Env) : List D → Option (List D)
  | [] => some []
  | x :: xs => (tg.bind x e).bind fun e1 => (c e1).bind fun k =>
    if k = true then (elt e1).bind fun y => y.fz.bind fun d => (lcGo tg c elt e xs).bind fun ds => some (d :: ds) else lcGo tg c elt e xs
def yes : Env → Option Bool := fun _ => some true
def wipeC : List Nat → Env → Env
  | [], e => e
  | w :: ws, e => (wipeC ws e).set w .un
def eLc (it : MI) (tg : Tg) (c : Env → Option Bool) (elt : ME) (ws : List Nat) : ME := fun e => (it e).bind fun l => (lcGo tg c elt (wipeC ws e) l).bind fun ds => if ds.length < line then some (.own (.lst ds)) else none

/-- .. over the keys of the dict at i -/
def eLcD (i : Nat) (tg : Tg) (c : Env → Option Bool) (elt : ME) (ws : List Nat) : ME := fun e => eLc (iKeysV i) tg c elt ws (viewM i e)

/-! ### statements -/
def sPass : MS := fun e => some (.nx, e)
def sSeq (a b : MS) : MS := fun e => (a e).bind fun r => match r.1 with
  | .nx => b r.2
  | _ => some r
def sSet (i : Nat) (a : ME) : MS := fun e => (a e).bind fun x => if x.keepable then (setSl i x e).map fun e1 => (.nx, e1) else none
/-- i, j = a, b -/
def sPar (i j : Nat) (a b : ME) : MS := fun e => (a e).bind fun x => (b e).bind fun y => if x.keepable && y.keepable then (setSl i x e).bind fun e1 => (setSl j y e1).map fun e2 => (.nx, e2) else none
def sPar3 (i j k : Nat) (a b c : ME) : MS := fun e => (a e).bind fun x => (b e).bind fun y => (c e).bind fun z => if x.keepable && y.keepable && z.keepable then (setSl i x e).bind fun e1 => (setSl j y e1).bind fun e2 => (setSl k z e2).map fun e3 => (.nx, e3) else none
def sUnpack (t : Tg) (a : ME) : MS := fun e => (a e).bind fun x => x.fz.bind fun d => (t.bind d e).map fun e1 => (.nx, e1)
def sIf (c : ME) (a b : MS) : MS := fun e => (tst c e).bind fun k => if k = true then a e else b e
def sRet (a : ME) : MS := fun e => (a e).map fun x => (.rt x, e)
def sDrop (a : ME) : MS := fun e => (a e).map fun _ => (.nx, e)
def sBreak : MS := fun e => some (.bk, e)
def sCont : MS := fun e => some (.ct, e)
/-- a list or dict that a name owns is given away: shared from here on -/
def fzM (i : Nat) (e : Env) : Env := match e[i]? with
  | some (.own d) => e.set i (.sh d)
  | _ => e
/-- .. ahead of a statement -/
def sFz (i : Nat) (m : MS) : MS := fun e => m (fzM i e)
/-- names that nothing asks any more -/
def sWipe (ws : List Nat) (m : MS) : MS := fun e => m (wipeM ws e)
/-- the object that a name owns -/
def owned (e : Env) (i : Nat) : Option (D × (D → Sl)) := match e[i]? with
  | some (.own d) => some (d, .own)
  | some (.io n d) => some (d, .io n)
  | _ => none
def sMut (i : Nat) (f : D → Env → Option D) : MS := fun e => (owned e i).bind fun p => (f p.1 e).bind fun d => some (.nx, e.set i (p.2 d))
def sAppend (i : Nat) (a : ME) : MS := sMut i fun d e => match d with
  | .lst l => (a e).bind fun x => x.fz.bind fun y => if l.length < line then some (.lst (l ++ [y])) else none
  | _ => none
def sExtend (i : Nat) (a : ME) : MS := sMut i fun d e => match d with
  | .lst l => (a e).bind fun x => x.val.bind fun y => match y with
    | .lst r => if l.length + r.length ≤ line then some (.lst (l ++ r)) else none
    | _ => none
  | _ => none
def putD (k v : D) (l : List (D × D)) : List (D × D) := if (lookD k l).isSome then l.map fun p => if p.1.eqv k then (p.1, v) else p else l ++ [(k, v)]
/-- a[ix] = v: v first, then ix -/
def putAt (d ix v : D) : Option D := match d, ix with
  | .lst l, .int k => (ixN l.length k).map fun j => .lst (l.set j v)
  | .dk l, k => if k.isK && decide (l.length < line) then some (.dk (putD k v l)) else none
  | .dt l, .tup k => if (D.tup k).key && decide ((D.tup k).depth ≤ 8) && decide (l.length < line) then some (.dt (putD (.tup k) v l)) else none
  | _, _ => none
def sPut (i : Nat) (ix a : ME) : MS := fun e => (a e).bind fun x => x.fz.bind fun v => (owned e i).bind fun p => (ix e).bind fun k => k.fz.bind fun kd => (putAt p.1 kd v).bind fun d => some (.nx, e.set i (p.2 d))
/-- x op= e of a name -/
def sAug (g : D → D → Option Sl) (i : Nat) (a : ME) : MS := fun e => (e[i]?).bind fun x => x.val.bind fun dx => (a e).bind fun y => y.val.bind fun dy => (g dx dy).bind fun r => match r with
  | .sh d => (setSl i (.sh d) e).map fun e1 => (.nx, e1)
  | _ => none
def forGo (tg : Tg) (ws : List Nat) (body : MS) : List D → Env → Option (Fl × Env)
  | [], e => some (.nx, e)
  | x :: xs, e => (tg.bind x e).bind fun e1 => (body e1).bind fun r => match r.1 with
    | .nx => forGo tg ws body xs (wipeM ws r.2)
    | .ct => forGo tg ws body xs (wipeM ws r.2)
    | .bk => some (.nx, wipeM ws r.2)
    | .rt v => some (.rt v, r.2)
def sFor (it : MI) (tg : Tg) (body : MS) (ws : List Nat) : MS := fun e => (it e).bind fun l => forGo tg ws body l e
def whileGo (c : Env → Option Bool) (ws : List Nat) (body : MS) : Nat → Env → Option (Fl × Env)
  | 0, _ => none
  | n + 1, e => (c e).bind fun k => if k = true then (body e).bind fun r => match r.1 with
      | .nx => whileGo c ws body n (wipeM ws r.2)
      | .ct => whileGo c ws body n (wipeM ws r.2)
      | .bk => some (.nx, wipeM ws r.2)
      | .rt v => some (.rt v, r.2)
    else some (.nx, e)
def sWhile (fuel : Nat) (c : Env → Option Bool) (body : MS) (ws : List Nat) : MS := fun e => whileGo c ws body fuel e

/-! ### defs -/
/-- return x, x a name that owns its object -/
def sRetV (i : Nat) : MS := fun e => match e[i]? with
  | some (.own d) => some (.rt (.own d), e)
  | _ => none
def mDef (np ns : Nat) (body : MS) (ds : List D) : Option Sl :=
  if ds.length = np then (body (ds.map .sh ++ List.replicate (ns - np) .un)).bind fun r => match r.1 with
    | .rt v => v.out
    | .nx => some (.sh .non)
    | _ => none
  else none
end Fx
set_option Elab.async false
set_option linter.all false
set_option maxRecDepth 100000
set_option maxHeartbeats 4000000
/-! Fx, the soundness: what the mirror says of an expression or a statement, the machine does. -/
namespace Fx
open PySem PySem.Spec PyProof.Rows L2

/-- what is known of the module, the program, the world -/
structure Fg where
  K : PySem.W.Frag
  P : Program
  w : World
instance : Coe Fg PySem.W.Frag := ⟨Fg.K⟩
abbrev kw (X : Cx) : Fg := ⟨X.K, X.prog, X.w⟩
theorem sizeLine_eq' : line = sizeLine := sizeLine_eq.symm
def strOf (s : List Nat) : Str := ⟨s.toArray⟩

/-! ### data in the abstract heap -/
mutual
/-- a tuple, nested, as a dict's key -/
def nk : D → Option NestedKey
  | .non => some .none
  | .int i => some (.num i)
  | .str s => some (.text (strOf s))
  | .tup l => (nkL l).map .tup
  | _ => none
def nkL : List D → Option (List NestedKey)
  | [] => some []
  | d :: ds => (nk d).bind fun k => (nkL ds).map (k :: ·)
end
/-- the entries of a dict with such keys: the key, where its tuple stands, the value -/
abbrev KN : List (NestedKey × Addr × V) → List (NestedKey × Addr × Value) → Prop := Paired fun p q => p.1 = q.1 ∧ p.2.1 = q.2.1 ∧ RelV p.2.2 q.2.2
/-- a dict whose keys are tuples, nested -/
def dnO (K : Fg) (a : Addr) (kvs : List (NestedKey × Addr × V)) : HO := .ext fun h => kvs.length ≤ sizeLine ∧ (a == sysModules) = false ∧ ∃ xs, KN kvs xs ∧
  ∃ o es ep, h.get? a = some o ∧ o.ExactDict ∧ o.data = .dict es ep ∧ es.toList = xs.map (entryOfKey (nestedKind K.P K.w)) ∧ (xs.map (·.1)).Nodup
def kD : D → Option Key
  | .int i => some (.inl i)
  | .str s => some (.inr (strOf s))
  | _ => none
mutual
def Rp (K : Fg) (H : Hp) : D → V → Prop
  | .non, v => v = .non
  | .bl b, v => v = .bl b
  | .int i, v => v = .int i
  | .str s, v => v = .str (strOf s)
  | .ref a, v => v = .ref a
  | .tup l, v => ∃ a vs, v = .ref a ∧ SqT K H a vs ∧ RpL K H l vs
  | .lst l, v => ∃ a vs, v = .ref a ∧ H a = some (.lst vs) ∧ RpL K H l vs
  | .dk l, v => ∃ a kvs, v = .ref a ∧ Rd H a (.dK kvs) ∧ RpK K H l kvs
  | .dt l, v => ∃ a kvs, v = .ref a ∧ Rd H a (dnO K a kvs) ∧ RpN K H l kvs
  | .fl l, v => ∃ a vs, v = .ref a ∧ SqL K H a vs ∧ RpL K H l vs
def RpL (K : Fg) (H : Hp) : List D → List V → Prop
  | [], [] => True
  | d :: ds, v :: vs => Rp K H d v ∧ RpL K H ds vs
  | _, _ => False
def RpK (K : Fg) (H : Hp) : List (D × D) → List (Key × V) → Prop
  | [], [] => True
  | p :: ps, q :: qs => RpP K H p q ∧ RpK K H ps qs
  | _, _ => False
def RpP (K : Fg) (H : Hp) : D × D → Key × V → Prop
  | (k, d), q => kD k = some q.1 ∧ Rp K H d q.2
def RpN (K : Fg) (H : Hp) : List (D × D) → List (NestedKey × Addr × V) → Prop
  | [], [] => True
  | p :: ps, q :: qs => RpM K H p q ∧ RpN K H ps qs
  | _, _ => False
def RpM (K : Fg) (H : Hp) : D × D → NestedKey × Addr × V → Prop
  | (k, d), q => nk k = some q.1 ∧ q.1.depth ≤ 8 ∧ Rp K H k (.ref q.2.1) ∧ Rp K H d q.2.2
end
section
variable {K : Fg} {H H' : Hp}
theorem _root_.L2.Rd.mono {a : Addr} {u : HO} (s : Same H H') (h : Rd H a u) : Rd H' a u := h.elim (fun h => .inl (s _ _ h)) fun ⟨o, h⟩ => .inr ⟨o, s _ _ h⟩
theorem _root_.L2.Rd.upd {a p : Addr} {u o : HO} (hn : a ≠ p) (h : Rd H a u) : Rd (L2.upd H p o) a u := h.elim (fun h => .inl ((upd_ne hn).trans h)) fun ⟨o, h⟩ => .inr ⟨o, (upd_ne hn).trans h⟩
theorem _root_.L2.Rd.there {a : Addr} {u : HO} (h : Rd H a u) : H a ≠ none := h.elim (fun h => by rw [h]; simp) fun ⟨o, h⟩ => by rw [h]; simp
theorem SqT.mono (s : Same H H') {a : Addr} {vs : List V} (h : SqT K H a vs) : SqT K H' a vs := by
  rcases h with (h | ⟨o, h⟩) | h
  · exact .inl (.inl (s _ _ h))
  · exact .inl (.inr ⟨o, s _ _ h⟩)
  · exact .inr h
theorem SqL.mono (s : Same H H') {a : Addr} {vs : List V} (h : SqL K H a vs) : SqL K H' a vs := s.seq h
mutual
theorem Rp.mono (s : Same H H') : ∀ (d : D) (v : V), Rp K H d v → Rp K H' d v
  | .non, v, h => h
  | .bl b, v, h => h
  | .int i, v, h => h
  | .str i, v, h => h
  | .ref a, v, h => h
  | .tup l, v, h => by
    obtain ⟨a, vs, e, h1, h2⟩ := (show ∃ a vs, v = .ref a ∧ SqT K H a vs ∧ RpL K H l vs from h)
    exact ⟨a, vs, e, SqT.mono s h1, RpL.mono s l vs h2⟩
  | .lst l, v, h => by
    obtain ⟨a, vs, e, h1, h2⟩ := (show ∃ a vs, v = .ref a ∧ H a = some (.lst vs) ∧ RpL K H l vs from h)
    exact ⟨a, vs, e, s _ _ h1, RpL.mono s l vs h2⟩
  | .fl l, v, h => by
    obtain ⟨a, vs, e, h1, h2⟩ := (show ∃ a vs, v = .ref a ∧ SqL K H a vs ∧ RpL K H l vs from h)
    exact ⟨a, vs, e, SqL.mono s h1, RpL.mono s l vs h2⟩
  | .dk l, v, h => by
    obtain ⟨a, vs, e, h1, h2⟩ := (show ∃ a kvs, v = .ref a ∧ Rd H a (.dK kvs) ∧ RpK K H l kvs from h)
    exact ⟨a, vs, e, Rd.mono s h1, RpK.mono s l vs h2⟩
  | .dt l, v, h => by
    obtain ⟨a, vs, e, h1, h2⟩ := (show ∃ a kvs, v = .ref a ∧ Rd H a (dnO K a kvs) ∧ RpN K H l kvs from h)
    exact ⟨a, vs, e, Rd.mono s h1, RpN.mono s l vs h2⟩
theorem RpL.mono (s : Same H H') : ∀ (ds : List D) (vs : List V), RpL K H ds vs → RpL K H' ds vs
  | [], [], h => h
  | d :: ds, v :: vs, h => ⟨Rp.mono s d v h.1, RpL.mono s ds vs h.2⟩
  | [], _ :: _, h => h
  | _ :: _, [], h => h
theorem RpK.mono (s : Same H H') : ∀ (ds : List (D × D)) (vs : List (Key × V)), RpK K H ds vs → RpK K H' ds vs
  | [], [], h => h
  | d :: ds, v :: vs, h => ⟨RpP.mono s d v h.1, RpK.mono s ds vs h.2⟩
  | [], _ :: _, h => h
  | _ :: _, [], h => h
theorem RpP.mono (s : Same H H') : ∀ (d : D × D) (v : Key × V), RpP K H d v → RpP K H' d v
  | (k, d), v, h => ⟨h.1, Rp.mono s d v.2 h.2⟩
theorem RpN.mono (s : Same H H') : ∀ (ds : List (D × D)) (vs : List (NestedKey × Addr × V)), RpN K H ds vs → RpN K H' ds vs
  | [], [], h => h
  | d :: ds, v :: vs, h => ⟨RpM.mono s d v h.1, RpN.mono s ds vs h.2⟩
  | [], _ :: _, h => h
  | _ :: _, [], h => h
theorem RpM.mono (s : Same H H') : ∀ (d : D × D) (v : NestedKey × Addr × V), RpM K H d v → RpM K H' d v
  | (k, d), v, h => ⟨h.1, h.2.1, Rp.mono s k (.ref v.2.1) h.2.2.1, Rp.mono s d v.2.2 h.2.2.2⟩
end
theorem RpL.length : ∀ {ds : List D} {vs : List V}, RpL K H ds vs → ds.length = vs.length
  | [], [], _ => rfl
  | d :: ds, v :: vs, h => congrArg (· + 1) (RpL.length h.2)
  | [], _ :: _, h => h.elim
  | _ :: _, [], h => h.elim
theorem RpL.get : ∀ {ds : List D} {vs : List V} {i : Nat} {d : D}, RpL K H ds vs → ds[i]? = some d → ∃ v, vs[i]? = some v ∧ Rp K H d v
  | [], [], _, _, _, e => by simp at e
  | d :: ds, v :: vs, 0, d', h, e => by
    simp at e; subst e; exact ⟨v, rfl, h.1⟩
  | d :: ds, v :: vs, i + 1, d', h, e => by
    obtain ⟨u, h1, h2⟩ := RpL.get (i := i) h.2 (by simpa using e)
    exact ⟨u, by simpa using h1, h2⟩
  | [], _ :: _, _, _, h, _ => h.elim
  | _ :: _, [], _, _, h, _ => h.elim
theorem RpL.append : ∀ {a b : List D} {va vb : List V}, RpL K H a va → RpL K H b vb → RpL K H (a ++ b) (va ++ vb)
  | [], _, [], _, _, h => h
  | d :: ds, b, v :: vs, vb, h, h' => ⟨h.1, RpL.append h.2 h'⟩
  | [], _, _ :: _, _, h, _ => h.elim
  | _ :: _, _, [], _, h, _ => h.elim
theorem RpL.take : ∀ {a : List D} {va : List V} (n : Nat), RpL K H a va → RpL K H (a.take n) (va.take n)
  | _, _, 0, _ => trivial
  | [], [], _ + 1, _ => trivial
  | d :: ds, v :: vs, n + 1, h => ⟨h.1, RpL.take n h.2⟩
  | [], _ :: _, _ + 1, h => h.elim
  | _ :: _, [], _ + 1, h => h.elim
theorem RpL.drop : ∀ {a : List D} {va : List V} (n : Nat), RpL K H a va → RpL K H (a.drop n) (va.drop n)
  | _, _, 0, h => h
  | [], [], _ + 1, _ => trivial
  | d :: ds, v :: vs, n + 1, h => RpL.drop n h.2
  | [], _ :: _, _ + 1, h => h.elim
  | _ :: _, [], _ + 1, h => h.elim
theorem RpL.set : ∀ {a : List D} {va : List V} (n : Nat) {d : D} {v : V}, RpL K H a va → Rp K H d v → RpL K H (a.set n d) (va.set n v)
  | [], [], _, _, _, h, _ => h
  | d :: ds, v :: vs, 0, _, _, h, h' => ⟨h', h.2⟩
  | d :: ds, v :: vs, n + 1, _, _, h, h' => ⟨h.1, RpL.set n h.2 h'⟩
  | [], _ :: _, _, _, _, h, _ => h.elim
  | _ :: _, [], _, _, _, h, _ => h.elim
theorem RpL.snoc {a : List D} {va : List V} {d : D} {v : V} (h : RpL K H a va) (h' : Rp K H d v) : RpL K H (a ++ [d]) (va ++ [v]) := RpL.append h ⟨h', trivial⟩
end

/-! ### cells: the slots and what is in hand -/
/-- the heaps at a body's entry: Hs what may be shared, H all -/
structure Bs where
  Hs : Hp
  H : Hp
  /-- where the parameters stand that the def changes -/
  io : Nat → V
abbrev Cell := Option V × Sl
/-- the root of an owned object -/
def Top (K : Fg) (Hs H : Hp) (p : Addr) : D → Prop
  | .lst l => ∃ vs, H p = some (.lst vs) ∧ RpL K Hs l vs
  | .dk l => ∃ kvs, H p = some (.dK kvs) ∧ RpK K Hs l kvs
  | .dt l => ∃ kvs, H p = some (dnO K p kvs) ∧ RpN K Hs l kvs
  | _ => False
/-- a value that is read: its root in H, its items in Hs -/
def Vw (K : Fg) (Hs H : Hp) : D → V → Prop
  | .lst l, v => ∃ a vs, v = .ref a ∧ H a = some (.lst vs) ∧ RpL K Hs l vs
  | .dk l, v => ∃ a kvs, v = .ref a ∧ Rd H a (.dK kvs) ∧ RpK K Hs l kvs
  | .dt l, v => ∃ a kvs, v = .ref a ∧ Rd H a (dnO K a kvs) ∧ RpN K Hs l kvs
  | d, v => Rp K Hs d v
def Own (K : Fg) (B : Bs) (Hs H : Hp) (d : D) (v : V) : Prop := ∃ p, v = .ref p ∧ B.H p = none ∧ Hs p = none ∧ Top K Hs H p d
def CellOk (K : Fg) (B : Bs) (Hs H : Hp) (c : Cell) : Prop := match c.2 with
  | .un => True
  | .sh d => ∃ v, c.1 = some v ∧ Rp K Hs d v
  | .own d => ∃ v, c.1 = some v ∧ Own K B Hs H d v
  | .io n d => ∃ v, c.1 = some v ∧ v = B.io n ∧ Own K B Hs H d v
  | .vw d => ∃ v, c.1 = some v ∧ Vw K Hs H d v
def Sl.solo : Sl → Bool
  | .own _ => true
  | .io _ _ => true
  | _ => false
def Sep (c c' : Cell) : Prop := c.2.solo = true → c'.2.solo = true → c.1 ≠ c'.1
theorem Sep.symm {c c' : Cell} (h : Sep c c') : Sep c' c := fun a b e => h b a e.symm
/-- how heaps grow: nothing changes; what stands apart from Hs stays apart -/
structure Grow (Hs H Hs' H' : Hp) : Prop where
  all : Same H H'
  sh : Same Hs Hs'
  sub : Same Hs' H'
  out : ∀ a, H a ≠ none → Hs a = none → Hs' a = none
structure OkAt (K : Fg) (B : Bs) (L : List Cell) (Hs H : Hp) : Prop where
  gr : Grow B.Hs B.H Hs H
  cells : ∀ c ∈ L, CellOk K B Hs H c
  sep : L.Pairwise Sep
def Ok (K : Fg) (B : Bs) (L : List Cell) (H : Hp) : Prop := ∃ Hs, OkAt K B L Hs H

section
variable {K : Fg} {B : Bs} {L L' : List Cell} {Hs H Hs' H' : Hp} {d : D} {v : V} {p : Addr}
theorem Grow.refl (s : Same Hs H) : Grow Hs H Hs H := ⟨Same.refl _, Same.refl _, s, fun _ _ h => h⟩
theorem Grow.trans {Hs2 H2 : Hp} (a : Grow Hs H Hs' H') (b : Grow Hs' H' Hs2 H2) : Grow Hs H Hs2 H2 :=
  ⟨a.all.trans b.all, a.sh.trans b.sh, b.sub, fun x h1 h2 => b.out x (fun e => h1 (a.all.free e)) (a.out x h1 h2)⟩
theorem Vw.mono (s : Same Hs Hs') (t : Same H H') : ∀ {d : D} {v : V}, Vw K Hs H d v → Vw K Hs' H' d v
  | .lst l, v, ⟨a, vs, e, h1, h2⟩ => ⟨a, vs, e, t _ _ h1, RpL.mono s _ _ h2⟩
  | .dk l, v, ⟨a, vs, e, h1, h2⟩ => ⟨a, vs, e, Rd.mono t h1, RpK.mono s _ _ h2⟩
  | .dt l, v, ⟨a, vs, e, h1, h2⟩ => ⟨a, vs, e, Rd.mono t h1, RpN.mono s _ _ h2⟩
  | .non, v, h => Rp.mono (K := K) s .non v h
  | .bl b, v, h => Rp.mono (K := K) s (.bl b) v h
  | .int b, v, h => Rp.mono (K := K) s (.int b) v h
  | .str b, v, h => Rp.mono (K := K) s (.str b) v h
  | .tup b, v, h => Rp.mono (K := K) s (.tup b) v h
  | .ref b, v, h => Rp.mono (K := K) s (.ref b) v h
  | .fl b, v, h => Rp.mono (K := K) s (.fl b) v h
theorem Vw.of_rp (s : Same Hs H) : ∀ {d : D} {v : V}, Rp K Hs d v → Vw K Hs H d v
  | .lst l, v, h => by
    obtain ⟨a, vs, e, h1, h2⟩ := (show ∃ a vs, v = .ref a ∧ Hs a = some (.lst vs) ∧ RpL K Hs l vs from h)
    exact ⟨a, vs, e, s _ _ h1, h2⟩
  | .dk l, v, h => by
    obtain ⟨a, vs, e, h1, h2⟩ := (show ∃ a kvs, v = .ref a ∧ Rd Hs a (.dK kvs) ∧ RpK K Hs l kvs from h)
    exact ⟨a, vs, e, Rd.mono s h1, h2⟩
  | .dt l, v, h => by
    obtain ⟨a, vs, e, h1, h2⟩ := (show ∃ a kvs, v = .ref a ∧ Rd Hs a (dnO K a kvs) ∧ RpN K Hs l kvs from h)
    exact ⟨a, vs, e, Rd.mono s h1, h2⟩
  | .non, v, h => h
  | .bl b, v, h => h
  | .int b, v, h => h
  | .str b, v, h => h
  | .tup b, v, h => h
  | .ref b, v, h => h
  | .fl b, v, h => h
theorem Top.vw : ∀ {d : D}, Top K Hs H p d → Vw K Hs H d (.ref p)
  | .lst l, ⟨vs, h1, h2⟩ => ⟨p, vs, rfl, h1, h2⟩
  | .dk l, ⟨vs, h1, h2⟩ => ⟨p, vs, rfl, .inl h1, h2⟩
  | .dt l, ⟨vs, h1, h2⟩ => ⟨p, vs, rfl, .inl h1, h2⟩
theorem Top.mono (s : Same Hs Hs') (t : Same H H') : ∀ {d : D}, Top K Hs H p d → Top K Hs' H' p d
  | .lst l, ⟨vs, h1, h2⟩ => ⟨vs, t _ _ h1, RpL.mono s _ _ h2⟩
  | .dk l, ⟨vs, h1, h2⟩ => ⟨vs, t _ _ h1, RpK.mono s _ _ h2⟩
  | .dt l, ⟨vs, h1, h2⟩ => ⟨vs, t _ _ h1, RpN.mono s _ _ h2⟩
theorem Top.there : ∀ {d : D}, Top K Hs H p d → H p ≠ none
  | .lst l, ⟨vs, h1, h2⟩ => by rw [h1]; simp
  | .dk l, ⟨vs, h1, h2⟩ => by rw [h1]; simp
  | .dt l, ⟨vs, h1, h2⟩ => by rw [h1]; simp
/-- shared once it stands in Hs -/
theorem Top.rp : ∀ {d : D}, Top K Hs H p d → Same Hs Hs' → Hs' p = H p → Rp K Hs' d (.ref p)
  | .lst l, ⟨vs, h1, h2⟩, s, e => ⟨p, vs, rfl, e.trans h1, RpL.mono s _ _ h2⟩
  | .dk l, ⟨vs, h1, h2⟩, s, e => ⟨p, vs, rfl, .inl (e.trans h1), RpK.mono s _ _ h2⟩
  | .dt l, ⟨vs, h1, h2⟩, s, e => ⟨p, vs, rfl, .inl (e.trans h1), RpN.mono s _ _ h2⟩
theorem CellOk.mono (g : Grow Hs H Hs' H') {c : Cell} (h : CellOk K B Hs H c) : CellOk K B Hs' H' c := by
  obtain ⟨o, x⟩ := c
  cases x with
  | un => trivial
  | sh d => obtain ⟨v, e, h⟩ := h; exact ⟨v, e, Rp.mono g.sh _ _ h⟩
  | own d => obtain ⟨v, e, p, e2, h1, h2, h3⟩ := h; exact ⟨v, e, p, e2, h1, g.out p h3.there h2, h3.mono g.sh g.all⟩
  | io n d => obtain ⟨v, e, ev, p, e2, h1, h2, h3⟩ := h; exact ⟨v, e, ev, p, e2, h1, g.out p h3.there h2, h3.mono g.sh g.all⟩
  | vw d => obtain ⟨v, e, h⟩ := h; exact ⟨v, e, h.mono g.sh g.all⟩
/-- what a cell that has a value lets read -/
theorem CellOk.read (s : Same Hs H) {o : Option V} {x : Sl} {d : D} (h : CellOk K B Hs H (o, x)) (e : x.val = some d) : ∃ v, o = some v ∧ Vw K Hs H d v := by
  cases x with
  | un => cases e
  | sh d' => cases e; obtain ⟨v, e, h⟩ := h; exact ⟨v, e, Vw.of_rp s h⟩
  | own d' => cases e; obtain ⟨v, e, p, e2, _, _, h⟩ := h; subst e2; exact ⟨_, e, h.vw⟩
  | io n d' => cases e; obtain ⟨v, e, _, p, e2, _, _, h⟩ := h; subst e2; exact ⟨_, e, h.vw⟩
  | vw d' => cases e; exact h
theorem OkAt.push (h : OkAt K B L Hs H) {c : Cell} (hc : CellOk K B Hs H c) (hs : c.2.solo = false) : OkAt K B (c :: L) Hs H :=
  ⟨h.gr, fun x hx => (List.mem_cons.mp hx).elim (fun e => by rw [e]; exact hc) (fun hx => h.cells x hx), List.Pairwise.cons (fun x _ a => by rw [hs] at a; cases a) h.sep⟩
theorem OkAt.sh (h : OkAt K B L Hs H) (r : Rp K Hs d v) : OkAt K B ((some v, .sh d) :: L) Hs H := h.push (c := (some v, .sh d)) ⟨v, rfl, r⟩ rfl
theorem OkAt.vw (h : OkAt K B L Hs H) (r : Vw K Hs H d v) : OkAt K B ((some v, .vw d) :: L) Hs H := h.push (c := (some v, .vw d)) ⟨v, rfl, r⟩ rfl
theorem OkAt.sub (h : OkAt K B L Hs H) (s : L'.Sublist L) : OkAt K B L' Hs H := ⟨h.gr, fun c hc => h.cells c (s.mem hc), h.sep.sublist s⟩
theorem OkAt.perm (h : OkAt K B L Hs H) (s : L.Perm L') : OkAt K B L' Hs H := ⟨h.gr, fun c hc => h.cells c (s.mem_iff.mpr hc), (s.pairwise_iff (fun hh => hh.symm)).mp h.sep⟩
theorem Ok.sub (h : Ok K B L H) (s : L'.Sublist L) : Ok K B L' H := let ⟨Hs, h⟩ := h; ⟨Hs, h.sub s⟩
theorem Ok.perm (h : Ok K B L H) (s : L.Perm L') : Ok K B L' H := let ⟨Hs, h⟩ := h; ⟨Hs, h.perm s⟩
theorem Ok.drop1 {a b : Cell} (h : Ok K B (a :: b :: L) H) : Ok K B (a :: L) H := h.sub (.cons₂ _ (.cons _ (List.Sublist.refl _)))
theorem Ok.drop2 {a b c : Cell} (h : Ok K B (a :: b :: c :: L) H) : Ok K B (a :: L) H := h.sub (.cons₂ _ (.cons _ (.cons _ (List.Sublist.refl _))))
theorem Ok.drop3 {a b c d : Cell} (h : Ok K B (a :: b :: c :: d :: L) H) : Ok K B (a :: L) H := h.sub (.cons₂ _ (.cons _ (.cons _ (.cons _ (List.Sublist.refl _)))))
theorem Ok.tl {a : Cell} (h : Ok K B (a :: L) H) : Ok K B L H := h.sub (.cons _ (List.Sublist.refl _))
theorem Same.upd {H : Hp} {p : Addr} {o : HO} (h : H p = none) : Same H (upd H p o) := fun b x e => by
  rw [upd_ne (ne_of_none e h)]; exact e
/-- a new object, of its own -/
theorem OkAt.new (h : OkAt K B L Hs H) (hp : H p = none) {o : HO} (t : Top K Hs (L2.upd H p o) p d) : OkAt K B ((some (.ref p), .own d) :: L) Hs (L2.upd H p o) := by
  have hsn : Hs p = none := h.gr.sub.free hp
  have s1 : Same H (L2.upd H p o) := Same.upd hp
  have g : Grow Hs H Hs (L2.upd H p o) := ⟨s1, Same.refl _, h.gr.sub.trans s1, fun _ _ e => e⟩
  refine ⟨h.gr.trans g, fun c hc => ?_, List.Pairwise.cons (fun c hc a b e => ?_) h.sep⟩
  · rcases List.mem_cons.mp hc with rfl | hc
    · exact ⟨_, rfl, p, rfl, h.gr.all.free hp, hsn, t⟩
    · exact (h.cells c hc).mono g
  · have hk := h.cells c hc
    obtain ⟨o', x⟩ := c
    have e' : some (V.ref p) = o' := e
    subst e'
    cases x with
    | own d' => obtain ⟨w, e1, q, e2, _, _, h3⟩ := hk; cases e1; cases e2; exact h3.there hp
    | io n d' => obtain ⟨w, e1, _, q, e2, _, _, h3⟩ := hk; cases e1; cases e2; exact h3.there hp
    | _ => cases b
/-- a new object that is shared at once -/
theorem OkAt.newSh (h : OkAt K B L Hs H) (hp : H p = none) {o : HO} (t : Rp K (L2.upd Hs p o) d (.ref p)) : Ok K B ((some (.ref p), .sh d) :: L) (L2.upd H p o) := by
  have hsn : Hs p = none := h.gr.sub.free hp
  have s1 : Same H (L2.upd H p o) := Same.upd hp
  have s2 : Same Hs (L2.upd Hs p o) := Same.upd hsn
  have g : Grow Hs H (L2.upd Hs p o) (L2.upd H p o) := ⟨s1, s2, fun b x e => by
    by_cases hb : b = p
    · subst hb; rw [upd_same] at e ⊢; exact e
    · rw [upd_ne hb] at e ⊢; exact h.gr.sub b x e, fun a ha e => by rw [upd_ne (fun q => ha (by rw [q]; exact hp))]; exact e⟩
  refine ⟨L2.upd Hs p o, h.gr.trans g, fun c hc => ?_, List.Pairwise.cons (fun c hc a => by cases a) h.sep⟩
  rcases List.mem_cons.mp hc with rfl | hc
  · exact ⟨_, rfl, t⟩
  · exact (h.cells c hc).mono g
/-- an owned object is given away -/
theorem Ok.freeze (h : Ok K B ((some v, .own d) :: L) H) : Ok K B ((some v, .sh d) :: L) H := by
  obtain ⟨Hs, h⟩ := h
  obtain ⟨w, e1, p, e2, hb, hs, t⟩ := h.cells _ List.mem_cons_self
  cases e1; subst e2
  obtain ⟨o, ho⟩ : ∃ o, H p = some o := by
    cases q : H p with
    | none => exact absurd q t.there
    | some o => exact ⟨o, rfl⟩
  have s2 : Same Hs (L2.upd Hs p o) := Same.upd hs
  have sb : Same (L2.upd Hs p o) H := fun b x e => by
    by_cases hb : b = p
    · subst hb; rw [upd_same] at e; rw [ho]; exact e
    · rw [upd_ne hb] at e; exact h.gr.sub b x e
  have t2 : Rp K (L2.upd Hs p o) d (.ref p) := t.rp s2 (upd_same.trans ho.symm)
  refine ⟨L2.upd Hs p o, ⟨h.gr.all, h.gr.sh.trans s2, sb, fun a ha e => ?_⟩, fun c hc => ?_, List.Pairwise.cons (fun c _ a => by cases a) (List.pairwise_cons.mp h.sep).2⟩
  · rw [upd_ne (fun q => ha (by rw [q]; exact hb))]; exact h.gr.out a ha e
  · rcases List.mem_cons.mp hc with rfl | hc
    · exact ⟨_, rfl, t2⟩
    · have hk := h.cells c (List.mem_cons_of_mem _ hc)
      have hsep := (List.pairwise_cons.mp h.sep).1 c hc
      obtain ⟨o', x⟩ := c
      have go : ∀ (d' : D), x.solo = true → (∃ v, o' = some v ∧ Own K B Hs H d' v) → ∃ v, o' = some v ∧ Own K B (L2.upd Hs p o) H d' v := fun d' hsolo ⟨v, e, q, e2, h1, h2, h3⟩ => by
        subst e; subst e2
        have hne : q ≠ p := fun z => hsep rfl hsolo (by rw [z])
        exact ⟨_, rfl, q, rfl, h1, by rw [upd_ne hne]; exact h2, h3.mono s2 (Same.refl _)⟩
      cases x with
      | un => trivial
      | sh d' => obtain ⟨v, e, hh⟩ := hk; exact ⟨v, e, Rp.mono s2 _ _ hh⟩
      | own d' => exact go d' rfl hk
      | io n d' =>
        obtain ⟨v, e, ev, ho⟩ := hk
        obtain ⟨v', e', ho'⟩ := go d' rfl ⟨v, e, ho⟩
        have z : o' = some v := e
        rw [z] at e'
        cases e'
        exact ⟨v, e, ev, ho'⟩
      | vw d' => obtain ⟨v, e, hh⟩ := hk; exact ⟨v, e, hh.mono s2 (Same.refl _)⟩
/-- given away where it can be -/
theorem Ok.fz {x : Sl} {o : Option V} (h : Ok K B ((o, x) :: L) H) (e : x.fz = some d) : ∃ v, o = some v ∧ Ok K B ((some v, .sh d) :: L) H := by
  cases x with
  | sh d' =>
    cases e
    obtain ⟨Hs, h⟩ := h
    obtain ⟨v, e, _⟩ := h.cells _ List.mem_cons_self
    have e' : o = some v := e
    subst e'
    exact ⟨v, rfl, Hs, h⟩
  | own d' =>
    cases e
    have h0 := h
    obtain ⟨Hs, h⟩ := h
    obtain ⟨v, e, _⟩ := h.cells _ List.mem_cons_self
    have e' : o = some v := e
    subst e'
    exact ⟨v, rfl, h0.freeze⟩
  | _ => cases e
end
end Fx
set_option Elab.async false
set_option linter.all false
set_option maxRecDepth 100000
set_option maxHeartbeats 4000000
/-! Fx: expressions. -/
namespace Fx
open PySem PySem.Spec PyProof.Rows L2

theorem _root_.L2.PE.imp {X : Cx} {e : Expr} {t t' : TE} (h : PE X e t) (f : ∀ σ H Q, t' σ H Q → t σ H Q) : PE X e t' := ⟨fun pins s σ H Q I q => h.run pins s σ H Q I (f σ H Q q)⟩
theorem _root_.L2.PT.imp {X : Cx} {e : Expr} {t t' : TT} (h : PT X e t) (f : ∀ σ H Q, t' σ H Q → t σ H Q) : PT X e t' := ⟨fun pins s σ H Q I q => h.run pins s σ H Q I (f σ H Q q)⟩
theorem _root_.L2.PA.imp {X : Cx} {e : List Expr} {t t' : TA} (h : PA X e t) (f : ∀ σ H Q, t' σ H Q → t σ H Q) : PA X e t' := ⟨fun pos pins s σ H Q I q => h.run pos pins s σ H Q I (f σ H Q q)⟩

/-- an expression by its mirror -/
def SE (K : Fg) (B : Bs) (m : ME) : TE := fun σ H Q => ∃ (e : Env) (T : List Cell) (x : Sl), σ.length = e.length ∧ Ok K B (σ.zip e ++ T) H ∧ m e = some x ∧
  ∀ v H', Ok K B ((some v, x) :: (σ.zip e ++ T)) H' → Q v H'
/-- a test by its mirror -/
def ST (K : Fg) (B : Bs) (c : Env → Option Bool) : TT := fun σ H Q => ∃ (e : Env) (T : List Cell) (b : Bool), σ.length = e.length ∧ Ok K B (σ.zip e ++ T) H ∧ c e = some b ∧
  ∀ H', Ok K B (σ.zip e ++ T) H' → Q b H'
def cellsOf : List V → List D → List Cell
  | v :: vs, d :: ds => (some v, .sh d) :: cellsOf vs ds
  | _, _ => []
/-- arguments by their mirror -/
def SA (K : Fg) (B : Bs) (ms : List ME) : TA := fun σ H Q => ∃ (e : Env) (T : List Cell) (ds : List D), σ.length = e.length ∧ Ok K B (σ.zip e ++ T) H ∧ eAll ms e = some ds ∧
  ∀ vs H', vs.length = ds.length → Ok K B (cellsOf vs ds ++ (σ.zip e ++ T)) H' → Q vs H'
abbrev SimE (X : Cx) (B : Bs) (e : Expr) (m : ME) : Prop := PE X e (SE (kw X) B m)
abbrev SimT (X : Cx) (B : Bs) (e : Expr) (c : Env → Option Bool) : Prop := PT X e (ST (kw X) B c)
abbrev SimA (X : Cx) (B : Bs) (es : List Expr) (ms : List ME) : Prop := PA X es (SA (kw X) B ms)

section
variable {K : Fg} {B : Bs} {L T : List Cell} {H H' : Hp} {σ : L2.St} {e : Env}
theorem sub_mid (A L : List Cell) (c : Cell) : (A ++ L).Sublist (A ++ c :: L) := List.Sublist.append (List.Sublist.refl _) (.cons _ (List.Sublist.refl _))
/-- a slot -/
theorem zip_at : ∀ {σ : L2.St} {e : Env} {i : Nat} {x : Sl}, σ.length = e.length → e[i]? = some x → ∃ o, σ[i]? = some o ∧ (o, x) ∈ σ.zip e
  | [], [], _, _, _, h => by simp at h
  | o :: σ, y :: e, 0, x, _, h => by
    simp at h; subst h; exact ⟨o, rfl, by simp⟩
  | o :: σ, y :: e, i + 1, x, hl, h => by
    obtain ⟨o', h1, h2⟩ := zip_at (σ := σ) (e := e) (i := i) (by simpa using hl) (by simpa using h)
    exact ⟨o', by simpa using h1, by simp [h2]⟩
  | [], _ :: _, _, _, hl, _ => by simp at hl
  | _ :: _, [], _, _, hl, _ => by simp at hl
theorem Ok.mid {c : Cell} {A L : List Cell} (h : Ok K B (c :: (A ++ L)) H) : Ok K B (A ++ c :: L) H := h.perm List.perm_middle.symm
theorem Ok.unmid {c : Cell} {A L : List Cell} (h : Ok K B (A ++ c :: L) H) : Ok K B (c :: (A ++ L)) H := h.perm List.perm_middle
/-- the cell ahead, and back to the slots with it in hand -/
theorem SE.bind {m : ME} {k : Env → Sl → Option Sl} {Q : VK} {R : V → Hp → Prop} (h : SE K B (fun e => (m e).bind (k e)) σ H Q)
    (f : ∀ (e : Env) (T : List Cell) (x y : Sl) (v : V) (H' : Hp), σ.length = e.length → m e = some x → k e x = some y → Ok K B ((some v, x) :: (σ.zip e ++ T)) H' →
      (∀ w H'', Ok K B ((some w, y) :: (σ.zip e ++ T)) H'' → Q w H'') → R v H') : SE K B m σ H R := by
  obtain ⟨e, T, y, hl, ok, he, q⟩ := h
  obtain ⟨x, hx, hy⟩ := Option.bind_eq_some_iff.mp he
  exact ⟨e, T, x, hl, ok, hx, fun v H' ok' => f e T x y v H' hl hx hy ok' q⟩
end

/-! ### what an operator by values must keep -/
/-- r asks of the values what g tells of the data -/
def R1Ok (K : Fg) (r : V → Hp → VK → Prop) (g : D → Option Sl) : Prop := ∀ (B : Bs) (L : List Cell) (Hs H : Hp) (d : D) (v : V) (x : Sl) (Q : VK), OkAt K B L Hs H → Vw K Hs H d v → g d = some x →
  (∀ w H', Ok K B ((some w, x) :: L) H' → Q w H') → r v H Q
def R2Ok (K : Fg) (r : R2) (g : D → D → Option Sl) : Prop := ∀ (B : Bs) (L : List Cell) (Hs H : Hp) (d1 d2 : D) (v1 v2 : V) (x : Sl) (Q : VK), OkAt K B L Hs H → Vw K Hs H d1 v1 → Vw K Hs H d2 v2 → g d1 d2 = some x →
  (∀ w H', Ok K B ((some w, x) :: L) H' → Q w H') → r v1 v2 H Q
section
variable {X : Cx} {B : Bs} {a b c e : Expr} {ma mb mc : ME} {pos p : Pos}
theorem se_var (i : Nat) {x : Str} (hN : X.N[i]? = some x := by rfl) (hv : Vis X.env.scope x := by first | exact Or.inl rfl | exact Or.inr (Or.inl rfl) | exact Or.inr (Or.inr rfl)) (hd : (x == ("__debug__" : Str)) = false := by decide)
    (hcd : (x == ("__classdict__" : Str)) = false := by decide) : SimE X B (.Name x pos) (eVar i) := by
  refine (pe_var (i := i) hN hv hd hcd).imp fun σ H Q ⟨e, T, x, hl, ok, he, q⟩ => ?_
  unfold eVar at he
  cases hx : e[i]? with
  | none => rw [hx] at he; cases he
  | some y =>
    rw [hx] at he
    obtain ⟨o, h1, h2⟩ := zip_at hl hx
    obtain ⟨Hs, ok⟩ := ok
    have hc := ok.cells _ (List.mem_append_left T h2)
    cases y with
    | sh d =>
      cases he
      obtain ⟨v, ev, r⟩ := hc
      have e' : o = some v := ev
      subst e'
      exact ⟨v, h1, q v H ⟨Hs, ok.sh r⟩⟩
    | own d =>
      cases he
      obtain ⟨v, ev, r⟩ := hc.read ok.gr.sub (x := .own d) rfl
      have e' : o = some v := ev
      subst e'
      exact ⟨v, h1, q v H ⟨Hs, ok.vw r⟩⟩
    | io n d =>
      cases he
      obtain ⟨v, ev, r⟩ := hc.read ok.gr.sub (x := .io n d) rfl
      have e' : o = some v := ev
      subst e'
      exact ⟨v, h1, q v H ⟨Hs, ok.vw r⟩⟩
    | vw d =>
      cases he
      obtain ⟨v, ev, r⟩ := hc
      have e' : o = some v := ev
      subst e'
      exact ⟨v, h1, q v H ⟨Hs, ok.vw r⟩⟩
    | _ => cases he
theorem se_const {d : D} {v : V} (h : PE X e (tC v)) (r : ∀ H, Rp (kw X) H d v) : SimE X B e (eC d) := h.imp fun σ H Q ⟨e, T, x, hl, ok, he, q⟩ => by
  cases he
  obtain ⟨Hs, ok⟩ := ok
  exact q v H ⟨Hs, ok.sh (r Hs)⟩
theorem se_int {i : Int} {j} : SimE X B (.Constant (.int i) j pos) (eInt i) := se_const pe_int fun _ => rfl
theorem se_bl {b : Bool} {j} : SimE X B (.Constant (.bool b) j pos) (eBl b) := se_const pe_bl fun _ => rfl
theorem se_non {j} : SimE X B (.Constant .none j pos) eNon := se_const pe_non fun _ => rfl
theorem se_str {x : Str} {j} : SimE X B (.Constant (.str x) j pos) (eC (.str x.cps.toList)) := se_const pe_str fun _ => (show V.str x = V.str (strOf x.cps.toList) from rfl)
theorem se_op1 {r : V → Hp → VK → Prop} {g : D → Option Sl} (hg : R1Ok (kw X) r g) (ha : SimE X B a ma) (h : ∀ ta, PE X a ta → PE X e (tUn r ta)) : SimE X B e (eOp1 g ma) := (h _ ha).imp fun σ H Q hq => by
  refine SE.bind hq fun e T x y v H' hl hx hy ok q => ?_
  obtain ⟨d, hd, hy⟩ := Option.bind_eq_some_iff.mp hy
  obtain ⟨Hs, ok⟩ := ok
  obtain ⟨v', ev, hv⟩ := (ok.cells _ List.mem_cons_self).read ok.gr.sub hd
  cases ev
  exact hg B (σ.zip e ++ T) Hs H' d v y Q (ok.sub (.cons _ (List.Sublist.refl _))) hv hy q
theorem SE.op2 {K : Fg} {r : R2} {g : D → D → Option Sl} (hg : R2Ok K r g) {σ : L2.St} {H : Hp} {Q : VK} (hq : SE K B (eOp2 g ma mb) σ H Q) : tOp r (SE K B ma) (SE K B mb) σ H Q := by
  refine SE.bind hq fun e T x z v H' hl hx hy ok q => ?_
  obtain ⟨d, hd, hy⟩ := Option.bind_eq_some_iff.mp hy
  obtain ⟨y, hmy, hy⟩ := Option.bind_eq_some_iff.mp hy
  obtain ⟨d2, hd2, hz⟩ := Option.bind_eq_some_iff.mp hy
  refine ⟨e, (some v, x) :: T, y, hl, ok.mid, hmy, fun w H2 ok2 => ?_⟩
  obtain ⟨Hs, ok2⟩ := ok2
  obtain ⟨w', ew, hw⟩ := (ok2.cells _ List.mem_cons_self).read ok2.gr.sub hd2
  cases ew
  obtain ⟨v', ev, hv⟩ := (ok2.cells _ (List.mem_cons_of_mem _ (List.mem_append_right _ List.mem_cons_self))).read ok2.gr.sub hd
  cases ev
  exact hg B (σ.zip e ++ T) Hs H2 d d2 v w z Q (ok2.sub (.cons _ (sub_mid _ _ _))) hv hw hz q
theorem se_op2 {r : R2} {g : D → D → Option Sl} (hg : R2Ok (kw X) r g) (ha : SimE X B a ma) (hb : SimE X B b mb) (h : ∀ ta tb, PE X a ta → PE X b tb → PE X e (tOp r ta tb)) : SimE X B e (eOp2 g ma mb) := (h _ _ ha hb).imp fun σ H Q hq => SE.op2 hg hq
end
end Fx
set_option Elab.async false
set_option linter.all false
set_option maxRecDepth 100000
set_option maxHeartbeats 4000000
/-! Fx: dicts whose keys are tuples, nested; dicts of ints and texts. -/
namespace Fx
open PySem PySem.Spec PyProof.Rows L2
/-! ### keys -/
mutual
theorem nk_key : ∀ d : D, d.key = true → ∃ n, nk d = some n ∧ n.depth = d.depth
  | .non, _ => ⟨.none, by simp [nk], by simp [NestedKey.depth, D.depth]⟩
  | .int i, _ => ⟨.num i, by simp [nk], by simp [NestedKey.depth, D.depth]⟩
  | .str i, _ => ⟨.text (strOf i), by simp [nk], by simp [NestedKey.depth, D.depth]⟩
  | .tup l, h => by
    obtain ⟨n, h1, h2⟩ := nk_keyL l (by simpa [D.key] using h)
    exact ⟨.tup n, by simp [nk, h1], by simp [NestedKey.depth, D.depth, h2]⟩
  | .bl _, h => by simp [D.key] at h
  | .lst _, h => by simp [D.key] at h
  | .dk _, h => by simp [D.key] at h
  | .dt _, h => by simp [D.key] at h
  | .ref _, h => by simp [D.key] at h
  | .fl _, h => by simp [D.key] at h
theorem nk_keyL : ∀ d : List D, D.keyL d = true → ∃ n, nkL d = some n ∧ NestedKey.depthAll n = D.depthL d
  | [], _ => ⟨[], by simp [nkL], by simp [NestedKey.depthAll, D.depthL]⟩
  | d :: ds, h => by
    obtain ⟨a, b⟩ := Bool.and_eq_true_iff.mp (show (d.key && D.keyL ds) = true from by simpa [D.keyL] using h)
    obtain ⟨n, h1, h2⟩ := nk_key d a
    obtain ⟨m, h3, h4⟩ := nk_keyL ds b
    exact ⟨n :: m, by simp [nkL, h1, h3], by simp [NestedKey.depthAll, D.depthL, h2, h4]⟩
end
theorem strOf_inj {a b : List Nat} (e : strOf a = strOf b) : a = b := by
  have := congrArg (fun z : Str => z.cps.toList) e
  simpa [strOf] using this
mutual
theorem eqv_nk : ∀ (a b : D) (x y : NestedKey), nk a = some x → nk b = some y → a.eqv b = decide (x = y)
  | .non, b, x, y, ha, hb => by
    simp [nk] at ha; subst ha
    cases b <;> simp [nk] at hb <;> first | (subst hb; simp [D.eqv]; done) | (obtain ⟨z, _, rfl⟩ := hb; simp [D.eqv])
  | .int i, b, x, y, ha, hb => by
    simp [nk] at ha; subst ha
    cases b with
    | int j =>
      simp [nk] at hb; subst hb
      simp only [D.eqv]
      by_cases h : i = j
      · subst h; simp
      · rw [beq_eq_false_iff_ne.mpr h]
        symm
        refine decide_eq_false fun e => h ?_
        injection e
    | _ => simp [nk] at hb <;> first | (subst hb; simp [D.eqv]; done) | (obtain ⟨z, _, rfl⟩ := hb; simp [D.eqv])
  | .str i, b, x, y, ha, hb => by
    simp [nk] at ha; subst ha
    cases b with
    | str j =>
      simp [nk] at hb; subst hb
      simp only [D.eqv]
      by_cases h : i = j
      · subst h; simp
      · rw [beq_eq_false_iff_ne.mpr h]
        symm
        refine decide_eq_false fun e => h ?_
        injection e with e
        exact strOf_inj e
    | _ => simp [nk] at hb <;> first | (subst hb; simp [D.eqv]; done) | (obtain ⟨z, _, rfl⟩ := hb; simp [D.eqv])
  | .tup l, b, x, y, ha, hb => by
    simp [nk] at ha
    obtain ⟨n, h1, rfl⟩ := ha
    cases b with
    | tup r =>
      simp [nk] at hb
      obtain ⟨m, h2, rfl⟩ := hb
      simp only [D.eqv]
      rw [eqv_nkL l r n m h1 h2]
      simp
    | _ => simp [nk] at hb <;> (subst hb; simp [D.eqv])
  | .bl _, _, _, _, h, _ => by simp [nk] at h
  | .lst _, _, _, _, h, _ => by simp [nk] at h
  | .dk _, _, _, _, h, _ => by simp [nk] at h
  | .dt _, _, _, _, h, _ => by simp [nk] at h
  | .ref _, _, _, _, h, _ => by simp [nk] at h
  | .fl _, _, _, _, h, _ => by simp [nk] at h
theorem eqv_nkL : ∀ (a b : List D) (x y : List NestedKey), nkL a = some x → nkL b = some y → D.eqvL a b = decide (x = y)
  | [], [], x, y, ha, hb => by simp [nkL] at ha hb; subst ha; subst hb; simp [D.eqvL]
  | [], _ :: _, x, y, ha, hb => by
    simp only [nkL] at ha hb
    cases ha
    obtain ⟨n, h1, h2⟩ := Option.bind_eq_some_iff.mp hb
    obtain ⟨m, h3, h4⟩ := Option.map_eq_some_iff.mp h2
    subst h4; simp [D.eqvL]
  | _ :: _, [], x, y, ha, hb => by
    simp only [nkL] at ha hb
    cases hb
    obtain ⟨n, h1, h2⟩ := Option.bind_eq_some_iff.mp ha
    obtain ⟨m, h3, h4⟩ := Option.map_eq_some_iff.mp h2
    subst h4; simp [D.eqvL]
  | a :: as, b :: bs, x, y, ha, hb => by
    simp only [nkL] at ha hb
    obtain ⟨n, h1, h2⟩ := Option.bind_eq_some_iff.mp ha
    obtain ⟨m, h3, h4⟩ := Option.map_eq_some_iff.mp h2
    obtain ⟨n', h1', h2'⟩ := Option.bind_eq_some_iff.mp hb
    obtain ⟨m', h3', h4'⟩ := Option.map_eq_some_iff.mp h2'
    subst h4; subst h4'
    simp only [D.eqvL]
    rw [eqv_nk a b n n' h1 h1', eqv_nkL as bs m m' h3 h3']
    simp
end
theorem eqv_kD {a b : D} {x y : Key} (ha : kD a = some x) (hb : kD b = some y) : a.eqv b = decide (x = y) := by
  cases a <;> first | (cases ha; done) | skip
  all_goals cases b <;> first | (cases hb; done) | skip
  all_goals (cases ha; cases hb; simp only [D.eqv])
  · rename_i i j
    by_cases h : i = j
    · subst h; simp
    · rw [beq_eq_false_iff_ne.mpr h]; symm; exact decide_eq_false fun e => h (Sum.inl.inj e)
  · rfl
  · rfl
  · rename_i i j
    by_cases h : i = j
    · subst h; simp
    · rw [beq_eq_false_iff_ne.mpr h]; symm; exact decide_eq_false fun e => h (strOf_inj (Sum.inr.inj e))
theorem kD_of {k : D} (h : k.isK = true) : ∃ z, kD k = some z := by
  cases k <;> first | (cases h; done) | exact ⟨_, rfl⟩
theorem kD_v {K : Fg} {H : Hp} {k : D} {z : Key} {v : V} (h : kD k = some z) (r : Rp K H k v) : v = kV z := by
  cases k <;> first | (cases h; done) | skip
  · cases h; exact (show v = .int _ from r)
  · cases h; exact (show v = .str _ from r)
theorem kD_vw {K : Fg} {Hs H : Hp} {k : D} {z : Key} {v : V} (h : kD k = some z) (r : Vw K Hs H k v) : v = kV z := by
  cases k <;> first | (cases h; done) | skip
  · cases h; exact (show v = .int _ from r)
  · cases h; exact (show v = .str _ from r)
/-! ### what a dict holds -/
def valN : List (NestedKey × Addr × V) → NestedKey → Option V
  | [], _ => none
  | p :: r, k => if p.1 = k then some p.2.2 else valN r k
def replN (k : NestedKey) (v : V) (p : NestedKey × Addr × V) : NestedKey × Addr × V := if p.1 = k then (p.1, p.2.1, v) else p
def putN (kvs : List (NestedKey × Addr × V)) (k : NestedKey) (b : Addr) (v : V) : List (NestedKey × Addr × V) := if (valN kvs k).isSome then kvs.map (replN k v) else kvs ++ [(k, b, v)]
theorem KN.val : ∀ {kvs : List (NestedKey × Addr × V)} {xs : List (NestedKey × Addr × Value)} (r : KN kvs xs) (k : NestedKey), RelO (valN kvs k) ((atKey xs k).map (·.2))
  | _, _, .nil, _ => True.intro
  | _, _, .cons (a := p) (b := q) (l₁ := ps) (l₂ := qs) h t, k => by
    obtain ⟨h1, _, h2⟩ := h
    unfold valN
    by_cases e : p.1 = k
    · have b : atKey (q :: qs) k = some q.2 := by simp [atKey, List.find?_cons, h1.symm.trans e]
      rw [if_pos e, b]; exact h2
    · have b : atKey (q :: qs) k = atKey qs k := by
        have e' : ¬ q.1 = k := fun z => e (h1.trans z)
        unfold atKey
        rw [List.find?_cons_of_neg (p := fun x : NestedKey × Addr × Value => decide (x.1 = k)) (fun z => e' (of_decide_eq_true z))]
      rw [if_neg e, b]; exact KN.val t k
theorem KN.repl : ∀ {kvs : List (NestedKey × Addr × V)} {xs : List (NestedKey × Addr × Value)} (r : KN kvs xs) (k : NestedKey) {y : V} {u : Value}, RelV y u → KN (kvs.map (replN k y)) (xs.map (PySem.putAt k u))
  | _, _, .nil, _, _, _, _ => .nil
  | _, _, .cons (a := p) (b := q) h t, k, y, u, ry => by
    rw [List.map_cons, List.map_cons]
    refine .cons ?_ (KN.repl t k ry)
    obtain ⟨h1, h2, h3⟩ := h
    unfold replN PySem.putAt
    by_cases e : p.1 = k
    · rw [if_pos e, if_pos (h1.symm.trans e)]; exact ⟨h1, h2, ry⟩
    · rw [if_neg e, if_neg (fun z => e (h1.trans z))]; exact ⟨h1, h2, h3⟩
theorem KN.put {kvs : List (NestedKey × Addr × V)} {xs : List (NestedKey × Addr × Value)} (r : KN kvs xs) (k : NestedKey) (b : Addr) {y : V} {u : Value} (ry : RelV y u) : KN (putN kvs k b y) (storedH xs k b u) := by
  have e := (r.val k).isSome_eq
  rw [Option.isSome_map] at e
  unfold putN storedH
  rw [e]
  by_cases q : (atKey xs k).isSome = true
  · rw [if_pos q, if_pos q]; exact KN.repl r k ry
  · rw [if_neg q, if_neg q]; exact Paired.snoc r ⟨rfl, rfl, ry⟩
theorem putN_len (kvs : List (NestedKey × Addr × V)) (k : NestedKey) (b : Addr) (v : V) : (putN kvs k b v).length ≤ kvs.length + 1 := by
  unfold putN
  split
  · rw [List.length_map]; omega
  · rw [List.length_append]; exact Nat.le_refl _
section
variable {K : Fg} {H : Hp}
theorem RpN.look : ∀ {l : List (D × D)} {kvs : List (NestedKey × Addr × V)} {k : D} {n : NestedKey}, RpN K H l kvs → nk k = some n → (∀ d, lookD k l = some d → ∃ v, valN kvs n = some v ∧ Rp K H d v) ∧ (lookD k l).isSome = (valN kvs n).isSome
  | [], [], _, _, _, _ => ⟨fun d h => by simp [lookD] at h, rfl⟩
  | (a, d) :: l, q :: kvs, k, n, h, hk => by
    have he := eqv_nk a k q.1 n h.1.1 hk
    have ih := RpN.look h.2 hk
    simp only [lookD, valN]
    rw [he]
    by_cases e : q.1 = n
    · rw [if_pos (decide_eq_true e), if_pos e]
      exact ⟨fun d' h' => by cases h'; exact ⟨_, rfl, h.1.2.2.2⟩, rfl⟩
    · rw [if_neg (by simpa using e), if_neg e]; exact ih
  | [], _ :: _, _, _, h, _ => h.elim
  | _ :: _, [], _, _, h, _ => h.elim
theorem RpN.repl : ∀ {l : List (D × D)} {kvs : List (NestedKey × Addr × V)} {k : D} {n : NestedKey} {d : D} {v : V}, RpN K H l kvs → nk k = some n → Rp K H d v → RpN K H (l.map fun p => if p.1.eqv k then (p.1, d) else p) (kvs.map (replN n v))
  | [], [], _, _, _, _, _, _, _ => trivial
  | (a, d0) :: l, q :: kvs, k, n, d, v, h, hk, r => by
    have he := eqv_nk a k q.1 n h.1.1 hk
    rw [List.map_cons, List.map_cons]
    refine ⟨?_, RpN.repl h.2 hk r⟩
    unfold replN
    simp only []
    rw [he]
    by_cases e : q.1 = n
    · rw [if_pos (decide_eq_true e), if_pos e]; exact ⟨h.1.1, h.1.2.1, h.1.2.2.1, r⟩
    · rw [if_neg (by simpa using e), if_neg e]; exact h.1
  | [], _ :: _, _, _, _, _, h, _, _ => h.elim
  | _ :: _, [], _, _, _, _, h, _, _ => h.elim
theorem RpN.snoc : ∀ {l : List (D × D)} {kvs : List (NestedKey × Addr × V)} {p : D × D} {q : NestedKey × Addr × V}, RpN K H l kvs → RpM K H p q → RpN K H (l ++ [p]) (kvs ++ [q])
  | [], [], _, _, _, h => ⟨h, trivial⟩
  | _ :: _, _ :: _, _, _, h, h' => ⟨h.1, RpN.snoc h.2 h'⟩
  | [], _ :: _, _, _, h, _ => h.elim
  | _ :: _, [], _, _, h, _ => h.elim
theorem RpN.put {l : List (D × D)} {kvs : List (NestedKey × Addr × V)} {k d : D} {n : NestedKey} {b : Addr} {v : V} (h : RpN K H l kvs) (hk : nk k = some n) (h8 : n.depth ≤ 8) (rk : Rp K H k (.ref b)) (r : Rp K H d v) : RpN K H (putD k d l) (putN kvs n b v) := by
  unfold putD putN
  rw [(h.look hk).2]
  by_cases e : (valN kvs n).isSome = true
  · rw [if_pos e, if_pos e]; exact h.repl hk r
  · rw [if_neg e, if_neg e]; exact h.snoc ⟨hk, h8, rk, r⟩
theorem RpK.look : ∀ {l : List (D × D)} {kvs : List (Key × V)} {k : D} {n : Key}, RpK K H l kvs → kD k = some n → (∀ d, lookD k l = some d → ∃ v, valV kvs n = some v ∧ Rp K H d v) ∧ (lookD k l).isSome = (valV kvs n).isSome
  | [], [], _, _, _, _ => ⟨fun d h => by simp [lookD] at h, rfl⟩
  | (a, d) :: l, q :: kvs, k, n, h, hk => by
    have he := eqv_kD h.1.1 hk
    have ih := RpK.look h.2 hk
    simp only [lookD]
    rw [he]
    by_cases e : q.1 = n
    · rw [if_pos (decide_eq_true e), valV_pos e]
      exact ⟨fun d' h' => by cases h'; exact ⟨_, rfl, h.1.2⟩, rfl⟩
    · rw [if_neg (by simpa using e), valV_neg e]; exact ih
  | [], _ :: _, _, _, h, _ => h.elim
  | _ :: _, [], _, _, h, _ => h.elim
theorem RpK.repl : ∀ {l : List (D × D)} {kvs : List (Key × V)} {k : D} {n : Key} {d : D} {v : V}, RpK K H l kvs → kD k = some n → Rp K H d v → RpK K H (l.map fun p => if p.1.eqv k then (p.1, d) else p) (kvs.map fun kv => if kv.1 = n then (kv.1, v) else kv)
  | [], [], _, _, _, _, _, _, _ => trivial
  | (a, d0) :: l, q :: kvs, k, n, d, v, h, hk, r => by
    have he := eqv_kD h.1.1 hk
    rw [List.map_cons, List.map_cons]
    refine ⟨?_, RpK.repl h.2 hk r⟩
    simp only []
    rw [he]
    by_cases e : q.1 = n
    · rw [if_pos (decide_eq_true e), if_pos e]; exact ⟨h.1.1, r⟩
    · rw [if_neg (by simpa using e), if_neg e]; exact h.1
  | [], _ :: _, _, _, _, _, h, _, _ => h.elim
  | _ :: _, [], _, _, _, _, h, _, _ => h.elim
theorem RpK.snoc : ∀ {l : List (D × D)} {kvs : List (Key × V)} {p : D × D} {q : Key × V}, RpK K H l kvs → RpP K H p q → RpK K H (l ++ [p]) (kvs ++ [q])
  | [], [], _, _, _, h => ⟨h, trivial⟩
  | _ :: _, _ :: _, _, _, h, h' => ⟨h.1, RpK.snoc h.2 h'⟩
  | [], _ :: _, _, _, h, _ => h.elim
  | _ :: _, [], _, _, h, _ => h.elim
theorem RpK.put {l : List (D × D)} {kvs : List (Key × V)} {k d : D} {n : Key} {v : V} (h : RpK K H l kvs) (hk : kD k = some n) (r : Rp K H d v) : RpK K H (putD k d l) (putK kvs n v) := by
  unfold putD putK
  rw [(h.look hk).2, valV_any]
  by_cases e : (valV kvs n).isSome = true
  · rw [if_pos e, if_pos e]; exact h.repl hk r
  · rw [if_neg e, if_neg e]; exact h.snoc ⟨hk, r⟩
end
/-! ### the machine -/
section
variable {X : Cx} {pins : List (Addr × Obj)} {σ : L2.St} {H : Hp} {s : Shared} {a b : Addr} {A : Around} {E : Value → Shared → Prop}
mutual
/-- a tuple of data is a key in the heap -/
theorem Rp.nested (I : Inv X pins σ H s) : ∀ (d : D) (v : V) (u : Value) (n : NestedKey), Rp (kw X) H d v → RelV v u → nk d = some n → NestedIs s.heap n u
  | .non, v, u, n, h, r, e => by
    simp [nk] at e; subst e
    rw [show v = .non from h] at r
    rw [show u = Value.none from r]; exact .none
  | .int i, v, u, n, h, r, e => by
    simp [nk] at e; subst e
    rw [show v = .int i from h] at r
    obtain ⟨t, rfl⟩ := r
    exact .int i t
  | .str i, v, u, n, h, r, e => by
    simp [nk] at e; subst e
    rw [show v = .str (strOf i) from h] at r
    obtain ⟨t, rfl⟩ := r
    exact .text _ t
  | .tup l, v, u, n, h, r, e => by
    simp [nk] at e
    obtain ⟨m, e1, rfl⟩ := e
    obtain ⟨p, vs, rfl, h1, h2⟩ := (show ∃ a vs, v = .ref a ∧ SqT X.K H a vs ∧ RpL (kw X) H l vs from h)
    rw [show u = Value.ref p from r]
    obtain ⟨its, rv, pl, hz⟩ := I.tuple h1
    obtain ⟨o, ho, hc, n, hd⟩ := pl
    exact .tup ho hc hd (by simpa using RpL.nested I l vs its m h2 rv e1)
  | .bl _, _, _, _, _, _, e => by simp [nk] at e
  | .lst _, _, _, _, _, _, e => by simp [nk] at e
  | .dk _, _, _, _, _, _, e => by simp [nk] at e
  | .dt _, _, _, _, _, _, e => by simp [nk] at e
  | .ref _, _, _, _, _, _, e => by simp [nk] at e
  | .fl _, _, _, _, _, _, e => by simp [nk] at e
theorem RpL.nested (I : Inv X pins σ H s) : ∀ (ds : List D) (vs : List V) (us : List Value) (ns : List NestedKey), RpL (kw X) H ds vs → Vals vs us → nkL ds = some ns → NestedAll s.heap ns us
  | [], [], _, ns, _, r, e => by cases r; simp [nkL] at e; subst e; exact .nil
  | d :: ds, v :: vs, _, ns, h, r, e => by
    cases r with
    | cons r1 r2 =>
      simp only [nkL] at e
      obtain ⟨n, e1, e2⟩ := Option.bind_eq_some_iff.mp e
      obtain ⟨m, e3, e4⟩ := Option.map_eq_some_iff.mp e2
      subst e4
      exact .cons (Rp.nested I d v _ n h.1 r1 e1) (RpL.nested I ds vs _ m h.2 r2 e3)
  | [], _ :: _, _, _, h, _, _ => h.elim
  | _ :: _, [], _, _, h, _, _ => h.elim
end
/-- the keys stand -/
theorem RpN.keysAre (I : Inv X pins σ H s) : ∀ {l : List (D × D)} {kvs : List (NestedKey × Addr × V)} {xs : List (NestedKey × Addr × Value)}, RpN (kw X) H l kvs → KN kvs xs → ∀ x ∈ xs, (nestedKind X.prog X.w).is s.heap x.1 x.2.1
  | [], [], _, _, r, x, hx => by cases r; cases hx
  | (k, d) :: l, q :: kvs, _, h, r, x, hx => by
    cases r with
    | @cons _ q' _ xs hq t =>
      rcases List.mem_cons.mp hx with rfl | hx
      · rw [← hq.1, ← hq.2.1]
        exact ⟨Rp.nested I k (.ref q.2.1) (.ref q.2.1) q.1 h.1.2.2.1 rfl h.1.1, h.1.2.1⟩
      · exact RpN.keysAre I h.2 t x hx
  | [], _ :: _, _, h, _, _, _ => h.elim
  | _ :: _, [], _, h, _, _, _ => h.elim
/-- a dict with nested keys is tracked at a: its keys' tuples are known in H -/
def DnAt (K : Fg) (H : Hp) (a : Addr) (kvs : List (NestedKey × Addr × V)) : Prop := Rd H a (dnO K a kvs) ∧ ∃ l, RpN K H l kvs
theorem dn_rd {kvs : List (NestedKey × Addr × V)} (I : Inv X pins σ H s) (e : DnAt (kw X) H a kvs) : kvs.length ≤ sizeLine ∧ (a == sysModules) = false ∧ ∃ xs, KN kvs xs ∧ s.heap.DictOfH (nestedKind X.prog X.w) a xs := by
  obtain ⟨e, l, hl⟩ := e
  obtain ⟨⟨z, y, xs, r, o, es, ep, h1, h2, h3, h4, h5⟩, _, _⟩ := (show ObjOk X.prog X.w H s.heap a (dnO (kw X) a kvs) from e.ok I.hok)
  exact ⟨z, y, xs, r, o, es, ep, h1, h2, h3, h4, hl.keysAre I r, h5⟩
theorem dn_room (hu : A.units + 70 < cLine) : (nestedKind X.prog X.w).room A.in1 := by
  show A.units + 1 + 8 < cLine
  omega
/-- the tuple at b is the key n -/
def KeyAt (K : Fg) (H : Hp) (b : Addr) (n : NestedKey) : Prop := ∃ d, nk d = some n ∧ n.depth ≤ 8 ∧ Rp K H d (.ref b)
theorem KeyAt.is {n : NestedKey} (I : Inv X pins σ H s) (k : KeyAt (kw X) H b n) : (nestedKind X.prog X.w).is s.heap n b := let ⟨d, e, h8, r⟩ := k
  ⟨Rp.nested I d (.ref b) (.ref b) n r rfl e, h8⟩
theorem dn_new {P : Program} {w : World} {K : PySem.W.Frag} {H' : Hp} {h' : Heap} {kvs : List (NestedKey × Addr × V)} {xs : List (NestedKey × Addr × Value)} (z : kvs.length ≤ sizeLine) (hd : (a == sysModules) = false) (rel : KN kvs xs) (dd : h'.DictOfH (nestedKind P w) a xs) : ObjOk P w H' h' a (dnO ⟨K, P, w⟩ a kvs) := by
  obtain ⟨o, es, ep, h1, h2, h3, h4, _, h5⟩ := dd
  refine ⟨⟨z, hd, xs, rel, o, es, ep, h1, h2, h3, h4, h5⟩, ⟨o, h1⟩, fun g1 g2 ⟨z, hd, xs, rel, o, es, ep, h1, h2⟩ k => ⟨z, hd, xs, rel, o, es, ep, k _ h1, h2⟩⟩
/-! #### reading -/
/-- what stands at a key: y the key's value -/
inductive DG (K : Fg) (H : Hp) (a : Addr) (y : V) (r : Option V) : Prop
  | k (kvs : List (Key × V)) (k : Key) (h : Rd H a (.dK kvs)) (e : y = kV k) (l : r = valV kvs k)
  | n (kvs : List (NestedKey × Addr × V)) (n : NestedKey) (b : Addr) (h : DnAt K H a kvs) (e : y = .ref b) (hb : KeyAt K H b n) (l : r = valN kvs n)
theorem DG.type {y : V} {r : Option V} (I : Inv X pins σ H s) (g : DG (kw X) H a y r) : s.TypeIs (.ref a) "dict" ∧ (a == sysModules) = false := by
  cases g with
  | k kvs k h e l => obtain ⟨_, hd, _, _, dd⟩ := dk_rd I.hok h; exact ⟨dd.typeIs, hd⟩
  | n kvs n b h e hb l => obtain ⟨_, hd, _, _, dd⟩ := dn_rd I h; exact ⟨dd.typeIs, hd⟩
theorem dg_get {y v : V} {u : Value} {Q : Value → Shared → Prop} (hu : A.units + 70 < cLine) (I : Inv X pins σ H s) (g : DG (kw X) H a y (some v)) (ry : RelV y u) (h : ∀ w' s', Inv X pins σ H s' → RelV v w' → Q w' s') : wpAny (model X.prog X.w) A (getItem (.ref a) u) Q E s := by
  cases g with
  | k kvs k hr e l => exact d_getItem (by omega) I (.inl ⟨kvs, k, hr, e, l⟩) ry h
  | n kvs n b hr e hb l =>
    subst e
    cases (show u = Value.ref b from ry)
    obtain ⟨z, hd, xs, rel, dd⟩ := dn_rd I hr
    obtain ⟨w', hw, rw'⟩ := RelO.some_of (v := v) (o := (atKey xs n).map (·.2)) (by rw [l]; exact rel.val n)
    obtain ⟨p, hp, hp2⟩ := Option.map_eq_some_iff.mp hw
    refine wpAny_getItem_heap (dn_room (X := X) hu) (hb.is I) dd hp ?_
    rw [hp2]
    exact h w' _ (I.tok _) rw'
theorem dg_in {y : V} {o : Option V} {u : Value} {Q : Value → Shared → Prop} (hu : A.units + 70 < cLine) (I : Inv X pins σ H s) (g : DG (kw X) H a y o) (ry : RelV y u) (h : ∀ s', Inv X pins σ H s' → Q (.bool o.isSome) s') : wpAny (model X.prog X.w) A (compareOp .In u (.ref a)) Q E s := by
  cases g with
  | k kvs k hr e l => exact d_in (by omega) I (.inl ⟨kvs, k, hr, e, l⟩) ry h
  | n kvs n b hr e hb l =>
    subst e
    cases (show u = Value.ref b from ry)
    obtain ⟨z, hd, xs, rel, dd⟩ := dn_rd I hr
    refine wpAny_in_heap (dn_room (X := X) hu) (hb.is I) hd dd ?_
    have q := (rel.val n).isSome_eq
    rw [Option.isSome_map] at q
    rw [← q, ← l]
    exact h _ (I.tok _)
theorem dg_notIn {y : V} {o : Option V} {u : Value} {Q : Value → Shared → Prop} (hu : A.units + 70 < cLine) (I : Inv X pins σ H s) (g : DG (kw X) H a y o) (ry : RelV y u) (h : ∀ s', Inv X pins σ H s' → Q (.bool (!o.isSome)) s') : wpAny (model X.prog X.w) A (compareOp .NotIn u (.ref a)) Q E s := by
  cases g with
  | k kvs k hr e l => exact d_notIn (by omega) I (.inl ⟨kvs, k, hr, e, l⟩) ry h
  | n kvs n b hr e hb l =>
    subst e
    cases (show u = Value.ref b from ry)
    obtain ⟨z, hd, xs, rel, dd⟩ := dn_rd I hr
    refine wpAny_notIn_heap (dn_room (X := X) hu) (hb.is I) hd dd ?_
    have q := (rel.val n).isSome_eq
    rw [Option.isSome_map] at q
    rw [← q, ← l]
    exact h _ (I.tok _)
/-! #### writing -/
inductive DPt (K : Fg) (H : Hp) (a : Addr) (y v : V) (H' : Hp) : Prop
  | k (kvs : List (Key × V)) (k : Key) (h : H a = some (.dK kvs)) (e : y = kV k) (l : kvs.length < sizeLine) (eH : H' = L2.upd H a (.dK (putK kvs k v)))
  | n (kvs : List (NestedKey × Addr × V)) (n : NestedKey) (b : Addr) (h : H a = some (dnO K a kvs)) (hl : ∃ l, RpN K H l kvs) (e : y = .ref b) (hb : KeyAt K H b n) (l : kvs.length < sizeLine) (eH : H' = L2.upd H a (dnO K a (putN kvs n b v)))
theorem dpt_set {y v : V} {u r : Value} {H' : Hp} {Q : Unit → Shared → Prop} (hu : A.units + 70 < cLine) (I : Inv X pins σ H s) (g : DPt (kw X) H a y v H') (ry : RelV y u) (rv : RelV v r) (h : ∀ s', Inv X pins σ H' s' → Q () s') : wpAny (model X.prog X.w) A (setItem (.ref a) u r) Q E s := by
  cases g with
  | k kvs k hr e l eH => exact d_setItem (by omega) I (.inl ⟨kvs, k, hr, e, l, eH⟩) ry rv h
  | n kvs n b hr hl e hb l eH =>
    subst e eH
    cases (show u = Value.ref b from ry)
    obtain ⟨z, hd, xs, rel, dd⟩ := dn_rd I ⟨.inl hr, hl⟩
    have hz : xs.length ≤ sizeLine := by rw [← Paired.length rel]; exact z
    have hl2 : (putN kvs n b v).length ≤ sizeLine := by have := putN_len kvs n b v; omega
    refine wpAny_setItem_heap (hsz := hz) (dn_room (X := X) hu) (hb.is I) dd fun h' dd' hs => h _ ?_
    have he : ∃ q, h'.get? a = some q := let ⟨q, _, _, hq, _⟩ := dd'; ⟨q, hq⟩
    exact d_write I (by rw [hr]; exact True.intro) hs he (dn_new hl2 hd (rel.put n b rv) dd')
end
/-! ### rules -/
section
variable {X : Cx}
def rDInF (K : Fg) : R2 := fun y x H Q => ∃ a o, x = .ref a ∧ DG K H a y o ∧ Q (.bl o.isSome) H
def rDNotInF (K : Fg) : R2 := fun y x H Q => ∃ a o, x = .ref a ∧ DG K H a y o ∧ Q (.bl (!o.isSome)) H
def rDGetF (K : Fg) : R2 := fun x y H Q => ∃ a v, x = .ref a ∧ DG K H a y (some v) ∧ Q v H
def rDPutF (K : Fg) : V → V → V → Hp → (Hp → Prop) → Prop := fun x y v H Q => ∃ a H', x = .ref a ∧ DPt K H a y v H' ∧ Q H'
theorem op_din (hu : X.A.units + 70 < cLine) : OpR X (compareOp .In) (rDInF (kw X)) := by
  intro pins s σ H x y v u Q I rx ry h
  obtain ⟨a, o, rfl, g, q⟩ := h
  obtain rfl : u = Value.ref a := ry
  exact dg_in hu I g rx fun s' I' => ⟨.bl o.isSome, H, I', rfl, q⟩
theorem op_dnotIn (hu : X.A.units + 70 < cLine) : OpR X (compareOp .NotIn) (rDNotInF (kw X)) := by
  intro pins s σ H x y v u Q I rx ry h
  obtain ⟨a, o, rfl, g, q⟩ := h
  obtain rfl : u = Value.ref a := ry
  exact dg_notIn hu I g rx fun s' I' => ⟨.bl (!o.isSome), H, I', rfl, q⟩
theorem ix_dict (hu : X.A.units + 70 < cLine) : IxR X (rDGetF (kw X)) := by
  intro value slice pins s σ H x y v u Q I rx ry h hs
  obtain ⟨a, z, rfl, g, q⟩ := h
  obtain rfl : v = Value.ref a := rx
  have hT := (g.type I).1
  unfold subscriptTail
  refine wpAny_bind ?_
  rw [getitemInPython_of_ne hT.not_modules]
  refine wpAny_bind (wpAny_specialOf hT PySem.F.slot_dict_getitem.lookup ?_)
  have fin : wpAny (model X.prog X.w) X.A (subscripted slice false (.ref a) u) (fun r s₃ => wpAny (model X.prog X.w) X.A (letTemporaryGo value (.ref a) r >>= fun _ => pure r) (EP X pins σ Q) X.xe s₃) X.xe s := by
    rw [hs]
    exact wpAny_operating (wpAny_mono (dg_get hu I g ry fun w' s3 I3 rw' => (⟨z, H, I3, rw', q⟩ : EP X pins σ Q w' s3)) (fun r s₃ h₃ => wpAny_bind (wpAny_letTemporaryGo (wpAny_pure h₃))) fun _ _ x => x)
  first
    | exact wpAny_pure (wpAny_bind fin)
    | exact wpAny_bind (wpAny_pure (wpAny_bind fin))
    | exact wpAny_bind fin
theorem set_dict (hu : X.A.units + 70 < cLine) : PSet X (rDPutF (kw X)) := by
  intro pins s σ H o i v ov iv u Q I ro ri rv h
  obtain ⟨a, H', rfl, g, q⟩ := h
  obtain rfl : ov = Value.ref a := ro
  exact dpt_set hu I g ri rv fun s' I' => ⟨H', I', q⟩
theorem pe_dnewN {pos : Pos} : PE X (.Dict [] [] pos) (fun _ H Q => ∀ p, H p = none → Q (.ref p) (L2.upd H p (dnO (kw X) p []))) := ⟨fun pins s σ H Q I h =>
  wpAny_Dict_empty ⟨.ref s.heap.objs.size, _, I.laid (a := s.heap.objs.size) (o := dnO (kw X) s.heap.objs.size []) (t' := s.toks) (fun _ _ q => Heap.get?_push_of_some _ q) (Nat.le_refl _)
    (dn_new (K := X.K) (P := X.prog) (w := X.w) (xs := []) (Nat.zero_le _) (beq_eq_false_iff_ne.mpr (Ne.symm (Nat.ne_of_lt I.big))) .nil ⟨_, #[], 0, Heap.get?_push_size _ rfl, ⟨rfl, rfl, rfl⟩, rfl, rfl, (fun x hx => by cases hx), List.nodup_nil⟩), rfl, h _ (I.hok.fresh (Nat.le_refl _))⟩⟩
theorem cr_lenN : CallR X (.builtin "len") (fun xs H Q => ∃ a kvs, xs = [V.ref a] ∧ DnAt (kw X) H a kvs ∧ Q (.int kvs.length) H) := by
  intro pins s σ H xs us Q I r h
  obtain ⟨p, kvs, rfl, hp, q⟩ := h
  obtain ⟨u, rfl, rx⟩ := vals1 r
  obtain rfl : u = .ref p := rx
  obtain ⟨z, hd, ys, rel, dd⟩ := dn_rd I hp
  have hl : kvs.length = ys.length := Paired.length rel
  refine call_len_dictH hd dd (by rw [← hl]; rw [sizeLine_eq] at z; omega) ?_
  rw [← hl]
  exact ⟨.int ((kvs.length : Nat) : Int), H, I.tok _, ⟨_, rfl⟩, q⟩
theorem cr_lenK : CallR X (.builtin "len") (fun xs H Q => ∃ a kvs, xs = [V.ref a] ∧ Rd H a (.dK kvs) ∧ Q (.int kvs.length) H) := by
  intro pins s σ H xs us Q I r h
  obtain ⟨p, kvs, rfl, hp, q⟩ := h
  obtain ⟨u, rfl, rx⟩ := vals1 r
  obtain rfl : u = .ref p := rx
  exact d_len I hp fun t s' I' => ⟨.int ((kvs.length : Nat) : Int), H, I', ⟨_, rfl⟩, q⟩
theorem cr_listN (hc : X.calm = true) : CallR X (.type "list") (fun xs H Q => ∃ a kvs, xs = [V.ref a] ∧ DnAt (kw X) H a kvs ∧ ∀ p, H p = none → Q (.ref p) (L2.upd H p (.lst (kvs.map fun kv => V.ref kv.2.1)))) := by
  intro pins s σ H xs us Q I r h
  obtain ⟨d, kvs, rfl, hd, q⟩ := h
  obtain ⟨u, rfl, rx⟩ := r.one
  cases rx
  obtain ⟨z, hs, ks, pr, o, es, ep, ho, hx, hdt, he, his, hn⟩ := dn_rd I hd
  have l1 : es.size = ks.length := size_of_entries he
  have l2 : kvs.length = ks.length := Paired.length pr
  refine PySem.W.kdl_call (kdl_raw hs hx hdt) (I.ok.hd hc) ho (by omega) fun h' tk acc' c' kp e it => ?_
  have ea : acc'.toList = ks.map fun x => Value.ref x.2.1 := by
    have hl : acc'.toList.length = ks.length := by rw [Array.length_toList, it.1]; exact l1
    apply List.ext_getElem?
    intro j
    rw [List.getElem?_map]
    cases hj : acc'.toList[j]? with
    | none => rw [List.getElem?_eq_none (by have := List.getElem?_eq_none_iff.mp hj; omega)]; rfl
    | some v =>
      obtain ⟨en, hen, hv⟩ := it.2 j v (by rw [← Array.getElem?_toList]; exact hj)
      have qe := entry_at he j
      rw [hen] at qe
      obtain ⟨x, hx1, hx2⟩ := Option.map_eq_some_iff.mp qe.symm
      rw [hx1, hv, ← hx2]; rfl
  have rk : ∀ {kvs : List (NestedKey × Addr × V)} {ks : List (NestedKey × Addr × Value)}, KN kvs ks → Vals (kvs.map fun kv => V.ref kv.2.1) (ks.map fun x => Value.ref x.2.1) := by
    intro kvs ks r
    induction r with
    | nil => exact .nil
    | cons h t ih => exact .cons (congrArg Value.ref h.2.1.symm) ih
  have rv : Vals (kvs.map fun kv => V.ref kv.2.1) acc'.toList := by rw [ea]; exact rk pr
  refine ⟨.ref s.heap.objs.size, _, I.laid (t' := tk) (o := .lst (kvs.map fun kv => V.ref kv.2.1)) kp (Nat.le_refl _) ?_, rfl, q _ (I.hok.fresh (Nat.le_refl _))⟩
  exact ⟨by rw [List.length_map]; exact z, acc'.toList, c', rv, by rw [Array.toArray_toList]; exact e⟩
end
end Fx
set_option Elab.async false
set_option linter.all false
set_option maxRecDepth 100000
set_option maxHeartbeats 4000000
/-! Fx: enumerate over a tuple. -/
namespace Fx
open PySem PySem.Spec PyProof.Rows L2
set_option maxHeartbeats 1000000 in
theorem meets_enum1 {v : Value} {o : Obj} {G : Heap → Prop} (B : Begins v o G) :
    Meets (Builtin.«enumerate.__new__» ⟨[.type "enumerate", v], []⟩) (fun _ R s => G s.heap ∧ R (.ok (.ret (.ref (s.heap.push o).objs.size))) { s with heap := (s.heap.push o).push { cls := .type "enumerate", data := .fields #[.none, .bool false, .ref s.heap.objs.size, rawInt 0, .none, .none] } }) :=
  .of_wp fun prog w A R s h => by
    obtain ⟨hp, g, d, tk, os⟩ := s
    obtain ⟨h1, h⟩ := h
    have hsub := sub_enumerate
    have it : ∀ {A' : Around} {E Q : Value → Shared → Prop}, Q (.ref hp.objs.size) ⟨hp.push o, g, d, tk, os⟩ → wpAny (model prog w) A' (pyIter v) Q E ⟨hp, g, d, tk, os⟩ := fun q => B.iter prog w _ _ ⟨hp, g, d, tk, os⟩ _ h1 q
    wp_walk using it
    refine wpAny_stack_any fun st => wpAny_pure ?_
    split
    · rename_i c _ _ _ _ _
      cases (c == Value.type "enumerate") <;> (wp_walk using it; exact ⟨_, rfl, h⟩)
    · wp_walk using it
      exact ⟨_, rfl, h⟩
theorem enum1 {prog : Program} {w : World} {A : Around} {E : Value → Shared → Prop} {s : Shared} {v : Value} {o : Obj} {G : Heap → Prop} {Q : Value → Shared → Prop} (B : Begins v o G) (h1 : G s.heap)
    (h : ∀ h', IsEnum h' (s.heap.objs.size + 1) s.heap.objs.size 0 .none → h'.get? s.heap.objs.size = some o → (∀ b o, s.heap.get? b = some o → h'.get? b = some o) → Q (.ref (s.heap.objs.size + 1)) { s with heap := h' }) :
    wpAny (model prog w) A (call (.type "enumerate") [v]) Q E s := by
  refine callType_new PySem.F.called_enumerate (by decide) (PySem.F.typeCall_enumerate_1 _) (PySem.F.newCall_enumerate_1 _) (fun obj => PySem.F.args_object_init_2 obj _) PySem.F.entry_enumerate_new (meets_enum1 B) ⟨h1, ?_⟩
  have hz : (s.heap.push o).objs.size = s.heap.objs.size + 1 := Heap.size_push ..
  show _ ∧ _
  rw [hz]
  have he : IsEnum ((s.heap.push o).push { cls := .type "enumerate", data := .fields #[.none, .bool false, .ref s.heap.objs.size, rawInt 0, .none, .none] }) (s.heap.objs.size + 1) s.heap.objs.size 0 .none := by
    have z := Heap.get?_push_size (s.heap.push o) (o := { cls := .type "enumerate", data := .fields #[.none, .bool false, .ref s.heap.objs.size, rawInt 0, .none, .none] }) rfl
    rwa [hz] at z
  exact ⟨⟨_, he, rfl⟩, h _ he (Heap.get?_push_of_some _ (Heap.get?_push_size _ B.free)) fun b o x => Heap.get?_push_of_some _ (Heap.get?_push_of_some _ x)⟩
/-- the pairs of place and item of the tuple at a -/
def IteT (K : PySem.W.Frag) (a : Addr) : It :=
  ⟨fun i H => ∃ (xs : List V) (x : V), SqT K H a xs ∧ xs[i]? = some x, fun i H v H' => ∃ T x, v = .ref T ∧ H T = none ∧ H' = L2.upd H T (.tup [.int (i : Nat), x]) ∧ ∀ xs, SqT K H a xs → xs[i]? = some x, fun i H => ∃ xs : List V, SqT K H a xs ∧ xs.length ≤ i⟩
theorem turn_enumT {P : Program} {w : World} {K : PySem.W.Frag} {elts : List Expr} {kk : Nat} {tpos : Pos} (a e it : Addr) (hai : a ≠ it) (hea : e ≠ a) (hne : e ≠ it) :
    Turn P w K (.Tuple elts kk tpos) (IteT K a) [e, it] e (fun i h => (∃ old, IsEnum h e it ((i : Nat) : Int) old) ∧ h.IsTupleIter it a i) where
  mem := by simp
  obj := fun i h ⟨⟨old, he⟩, o, ho, hc, hd⟩ b hb => by
    rcases (show b = e ∨ b = it by simpa using hb) with rfl | rfl
    · exact ⟨_, he, fun v q => nomatch q⟩
    · exact ⟨o, ho, fun v q => by rw [hd] at q; cases q⟩
  keep := fun i h h' ⟨⟨old, he⟩, hi⟩ k => ⟨⟨old, k e (by simp) _ he⟩, hi.at fun o q => k it (by simp) o q⟩
  item := by
    intro X hP hw hK hc i pins s σ H E I hf ⟨⟨old, he⟩, hit⟩ ⟨xs, x, hq, hx⟩
    subst hP hw hK
    obtain ⟨its, rv, p, hz⟩ := I.tuple hq
    obtain ⟨u, hu, ru⟩ := rv.get hx
    have hel : e < s.heap.objs.size := Heap.lt_size he
    have hil : it < s.heap.objs.size := by obtain ⟨_, q, _⟩ := hit; exact Heap.lt_size q
    have hlt : i < its.toArray.size := by
      have := (List.getElem?_eq_some_iff.mp hu).1
      rw [List.size_toArray]; exact this
    have D := Draws.tuple (prog := X.prog) (w := X.w) (A := X.A.in1) (I.ok.hd hc) it a hai its.toArray
    refine wpAny_pyNext_enum_itemD D he ⟨hit, p⟩ hlt hne (by simp [hne, hea]) fun y h' tk hP ho hs' hT hsz hk => ?_
    have ey : y = u := by
      have : its[i]? = some y := by simpa using hP
      rw [hu] at this; cases this; rfl
    subst ey
    refine ⟨_, rfl, wpAny_letOwnedTupleGo_enum (s := { s with heap := h', toks := tk + 1 }) ho fun h'' he' sb => ?_⟩
    have hT2 : h''.get? s.heap.objs.size = some { cls := .type "tuple", data := .seq #[.int i tk, y] } := (sb.2 _ (Nat.ne_of_gt hel)).trans hT
    have new : ObjOk X.prog X.w (L2.upd H s.heap.objs.size (.tup [.int (i : Nat), x])) h'' s.heap.objs.size (.tup [.int (i : Nat), x]) := ⟨by show 2 ≤ sizeLine; decide, [.int i tk, y], .cons ⟨_, rfl⟩ (.cons ru .nil), ⟨_, hT2, rfl, _, rfl⟩⟩
    have I1 : Inv X pins σ (L2.upd H s.heap.objs.size (.tup [.int (i : Nat), x])) { s with heap := h'', toks := tk + 1 } :=
      I.turnedNew (ch := [e, it]) (fun b ob hb q => (sb.2 b (fun z => hb (by simp [z]))).trans (hk b ob (fun z => hb (by simp [z])) (fun z => hb (by simp [z])) q)) hf (Nat.le_refl _) new
    refine ⟨.ref s.heap.objs.size, _, I1, rfl, ⟨_, x, rfl, I.hok.fresh (Nat.le_refl _), rfl, fun ys hy => by rw [I.tuple_inj hy hq]; exact hx⟩, ⟨⟨y, ?_⟩, hs'.1.at fun o q => (sb.2 it (Ne.symm hne)).trans q⟩, fun b hb => ?_⟩
    · rw [show ((i + 1 : Nat) : Int) = (i : Int) + 1 by omega]; exact he'
    · have hb' : b < s.heap.objs.size := by
        rcases (show b = e ∨ b = it by simpa using hb) with rfl | rfl
        · exact hel
        · exact hil
      rw [upd_ne (Nat.ne_of_lt hb')]
      exact (hf b hb).1
  done := by
    intro X hP hw hK hc i pins s σ H E I hf ⟨⟨old, he⟩, hit⟩ ⟨xs, hq, hx⟩
    subst hP hw hK
    obtain ⟨its, rv, p, hz⟩ := I.tuple hq
    obtain ⟨f0, f1, f2, f3, f4, f5⟩ := hf it (by simp)
    have hl := rv.length
    unfold pyNext
    have hT : s.TypeIs (.ref e) "enumerate" := ⟨_, he, rfl⟩
    refine wpAny_bind (wpAny_attempt (wpAny_callSpecial?_slot (name := Str.ofString "__next__") hT PySem.F.slot_enumerate_next (wpAny_call_entry PySem.F.slot_enumerate_next hT PySem.F.entry_enumerate_next ?_ (PySem.F.args_enumerate_next_1 _))))
    show wpAny _ _ (field (.ref e) 2 >>= _) _ _ _
    refine wpAny_bind (wpAny_field he rfl (x := .ref it) rfl ?_)
    refine wpAny_bind (wpAny_nextOf_tuple_end (I.ok.hd hc) hit p (by simp; omega) fun h' x he' hx' => ?_)
    obtain ⟨o, ho, hcl⟩ := hx'
    refine wpAny_bind (wpAny_isInstance (T := "StopIteration") (b := true) ⟨o, ho, hcl⟩ isSubtype_stop ?_)
    exact wpAny_pure ⟨rfl, I.turned (t' := s.toks) (fun b o hb q => he' b o hb q) f0 f1 f3 f4 f5⟩
  self := fun A i s Q E ⟨⟨_, he⟩, _⟩ h => wpAny_pyIter_enum he h
def iEnumF (K : PySem.W.Frag) (ta : TA) : TI := fun σ H R => ta σ H fun vs H1 => ∃ a xs, vs = [.ref a] ∧ ((SqL K H1 a xs ∧ R (Ite K a) H1) ∨ (SqT K H1 a xs ∧ R (IteT K a) H1))
theorem pi_enumF {X : Cx} {e : Expr} {ta : TA} {p pos tpos : Pos} {elts : List Expr} {kk : Nat} (hg : Gl X "enumerate") (hm : X.mg "enumerate" = none) (ha : PA X [e] ta) (hs : starEach [e] X.env = [(false, eval e X.env)] := by rfl) :
    PI X (.Tuple elts kk tpos) (.Call (.Name "enumerate" p) [e] [] pos) (iEnumF X.K ta) := by
  refine ⟨fun pins s σ H R I h => ?_⟩
  refine Call_ (ld_blt I hg hm boot_enumerate (PyProof.Rows.callWith_type1 (thn (ha.run pos pins s σ H _ I h) fun us s1 ⟨vs, H1, I1, r1, a, xs, ex, q⟩ => ?_) hs rfl))
  subst ex
  obtain ⟨u, rfl, ru⟩ := vals1 r1
  obtain rfl : u = Value.ref a := ru
  have near : ∀ b, b ∈ [s1.heap.objs.size + 1, s1.heap.objs.size] → s1.heap.objs.size ≤ b := fun b hb => by
    rcases (show b = s1.heap.objs.size + 1 ∨ b = s1.heap.objs.size by simpa using hb) with rfl | rfl
    · exact Nat.le_succ _
    · exact Nat.le_refl _
  rcases q with ⟨hq, q⟩ | ⟨hq, q⟩
  · obtain ⟨its, rv, p', hz⟩ := I1.list hq
    refine call_enumerate_list p'.isList fun h' he hit hsz hk => wpAny_pyIter_enum he ?_
    have I2 : Inv X pins σ H1 { s1 with heap := h' } := I1.kept (t' := s1.toks) hk
    exact ⟨s1.heap.objs.size + 1, [s1.heap.objs.size + 1, s1.heap.objs.size], _, _, H1, rfl, I2, turn_enum a (s1.heap.objs.size + 1) s1.heap.objs.size, ⟨⟨.none, he⟩, hit, Nat.succ_ne_self _⟩, fun b hb => I1.fpOk (near b hb) (I1.hok.fresh (near b hb)), q⟩
  · obtain ⟨its, rv, p', hz⟩ := I1.tuple hq
    have hlt : a < s1.heap.objs.size := p'.lt
    refine enum1 (begins_tuple a its.toArray) p' fun h' he hit hk => wpAny_pyIter_enum he ?_
    have I2 : Inv X pins σ H1 { s1 with heap := h' } := I1.kept (t' := s1.toks) hk
    exact ⟨s1.heap.objs.size + 1, [s1.heap.objs.size + 1, s1.heap.objs.size], _, _, H1, rfl, I2, turn_enumT a (s1.heap.objs.size + 1) s1.heap.objs.size (Nat.ne_of_lt hlt) (Nat.ne_of_gt (Nat.lt_succ_of_lt hlt)) (Nat.succ_ne_self _), ⟨⟨.none, he⟩, ⟨_, hit, rfl, rfl⟩⟩, fun b hb => I1.fpOk (near b hb) (I1.hok.fresh (near b hb)), q⟩
end Fx
set_option Elab.async false
set_option linter.all false
set_option maxRecDepth 100000
set_option maxHeartbeats 4000000
/-! Fx: statements, targets, loops, defs. -/
namespace Fx
open PySem PySem.Spec PyProof.Rows L2

theorem _root_.L2.PS.imp {X : Cx} {e : Stmt} {t t' : TS} (h : PS X e t) (f : ∀ D σ H, t' D σ H → t D σ H) : PS X e t' := ⟨fun pins s σ H D I q => h.run pins s σ H D I (f D σ H q)⟩
theorem _root_.L2.PSs.imp {X : Cx} {e : List Stmt} {t t' : TS} (h : PSs X e t) (f : ∀ D σ H, t' D σ H → t D σ H) : PSs X e t' := ⟨fun pins s σ H D I q => h.run pins s σ H D I (f D σ H q)⟩
theorem _root_.L2.PG.imp {X : Cx} {e : Expr} {t t' : TG} (h : PG X e t) (f : ∀ v σ H Q, t' v σ H Q → t v σ H Q) : PG X e t' := ⟨fun pins s σ H v u Q I r q => h.run pins s σ H v u Q I r (f v σ H Q q)⟩
theorem _root_.L2.PGs.imp {X : Cx} {e : List Expr} {t t' : TGs} (h : PGs X e t) (f : ∀ v σ H Q, t' v σ H Q → t v σ H Q) : PGs X e t' := ⟨fun pins s σ H v u Q I r q => h.run pins s σ H v u Q I r (f v σ H Q q)⟩

/-- no view is held -/
def nv (L : List Cell) : Prop := ∀ c ∈ L, ∀ d, c.2 ≠ .vw d
structure OkS (K : Fg) (B : Bs) (L : List Cell) (H : Hp) : Prop where
  ok : Ok K B L H
  nv : nv L
section
variable {K : Fg} {B : Bs} {L T A : List Cell} {H H' : Hp} {σ σ' : L2.St} {e e' : Env} {c : Cell} {x : Sl} {v : V} {d : D} {i : Nat}
theorem nv_keep {x : Sl} (h : x.keepable = true) (d : D) : x ≠ .vw d := fun e => by rw [e] at h; cases h
theorem zip_set : ∀ {σ : L2.St} {e : Env} {i : Nat} {o : Option V} {x : Sl}, (σ.set i o).zip (e.set i x) = (σ.zip e).set i (o, x)
  | [], [], _, _, _ => rfl
  | [], _ :: _, 0, _, _ => rfl
  | [], _ :: _, _ + 1, _, _ => rfl
  | _ :: _, [], 0, _, _ => rfl
  | _ :: _, [], _ + 1, _, _ => rfl
  | _ :: _, _ :: _, 0, _, _ => rfl
  | a :: σ, b :: e, i + 1, o, x => by
    show (a, b) :: (σ.set i o).zip (e.set i x) = (a, b) :: (σ.zip e).set i (o, x)
    rw [zip_set]
theorem Ok.setP : ∀ {A : List Cell} {i : Nat} {P : List Cell}, Ok K B (P ++ c :: (A ++ T)) H → Ok K B (P ++ (A.set i c ++ T)) H
  | [], i, P, h => h.sub (List.Sublist.append (List.Sublist.refl _) (.cons _ (List.Sublist.refl _)))
  | a :: A, 0, P, h => h.sub (List.Sublist.append (List.Sublist.refl _) (.cons₂ _ (.cons _ (List.Sublist.refl _))))
  | a :: A, i + 1, P, h => by
    have h2 : Ok K B ((P ++ [a]) ++ c :: (A ++ T)) H := h.perm (by
      rw [List.append_assoc]
      exact List.Perm.append_left P (List.Perm.swap a c _))
    have h3 := Ok.setP (i := i) h2
    rw [List.append_assoc] at h3
    exact h3
theorem Ok.setAt (h : Ok K B (c :: (A ++ T)) H) : Ok K B (A.set i c ++ T) H := Ok.setP (P := []) h
theorem nv_set (h : nv (A ++ T)) (hc : ∀ d, c.2 ≠ .vw d) : nv (A.set i c ++ T) := fun b hb => by
  rcases List.mem_append.mp hb with hb | hb
  · rcases List.mem_or_eq_of_mem_set hb with hb | hb
    · exact h b (List.mem_append_left _ hb)
    · rw [hb]; exact hc
  · exact h b (List.mem_append_right _ hb)
theorem setSl_eq {i : Nat} {x : Sl} {e e' : Env} (h : setSl i x e = some e') : e' = e.set i x ∧ i < e.length := by
  unfold setSl at h
  cases q : e[i]? with
  | none => rw [q] at h; cases h
  | some y =>
    rw [q] at h
    have hl : i < e.length := by
      obtain ⟨hl, _⟩ := List.getElem?_eq_some_iff.mp q
      exact hl
    cases y <;> first | (cases h; exact ⟨rfl, hl⟩) | cases h
/-- a value is put into a slot -/
theorem Ok.store (h : Ok K B ((some v, x) :: (σ.zip e ++ T)) H) (hs : setSl i x e = some e') : Ok K B ((σ.set i (some v)).zip e' ++ T) H := by
  obtain ⟨rfl, _⟩ := setSl_eq hs
  rw [zip_set]
  exact h.setAt
theorem nv_store (h : nv (σ.zip e ++ T)) (hs : setSl i x e = some e') (hx : x.keepable = true) : nv ((σ.set i (some v)).zip e' ++ T) := by
  obtain ⟨rfl, _⟩ := setSl_eq hs
  rw [zip_set]
  exact nv_set h fun d => nv_keep hx d
theorem len_store (hl : σ.length = e.length) (hs : setSl i x e = some e') : (σ.set i (some v)).length = e'.length := by
  obtain ⟨rfl, _⟩ := setSl_eq hs
  simpa using hl
/-- a cell that no one asks any more -/
theorem Ok.un {P R : List Cell} (o : Option V) (h : Ok K B (P ++ c :: R) H) : Ok K B (P ++ (o, .un) :: R) H := by
  have h1 : Ok K B (c :: (P ++ R)) H := h.perm List.perm_middle
  obtain ⟨Hs, h2⟩ := h1.tl
  exact Ok.perm ⟨Hs, h2.push (c := (o, .un)) trivial rfl⟩ List.perm_middle.symm
theorem Ok.unsetP : ∀ {σ : L2.St} {e : Env} {i : Nat} {P : List Cell}, Ok K B (P ++ (σ.zip e ++ T)) H → Ok K B (P ++ (σ.zip (e.set i .un) ++ T)) H
  | [], [], _, _, h => h
  | [], _ :: _, 0, _, h => h
  | [], _ :: _, _ + 1, _, h => h
  | _ :: _, [], 0, _, h => h
  | _ :: _, [], _ + 1, _, h => h
  | a :: σ, b :: e, 0, P, h => Ok.un (R := σ.zip e ++ T) a h
  | a :: σ, b :: e, i + 1, P, h => by
    have h2 : Ok K B ((P ++ [(a, b)]) ++ (σ.zip e ++ T)) H := by rw [List.append_assoc]; exact h
    have h3 := Ok.unsetP (i := i) h2
    rw [List.append_assoc] at h3
    exact h3
theorem Ok.unset (h : Ok K B (σ.zip e ++ T) H) : Ok K B (σ.zip (e.set i .un) ++ T) H := Ok.unsetP (P := []) h
theorem nv_unset (h : nv (σ.zip e ++ T)) : nv (σ.zip (e.set i .un) ++ T) := fun b hb => by
  rcases List.mem_append.mp hb with hb | hb
  · obtain ⟨o, x⟩ := b
    obtain ⟨j, hj, ej⟩ := List.mem_iff_getElem.mp hb
    rw [List.getElem_zip] at ej
    have hj1 : j < σ.length := by rw [List.length_zip] at hj; omega
    have hj2 : j < e.length := by rw [List.length_zip, List.length_set] at hj; omega
    have e2 : (e.set i .un)[j]'(by simpa using hj2) = x := congrArg Prod.snd ej
    rw [List.getElem_set] at e2
    by_cases hij : i = j
    · rw [if_pos hij] at e2
      intro d hd
      rw [show x = .un from e2.symm] at hd
      cases hd
    · rw [if_neg hij] at e2
      intro d hd
      refine h (σ[j], e[j]) (List.mem_append_left _ ?_) d (by rw [e2]; exact hd)
      exact List.mem_iff_getElem.mpr ⟨j, by rw [List.length_zip]; omega, List.getElem_zip⟩
  · exact h b (List.mem_append_right _ hb)
theorem OkS.wipe1 (h : OkS K B (σ.zip e ++ T) H) : OkS K B (σ.zip (Fx.wipe1 e i) ++ T) H := by
  unfold Fx.wipe1
  split
  · exact h
  · exact ⟨h.ok.unset, nv_unset h.nv⟩
theorem wipe1_len : (Fx.wipe1 e i).length = e.length := by
  unfold Fx.wipe1
  split
  · rfl
  · simp
theorem OkS.wipe : ∀ {ws : List Nat} {e : Env}, OkS K B (σ.zip e ++ T) H → OkS K B (σ.zip (wipeM ws e) ++ T) H
  | [], _, h => h
  | w :: ws, e, h => OkS.wipe (ws := ws) (e := Fx.wipe1 e w) h.wipe1
theorem wipe_len : ∀ {ws : List Nat} {e : Env}, (wipeM ws e).length = e.length
  | [], _ => rfl
  | w :: ws, e => (wipe_len (ws := ws) (e := Fx.wipe1 e w)).trans wipe1_len
theorem Ok.wipe1 (h : Ok K B (σ.zip e ++ T) H) : Ok K B (σ.zip (Fx.wipe1 e i) ++ T) H := by
  unfold Fx.wipe1
  split
  · exact h
  · exact h.unset
theorem Ok.wipe : ∀ {ws : List Nat} {e : Env}, Ok K B (σ.zip e ++ T) H → Ok K B (σ.zip (wipeM ws e) ++ T) H
  | [], _, h => h
  | w :: ws, e, h => Ok.wipe (ws := ws) (e := Fx.wipe1 e w) h.wipe1
/-- a slot that owns is made shared -/
theorem Ok.fzP : ∀ {σ : L2.St} {e : Env} {i : Nat} {P : List Cell}, Ok K B (P ++ (σ.zip e ++ T)) H → Ok K B (P ++ (σ.zip (fzM i e) ++ T)) H
  | [], [], _, _, h => h
  | [], _ :: _, _, _, h => h
  | _ :: _, [], _, _, h => h
  | a :: σ, b :: e, 0, P, h => by
    cases b with
    | own d =>
      have h1 : Ok K B ((a, .own d) :: (P ++ (σ.zip e ++ T))) H := h.perm List.perm_middle
      have h0 := h1
      obtain ⟨Hs, h2⟩ := h1
      obtain ⟨v, ev, _⟩ := h2.cells _ List.mem_cons_self
      have ev' : a = some v := ev
      subst ev'
      exact h0.freeze.perm List.perm_middle.symm
    | _ => exact h
  | a :: σ, b :: e, i + 1, P, h => by
    have h2 : Ok K B ((P ++ [(a, b)]) ++ (σ.zip e ++ T)) H := by rw [List.append_assoc]; exact h
    have h3 := Ok.fzP (i := i) h2
    rw [List.append_assoc] at h3
    have e1 : fzM (i + 1) (b :: e) = b :: fzM i e := by
      unfold fzM
      rw [List.getElem?_cons_succ]
      generalize e[i]? = z
      cases z with
      | none => rfl
      | some y => cases y <;> rfl
    rw [e1]
    exact h3
theorem fzM_len : (fzM i e).length = e.length := by
  unfold fzM
  split <;> simp
theorem fzM_nv (h : nv (σ.zip e ++ T)) : nv (σ.zip (fzM i e) ++ T) := fun b hb => by
  rcases List.mem_append.mp hb with hb | hb
  · obtain ⟨o, x⟩ := b
    obtain ⟨j, hj, ej⟩ := List.mem_iff_getElem.mp hb
    rw [List.getElem_zip] at ej
    have hj1 : j < σ.length := by rw [List.length_zip] at hj; omega
    have hj2 : j < e.length := by rw [List.length_zip, fzM_len] at hj; omega
    have e2 : (fzM i e)[j]? = some x := by
      rw [List.getElem?_eq_getElem (by rw [fzM_len]; exact hj2)]
      exact congrArg some (congrArg Prod.snd ej)
    intro d hd
    have e3 : x = e[j] ∨ ∃ d', x = .sh d' := by
      unfold fzM at e2
      split at e2
      · rw [List.getElem?_set] at e2
        split at e2
        · split at e2
          · cases e2; exact .inr ⟨_, rfl⟩
          · cases e2
        · rw [List.getElem?_eq_getElem hj2] at e2; cases e2; exact .inl rfl
      · rw [List.getElem?_eq_getElem hj2] at e2; cases e2; exact .inl rfl
    rcases e3 with e3 | ⟨d', e3⟩
    · refine h (σ[j], e[j]) (List.mem_append_left _ ?_) d (by rw [← e3]; exact hd)
      exact List.mem_iff_getElem.mpr ⟨j, by rw [List.length_zip]; omega, List.getElem_zip⟩
    · rw [show x = .sh d' from e3] at hd; cases hd
  · exact h b (List.mem_append_right _ hb)
theorem OkS.fzM (h : OkS K B (σ.zip e ++ T) H) : OkS K B (σ.zip (Fx.fzM i e) ++ T) H := ⟨Ok.fzP (P := []) h.ok, fzM_nv h.nv⟩
end

/-- a parameter that the def changes -/
def isIo : Cell → Bool := fun c => match c.2 with
  | .io _ _ => true
  | _ => false
/-- a statement by its mirror -/
def SS (K : Fg) (B : Bs) (m : MS) : TS := fun D σ H => ∃ (e : Env) (T : List Cell) (f : Fl) (e' : Env), σ.length = e.length ∧ OkS K B (σ.zip e ++ T) H ∧ m e = some (f, e') ∧
  match f with
  | .nx => ∀ σ' H', σ'.length = e'.length → OkS K B (σ'.zip e' ++ T) H' → D.nx σ' H'
  | .bk => ∀ σ' H', σ'.length = e'.length → OkS K B (σ'.zip e' ++ T) H' → D.bk σ' H'
  | .ct => ∀ σ' H', σ'.length = e'.length → OkS K B (σ'.zip e' ++ T) H' → D.ct σ' H'
  | .rt r => ∀ v (σ' : L2.St) H', σ'.length = e'.length → Ok K B ((some v, r) :: (σ'.zip e').filter isIo) H' → D.rt v H'
abbrev SimS (X : Cx) (B : Bs) (st : Stmt) (m : MS) : Prop := PS X st (SS (kw X) B m)
abbrev SimSs (X : Cx) (B : Bs) (st : List Stmt) (m : MS) : Prop := PSs X st (SS (kw X) B m)
/-- σ' is σ but for some slots -/
def But (ws : List Nat) (σ σ' : L2.St) : Prop := ∀ j, j ∉ ws → σ'[j]? = σ[j]?
/-- a target by its mirror -/
def SG (K : Fg) (B : Bs) (t : Tg) : TG := fun v σ H Q => ∃ (e : Env) (T : List Cell) (d : D) (e' : Env), σ.length = e.length ∧ Ok K B ((some v, .sh d) :: (σ.zip e ++ T)) H ∧ t.bind d e = some e' ∧
  ∀ σ', σ'.length = e'.length → But t.slots σ σ' → Ok K B (σ'.zip e' ++ T) H → Q σ' H
def SGs (K : Fg) (B : Bs) (ts : List Tg) : TGs := fun vs σ H Q => ∃ (e : Env) (T : List Cell) (ds : List D) (e' : Env), σ.length = e.length ∧ vs.length = ds.length ∧ Ok K B (cellsOf vs ds ++ (σ.zip e ++ T)) H ∧ Tg.bindL ts ds e = some e' ∧
  ∀ σ', σ'.length = e'.length → But (Tg.slotsL ts) σ σ' → Ok K B (σ'.zip e' ++ T) H → Q σ' H
abbrev SimG (X : Cx) (B : Bs) (e : Expr) (t : Tg) : Prop := PG X e (SG (kw X) B t)
abbrev SimGs (X : Cx) (B : Bs) (es : List Expr) (ts : List Tg) : Prop := PGs X es (SGs (kw X) B ts)

section
variable {X : Cx} {B : Bs} {a b c e : Expr} {ma mb mc : ME} {pos p : Pos} {st : Stmt} {rest body : List Stmt} {m u : MS}
theorem nv_push {L : List Cell} {c : Cell} (h : nv L) (hc : ∀ d, c.2 ≠ .vw d) : nv (c :: L) := fun b hb => by
  rcases List.mem_cons.mp hb with rfl | hb
  · exact hc
  · exact h b hb
theorem sg_name (i : Nat) {x : Str} (hN : X.N.Nodup) (hi : X.N[i]? = some x := by rfl) (hx : Loc X.env.scope x := by first | exact .inl rfl | exact .inr rfl)
    (hf : X.fn x = true ∨ X.env.scope.names.lookup x = some .local := by first | exact .inl rfl | exact .inr rfl) : SimG X B (.Name x pos) (.nm i) := by
  refine (pg_name hN hi hx hf).imp fun v σ H Q ⟨e, T, d, e', hl, ok, hb, q⟩ => ?_
  have hb' : setSl i (.sh d) e = some e' := by simpa only [Tg.bind] using hb
  refine q _ (len_store hl hb') (fun j hj => ?_) (ok.store hb')
  have hj' : i ≠ j := fun z => hj (by rw [z]; simp [Tg.slots])
  exact List.getElem?_set_ne hj'
theorem sgs_nil : SimGs X B [] [] := pgs_nil.imp fun vs σ H Q ⟨e, T, ds, e', hl, hlen, ok, hb, q⟩ => by
  cases ds with
  | cons d ds => simp [Tg.bindL] at hb
  | nil =>
    have hv : vs = [] := List.eq_nil_of_length_eq_zero hlen
    subst hv
    have hb' : e = e' := by simpa [Tg.bindL] using hb
    subst hb'
    exact ⟨rfl, q σ hl (fun _ _ => rfl) ok⟩
theorem sgs_cons {g : Expr} {gs : List Expr} {t : Tg} {ts : List Tg} (h1 : SimG X B g t) (h2 : SimGs X B gs ts) (hs : (assignEach (g :: gs) X.env).map (·.2) = assign g X.env :: (assignEach gs X.env).map (·.2) := by rfl) : SimGs X B (g :: gs) (t :: ts) :=
  (pgs_cons h1 h2 hs).imp fun vs σ H Q ⟨e, T, ds, e', hl, hlen, ok, hb, q⟩ => by
    cases ds with
    | nil => simp [Tg.bindL] at hb
    | cons d ds =>
      cases vs with
      | nil => cases hlen
      | cons v vs =>
        simp only [Tg.bindL] at hb
        obtain ⟨e1, hb1, hb2⟩ := Option.bind_eq_some_iff.mp hb
        have pm : (cellsOf (v :: vs) (d :: ds) ++ (σ.zip e ++ T)).Perm ((some v, .sh d) :: (σ.zip e ++ (cellsOf vs ds ++ T))) := by
          show ((some v, .sh d) :: (cellsOf vs ds ++ (σ.zip e ++ T))).Perm _
          refine List.Perm.cons _ ?_
          rw [← List.append_assoc, ← List.append_assoc]
          exact List.Perm.append_right T List.perm_append_comm
        refine ⟨v, vs, rfl, e, cellsOf vs ds ++ T, d, e1, hl, ok.perm pm, hb1, fun σ1 hl1 b1 ok2 => ?_⟩
        have pm2 : (σ1.zip e1 ++ (cellsOf vs ds ++ T)).Perm (cellsOf vs ds ++ (σ1.zip e1 ++ T)) := by
          rw [← List.append_assoc, ← List.append_assoc]
          exact List.Perm.append_right T List.perm_append_comm
        refine ⟨e1, T, ds, e', hl1, by simpa using hlen, ok2.perm pm2, hb2, fun σ2 hl2 b2 ok3 => q σ2 hl2 (fun j hj => ?_) ok3⟩
        simp only [Tg.slotsL, List.mem_append, not_or] at hj
        exact (b2 j hj.2).trans (b1 j hj.1)
theorem cells_of : ∀ {K : Fg} {B : Bs} {Hs H : Hp} {vs : List V} {ds : List D} {L : List Cell}, RpL K Hs ds vs → OkAt K B L Hs H → OkAt K B (cellsOf vs ds ++ L) Hs H
  | _, _, _, _, [], [], _, _, h => h
  | _, _, _, _, v :: vs, d :: ds, _, r, h => (cells_of r.2 h).sh r.1
  | _, _, _, _, [], _ :: _, _, r, _ => r.elim
  | _, _, _, _, _ :: _, [], _, r, _ => r.elim
theorem cells_nv : ∀ {vs : List V} {ds : List D} {L : List Cell}, nv L → nv (cellsOf vs ds ++ L)
  | [], [], _, h => h
  | [], _ :: _, _, h => h
  | _ :: _, [], _, h => h
  | v :: vs, d :: ds, _, h => nv_push (cells_nv (vs := vs) (ds := ds) h) fun _ e => by cases e
theorem sg_tup {gs : List Expr} {k : Nat} {ts : List Tg} (hc : X.calm = true) (h : SimGs X B gs ts) (n : Nat) (hn : (assignEach gs X.env).length = n := by rfl) (hst : (assignEach gs X.env).findIdx? (·.1) = none := by rfl) (hlen : ts.length = n := by rfl) :
    SimG X B (.Tuple gs k pos) (.tp ts) := (pg_tup hc h hn hst).imp fun v σ H Q ⟨e, T, d, e', hl, ok, hb, q⟩ => by
  cases d with
  | tup l =>
    have hb' : Tg.bindL ts l e = some e' := by simpa only [Tg.bind] using hb
    obtain ⟨Hs, ok1⟩ := ok
    obtain ⟨w, ew, r⟩ := ok1.cells _ List.mem_cons_self
    cases ew
    obtain ⟨p, vs, ev, t, r⟩ := (show ∃ a vs, v = .ref a ∧ SqT (kw X) Hs a vs ∧ RpL (kw X) Hs l vs from r)
    have bl : ∀ (ts : List Tg) (l : List D) (e e' : Env), Tg.bindL ts l e = some e' → ts.length = l.length := by
      intro ts
      induction ts with
      | nil =>
        intro l e e' h
        cases l with
        | nil => rfl
        | cons _ _ => simp [Tg.bindL] at h
      | cons t ts ih =>
        intro l e e' h
        cases l with
        | nil => simp [Tg.bindL] at h
        | cons d l =>
          simp only [Tg.bindL] at h
          obtain ⟨e1, _, h2⟩ := Option.bind_eq_some_iff.mp h
          exact congrArg (· + 1) (ih l e1 e' h2)
    refine ⟨p, vs, ev, SqT.mono ok1.gr.sub t, ?_, e, T, l, e', hl, r.length.symm, ⟨Hs, cells_of r (ok1.sub (.cons _ (List.Sublist.refl _)))⟩, hb', fun σ' h1 h2 h3 => q σ' h1 (by simpa only [Tg.slots] using h2) h3⟩
    rw [← r.length, ← bl ts l e e' hb', hlen]
  | _ => simp [Tg.bind] at hb
/-! no view comes in by a target -/
def nvE (e : Env) : Prop := ∀ x ∈ e, ∀ d, x ≠ .vw d
theorem nvE_of {σ : L2.St} {e : Env} {T : List Cell} (hl : σ.length = e.length) (h : nv (σ.zip e ++ T)) : nvE e := fun x hx d => by
  obtain ⟨j, hj, ej⟩ := List.mem_iff_getElem.mp hx
  refine h (σ[j]'(by omega), x) (List.mem_append_left _ ?_) d
  exact List.mem_iff_getElem.mpr ⟨j, by rw [List.length_zip]; omega, by rw [List.getElem_zip, ej]⟩
theorem nv_zip {σ : L2.St} {e : Env} {T : List Cell} (h : nvE e) (hT : nv T) : nv (σ.zip e ++ T) := fun c hc d => by
  rcases List.mem_append.mp hc with hc | hc
  · obtain ⟨o, x⟩ := c
    exact h x (List.of_mem_zip hc).2 d
  · exact hT c hc d
theorem nvE_set {i : Nat} {x : Sl} {e e' : Env} (h : nvE e) (hs : setSl i x e = some e') (hx : ∀ d, x ≠ .vw d) : nvE e' := fun y hy d => by
  obtain ⟨rfl, _⟩ := setSl_eq hs
  rcases List.mem_or_eq_of_mem_set hy with hy | hy
  · exact h y hy d
  · rw [hy]; exact hx d
mutual
theorem bind_nv : ∀ (t : Tg) (d : D) (e e' : Env), nvE e → t.bind d e = some e' → nvE e'
  | .nm i, d, e, e', h, hb => nvE_set h (by simpa only [Tg.bind] using hb) fun _ z => by cases z
  | .tp ts, d, e, e', h, hb => by
    cases d with
    | tup l => exact bindL_nv ts l e e' h (by simpa only [Tg.bind] using hb)
    | _ => simp [Tg.bind] at hb
theorem bindL_nv : ∀ (ts : List Tg) (ds : List D) (e e' : Env), nvE e → Tg.bindL ts ds e = some e' → nvE e'
  | [], [], e, e', h, hb => by
    have hb' : e = e' := by simpa [Tg.bindL] using hb
    rw [← hb']; exact h
  | t :: ts, d :: ds, e, e', h, hb => by
    simp only [Tg.bindL] at hb
    obtain ⟨e1, h1, h2⟩ := Option.bind_eq_some_iff.mp hb
    exact bindL_nv ts ds e1 e' (bind_nv t d e e1 h h1) h2
  | [], _ :: _, _, _, _, hb => by simp [Tg.bindL] at hb
  | _ :: _, [], _, _, _, hb => by simp [Tg.bindL] at hb
end
end
end Fx
set_option Elab.async false
set_option linter.all false
set_option maxRecDepth 100000
set_option maxHeartbeats 4000000
/-! Fx: statements. -/
namespace Fx
open PySem PySem.Spec PyProof.Rows L2
section
variable {K : Fg} {B : Bs} {L T A : List Cell} {Hs H H' : Hp} {σ : L2.St} {e e' : Env} {p : Addr} {d d' : D} {i : Nat}
theorem zip_split : ∀ {σ : L2.St} {e : Env} {i : Nat} {x : Sl}, σ.length = e.length → e[i]? = some x → ∃ A o C, σ.zip e = A ++ (o, x) :: C ∧ σ[i]? = some o ∧ ∀ x', σ.zip (e.set i x') = A ++ (o, x') :: C
  | [], [], _, _, _, h => by simp at h
  | o :: σ, y :: e, 0, x, _, h => by
    simp at h; subst h
    exact ⟨[], o, σ.zip e, rfl, rfl, fun _ => rfl⟩
  | o :: σ, y :: e, i + 1, x, hl, h => by
    obtain ⟨A, o', C, h1, h2, h3⟩ := zip_split (σ := σ) (e := e) (i := i) (by simpa using hl) (by simpa using h)
    refine ⟨(o, y) :: A, o', C, ?_, by simpa using h2, fun x' => ?_⟩
    · show (o, y) :: σ.zip e = _
      rw [h1] <;> rfl
    · show (o, y) :: σ.zip (e.set i x') = _
      rw [h3] <;> rfl
  | [], _ :: _, _, _, hl, _ => by simp at hl
  | _ :: _, [], _, _, hl, _ => by simp at hl
theorem Top.other {q : Addr} {o : HO} (hn : q ≠ p) : ∀ {d : D}, Top K Hs H q d → Top K Hs (L2.upd H p o) q d
  | .lst l, ⟨vs, h1, h2⟩ => ⟨vs, by rw [upd_ne hn]; exact h1, h2⟩
  | .dk l, ⟨vs, h1, h2⟩ => ⟨vs, by rw [upd_ne hn]; exact h1, h2⟩
  | .dt l, ⟨vs, h1, h2⟩ => ⟨vs, by rw [upd_ne hn]; exact h1, h2⟩
/-- no view looks at p -/
def Apart (p : Addr) (L : List Cell) : Prop := ∀ c ∈ L, ∀ d, c.2 = .vw d → c.1 = some (.ref p) → (∀ l, d ≠ .lst l) ∧ (∀ l, d ≠ .dk l) ∧ ∀ l, d ≠ .dt l
theorem nv.apart (h : nv L) : Apart p L := fun c hc d e => absurd e (h c hc d)
theorem OkAt.apart (h : OkAt K B L Hs H) (hp : H p = none) : Apart p L := fun c hc d e e2 => by
  have hk := h.cells c hc
  obtain ⟨o, x⟩ := c
  have e' : x = .vw d := e
  have e2' : o = some (.ref p) := e2
  subst e'; subst e2'
  obtain ⟨v, ev, hv⟩ := hk
  cases ev
  refine ⟨fun l z => ?_, fun l z => ?_, fun l z => ?_⟩
  · subst z
    obtain ⟨a, vs, ea, h1, _⟩ := hv
    cases ea
    rw [hp] at h1; cases h1
  · subst z
    obtain ⟨a, vs, ea, h1, _⟩ := hv
    cases ea
    exact h1.there hp
  · subst z
    obtain ⟨a, vs, ea, h1, _⟩ := hv
    cases ea
    exact h1.there hp
/-- the object of the cell ahead is changed -/
theorem OkAt.mut {x x' : Sl} {o : HO} (h : OkAt K B ((some (.ref p), x) :: L) Hs H) (n : Apart p L) (hx : (∃ d, x = .own d) ∨ ∃ n d, x = .io n d) (hx' : ∀ mk : D → Sl, (mk = .own ∨ ∃ n, mk = .io n) → (∃ d, x = mk d) → ∃ d', x' = mk d' ∧ Top K Hs (L2.upd H p o) p d') :
    OkAt K B ((some (.ref p), x') :: L) Hs (L2.upd H p o) := by
  have hc := h.cells _ List.mem_cons_self
  have sp := List.pairwise_cons.mp h.sep
  obtain ⟨hb, hs, hsolo⟩ : B.H p = none ∧ Hs p = none ∧ x.solo = true := by
    rcases hx with ⟨d, rfl⟩ | ⟨n, d, rfl⟩
    · obtain ⟨v, ev, q, eq, h1, h2, _⟩ := hc; cases ev; cases eq; exact ⟨h1, h2, rfl⟩
    · obtain ⟨v, ev, _, q, eq, h1, h2, _⟩ := hc; cases ev; cases eq; exact ⟨h1, h2, rfl⟩
  have sm : ∀ {G : Hp}, G p = none → Same G H → Same G (L2.upd H p o) := fun hg s a u e => by
    rw [upd_ne (fun z => by rw [z, hg] at e; cases e)]; exact s a u e
  have g : Grow B.Hs B.H Hs (L2.upd H p o) := ⟨sm hb h.gr.all, h.gr.sh, sm hs h.gr.sub, h.gr.out⟩
  refine ⟨g, fun c hc' => ?_, ?_⟩
  · rcases List.mem_cons.mp hc' with rfl | hm
    · rcases hx with ⟨d, rfl⟩ | ⟨n, d, rfl⟩
      · obtain ⟨d', rfl, t⟩ := hx' .own (.inl rfl) ⟨d, rfl⟩
        exact ⟨_, rfl, p, rfl, hb, hs, t⟩
      · obtain ⟨d', rfl, t⟩ := hx' (.io n) (.inr ⟨n, rfl⟩) ⟨d, rfl⟩
        obtain ⟨v, ev, ei, _⟩ := hc
        cases ev
        exact ⟨_, rfl, ei, p, rfl, hb, hs, t⟩
    · have hk := h.cells c (List.mem_cons_of_mem _ hm)
      have hsep := sp.1 c hm
      have hnv := n c hm
      obtain ⟨o', y⟩ := c
      cases y with
      | un => trivial
      | sh d' => exact hk
      | own d' =>
        obtain ⟨v, ev, q, eq, h1, h2, h3⟩ := hk
        have ev' : o' = some v := ev
        subst ev'; subst eq
        exact ⟨_, rfl, q, rfl, h1, h2, h3.other fun z => hsep hsolo rfl (by rw [z])⟩
      | io m d' =>
        obtain ⟨v, ev, ei, q, eq, h1, h2, h3⟩ := hk
        have ev' : o' = some v := ev
        subst ev'; subst eq
        exact ⟨_, rfl, ei, q, rfl, h1, h2, h3.other fun z => hsep hsolo rfl (by rw [z])⟩
      | vw d' =>
        obtain ⟨v, ev, hv⟩ := hk
        have ev' : o' = some v := ev
        subst ev'
        refine ⟨v, rfl, ?_⟩
        cases d' with
        | lst l =>
          obtain ⟨a, vs, ea, h1, h2⟩ := hv
          subst ea
          have hne : a ≠ p := fun z => (hnv _ rfl (by rw [z])).1 l rfl
          exact ⟨a, vs, rfl, by rw [upd_ne hne]; exact h1, h2⟩
        | dk l =>
          obtain ⟨a, vs, ea, h1, h2⟩ := hv
          subst ea
          have hne : a ≠ p := fun z => (hnv _ rfl (by rw [z])).2.1 l rfl
          exact ⟨a, vs, rfl, Rd.upd hne h1, h2⟩
        | dt l =>
          obtain ⟨a, vs, ea, h1, h2⟩ := hv
          subst ea
          have hne : a ≠ p := fun z => (hnv _ rfl (by rw [z])).2.2 l rfl
          exact ⟨a, vs, rfl, Rd.upd hne h1, h2⟩
        | _ => exact hv
  · refine List.Pairwise.cons (fun c hm _ hcs => sp.1 c hm hsolo hcs) sp.2
theorem owned_eq {mk : D → Sl} (h : owned e i = some (d, mk)) : e[i]? = some (mk d) ∧ (mk = .own ∨ ∃ n, mk = .io n) := by
  unfold owned at h
  split at h
  · cases h; rename_i q; exact ⟨q, .inl rfl⟩
  · cases h; rename_i q; exact ⟨q, .inr ⟨_, rfl⟩⟩
  · cases h
/-- a slot's own object is changed -/
theorem OkS.mut {mk : D → Sl} {x : V} {o : HO} {Hs : Hp} (hl : σ.length = e.length) (ow : owned e i = some (d, mk)) (n : Fx.nv (σ.zip e ++ T)) (hsl : σ[i]? = some (some (.ref p))) (h : OkAt K B (σ.zip e ++ T) Hs H) (t : Top K Hs (L2.upd H p o) p d') :
    OkS K B (σ.zip (e.set i (mk d')) ++ T) (L2.upd H p o) ∧ σ.length = (e.set i (mk d')).length := by
  obtain ⟨he, hmk⟩ := owned_eq ow
  obtain ⟨A, o', C, z1, z2, z3⟩ := zip_split hl he
  rw [hsl] at z2
  cases z2
  rw [z3 (mk d')]
  rw [z1] at h n
  have pm : ∀ y : Sl, ((A ++ (some (V.ref p), y) :: C) ++ T).Perm ((some (V.ref p), y) :: (A ++ C ++ T)) := fun y => by
    have : (A ++ (some (V.ref p), y) :: C).Perm ((some (V.ref p), y) :: (A ++ C)) := List.perm_middle
    exact this.append_right T
  have h1 := h.perm (pm (mk d))
  have n1 : Fx.nv (A ++ C ++ T) := fun c hc => n c ((pm (mk d)).mem_iff.mpr (List.mem_cons_of_mem _ hc))
  have h2 : OkAt K B ((some (.ref p), mk d') :: (A ++ C ++ T)) Hs (L2.upd H p o) := h1.mut (nv.apart n1) (by
      rcases hmk with rfl | ⟨m, rfl⟩
      · exact .inl ⟨d, rfl⟩
      · exact .inr ⟨m, d, rfl⟩) fun mk' hmk' ⟨d0, e0⟩ => by
    refine ⟨d', ?_, t⟩
    rcases hmk with rfl | ⟨m, rfl⟩
    · rcases hmk' with rfl | ⟨m', rfl⟩
      · rfl
      · cases e0
    · rcases hmk' with rfl | ⟨m', rfl⟩
      · cases e0
      · cases e0; rfl
  refine ⟨⟨⟨Hs, h2.perm (pm (mk d')).symm⟩, fun c hc => ?_⟩, by simpa using hl⟩
  rcases List.mem_cons.mp ((pm (mk d')).mem_iff.mp hc) with rfl | hc
  · intro d0 e0
    rcases hmk with rfl | ⟨m, rfl⟩ <;> cases e0
  · exact n1 c hc
end
section
variable {X : Cx} {B : Bs} {a b c e : Expr} {ma mb mc : ME} {pos p : Pos} {st : Stmt} {rest body : List Stmt} {m u : MS} {cT : Env → Option Bool}
theorem ss_set (i : Nat) {x : Str} {pos' : Pos} (ha : SimE X B a ma) (hN : X.N.Nodup) (hi : X.N[i]? = some x := by rfl) (hx : Loc X.env.scope x := by first | exact .inl rfl | exact .inr rfl)
    (hs : swapsWith a (some (.Name x pos')) pos.line X.env = pure false := by rfl) (hf : X.fn x = true ∨ X.env.scope.names.lookup x = some .local := by first | exact .inl rfl | exact .inr rfl) : SimS X B (.Assign [.Name x pos'] a pos) (sSet i ma) :=
  (ps_set hN hi hx ha hs hf).imp fun D σ H ⟨e, T, f, e', hl, ok, hm, q⟩ => by
    obtain ⟨y, hy, h2⟩ := Option.bind_eq_some_iff.mp hm
    by_cases hk : y.keepable = true
    · rw [if_pos hk] at h2
      obtain ⟨e1, h3, h4⟩ := Option.map_eq_some_iff.mp h2
      cases h4
      exact ⟨e, T, y, hl, ok.ok, hy, fun v H1 ok1 => q _ _ (len_store hl h3) ⟨ok1.store h3, nv_store ok.nv h3 hk⟩⟩
    · rw [if_neg hk] at h2; cases h2
theorem ss_unpack {t : Tg} {g : Expr} (ha : SimE X B a ma) (hg : SimG X B g t) (hs : swapsWithSole [g] a pos.line X.env = pure false := by rfl) (hw : swappedStores [g] a X.env = pure none := by rfl)
    (h1 : (assignEach [g] X.env).map (·.2) = [assign g X.env] := by rfl) : SimS X B (.Assign [g] a pos) (sUnpack t ma) :=
  (ps_asg ha hg hs hw h1).imp fun D σ H ⟨e, T, f, e', hl, ok, hm, q⟩ => by
    obtain ⟨y, hy, h2⟩ := Option.bind_eq_some_iff.mp hm
    obtain ⟨d, hd, h3⟩ := Option.bind_eq_some_iff.mp h2
    obtain ⟨e1, h4, h5⟩ := Option.map_eq_some_iff.mp h3
    cases h5
    refine ⟨e, T, y, hl, ok.ok, hy, fun v H1 ok1 => ?_⟩
    obtain ⟨v', ev, ok2⟩ := ok1.fz hd
    cases ev
    exact ⟨e, T, d, e', hl, ok2, h4, fun σ' hl' _ ok3 => q _ _ hl' ⟨ok3, nv_zip (bind_nv _ _ _ _ (nvE_of hl ok.nv) h4) fun c hc => ok.nv c (List.mem_append_right _ hc)⟩⟩
theorem ss_if {s1 s2 : List Stmt} (hc : SimT X B c cT) (h1 : SimSs X B s1 m) (h2 : SimSs X B s2 u) : SimS X B (.If c s1 s2 pos) (fun e => (cT e).bind fun k => if k = true then m e else u e) :=
  (ps_if hc h1 h2).imp fun D σ H ⟨e, T, f, e', hl, ok, hm, q⟩ => by
    obtain ⟨k, hk, h3⟩ := Option.bind_eq_some_iff.mp hm
    refine ⟨e, T, k, hl, ok.ok, hk, fun H1 ok1 => ?_⟩
    by_cases hb : k = true
    · rw [if_pos hb] at h3 ⊢
      exact ⟨e, T, f, e', hl, ⟨ok1, ok.nv⟩, h3, q⟩
    · rw [if_neg hb] at h3 ⊢
      exact ⟨e, T, f, e', hl, ⟨ok1, ok.nv⟩, h3, q⟩
theorem ss_ret (ha : SimE X B a ma) : SimS X B (.Return (some a) pos) (sRet ma) :=
  (ps_ret ha).imp fun D σ H ⟨e, T, f, e', hl, ok, hm, q⟩ => by
    obtain ⟨y, hy, h2⟩ := Option.map_eq_some_iff.mp hm
    cases h2
    exact ⟨e, T, y, hl, ok.ok, hy, fun v H1 ok1 => q v σ H1 hl (ok1.sub (.cons₂ _ (List.Sublist.trans (List.filter_sublist ..) (List.sublist_append_left _ _))))⟩
theorem ss_retN : SimS X B (.Return none pos) (sRet eNon) :=
  ps_retN.imp fun D σ H ⟨e, T, f, e', hl, ok, hm, q⟩ => by
    cases hm
    obtain ⟨Hs, ok1⟩ := ok.ok
    exact q .non σ H hl ⟨Hs, (ok1.sh (d := .non) rfl).sub (.cons₂ _ (List.Sublist.trans (List.filter_sublist ..) (List.sublist_append_left _ _)))⟩
/-- return x, x a name that owns -/
theorem ss_retV (i : Nat) {x : Str} {pos' : Pos} (hN : X.N[i]? = some x := by rfl) (hv : Vis X.env.scope x := by first | exact Or.inl rfl | exact Or.inr (Or.inl rfl) | exact Or.inr (Or.inr rfl)) (hd : (x == ("__debug__" : Str)) = false := by decide)
    (hcd : (x == ("__classdict__" : Str)) = false := by decide) : SimS X B (.Return (some (.Name x pos')) pos) (sRetV i) :=
  (ps_ret (pe_var (i := i) hN hv hd hcd)).imp fun D σ H ⟨e, T, f, e', hl, ok, hm, q⟩ => by
    unfold sRetV at hm
    cases hx : e[i]? with
    | none => rw [hx] at hm; cases hm
    | some y =>
      rw [hx] at hm
      cases y with
      | own d =>
        cases hm
        obtain ⟨A, o, C, z1, z2, z3⟩ := zip_split hl hx
        obtain ⟨Hs, ok1⟩ := ok.ok
        have hc := ok1.cells (o, .own d) (by rw [z1]; simp)
        obtain ⟨v, ev, ho⟩ := hc
        have ev' : o = some v := ev
        subst ev'
        refine ⟨v, z2, q v σ H hl ⟨Hs, ?_⟩⟩
        rw [z1] at ok1 ⊢
        have e0 : (A ++ (some v, Sl.own d) :: C).filter isIo = A.filter isIo ++ C.filter isIo := by
          rw [List.filter_append, List.filter_cons_of_neg (by simp [isIo])]
        rw [e0]
        have p1 : (A ++ (some v, Sl.own d) :: C ++ T).Perm ((some v, Sl.own d) :: (A ++ C) ++ T) := List.Perm.append_right T List.perm_middle
        refine (ok1.perm p1).sub (.cons₂ _ ?_)
        rw [← List.filter_append]
        exact List.Sublist.trans (List.filter_sublist ..) (List.sublist_append_left _ _)
      | _ => cases hm
theorem ss_drop (ha : SimE X B a ma) (hs : swapsWith a none pos.line X.env = pure false := by rfl) : SimS X B (.Expr a pos) (sDrop ma) :=
  (ps_expr ha hs).imp fun D σ H ⟨e, T, f, e', hl, ok, hm, q⟩ => by
    obtain ⟨y, hy, h2⟩ := Option.map_eq_some_iff.mp hm
    cases h2
    exact ⟨e, T, y, hl, ok.ok, hy, fun v H1 ok1 => q σ H1 hl ⟨ok1.tl, ok.nv⟩⟩
theorem ss_pass : SimS X B (.Pass pos) sPass := ps_pass.imp fun D σ H ⟨e, T, f, e', hl, ok, hm, q⟩ => by
  cases hm; exact q σ H hl ok
theorem ss_break : SimS X B (.Break pos) sBreak := ps_break.imp fun D σ H ⟨e, T, f, e', hl, ok, hm, q⟩ => by
  cases hm; exact q σ H hl ok
theorem ss_cont : SimS X B (.Continue pos) sCont := ps_continue.imp fun D σ H ⟨e, T, f, e', hl, ok, hm, q⟩ => by
  cases hm; exact q σ H hl ok
theorem ss_nil : SimSs X B [] sPass := pss_nil.imp fun D σ H ⟨e, T, f, e', hl, ok, hm, q⟩ => by
  cases hm; exact q σ H hl ok
theorem ss_one (h : SimS X B st m) : SimSs X B [st] m := pss_one h
theorem ss_cons (h : SimS X B st m) (hr : SimSs X B rest u) : SimSs X B (st :: rest) (sSeq m u) := (pss_cons h hr).imp fun D σ H ⟨e, T, f, e', hl, ok, hm, q⟩ => by
  obtain ⟨⟨f1, e1⟩, h1, h2⟩ := Option.bind_eq_some_iff.mp hm
  refine ⟨e, T, f1, e1, hl, ok, h1, ?_⟩
  cases f1 with
  | nx =>
    show ∀ σ' H', _ → _ → SS (kw X) B u D σ' H'
    exact fun σ' H' hl' ok' => ⟨e1, T, f, e', hl', ok', h2, q⟩
  | rt r => cases h2; exact q
  | bk => cases h2; exact q
  | ct => cases h2; exact q
/-- ahead of a statement a slot's object is given away -/
theorem ss_fz (i : Nat) (h : SimS X B st m) : SimS X B st (sFz i m) := h.imp fun D σ H ⟨e, T, f, e', hl, ok, hm, q⟩ => ⟨fzM i e, T, f, e', hl.trans fzM_len.symm, ok.fzM, hm, q⟩
theorem ss_wipe (ws : List Nat) (h : SimS X B st m) : SimS X B st (sWipe ws m) := h.imp fun D σ H ⟨e, T, f, e', hl, ok, hm, q⟩ => ⟨wipeM ws e, T, f, e', hl.trans wipe_len.symm, ok.wipe, hm, q⟩
theorem st_val (h : SimE X B e ma) (he : ∀ whole, isTrue e X.env whole = (do let v ← whole; standAt e.pos; holding [v] (truthy v)) := by intro _; rfl) : SimT X B e (tst ma) := (pt_val h he).imp fun σ H Q ⟨e, T, k, hl, ok, hm, q⟩ => by
  obtain ⟨x, hx, h2⟩ := Option.bind_eq_some_iff.mp hm
  obtain ⟨d, hd, h3⟩ := Option.bind_eq_some_iff.mp h2
  refine ⟨e, T, x, hl, ok, hx, fun v H1 ok1 => ?_⟩
  have ok0 := ok1
  obtain ⟨Hs, ok1⟩ := ok1
  obtain ⟨v', ev, r⟩ := (ok1.cells _ List.mem_cons_self).read ok1.gr.sub hd
  cases ev
  cases d <;> first | (cases h3; done) | skip
  cases h3
  exact ⟨_, (show v = .bl _ from r), q H1 ok0.tl⟩
end
end Fx
set_option Elab.async false
set_option linter.all false
set_option maxRecDepth 100000
set_option maxHeartbeats 4000000
/-! Fx: tests, displays, calls, methods that change a list, loops, defs. -/
namespace Fx
open PySem PySem.Spec PyProof.Rows L2
section
variable {X : Cx} {B : Bs} {a b c e : Expr} {ma mb mc : ME} {pos p : Pos} {es : List Expr} {ms : List ME} {cT cU : Env → Option Bool}
/-! ### tests -/
theorem st_and {rest : List Expr} (ha : SimT X B a cT) (hb : PW X (.BoolOp .And (b :: rest) pos) (ST (kw X) B cU)) : PW X (.BoolOp .And (a :: b :: rest) pos) (ST (kw X) B (fun e => (cT e).bind fun c => if c = true then cU e else some false)) := by
  have h := pw_and ha hb
  refine ⟨fun whole pins s σ H Q I hq => h.run whole pins s σ H Q I ?_⟩
  obtain ⟨e, T, k, hl, ok, hm, q⟩ := hq
  obtain ⟨c1, h1, h2⟩ := Option.bind_eq_some_iff.mp hm
  refine ⟨e, T, c1, hl, ok, h1, fun H1 ok1 => ?_⟩
  by_cases hc : c1 = true
  · rw [if_pos hc] at h2 ⊢
    exact ⟨e, T, k, hl, ok1, h2, q⟩
  · rw [if_neg hc] at h2 ⊢
    cases h2
    exact q H1 ok1
theorem st_or {rest : List Expr} (ha : SimT X B a cT) (hb : PW X (.BoolOp .Or (b :: rest) pos) (ST (kw X) B cU)) : PW X (.BoolOp .Or (a :: b :: rest) pos) (ST (kw X) B (fun e => (cT e).bind fun c => if c = true then some true else cU e)) := by
  have h := pw_or ha hb
  refine ⟨fun whole pins s σ H Q I hq => h.run whole pins s σ H Q I ?_⟩
  obtain ⟨e, T, k, hl, ok, hm, q⟩ := hq
  obtain ⟨c1, h1, h2⟩ := Option.bind_eq_some_iff.mp hm
  refine ⟨e, T, c1, hl, ok, h1, fun H1 ok1 => ?_⟩
  by_cases hc : c1 = true
  · rw [if_pos hc] at h2 ⊢
    cases h2
    exact q H1 ok1
  · rw [if_neg hc] at h2 ⊢
    exact ⟨e, T, k, hl, ok1, h2, q⟩
theorem st_and1 (ha : SimT X B a cT) : PW X (.BoolOp .And [a] pos) (ST (kw X) B cT) := pw_and1 ha
theorem st_or1 (ha : SimT X B a cT) : PW X (.BoolOp .Or [a] pos) (ST (kw X) B cT) := pw_or1 ha
theorem st_bool (h : PW X e (ST (kw X) B cT)) : SimT X B e cT := h.pt
theorem st_not (ha : SimT X B a cT) : SimT X B (.UnaryOp .Not a pos) (fun e => (cT e).map (!·)) := (pt_not ha).imp fun σ H Q ⟨e, T, k, hl, ok, hm, q⟩ => by
  obtain ⟨c1, h1, h2⟩ := Option.map_eq_some_iff.mp hm
  cases h2
  exact ⟨e, T, c1, hl, ok, h1, fun H1 ok1 => q H1 ok1⟩
/-- a value that is a bool -/
theorem SE.bool {K : Fg} {m : ME} {σ : L2.St} {H : Hp} {Q : VK} {e : Env} {T : List Cell} {k : Bool} (hl : σ.length = e.length) (ok : Ok K B (σ.zip e ++ T) H) (hm : tst m e = some k)
    (q : ∀ H', Ok K B (σ.zip e ++ T) H' → Q (.bl k) H') : SE K B m σ H Q := by
  obtain ⟨x, hx, h2⟩ := Option.bind_eq_some_iff.mp hm
  obtain ⟨d, hd, h3⟩ := Option.bind_eq_some_iff.mp h2
  refine ⟨e, T, x, hl, ok, hx, fun v H1 ok1 => ?_⟩
  have ok0 := ok1
  obtain ⟨Hs, ok1⟩ := ok1
  obtain ⟨v', ev, r⟩ := (ok1.cells _ List.mem_cons_self).read ok1.gr.sub hd
  cases ev
  cases d <;> first | (cases h3; done) | skip
  cases h3
  rw [show v = .bl _ from r]
  exact q H1 ok0.tl
theorem Ok.addBl {K : Fg} {L : List Cell} {H : Hp} (k : Bool) (h : Ok K B L H) : Ok K B ((some (.bl k), .sh (.bl k)) :: L) H := let ⟨Hs, h⟩ := h; ⟨Hs, h.sh rfl⟩
theorem se_and1 (ha : SimE X B a ma) : PE X (.BoolOp .And [a] pos) (SE (kw X) B ma) := pe_one ha
theorem se_or1 (ha : SimE X B a ma) : PE X (.BoolOp .Or [a] pos) (SE (kw X) B ma) := pe_one ha
theorem se_and {rest : List Expr} (ha : SimE X B a ma) (hb : SimE X B (.BoolOp .And (b :: rest) pos) mb) : SimE X B (.BoolOp .And (a :: b :: rest) pos) (eAnd ma mb) := (pe_and ha hb).imp fun σ H Q ⟨e, T, x, hl, ok, hm, q⟩ => by
  obtain ⟨c1, h1, h2⟩ := Option.bind_eq_some_iff.mp hm
  refine SE.bool hl ok h1 fun H1 ok1 => ⟨c1, rfl, ?_⟩
  by_cases hc : c1 = true
  · rw [if_pos hc] at h2 ⊢
    obtain ⟨k, h3, h4⟩ := Option.bind_eq_some_iff.mp h2
    cases h4
    exact SE.bool hl ok1 h3 fun H2 ok2 => q _ H2 (ok2.addBl k)
  · rw [if_neg hc] at h2 ⊢
    cases h2
    exact q _ H1 (ok1.addBl false)
theorem se_or {rest : List Expr} (ha : SimE X B a ma) (hb : SimE X B (.BoolOp .Or (b :: rest) pos) mb) : SimE X B (.BoolOp .Or (a :: b :: rest) pos) (eOr ma mb) := (pe_or ha hb).imp fun σ H Q ⟨e, T, x, hl, ok, hm, q⟩ => by
  obtain ⟨c1, h1, h2⟩ := Option.bind_eq_some_iff.mp hm
  refine SE.bool hl ok h1 fun H1 ok1 => ⟨c1, rfl, ?_⟩
  by_cases hc : c1 = true
  · rw [if_pos hc] at h2 ⊢
    cases h2
    exact q _ H1 (ok1.addBl true)
  · rw [if_neg hc] at h2 ⊢
    obtain ⟨k, h3, h4⟩ := Option.bind_eq_some_iff.mp h2
    cases h4
    exact SE.bool hl ok1 h3 fun H2 ok2 => q _ H2 (ok2.addBl k)
theorem se_not (ha : SimE X B a ma) : SimE X B (.UnaryOp .Not a pos) (eNot ma) := (pe_not ha).imp fun σ H Q ⟨e, T, x, hl, ok, hm, q⟩ => by
  obtain ⟨c1, h1, h2⟩ := Option.bind_eq_some_iff.mp hm
  cases h2
  exact SE.bool hl ok h1 fun H1 ok1 => ⟨c1, rfl, q _ H1 (ok1.addBl (!c1))⟩
theorem se_if (hc : SimT X B c cT) (ha : SimE X B a ma) (hb : SimE X B b mb) : SimE X B (.IfExp c a b pos) (fun e => (cT e).bind fun k => if k = true then ma e else mb e) := (pe_ifExp hc ha hb).imp fun σ H Q ⟨e, T, x, hl, ok, hm, q⟩ => by
  obtain ⟨c1, h1, h2⟩ := Option.bind_eq_some_iff.mp hm
  refine ⟨e, T, c1, hl, ok, h1, fun H1 ok1 => ?_⟩
  by_cases hc : c1 = true
  · rw [if_pos hc] at h2 ⊢
    exact ⟨e, T, x, hl, ok1, h2, q⟩
  · rw [if_neg hc] at h2 ⊢
    exact ⟨e, T, x, hl, ok1, h2, q⟩
/-- a < b < c -/
theorem SE.chain {K : Fg} {r r' : R2} {g g' : D → D → Option Sl} (hg : R2Ok K r g) (hg' : R2Ok K r' g') {σ : L2.St} {H : Hp} {Q : VK} (hq : SE K B (eChain g g' ma mb mc) σ H Q) : tChain r r' (SE K B ma) (SE K B mb) (SE K B mc) σ H Q := by
  refine SE.bind hq fun e T x z v H' hl hx hy ok q => ?_
  obtain ⟨d, hd, hy⟩ := Option.bind_eq_some_iff.mp hy
  obtain ⟨y, hmy, hy⟩ := Option.bind_eq_some_iff.mp hy
  obtain ⟨d2, hd2, hy⟩ := Option.bind_eq_some_iff.mp hy
  obtain ⟨rr, hr1, hy⟩ := Option.bind_eq_some_iff.mp hy
  obtain ⟨dr, hr2, hy⟩ := Option.bind_eq_some_iff.mp hy
  obtain ⟨k, hr3, hz⟩ := Option.bind_eq_some_iff.mp hy
  refine ⟨e, (some v, x) :: T, y, hl, ok.mid, hmy, fun w H2 ok2 => ?_⟩
  have ok3 : Ok K B (σ.zip e ++ ((some w, y) :: T)) H2 := (ok2.sub (.cons₂ _ (sub_mid _ _ _))).mid
  obtain ⟨Hs, ok2⟩ := ok2
  obtain ⟨w', ew, hw⟩ := (ok2.cells _ List.mem_cons_self).read ok2.gr.sub hd2
  cases ew
  obtain ⟨v', ev, hv⟩ := (ok2.cells _ (List.mem_cons_of_mem _ (List.mem_append_right _ List.mem_cons_self))).read ok2.gr.sub hd
  cases ev
  refine hg B ((some w, y) :: (σ.zip e ++ T)) Hs H2 d d2 v w rr _ (ok2.sub (.cons₂ _ (sub_mid _ _ _))) hv hw hr1 fun u H3 ok4 => ?_
  have ok5 : Ok K B ((some w, y) :: (σ.zip e ++ T)) H3 := ok4.tl
  obtain ⟨Hs3, ok4⟩ := ok4
  obtain ⟨u', eu, hu⟩ := (ok4.cells _ List.mem_cons_self).read ok4.gr.sub hr2
  cases eu
  cases dr <;> first | (cases hr3; done) | skip
  cases hr3
  refine ⟨k, hu, ?_⟩
  by_cases hk : k = true
  · rw [if_pos hk] at hz ⊢
    obtain ⟨zc, hc1, hz⟩ := Option.bind_eq_some_iff.mp hz
    obtain ⟨d3, hd3, hz⟩ := Option.bind_eq_some_iff.mp hz
    refine ⟨e, (some w, y) :: T, zc, hl, ok5.mid, hc1, fun t H4 ok6 => ?_⟩
    obtain ⟨Hs4, ok6⟩ := ok6
    obtain ⟨t', et, ht⟩ := (ok6.cells _ List.mem_cons_self).read ok6.gr.sub hd3
    cases et
    obtain ⟨w', ew, hw⟩ := (ok6.cells _ (List.mem_cons_of_mem _ (List.mem_append_right _ List.mem_cons_self))).read ok6.gr.sub hd2
    cases ew
    exact hg' B (σ.zip e ++ T) Hs4 H4 d2 d3 w t z Q (ok6.sub (.cons _ (sub_mid _ _ _))) hw ht hz q
  · rw [if_neg hk] at hz ⊢
    cases hz
    exact q _ H3 (ok5.tl.addBl false)
theorem se_chain {r r' : R2} {g g' : D → D → Option Sl} (hg : R2Ok (kw X) r g) (hg' : R2Ok (kw X) r' g') (ha : SimE X B a ma) (hb : SimE X B b mb) (hc : SimE X B c mc)
    (hm : ∀ ta tb tc, PE X a ta → PE X b tb → PE X c tc → PE X e (tChain r r' ta tb tc)) : SimE X B e (eChain g g' ma mb mc) := (hm _ _ _ ha hb hc).imp fun σ H Q hq => SE.chain hg hg' hq
/-- a comparison as a test -/
theorem st_test {t : TE} {m : ME} (h : PT X e (tTest t)) (f : ∀ σ H Q, SE (kw X) B m σ H Q → t σ H Q) : SimT X B e (tst m) := h.imp fun σ H Q ⟨e, T, k, hl, ok, hm, q⟩ => f σ H _ (SE.bool hl ok hm fun H' ok' => ⟨k, rfl, q H' ok'⟩)
theorem st_op2 {r : R2} {g : D → D → Option Sl} (hg : R2Ok (kw X) r g) (ha : SimE X B a ma) (hb : SimE X B b mb) (h : ∀ ta tb, PE X a ta → PE X b tb → PT X e (tTest (tOp r ta tb))) : SimT X B e (tst (eOp2 g ma mb)) := st_test (h _ _ ha hb) fun σ H Q hq => SE.op2 hg hq
theorem st_chain {r r' : R2} {g g' : D → D → Option Sl} (hg : R2Ok (kw X) r g) (hg' : R2Ok (kw X) r' g') (ha : SimE X B a ma) (hb : SimE X B b mb) (hc : SimE X B c mc)
    (hm : ∀ ta tb tc, PE X a ta → PE X b tb → PE X c tc → PT X e (tTest (tChain r r' ta tb tc))) : SimT X B e (tst (eChain g g' ma mb mc)) := st_test (hm _ _ _ ha hb hc) fun σ H Q hq => SE.chain hg hg' hq
/-! ### argument lists, displays -/
theorem sa_nil : SimA X B [] [] := pa_nil.imp fun σ H Q ⟨e, T, ds, hl, ok, hm, q⟩ => by
  cases hm
  exact q [] H rfl ok
theorem sa_cons (ha : SimE X B a ma) (hr : SimA X B es ms) (hs : starEach (a :: es) X.env = (false, eval a X.env) :: starEach es X.env := by rfl) : SimA X B (a :: es) (ma :: ms) := (pa_cons ha hr hs).imp fun σ H Q ⟨e, T, ds, hl, ok, hm, q⟩ => by
  obtain ⟨x, hx, h2⟩ := Option.bind_eq_some_iff.mp hm
  obtain ⟨d, hd, h3⟩ := Option.bind_eq_some_iff.mp h2
  obtain ⟨ds', hds, h4⟩ := Option.bind_eq_some_iff.mp h3
  cases h4
  refine ⟨e, T, x, hl, ok, hx, fun v H1 ok1 => ?_⟩
  obtain ⟨v', ev, ok2⟩ := ok1.fz hd
  cases ev
  refine ⟨e, (some v, .sh d) :: T, ds', hl, ok2.mid, hds, fun vs H2 hlen ok3 => q (v :: vs) H2 (by simpa using hlen) ?_⟩
  show Ok (kw X) B ((some v, .sh d) :: (cellsOf vs ds' ++ (σ.zip e ++ T))) H2
  refine ok3.perm ?_
  rw [← List.append_assoc, ← List.append_assoc]
  exact List.perm_middle
theorem cells_rp {K : Fg} {Hs H : Hp} : ∀ {vs : List V} {ds : List D} {L : List Cell}, vs.length = ds.length → OkAt K B (cellsOf vs ds ++ L) Hs H → RpL K Hs ds vs
  | [], [], _, _, _ => trivial
  | v :: vs, d :: ds, L, hl, h => by
    obtain ⟨v', ev, r⟩ := h.cells (some v, .sh d) (by simp [cellsOf])
    cases ev
    exact ⟨r, cells_rp (L := L) (by simpa using hl) (h.sub (.cons _ (List.Sublist.refl _)))⟩
  | [], _ :: _, _, hl, _ => by simp at hl
  | _ :: _, [], _, hl, _ => by simp at hl
theorem OkAt.uncells {K : Fg} {Hs H : Hp} {vs : List V} {ds : List D} {L : List Cell} (h : OkAt K B (cellsOf vs ds ++ L) Hs H) : OkAt K B L Hs H := h.sub (List.sublist_append_right _ _)
theorem se_tup {k : Nat} (h : SimA X B es ms) : SimE X B (.Tuple es k pos) (eTup ms) := (pe_tup h).imp fun σ H Q ⟨e, T, x, hl, ok, hm, q⟩ => by
  obtain ⟨ds, hds, h2⟩ := Option.bind_eq_some_iff.mp hm
  by_cases hz : ds.length ≤ line
  · rw [if_pos hz] at h2
    cases h2
    refine ⟨e, T, ds, hl, ok, hds, fun vs H1 hlen ⟨Hs, ok1⟩ => ⟨by rw [hlen, ← sizeLine_eq']; exact hz, fun p hp => ?_⟩⟩
    have r := cells_rp hlen ok1
    refine q _ _ (ok1.uncells.newSh hp (d := .tup ds) ⟨p, vs, rfl, .inl (.inl upd_same), ?_⟩)
    exact RpL.mono (Same.upd (ok1.gr.sub.free hp)) _ _ r
  · rw [if_neg hz] at h2; cases h2
theorem se_lst (h : SimA X B es ms) : SimE X B (.List es pos) (eLst ms) := (pe_lst h).imp fun σ H Q ⟨e, T, x, hl, ok, hm, q⟩ => by
  obtain ⟨ds, hds, h2⟩ := Option.bind_eq_some_iff.mp hm
  by_cases hz : ds.length ≤ line
  · rw [if_pos hz] at h2
    cases h2
    refine ⟨e, T, ds, hl, ok, hds, fun vs H1 hlen ⟨Hs, ok1⟩ => ⟨by rw [hlen, ← sizeLine_eq']; exact hz, fun p hp => ?_⟩⟩
    have r := cells_rp hlen ok1
    exact q _ _ ⟨Hs, ok1.uncells.new hp (d := .lst ds) ⟨vs, upd_same, r⟩⟩
  · rw [if_neg hz] at h2; cases h2
end
end Fx
set_option Elab.async false
set_option linter.all false
set_option maxRecDepth 100000
set_option maxHeartbeats 4000000
/-! Fx: what is walked, loops, comprehensions, defs and their calls. -/
namespace Fx
open PySem PySem.Spec PyProof.Rows L2
section
/-! ### iterators -/
/-- J walks l, reading through the cells Ti -/
def ItOk (K : Fg) (B : Bs) (J : It) (Ti : List Cell) (l : List D) : Prop := ∀ (L : List Cell) (H : Hp), Ok K B (Ti ++ L) H →
  (∀ i d, l[i]? = some d → J.go i H ∧ ∀ x H3, J.yld i H x H3 → Ok K B ((some x, .sh d) :: (Ti ++ L)) H3) ∧ J.stop l.length H
/-- an iterable by its mirror -/
def SI (K : Fg) (B : Bs) (it : MI) : TI := fun σ H R => ∃ (e : Env) (T : List Cell) (l : List D), σ.length = e.length ∧ Ok K B (σ.zip e ++ T) H ∧ it e = some l ∧
  ∀ J Ti H', Ok K B (Ti ++ (σ.zip e ++ T)) H' → ItOk K B J Ti l → R J H'
/-- .. by a statement: nothing is but read for a while -/
def SIz (K : Fg) (B : Bs) (it : MI) : TI := fun σ H R => ∃ (e : Env) (T : List Cell) (l : List D), σ.length = e.length ∧ Ok K B (σ.zip e ++ T) H ∧ it e = some l ∧
  ∀ J Ti H', nv Ti → Ok K B (Ti ++ (σ.zip e ++ T)) H' → ItOk K B J Ti l → R J H'
abbrev SimI (X : Cx) (B : Bs) (tg iter : Expr) (it : MI) : Prop := PI X tg iter (SI (kw X) B it)
abbrev SimIz (X : Cx) (B : Bs) (tg iter : Expr) (it : MI) : Prop := PI X tg iter (SIz (kw X) B it)
theorem _root_.L2.PI.imp {X : Cx} {tg e : Expr} {t t' : TI} (h : PI X tg e t) (f : ∀ σ H R, t' σ H R → t σ H R) : PI X tg e t' := ⟨fun pins s σ H R I q => h.run pins s σ H R I (f σ H R q)⟩
variable {X : Cx} {B : Bs} {a b c e iter tg : Expr} {ma mb mc : ME} {pos p : Pos} {es : List Expr} {ms : List ME} {cT cU : Env → Option Bool} {it : MI} {t : Tg}
theorem itok_list {K : Fg} {a : Addr} {l : List D} : ItOk K B (Itl K a) [(some (.ref a), .sh (.lst l))] l := fun L H ok => by
  have ok0 := ok
  obtain ⟨Hs, ok⟩ := ok
  obtain ⟨v, ev, r⟩ := ok.cells _ List.mem_cons_self
  obtain ⟨p, vs, e1, h1, h2⟩ := (show ∃ p vs, v = .ref p ∧ Hs p = some (.lst vs) ∧ RpL K Hs l vs from r)
  cases ev
  cases e1
  have hq : SqL K H a vs := .inl (.inl (ok.gr.sub _ _ h1))
  refine ⟨fun i d hi => ?_, vs, hq, Nat.le_of_eq h2.length.symm⟩
  obtain ⟨u, hu, ru⟩ := h2.get hi
  refine ⟨⟨vs, u, hq, hu⟩, fun x H3 hy => ?_⟩
  obtain ⟨rfl, fx⟩ := hy
  have e3 := (fx vs hq).symm.trans hu
  cases e3
  exact ⟨Hs, ok.sh ru⟩
theorem itok_listV {K : Fg} {a : Addr} {l : List D} : ItOk K B (Itl K a) [(some (.ref a), .vw (.lst l))] l := fun L H ok => by
  have ok0 := ok
  obtain ⟨Hs, ok⟩ := ok
  obtain ⟨v, ev, r⟩ := ok.cells _ List.mem_cons_self
  obtain ⟨p, vs, e1, h1, h2⟩ := (show ∃ p vs, v = .ref p ∧ H p = some (.lst vs) ∧ RpL K Hs l vs from r)
  cases ev
  cases e1
  have hq : SqL K H a vs := .inl (.inl h1)
  refine ⟨fun i d hi => ?_, vs, hq, Nat.le_of_eq h2.length.symm⟩
  obtain ⟨u, hu, ru⟩ := h2.get hi
  refine ⟨⟨vs, u, hq, hu⟩, fun x H3 hy => ?_⟩
  obtain ⟨rfl, fx⟩ := hy
  have e3 := (fx vs hq).symm.trans hu
  cases e3
  exact ⟨Hs, ok.sh ru⟩
theorem itok_tup {K : Fg} {a : Addr} {l : List D} : ItOk K B (Itt K a) [(some (.ref a), .sh (.tup l))] l := fun L H ok => by
  have ok0 := ok
  obtain ⟨Hs, ok⟩ := ok
  obtain ⟨v, ev, r⟩ := ok.cells _ List.mem_cons_self
  obtain ⟨p, vs, e1, h1, h2⟩ := (show ∃ p vs, v = .ref p ∧ SqT K Hs p vs ∧ RpL K Hs l vs from r)
  cases ev
  cases e1
  have hq : SqT K H a vs := SqT.mono ok.gr.sub h1
  refine ⟨fun i d hi => ?_, vs, hq, Nat.le_of_eq h2.length.symm⟩
  obtain ⟨u, hu, ru⟩ := h2.get hi
  refine ⟨⟨vs, u, hq, hu⟩, fun x H3 hy => ?_⟩
  obtain ⟨rfl, fx⟩ := hy
  have e3 := (fx vs hq).symm.trans hu
  cases e3
  exact ⟨Hs, ok.sh ru⟩
theorem itok_range {K : Fg} (lo hi : Int) : ItOk K B (Itr lo (hi - lo).toNat) [] (rangeD lo hi) := fun L H ok => by
  have hlen : (rangeD lo hi).length = (hi - lo).toNat := by simp [rangeD]
  refine ⟨fun i d hd => ?_, Nat.le_of_eq hlen.symm⟩
  have hi' : i < (hi - lo).toNat := by
    rw [← hlen]
    exact (List.getElem?_eq_some_iff.mp hd).1
  have hd' : d = .int (lo + (i : Int)) := by
    unfold rangeD at hd
    rw [List.getElem?_map, List.getElem?_range hi'] at hd
    exact (Option.some.inj hd).symm
  subst hd'
  refine ⟨hi', fun x H3 hy => ?_⟩
  obtain ⟨rfl, rfl⟩ := hy
  obtain ⟨Hs, ok⟩ := ok
  exact ⟨Hs, ok.sh (d := .int _) rfl⟩
/-- a list or a tuple -/
def iSeqF (K : Fg) (tl : TE) : TI := fun σ H R => tl σ H fun x H1 => ∃ a, x = .ref a ∧ (((∃ xs, SqL K H1 a xs) ∧ R (Itl K a) H1) ∨ ((∃ xs, SqT K H1 a xs) ∧ R (Itt K a) H1))
theorem pi_seqF {l : Expr} {tl : TE} (hl : PE X l tl) : PI X tg l (iSeqF (kw X) tl) := by
  refine ⟨fun pins s σ H R I h => ?_⟩
  have hL : PI X tg l (iList (kw X) tl) := pi_list hl
  refine thn (hl.run pins s σ H _ I h) fun v s1 ⟨x, H1, I1, r1, a, e1, q⟩ => ?_
  subst e1
  cases r1
  rcases q with ⟨⟨xs, hq⟩, q⟩ | ⟨⟨xs, hq⟩, q⟩
  · obtain ⟨its, rv, p, hz⟩ := I1.list hq
    refine wpAny_pyIter_list p.isList ?_
    refine ⟨s1.heap.objs.size, [s1.heap.objs.size], _, _, H1, rfl, I1.kept (t' := s1.toks) fun b o e => Heap.get?_push_of_some _ e, turn_list a _, ⟨_, Heap.get?_push_size _ rfl, rfl, rfl⟩, fun b hb => ?_, q⟩
    have eb : b = s1.heap.objs.size := by simpa using hb
    subst eb
    exact I1.fpOk (Nat.le_refl _) (I1.hok.fresh (Nat.le_refl _))
  · obtain ⟨its, rv, p, hz⟩ := I1.tuple hq
    refine wpAny_pyIter_tuple (show s1.heap.IsTuple a its.toArray from p) ?_
    refine ⟨s1.heap.objs.size, [s1.heap.objs.size], _, _, H1, rfl, I1.kept (t' := s1.toks) fun b o e => Heap.get?_push_of_some _ e, turn_tuple a _, ⟨_, Heap.get?_push_size _ rfl, rfl, rfl⟩, fun b hb => ?_, q⟩
    have eb : b = s1.heap.objs.size := by simpa using hb
    subst eb
    exact I1.fpOk (Nat.le_refl _) (I1.hok.fresh (Nat.le_refl _))
theorem si_seq (ha : SimE X B a ma) : SimI X B tg a (iSeq ma) := (pi_seqF ha).imp fun σ H R ⟨e, T, l, hl, ok, hm, q⟩ => by
  obtain ⟨x, hx, h2⟩ := Option.bind_eq_some_iff.mp hm
  obtain ⟨d, hd, h3⟩ := Option.bind_eq_some_iff.mp h2
  refine ⟨e, T, x, hl, ok, hx, fun v H1 ⟨Hs, ok1⟩ => ?_⟩
  obtain ⟨v', ev, r⟩ := (ok1.cells _ List.mem_cons_self).read ok1.gr.sub hd
  cases ev
  have ok2 := ok1.sub (.cons _ (List.Sublist.refl (σ.zip e ++ T)))
  cases d <;> first | (cases h3; done) | skip
  · cases h3
    obtain ⟨p, vs, e1, t1, r1⟩ := (show ∃ p vs, v = .ref p ∧ SqT (kw X) Hs p vs ∧ RpL (kw X) Hs l vs from r)
    subst e1
    exact ⟨p, rfl, .inr ⟨⟨vs, SqT.mono ok1.gr.sub t1⟩, q _ _ _ ⟨Hs, ok2.sh (d := .tup l) r⟩ itok_tup⟩⟩
  · cases h3
    obtain ⟨p, vs, e1, t1, r1⟩ := r
    subst e1
    exact ⟨p, rfl, .inl ⟨⟨vs, .inl (.inl t1)⟩, q _ _ _ ⟨Hs, ok2.vw (d := .lst l) ⟨p, vs, rfl, t1, r1⟩⟩ itok_listV⟩⟩
theorem nv_one {c : Cell} (h : ∀ d, c.2 ≠ .vw d) : nv [c] := fun b hb => by
  have : b = c := by simpa using hb
  rw [this]; exact h
theorem siz_seq (ha : SimE X B a ma) : SimIz X B tg a (iSeqZ ma) := (pi_seqF ha).imp fun σ H R ⟨e, T, l, hl, ok, hm, q⟩ => by
  obtain ⟨x, hx, h2⟩ := Option.bind_eq_some_iff.mp hm
  obtain ⟨d, hd, h3⟩ := Option.bind_eq_some_iff.mp h2
  refine ⟨e, T, x, hl, ok, hx, fun v H1 ok1 => ?_⟩
  obtain ⟨v', ev, ok1⟩ := ok1.fz hd
  cases ev
  have ok0 := ok1
  obtain ⟨Hs, ok1⟩ := ok1
  obtain ⟨v', ev, r⟩ := ok1.cells _ List.mem_cons_self
  cases ev
  cases d <;> first | (cases h3; done) | skip
  · cases h3
    obtain ⟨p, vs, e1, t1, r1⟩ := (show ∃ p vs, v = .ref p ∧ SqT (kw X) Hs p vs ∧ RpL (kw X) Hs l vs from r)
    subst e1
    exact ⟨p, rfl, .inr ⟨⟨vs, SqT.mono ok1.gr.sub t1⟩, q _ _ _ (nv_one fun _ z => by cases z) ok0 itok_tup⟩⟩
  · cases h3
    obtain ⟨p, vs, e1, t1, r1⟩ := (show ∃ p vs, v = .ref p ∧ Hs p = some (.lst vs) ∧ RpL (kw X) Hs l vs from r)
    subst e1
    exact ⟨p, rfl, .inl ⟨⟨vs, .inl (.inl (ok1.gr.sub _ _ t1))⟩, q _ _ _ (nv_one fun _ z => by cases z) ok0 itok_list⟩⟩
/-- arguments as ints -/
theorem siz_range1 {p1 : Pos} (hm : X.mg "range" = none) (ha : SimE X B a ma) (hg : Gl X "range" := by rfl) (hs : starEach [a] X.env = [(false, eval a X.env)] := by rfl) : SimIz X B tg (.Call (.Name "range" p1) [a] [] pos) (iRange1 ma) :=
  (pi_range1 (ta := tCons (SE (kw X) B ma) tNil) hg hm (pa_cons ha pa_nil hs) hs).imp fun σ H R ⟨e, T, l, hl, ok, hm, q⟩ => by
    obtain ⟨x, hx, h2⟩ := Option.bind_eq_some_iff.mp hm
    obtain ⟨d, hd, h3⟩ := Option.bind_eq_some_iff.mp h2
    obtain ⟨n, hn, h4⟩ := Option.bind_eq_some_iff.mp h3
    refine ⟨e, T, x, hl, ok, hx, fun v H1 ok1 => ?_⟩
    have ok0 := ok1.tl
    obtain ⟨Hs, ok1⟩ := ok1
    obtain ⟨v', ev, r⟩ := (ok1.cells _ List.mem_cons_self).read ok1.gr.sub hd
    cases ev
    cases d <;> first | (cases hn; done) | skip
    cases hn
    by_cases hz : okR n = true
    · rw [if_pos hz] at h4
      cases h4
      have hz' := of_decide_eq_true hz
      simp only [small] at hz'
      refine ⟨n, by rw [show v = .int n from r], by omega, by omega, ?_⟩
      have := itok_range (B := B) (K := (kw X)) 0 n
      rw [Int.sub_zero] at this
      exact q _ [] _ (fun c hc => by cases hc) ok0 this
    · rw [if_neg hz] at h4; cases h4
theorem siz_range2 {p1 : Pos} (hm : X.mg "range" = none) (ha : SimE X B a ma) (hb : SimE X B b mb) (hg : Gl X "range" := by rfl) (hs : starEach [a, b] X.env = [(false, eval a X.env), (false, eval b X.env)] := by rfl) (hs2 : starEach [b] X.env = [(false, eval b X.env)] := by rfl) :
    SimIz X B tg (.Call (.Name "range" p1) [a, b] [] pos) (iRange2 ma mb) :=
  (pi_range2 (ta := tCons (SE (kw X) B ma) (tCons (SE (kw X) B mb) tNil)) hg hm (pa_cons ha (pa_cons hb pa_nil hs2) (by rw [hs, hs2])) hs hs2).imp fun σ H R ⟨e, T, l, hl, ok, hm, q⟩ => by
    obtain ⟨x, hx, h2⟩ := Option.bind_eq_some_iff.mp hm
    obtain ⟨d, hd, h3⟩ := Option.bind_eq_some_iff.mp h2
    obtain ⟨n, hn, h4⟩ := Option.bind_eq_some_iff.mp h3
    obtain ⟨y, hy, h5⟩ := Option.bind_eq_some_iff.mp h4
    obtain ⟨d2, hd2, h6⟩ := Option.bind_eq_some_iff.mp h5
    obtain ⟨k, hk, h7⟩ := Option.bind_eq_some_iff.mp h6
    refine ⟨e, T, x, hl, ok, hx, fun v H1 ok1 => ?_⟩
    cases d <;> first | (cases hn; done) | skip
    cases hn
    have ev : v = .int n := by
      obtain ⟨Hs, ok2⟩ := ok1
      obtain ⟨v', ev, r⟩ := (ok2.cells _ List.mem_cons_self).read ok2.gr.sub hd
      cases ev
      exact r
    refine ⟨e, T, y, hl, ok1.tl, hy, fun w H2 ok3 => ?_⟩
    have ok0 := ok3.tl
    obtain ⟨Hs, ok3⟩ := ok3
    obtain ⟨w', ew, r⟩ := (ok3.cells _ List.mem_cons_self).read ok3.gr.sub hd2
    cases ew
    cases d2 <;> first | (cases hk; done) | skip
    cases hk
    by_cases hz : (okR n && okR k) = true
    · rw [if_pos hz] at h7
      cases h7
      obtain ⟨z1, z2⟩ := Bool.and_eq_true_iff.mp hz
      have hz1 := of_decide_eq_true z1
      have hz2 := of_decide_eq_true z2
      simp only [small] at hz1 hz2
      refine ⟨n, k, by rw [ev, show w = .int k from r], ⟨by omega, by omega, by omega, by omega⟩, ?_⟩
      exact q _ [] _ (fun c hc => by cases hc) ok0 (itok_range n k)
    · rw [if_neg hz] at h7; cases h7
/-- what a statement may walk a comprehension may walk -/
theorem si_of (h : SimIz X B tg e it) : SimI X B tg e it := h.imp fun σ H R ⟨e, T, l, hl, ok, hm, q⟩ => ⟨e, T, l, hl, ok, hm, fun J Ti H' _ => q J Ti H'⟩
/-! ### for and while -/
theorem okS_mid {K : Fg} {L T : List Cell} {c : Cell} {H : Hp} (h : OkS K B (L ++ c :: T) H) : OkS K B (c :: (L ++ T)) H := ⟨h.ok.unmid, fun b hb => h.nv b (List.perm_middle.mem_iff.mpr hb)⟩
/-- .. where no view is held -/
def SIzS (K : Fg) (B : Bs) (it : MI) : TI := fun σ H R => ∃ (e : Env) (T : List Cell) (l : List D), σ.length = e.length ∧ OkS K B (σ.zip e ++ T) H ∧ it e = some l ∧
  ∀ J Ti H', nv Ti → Ok K B (Ti ++ (σ.zip e ++ T)) H' → ItOk K B J Ti l → R J H'
theorem for_imp {K : Fg} {m : MS} {ws : List Nat} {D : Ends} {σ : L2.St} {H : Hp} (h : SS K B (sFor it t m ws) D σ H) : tFor (SIzS K B it) (SG K B t) (SS K B m) D σ H := by
  obtain ⟨e, T, f, e', hl, ok, hm, q⟩ := h
  obtain ⟨l, hl1, h2⟩ := Option.bind_eq_some_iff.mp hm
  refine ⟨e, T, l, hl, ok, hl1, fun J Ti H1 nt ok1 hit => ?_⟩
  have n1 : nv (σ.zip e ++ (Ti ++ T)) := fun c hcm => by
    rcases List.mem_append.mp hcm with h | h
    · exact ok.nv c (List.mem_append_left _ h)
    · rcases List.mem_append.mp h with h | h
      · exact nt c h
      · exact ok.nv c (List.mem_append_right _ h)
  have pm : ∀ (A : List Cell), (Ti ++ (A ++ T)).Perm (A ++ (Ti ++ T)) := fun A => by
    rw [← List.append_assoc, ← List.append_assoc]
    exact List.Perm.append_right T List.perm_append_comm
  refine ⟨fun i n σ H => ∃ e1, σ.length = e1.length ∧ OkS K B (σ.zip e1 ++ (Ti ++ T)) H ∧ i ≤ l.length ∧ n = l.length - i ∧ forGo t ws m (l.drop i) e1 = some (f, e'),
    ⟨l.length, e, hl, ⟨ok1.perm (pm _), n1⟩, Nat.zero_le _, rfl, h2⟩, ?_⟩
  rintro i n σ1 H2 ⟨e1, hl2, ok2, hi2, rfl, hm2⟩
  have hi3 := hit (σ1.zip e1 ++ T) H2 (ok2.ok.perm (pm _).symm)
  by_cases hlt : i < l.length
  · refine .inr ?_
    obtain ⟨g1, g2⟩ := hi3.1 i l[i] (List.getElem?_eq_getElem hlt)
    refine ⟨g1, ?_⟩
    rw [List.drop_eq_getElem_cons hlt] at hm2
    simp only [forGo] at hm2
    obtain ⟨e2, he2, hm3⟩ := Option.bind_eq_some_iff.mp hm2
    obtain ⟨⟨f2, e3⟩, hb2, hm4⟩ := Option.bind_eq_some_iff.mp hm3
    refine ⟨fun σ' H' => ∃ e4, σ'.length = e4.length ∧ OkS K B (σ'.zip e4 ++ (Ti ++ T)) H' ∧ forGo t ws m (l.drop (i + 1)) e4 = some (f, e'), fun σ' H' ⟨e4, h1, h2, h3⟩ => ⟨l.length - (i + 1), by omega, e4, h1, h2, hlt, rfl, h3⟩, fun x H3 hy => ?_⟩
    have ok3 := g2 x H3 hy
    refine ⟨e1, Ti ++ T, l[i], e2, hl2, ok3.perm (List.Perm.cons _ (pm _)), he2, fun σ2 hl3 _ ok5 => ?_⟩
    refine ⟨e2, Ti ++ T, f2, e3, hl3, ⟨ok5, nv_zip (bind_nv _ _ _ _ (nvE_of hl2 ok2.nv) he2) fun c hcm => ok2.nv c (List.mem_append_right _ hcm)⟩, hb2, ?_⟩
    have tq : ∀ (σ' : L2.St), (σ'.zip e' ++ T).Sublist (σ'.zip e' ++ (Ti ++ T)) := fun σ' => List.Sublist.append (List.Sublist.refl _) (List.sublist_append_right _ _)
    cases f2 with
    | nx => exact fun σ' H' h1 h2 => ⟨wipeM ws e3, h1.trans wipe_len.symm, h2.wipe, hm4⟩
    | ct => exact fun σ' H' h1 h2 => ⟨wipeM ws e3, h1.trans wipe_len.symm, h2.wipe, hm4⟩
    | bk =>
      cases hm4
      exact fun σ' H' h1 h2 => q σ' H' (h1.trans wipe_len.symm) ⟨h2.wipe.ok.sub (tq σ'), fun c hcm => h2.wipe.nv c ((tq σ').mem hcm)⟩
    | rt r =>
      cases hm4
      exact q
  · have ei : i = l.length := by omega
    subst ei
    refine .inl ⟨hi3.2, ?_⟩
    rw [List.drop_length] at hm2
    simp only [forGo] at hm2
    cases hm2
    have tq : (σ1.zip e' ++ T).Sublist (σ1.zip e' ++ (Ti ++ T)) := List.Sublist.append (List.Sublist.refl _) (List.sublist_append_right _ _)
    exact q σ1 H2 hl2 ⟨ok2.ok.sub tq, fun c hcm => ok2.nv c (tq.mem hcm)⟩
theorem ss_for {body : List Stmt} {m : MS} (ws : List Nat) (hp : PassesOwn (model X.prog X.w) X.A X.env X.xe) (hc : X.calm = true) (hi : SimIz X B tg iter it) (hg : SimG X B tg t) (hb : SimSs X B body m)
    (hs : ∀ x, foldedSetIterable iter X.env x = pure x := by intro _; rfl) : SimS X B (.For tg iter body [] pos) (sFor it t m ws) := (ps_for hp hc hi hg hb hs).imp fun D σ H h => let ⟨e, T, l, hl, ok, hm, q⟩ := for_imp h; ⟨e, T, l, hl, ok.ok, hm, q⟩
theorem ss_while {body : List Stmt} {m : MS} (fuel : Nat) (ws : List Nat) (hp : PassesOwn (model X.prog X.w) X.A X.env X.xe) (hcond : SimT X B c cT) (hb : SimSs X B body m) :
    SimS X B (.While c body [] pos) (sWhile fuel cT m ws) := (ps_while hp hcond hb).imp fun D σ H ⟨e, T, f, e', hl, ok, hm, q⟩ => by
  refine ⟨fun n σ H => ∃ e1, σ.length = e1.length ∧ OkS (kw X) B (σ.zip e1 ++ T) H ∧ whileGo cT ws m n e1 = some (f, e'), ⟨fuel, e, hl, ok, hm⟩, ?_⟩
  rintro n σ1 H2 ⟨e1, hl2, ok2, hm2⟩
  cases n with
  | zero => simp [whileGo] at hm2
  | succ n =>
    simp only [whileGo] at hm2
    obtain ⟨k, hk, hm3⟩ := Option.bind_eq_some_iff.mp hm2
    refine ⟨e1, T, k, hl2, ok2.ok, hk, fun H3 ok3 => ?_⟩
    by_cases hkt : k = true
    · rw [if_pos hkt] at hm3 ⊢
      obtain ⟨⟨f2, e3⟩, hb2, hm4⟩ := Option.bind_eq_some_iff.mp hm3
      refine ⟨fun σ' H' => ∃ e4, σ'.length = e4.length ∧ OkS (kw X) B (σ'.zip e4 ++ T) H' ∧ whileGo cT ws m n e4 = some (f, e'), fun σ' H' h => ⟨n, Nat.lt_succ_self n, h⟩, ?_⟩
      refine ⟨e1, T, f2, e3, hl2, ⟨ok3, ok2.nv⟩, hb2, ?_⟩
      cases f2 with
      | nx => exact fun σ' H' h1 h2 => ⟨wipeM ws e3, h1.trans wipe_len.symm, h2.wipe, hm4⟩
      | ct => exact fun σ' H' h1 h2 => ⟨wipeM ws e3, h1.trans wipe_len.symm, h2.wipe, hm4⟩
      | bk =>
        cases hm4
        exact fun σ' H' h1 h2 => q σ' H' (h1.trans wipe_len.symm) h2.wipe
      | rt r =>
        cases hm4
        exact q
    · rw [if_neg hkt] at hm3 ⊢
      cases hm3
      exact q σ1 H3 hl2 ⟨ok3, ok2.nv⟩
end
end Fx
set_option Elab.async false
set_option linter.all false
set_option maxRecDepth 100000
set_option maxHeartbeats 4000000
/-! Fx: comprehensions, pairs of stores, changes of a list, defs and calls. -/
namespace Fx
open PySem PySem.Spec PyProof.Rows L2
section
variable {K : Fg} {B : Bs} {T : List Cell} {H : Hp} {σ σ2 : L2.St} {e : Env}
theorem wipeC_len : ∀ {ws : List Nat} {e : Env}, (wipeC ws e).length = e.length
  | [], _ => rfl
  | w :: ws, e => by rw [wipeC, List.length_set, wipeC_len (ws := ws)]
theorem Ok.wipeC : ∀ {ws : List Nat}, Ok K B (σ.zip e ++ T) H → Ok K B ((L2.wipe σ ws).zip (Fx.wipeC ws e) ++ T) H
  | [], h => h
  | w :: ws, h => by
    show Ok K B (((L2.wipe σ ws).set w none).zip ((Fx.wipeC ws e).set w .un) ++ T) H
    rw [zip_set]
    obtain ⟨Hs, h1⟩ := Ok.wipeC (ws := ws) h
    exact Ok.setAt ⟨Hs, h1.push (c := (none, .un)) trivial rfl⟩
theorem wipe_get : ∀ {ws : List Nat} {σ : L2.St} {j : Nat}, j ∈ ws → j < σ.length → (L2.wipe σ ws)[j]? = some none
  | [], _, _, h, _ => by cases h
  | w :: ws, σ, j, h, hj => by
    show ((L2.wipe σ ws).set w none)[j]? = _
    by_cases hw : w = j
    · subst hw
      rw [List.getElem?_set_self (by rw [L2.wipe_length]; exact hj)]
    · rw [List.getElem?_set_ne hw]
      rcases List.mem_cons.mp h with e | h
      · exact absurd e.symm hw
      · exact wipe_get h hj
theorem wipe_get_ne : ∀ {ws : List Nat} {σ : L2.St} {j : Nat}, j ∉ ws → (L2.wipe σ ws)[j]? = σ[j]?
  | [], _, _, _ => rfl
  | w :: ws, σ, j, h => by
    show ((L2.wipe σ ws).set w none)[j]? = _
    simp only [List.mem_cons, not_or] at h
    rw [List.getElem?_set_ne (fun z => h.1 z.symm)]
    exact wipe_get_ne h.2
theorem wipe_but {ws : List Nat} (hl : σ2.length = σ.length) (h : ∀ j, j ∉ ws → σ2[j]? = σ[j]?) : L2.wipe σ2 ws = L2.wipe σ ws := by
  apply List.ext_getElem?
  intro j
  by_cases hj : j ∈ ws
  · by_cases hlt : j < σ.length
    · rw [wipe_get hj hlt, wipe_get hj (by rw [hl]; exact hlt)]
    · rw [List.getElem?_eq_none (by rw [L2.wipe_length, hl]; omega), List.getElem?_eq_none (by rw [L2.wipe_length]; omega)]
  · rw [wipe_get_ne hj, wipe_get_ne hj, h j hj]
theorem zip_at_split : ∀ {z : List Cell} {w : Nat}, w < z.length → ∃ A c C, z = A ++ c :: C ∧ ∀ c', z.set w c' = A ++ c' :: C
  | [], _, h => by simp at h
  | c :: z, 0, _ => ⟨[], c, z, rfl, fun _ => rfl⟩
  | c :: z, w + 1, h => by
    obtain ⟨A, d, C, h1, h2⟩ := zip_at_split (z := z) (w := w) (by simpa using h)
    refine ⟨c :: A, d, C, by rw [h1] <;> rfl, fun c' => ?_⟩
    show c :: z.set w c' = _
    rw [h2] <;> rfl
/-- what stood in the slots that a block forgets comes back behind it -/
theorem unwipe (hl : σ.length = e.length) : ∀ ws : List Nat, ∃ R : List Cell, ∀ (L : List Cell) (H : Hp), (Ok K B (σ.zip e ++ L) H → Ok K B ((L2.wipe σ ws).zip (Fx.wipeC ws e) ++ (R ++ L)) H) ∧
    (Ok K B ((L2.wipe σ ws).zip (Fx.wipeC ws e) ++ (R ++ L)) H → Ok K B (σ.zip e ++ L) H)
  | [] => ⟨[], fun L H => ⟨fun h => h, fun h => h⟩⟩
  | w :: ws => by
    obtain ⟨R, ih⟩ := unwipe hl ws
    have ez : (L2.wipe σ (w :: ws)).zip (Fx.wipeC (w :: ws) e) = ((L2.wipe σ ws).zip (Fx.wipeC ws e)).set w (none, .un) := by
      show ((L2.wipe σ ws).set w none).zip ((Fx.wipeC ws e).set w .un) = _
      rw [zip_set]
    by_cases hw : w < ((L2.wipe σ ws).zip (Fx.wipeC ws e)).length
    · obtain ⟨A, c, C, h1, h2⟩ := zip_at_split hw
      refine ⟨c :: R, fun L H => ?_⟩
      rw [ez, h2]
      have pm : ((A ++ (none, Sl.un) :: C) ++ ((c :: R) ++ L)).Perm ((none, Sl.un) :: ((A ++ c :: C) ++ (R ++ L))) := by
        have a1 : ((A ++ (none, Sl.un) :: C) ++ ((c :: R) ++ L)).Perm (((none, Sl.un) :: (A ++ C)) ++ (c :: (R ++ L))) := List.Perm.append List.perm_middle (List.Perm.refl _)
        refine a1.trans ?_
        show ((none, Sl.un) :: ((A ++ C) ++ (c :: (R ++ L)))).Perm _
        refine List.Perm.cons _ ?_
        refine List.perm_middle.trans ?_
        have a2 : (A ++ c :: C).Perm (c :: (A ++ C)) := List.perm_middle
        exact (List.Perm.append a2 (List.Perm.refl (R ++ L))).symm
      refine ⟨fun h => ?_, fun h => ?_⟩
      · have h3 := (ih L H).1 h
        rw [h1] at h3
        obtain ⟨Hs, h4⟩ := h3
        exact Ok.perm ⟨Hs, h4.push (c := (none, .un)) trivial rfl⟩ pm.symm
      · have h3 := (h.perm pm).tl
        rw [← h1] at h3
        exact (ih L H).2 h3
    · refine ⟨R, fun L H => ?_⟩
      rw [ez, List.set_eq_of_length_le (by omega)]
      exact ih L H
theorem setSl_but {i j : Nat} {x : Sl} {e e' : Env} (h : setSl i x e = some e') (hj : i ≠ j) : e'[j]? = e[j]? := by
  obtain ⟨rfl, _⟩ := setSl_eq h
  exact List.getElem?_set_ne hj
mutual
theorem bind_but : ∀ (t : Tg) (d : D) (e e' : Env), t.bind d e = some e' → e'.length = e.length ∧ ∀ j, j ∉ t.slots → e'[j]? = e[j]?
  | .nm i, d, e, e', h => by
    simp only [Tg.bind] at h
    refine ⟨?_, fun j hj => setSl_but h fun z => hj (by rw [z]; simp [Tg.slots])⟩
    obtain ⟨rfl, _⟩ := setSl_eq h
    simp
  | .tp ts, d, e, e', h => by
    cases d with
    | tup l =>
      simp only [Tg.bind] at h
      have := bindL_but ts l e e' h
      exact ⟨this.1, fun j hj => this.2 j (by simpa only [Tg.slots] using hj)⟩
    | _ => simp [Tg.bind] at h
theorem bindL_but : ∀ (ts : List Tg) (ds : List D) (e e' : Env), Tg.bindL ts ds e = some e' → e'.length = e.length ∧ ∀ j, j ∉ Tg.slotsL ts → e'[j]? = e[j]?
  | [], [], e, e', h => by
    have h' : e = e' := by simpa [Tg.bindL] using h
    rw [← h']; exact ⟨rfl, fun _ _ => rfl⟩
  | t :: ts, d :: ds, e, e', h => by
    simp only [Tg.bindL] at h
    obtain ⟨e1, h1, h2⟩ := Option.bind_eq_some_iff.mp h
    have i1 := bind_but t d e e1 h1
    have i2 := bindL_but ts ds e1 e' h2
    refine ⟨i2.1.trans i1.1, fun j hj => ?_⟩
    simp only [Tg.slotsL, List.mem_append, not_or] at hj
    exact (i2.2 j hj.2).trans (i1.2 j hj.1)
  | [], _ :: _, _, _, h => by simp [Tg.bindL] at h
  | _ :: _, [], _, _, h => by simp [Tg.bindL] at h
end
theorem wipeC_get : ∀ {ws : List Nat} {e : Env} {j : Nat}, j ∈ ws → j < e.length → (Fx.wipeC ws e)[j]? = some .un
  | [], _, _, h, _ => by cases h
  | w :: ws, e, j, h, hj => by
    show ((Fx.wipeC ws e).set w .un)[j]? = _
    by_cases hw : w = j
    · subst hw
      rw [List.getElem?_set_self (by rw [wipeC_len]; exact hj)]
    · rw [List.getElem?_set_ne hw]
      rcases List.mem_cons.mp h with e | h
      · exact absurd e.symm hw
      · exact wipeC_get h hj
theorem wipeC_get_ne : ∀ {ws : List Nat} {e : Env} {j : Nat}, j ∉ ws → (Fx.wipeC ws e)[j]? = e[j]?
  | [], _, _, _ => rfl
  | w :: ws, e, j, h => by
    show ((Fx.wipeC ws e).set w .un)[j]? = _
    simp only [List.mem_cons, not_or] at h
    rw [List.getElem?_set_ne (fun z => h.1 z.symm)]
    exact wipeC_get_ne h.2
theorem wipeC_but {ws : List Nat} {e e2 : Env} (hl : e2.length = e.length) (h : ∀ j, j ∉ ws → e2[j]? = e[j]?) : Fx.wipeC ws e2 = Fx.wipeC ws e := by
  apply List.ext_getElem?
  intro j
  by_cases hj : j ∈ ws
  · by_cases hlt : j < e.length
    · rw [wipeC_get hj hlt, wipeC_get hj (by rw [hl]; exact hlt)]
    · rw [List.getElem?_eq_none (by rw [wipeC_len, hl]; omega), List.getElem?_eq_none (by rw [wipeC_len]; omega)]
  · rw [wipeC_get_ne hj, wipeC_get_ne hj, h j hj]
end
section
variable {X : Cx} {B : Bs} {a b c e elt iter tg : Expr} {ma mb mc melt : ME} {pos p : Pos} {es ifs : List Expr} {ms : List ME} {it : MI} {t : Tg} {cC : Env → Option Bool}
/-- a clause's tests by their mirror -/
abbrev SimTs (X : Cx) (B : Bs) (ifs : List Expr) (c : Env → Option Bool) : Prop := PTs X ifs (ST (kw X) B c)
theorem sts_nil : SimTs X B [] yes := by
  refine ⟨fun pins s σ H Q I hq => (pts_nil (X := X)).run pins s σ H Q I ?_⟩
  obtain ⟨e, T, k, hl, ok, hm, q⟩ := hq
  cases hm
  exact q H ok
theorem sts_one {cC : Env → Option Bool} (h : SimT X B c cC) : SimTs X B [c] cC := pts_one h
theorem lc_imp {K : Fg} {ws : List Nat} (hsub : ∀ j ∈ t.slots, j ∈ ws) {σ : L2.St} {H : Hp} {Q : VK} (hq : SE K B (eLc it t cC melt ws) σ H Q) : tLc (SI K B it) (SG K B t) (ST K B cC) (SE K B melt) ws σ H Q := by
  obtain ⟨e, T, x, hl, ok, hm, q⟩ := hq
  obtain ⟨l, hl1, h2⟩ := Option.bind_eq_some_iff.mp hm
  obtain ⟨ds, hds, h3⟩ := Option.bind_eq_some_iff.mp h2
  obtain ⟨R, hR⟩ := unwipe (K := K) (B := B) hl ws
  by_cases hz : ds.length < line
  · rw [if_pos hz] at h3
    cases h3
    refine ⟨e, T, l, hl, ok, hl1, fun J Ti H1 ok1 hit D hD => ?_⟩
    have ok2 : Ok K B ((some (.ref D), .own (.lst [])) :: (Ti ++ (σ.zip e ++ T))) (L2.upd H1 D (.lst [])) := by
      obtain ⟨Hs, ok1⟩ := ok1
      exact ⟨Hs, ok1.new hD (d := .lst []) ⟨[], upd_same, trivial⟩⟩
    have hap : Apart D (Ti ++ (σ.zip e ++ T)) := by
      obtain ⟨Hs, ok1⟩ := ok1
      exact ok1.apart hD
    refine ⟨fun i n H => ∃ acc rest, Ok K B ((some (.ref D), .own (.lst acc)) :: (Ti ++ (σ.zip e ++ T))) H ∧ i ≤ l.length ∧ n = l.length - i ∧ lcGo t cC melt (wipeC ws e) (l.drop i) = some rest ∧ acc ++ rest = ds,
      ⟨l.length, [], ds, ok2, Nat.zero_le _, rfl, hds, rfl⟩, ?_⟩
    rintro i n H2 ⟨acc, rest, ok3, hi, rfl, hgo, hacc⟩
    have pm1 : ((some (V.ref D), Sl.own (.lst acc)) :: (Ti ++ (σ.zip e ++ T))).Perm (Ti ++ ((some (V.ref D), Sl.own (.lst acc)) :: (σ.zip e ++ T))) := List.perm_middle.symm
    have hi3 := hit ((some (V.ref D), Sl.own (.lst acc)) :: (σ.zip e ++ T)) H2 (ok3.perm pm1)
    by_cases hlt : i < l.length
    · refine .inr ?_
      obtain ⟨g1, g2⟩ := hi3.1 i l[i] (List.getElem?_eq_getElem hlt)
      refine ⟨g1, ?_⟩
      rw [List.drop_eq_getElem_cons hlt] at hgo
      simp only [lcGo] at hgo
      obtain ⟨e1, he1, hgo⟩ := Option.bind_eq_some_iff.mp hgo
      obtain ⟨k, hk, hgo⟩ := Option.bind_eq_some_iff.mp hgo
      refine ⟨fun H' => ∃ acc rest, Ok K B ((some (.ref D), .own (.lst acc)) :: (Ti ++ (σ.zip e ++ T))) H' ∧ lcGo t cC melt (wipeC ws e) (l.drop (i + 1)) = some rest ∧ acc ++ rest = ds,
        fun H' ⟨acc, rest, h1, h2, h3⟩ => ⟨l.length - (i + 1), by omega, acc, rest, h1, hlt, rfl, h2, h3⟩, fun y H3 hy => ?_⟩
      have ok4 := g2 y H3 hy
      -- the slots ahead, the rest behind: Z the item, the list so far, the iterator, what was in hand
      have toZ : ∀ (Z : List Cell) (c1 c2 : Cell), (c1 :: (Ti ++ (c2 :: (Z ++ T)))).Perm (Z ++ (c1 :: c2 :: (Ti ++ T))) := fun Z c1 c2 => by
        have a1 : (Ti ++ (c2 :: (Z ++ T))).Perm (Z ++ (c2 :: (Ti ++ T))) := by
          refine List.perm_middle.trans ?_
          refine List.Perm.trans ?_ List.perm_middle.symm
          refine List.Perm.cons _ ?_
          rw [← List.append_assoc, ← List.append_assoc]
          exact List.Perm.append_right T List.perm_append_comm
        exact (List.Perm.cons _ a1).trans List.perm_middle.symm
      have ok5 := (hR _ H3).1 (ok4.perm (toZ _ _ _))
      have ok6 : Ok K B ((some y, .sh l[i]) :: ((L2.wipe σ ws).zip (wipeC ws e) ++ (R ++ (some (V.ref D), Sl.own (.lst acc)) :: (Ti ++ T)))) H3 := by
        refine ok5.perm ?_
        refine List.Perm.trans (List.Perm.append_left _ List.perm_middle) ?_
        exact List.perm_middle
      have hlw : (L2.wipe σ ws).length = (wipeC ws e).length := by rw [L2.wipe_length, wipeC_len, hl]
      refine ⟨wipeC ws e, R ++ (some (V.ref D), Sl.own (.lst acc)) :: (Ti ++ T), l[i], e1, hlw, ok6, he1, fun σ2 hl2 bt ok7 => ?_⟩
      have hw2 : L2.wipe σ2 ws = L2.wipe σ ws := by
        have h1 : L2.wipe σ2 ws = L2.wipe (L2.wipe σ ws) ws := wipe_but (by rw [hl2, (bind_but _ _ _ _ he1).1, ← hlw]) fun j hj => bt j fun z => hj (hsub j z)
        rw [h1]
        exact wipe_but (L2.wipe_length σ ws) fun j hj => wipe_get_ne hj
      have hw3 : wipeC ws e1 = wipeC ws e := by
        have h1 : wipeC ws e1 = wipeC ws (wipeC ws e) := wipeC_but (bind_but _ _ _ _ he1).1 fun j hj => (bind_but _ _ _ _ he1).2 j fun z => hj (hsub j z)
        rw [h1]
        exact wipeC_but wipeC_len fun j hj => wipeC_get_ne hj
      refine ⟨hw2, ?_⟩
      -- behind the block the slots are as they were
      have back : ∀ {H4 : Hp}, Ok K B (σ2.zip e1 ++ (R ++ (some (V.ref D), Sl.own (.lst acc)) :: (Ti ++ T))) H4 → Ok K B ((some (V.ref D), Sl.own (.lst acc)) :: (Ti ++ (σ.zip e ++ T))) H4 := fun {H4} h => by
        have h1 := Ok.wipeC (ws := ws) h
        rw [hw2, hw3] at h1
        have h2 := (hR _ H4).2 h1
        refine h2.perm (List.perm_middle.trans (List.Perm.cons _ ?_))
        rw [← List.append_assoc, ← List.append_assoc]
        exact List.Perm.append_right T List.perm_append_comm
      refine ⟨e1, R ++ (some (V.ref D), Sl.own (.lst acc)) :: (Ti ++ T), k, hl2, ok7, hk, fun H4 ok8 => ?_⟩
      by_cases hkt : k = true
      · rw [if_pos hkt] at hgo ⊢
        obtain ⟨y1, hy1, hgo⟩ := Option.bind_eq_some_iff.mp hgo
        obtain ⟨d, hd, hgo⟩ := Option.bind_eq_some_iff.mp hgo
        obtain ⟨rs, hrs, hgo⟩ := Option.bind_eq_some_iff.mp hgo
        cases hgo
        refine ⟨e1, R ++ (some (V.ref D), Sl.own (.lst acc)) :: (Ti ++ T), y1, hl2, ok8, hy1, fun v H5 ok9 => ?_⟩
        obtain ⟨v', ev, ok10⟩ := ok9.fz hd
        cases ev
        -- the element is put to the list
        have ok11 : Ok K B ((some v, .sh d) :: (some (V.ref D), Sl.own (.lst acc)) :: (Ti ++ (σ.zip e ++ T))) H5 := by
          have h1 : Ok K B (σ2.zip e1 ++ ((some v, .sh d) :: (R ++ (some (V.ref D), Sl.own (.lst acc)) :: (Ti ++ T)))) H5 := ok10.mid
          have h2 := Ok.wipeC (ws := ws) h1
          rw [hw2, hw3] at h2
          have h3 := (hR ((some v, .sh d) :: ((some (V.ref D), Sl.own (.lst acc)) :: (Ti ++ T))) H5).2 (h2.perm (List.Perm.append_left _ List.perm_middle.symm))
          refine h3.perm (List.perm_middle.trans (List.Perm.cons _ (List.perm_middle.trans (List.Perm.cons _ ?_))))
          rw [← List.append_assoc, ← List.append_assoc]
          exact List.Perm.append_right T List.perm_append_comm
        have ok12 : Ok K B ((some (V.ref D), Sl.own (.lst acc)) :: (some v, .sh d) :: (Ti ++ (σ.zip e ++ T))) H5 := ok11.perm (List.Perm.swap _ _ _)
        have ok13 := ok12
        obtain ⟨Hs, ok12⟩ := ok12
        obtain ⟨w, ew, pD, epD, hb1, hb2, vs, hv1, hv2⟩ := ok12.cells _ List.mem_cons_self
        cases ew
        cases epD
        obtain ⟨w2, ew2, rv⟩ := ok12.cells (some v, .sh d) (List.mem_cons_of_mem _ List.mem_cons_self)
        cases ew2
        refine ⟨vs, hv1, ?_, acc ++ [d], rs, ?_, hrs, by rw [List.append_assoc]; exact hacc⟩
        · have h1 : acc.length + (d :: rs).length = ds.length := by rw [← hacc, List.length_append]
          rw [← hv2.length, ← sizeLine_eq']
          simp only [List.length_cons] at h1
          omega
        · have top : Top K Hs (L2.upd H5 D (.lst (vs ++ [v]))) D (.lst (acc ++ [d])) := ⟨vs ++ [v], upd_same, hv2.snoc rv⟩
          have m := ok12.mut (x' := .own (.lst (acc ++ [d]))) (o := .lst (vs ++ [v])) (fun c hc d' e1 e2 => by
            rcases List.mem_cons.mp hc with rfl | hc
            · cases e1
            · exact hap c hc d' e1 e2) (.inl ⟨_, rfl⟩) fun mk hmk ⟨d0, e0⟩ => by
              rcases hmk with rfl | ⟨n0, rfl⟩
              · exact ⟨_, rfl, top⟩
              · cases e0
          exact Ok.drop1 ⟨Hs, m⟩
      · rw [if_neg hkt] at hgo ⊢
        exact ⟨acc, rest, back ok8, hgo, hacc⟩
    · have ei : i = l.length := by omega
      subst ei
      refine .inl ⟨hi3.2, ?_⟩
      rw [List.drop_length] at hgo
      simp only [lcGo] at hgo
      cases hgo
      rw [List.append_nil] at hacc
      subst hacc
      exact q _ H2 (ok3.sub (.cons₂ _ (List.sublist_append_right _ _)))
  · rw [if_neg hz] at h3; cases h3
end
end Fx
set_option Elab.async false
set_option linter.all false
set_option maxRecDepth 100000
set_option maxHeartbeats 4000000
/-! Fx: dicts that are walked. -/
namespace Fx
open PySem PySem.Spec PyProof.Rows L2
section
variable {X : Cx} {pins : List (Addr × Obj)} {σ : L2.St} {H : Hp} {s : Shared} {d : Addr} {o : Obj}
theorem frzN {K : Fg} {kvs : List (NestedKey × Addr × V)} (I : Inv X pins σ H s) (h : H d = some (.frz o (dnO K d kvs))) :
    (d == sysModules) = false ∧ s.heap.get? d = some o ∧ o.ExactDict ∧ ∃ (es : Array DictEntry) (ep : Nat), o.data = .dict es ep ∧ es.size = kvs.length ∧ ∀ (i : Nat) (q : NestedKey × Addr × V), kvs[i]? = some q → ∃ en : DictEntry, es[i]? = some en ∧ en.key = .ref q.2.1 := by
  obtain ⟨hd, ⟨z, hs, xs, pr, o', es, ep, ho, hx, hdt, he, _⟩, _, _⟩ := I.hok d _ h
  rw [hd] at ho
  cases ho
  refine ⟨hs, hd, hx, es, ep, hdt, ?_, fun i q e => ?_⟩
  · have l1 : es.size = xs.length := size_of_entries he
    have l2 : kvs.length = xs.length := Paired.length pr
    omega
  · obtain ⟨b, hb, e1, e2, _⟩ := paired_get pr e
    have q' := entry_at he i
    rw [hb] at q'
    exact ⟨_, q', by rw [e2]; rfl⟩
end
/-- the keys of a locked dict -/
def Itkn (K : Fg) (d : Addr) (o : Obj) : It :=
  ⟨fun i H => ∃ kvs, H d = some (.frz o (dnO K d kvs)) ∧ i < kvs.length, fun i H x H' => H' = H ∧ ∀ kvs q, H d = some (.frz o (dnO K d kvs)) → kvs[i]? = some q → x = .ref q.2.1, fun i H => ∃ kvs, H d = some (.frz o (dnO K d kvs)) ∧ kvs.length ≤ i⟩
theorem turn_keysN {P : Program} {w : World} {K : PySem.W.Frag} {K2 : Fg} {tg : Expr} {d : Addr} {o : Obj} {es : Array DictEntry} {ep : Nat} (it : Addr) (hod : o.data = .dict es ep) : Turn P w K tg (Itkn K2 d o) [it] it (fun i h => h.IsKeyIter it d i es.size ep) where
  mem := by simp
  obj := fun i h ⟨oi, e, c, dd⟩ b hb => by
    obtain rfl : b = it := by simpa using hb
    exact ⟨oi, e, fun v z => by rw [dd] at z; cases z⟩
  keep := fun i h h' st k => st.at fun oi e => k it (by simp) oi e
  item := by
    intro X hP hw hK hc i pins s σ H E I hf st ⟨kvs, hd, hi⟩
    subst hP hw hK
    obtain ⟨f0, f1, f2, f3, f4, f5⟩ := hf it (by simp)
    obtain ⟨hs, hgd, hx, es', ep', hdt, hsz, ent⟩ := frzN I hd
    obtain ⟨rfl, rfl⟩ := dict_ep hod hdt
    obtain ⟨q, hkv⟩ : ∃ p, kvs[i]? = some p := ⟨kvs[i], List.getElem?_eq_getElem hi⟩
    obtain ⟨en, hen, hkey⟩ := ent i q hkv
    refine next_key_item st hgd hdt rfl hen fun h' st' sb => ?_
    have I1 : Inv X pins σ H { s with heap := h' } := I.turned (t' := s.toks) (fun b ob hb e => (sb.2 b hb).trans e) f0 f1 f3 f4 f5
    obtain ⟨oi, e, c, dd⟩ := id st'
    refine ⟨en.key, rfl, go_of (s := { s with heap := h' }) e c dd (by decide) ⟨.ref q.2.1, H, I1, hkey, ⟨rfl, fun kvs2 q2 hd2 hk2 => ?_⟩, st', fun b hb => (hf b hb).1⟩⟩
    obtain ⟨_, _, _, es2, ep2, hdt2, _, ent2⟩ := frzN I hd2
    obtain ⟨rfl, rfl⟩ := dict_ep hdt hdt2
    obtain ⟨en2, hen2, hkey2⟩ := ent2 i q2 hk2
    rw [hen] at hen2; cases hen2
    rw [hkey] at hkey2
    injection hkey2 with z
    rw [z]
  done := by
    intro X hP hw hK hc i pins s σ H E I hf st ⟨kvs, hd, hi⟩
    subst hP hw hK
    obtain ⟨f0, f1, f2, f3, f4, f5⟩ := hf it (by simp)
    obtain ⟨hs, hgd, hx, es', ep', hdt, hsz, ent⟩ := frzN I hd
    obtain ⟨rfl, rfl⟩ := dict_ep hod hdt
    exact next_key_end (I.ok.hd hc) st hgd hdt rfl (by rw [hsz]; exact hi) fun h' eb => ⟨rfl, I.turned (t' := s.toks) (fun b ob hb e => eb b ob hb e) f0 f1 f3 f4 f5⟩
  self := fun A i s Q E st h => by
    refine wpAny_pyIter_slot st.typeIs PySem.F.slot_dict_keyiterator_iter (wpAny_call_entry PySem.F.slot_dict_keyiterator_iter st.typeIs PySem.F.entry_dict_keyiterator_iter ?_ (PySem.F.args_dict_keyiterator_iter_1 _))
    show wpAny _ _ (ret (.ref it)) _ _ s
    exact wpAny_pure ⟨_, rfl, "dict_keyiterator", _, st.typeIs, PySem.F.slot_dict_keyiterator_next.lookup, h⟩
def iKeysF (K : Fg) (td : TE) : TI := fun σ H R => td σ H fun x H1 => ∃ d o, x = .ref d ∧ ((∃ kvs, H1 d = some (.frz o (.dK kvs)) ∧ R (Itk d o kvs) H1) ∨ ∃ kvs, H1 d = some (.frz o (dnO K d kvs)) ∧ R (Itkn K d o) H1)
theorem pi_keysF {X : Cx} {tg e : Expr} {td : TE} {K : Fg} (he : PE X e td) : PI X tg e (iKeysF K td) := by
  refine ⟨fun pins s σ H R I h => ?_⟩
  refine thn (he.run pins s σ H _ I h) fun u s1 ⟨x, H1, I1, rx, d, o, ex, q⟩ => ?_
  subst ex
  obtain rfl : u = Value.ref d := rx
  rcases q with ⟨kvs, hd, q⟩ | ⟨kvs, hd, q⟩
  · obtain ⟨hs, hgd, hx, es, ep, vs, hdt, hsz, kv, hm⟩ := I1.frzK hd
    refine iter_keys hs hgd hx hdt (pi_one (tk := s1.toks) I1 _ (turn_keys _ hdt) ⟨_, Heap.get?_push_size _ rfl, rfl, ?_⟩ q)
    rw [hsz] <;> rfl
  · obtain ⟨hs, hgd, hx, es, ep, hdt, hsz, ent⟩ := frzN I1 hd
    exact iter_keys hs hgd hx hdt (pi_one (tk := s1.toks) I1 _ (turn_keysN _ hdt) ⟨_, Heap.get?_push_size _ rfl, rfl, rfl⟩ q)
/-! ### locking -/
def DictO (u : HO) : Prop := (∃ kvs, u = .dK kvs) ∨ ∃ φ, u = .ext φ
theorem DictO.mut {u : HO} (h : DictO u) : Mut (some u) := by
  rcases h with ⟨_, rfl⟩ | ⟨_, rfl⟩ <;> trivial
/-- heaps alike but for locks of dicts -/
def Lq (G G' : Hp) : Prop := ∀ a o, G a = some o → G' a = some o ∨ (∃ od, DictO o ∧ G' a = some (.frz od o)) ∨ ∃ od u, o = .frz od u ∧ DictO u ∧ G' a = some u
section
variable {G G' : Hp} {K : Fg}
theorem Lq.rd {a : Addr} {u : HO} (l : Lq G G') (hu : DictO u) (h : Rd G a u) : Rd G' a u := by
  rcases h with h | ⟨o, h⟩
  · rcases l _ _ h with h | ⟨od, _, h⟩ | ⟨od, u', e, _⟩
    · exact .inl h
    · exact .inr ⟨od, h⟩
    · subst e; rcases hu with ⟨_, e⟩ | ⟨_, e⟩ <;> cases e
  · rcases l _ _ h with h | ⟨od, e, _⟩ | ⟨od, u', e, _, h⟩
    · exact .inr ⟨o, h⟩
    · rcases e with ⟨_, e⟩ | ⟨_, e⟩ <;> cases e
    · cases e; exact .inl h
theorem Lq.same {a : Addr} {u : HO} (l : Lq G G') (h : G a = some u) (hu : ¬ DictO u) (hf : ∀ od v, u = .frz od v → ¬ DictO v) : G' a = some u := by
  rcases l _ _ h with h | ⟨_, e, _⟩ | ⟨od, v, e, e2, _⟩
  · exact h
  · exact absurd e hu
  · exact absurd e2 (hf od v e)
theorem not_lst {l : List V} : ¬ DictO (.lst l) := fun h => by rcases h with ⟨_, e⟩ | ⟨_, e⟩ <;> cases e
theorem not_tup {l : List V} : ¬ DictO (.tup l) := fun h => by rcases h with ⟨_, e⟩ | ⟨_, e⟩ <;> cases e
theorem not_frz {o : Obj} {u : HO} : ¬ DictO (.frz o u) := fun h => by rcases h with ⟨_, e⟩ | ⟨_, e⟩ <;> cases e
theorem Lq.sqT {a : Addr} {vs : List V} (l : Lq G G') (h : SqT K G a vs) : SqT K G' a vs := by
  rcases h with (h | ⟨o, h⟩) | h
  · exact .inl (.inl (l.same h not_tup fun _ _ e => by cases e))
  · exact .inl (.inr ⟨o, l.same h not_frz fun od v e => by cases e; exact not_tup⟩)
  · exact .inr h
theorem Lq.sqL {a : Addr} {vs : List V} (l : Lq G G') (h : SqL K G a vs) : SqL K G' a vs := by
  rcases h with (h | ⟨o, h⟩) | h
  · exact .inl (.inl (l.same h not_lst fun _ _ e => by cases e))
  · exact .inl (.inr ⟨o, l.same h not_frz fun od v e => by cases e; exact not_lst⟩)
  · exact .inr h
mutual
theorem Rp.lq (s : Lq G G') : ∀ (d : D) (v : V), Rp K G d v → Rp K G' d v
  | .non, v, h => h
  | .bl b, v, h => h
  | .int i, v, h => h
  | .str i, v, h => h
  | .ref a, v, h => h
  | .tup l, v, h => by
    obtain ⟨a, vs, e, h1, h2⟩ := (show ∃ a vs, v = .ref a ∧ SqT K G a vs ∧ RpL K G l vs from h)
    exact ⟨a, vs, e, s.sqT h1, RpL.lq s l vs h2⟩
  | .lst l, v, h => by
    obtain ⟨a, vs, e, h1, h2⟩ := (show ∃ a vs, v = .ref a ∧ G a = some (.lst vs) ∧ RpL K G l vs from h)
    exact ⟨a, vs, e, s.same h1 not_lst fun _ _ e => (by cases e), RpL.lq s l vs h2⟩
  | .fl l, v, h => by
    obtain ⟨a, vs, e, h1, h2⟩ := (show ∃ a vs, v = .ref a ∧ SqL K G a vs ∧ RpL K G l vs from h)
    exact ⟨a, vs, e, s.sqL h1, RpL.lq s l vs h2⟩
  | .dk l, v, h => by
    obtain ⟨a, vs, e, h1, h2⟩ := (show ∃ a kvs, v = .ref a ∧ Rd G a (.dK kvs) ∧ RpK K G l kvs from h)
    exact ⟨a, vs, e, s.rd (.inl ⟨_, rfl⟩) h1, RpK.lq s l vs h2⟩
  | .dt l, v, h => by
    obtain ⟨a, vs, e, h1, h2⟩ := (show ∃ a kvs, v = .ref a ∧ Rd G a (dnO K a kvs) ∧ RpN K G l kvs from h)
    exact ⟨a, vs, e, s.rd (.inr ⟨_, rfl⟩) h1, RpN.lq s l vs h2⟩
theorem RpL.lq (s : Lq G G') : ∀ (ds : List D) (vs : List V), RpL K G ds vs → RpL K G' ds vs
  | [], [], h => h
  | d :: ds, v :: vs, h => ⟨Rp.lq s d v h.1, RpL.lq s ds vs h.2⟩
  | [], _ :: _, h => h
  | _ :: _, [], h => h
theorem RpK.lq (s : Lq G G') : ∀ (ds : List (D × D)) (vs : List (Key × V)), RpK K G ds vs → RpK K G' ds vs
  | [], [], h => h
  | d :: ds, v :: vs, h => ⟨RpP.lq s d v h.1, RpK.lq s ds vs h.2⟩
  | [], _ :: _, h => h
  | _ :: _, [], h => h
theorem RpP.lq (s : Lq G G') : ∀ (d : D × D) (v : Key × V), RpP K G d v → RpP K G' d v
  | (k, d), v, h => ⟨h.1, Rp.lq s d v.2 h.2⟩
theorem RpN.lq (s : Lq G G') : ∀ (ds : List (D × D)) (vs : List (NestedKey × Addr × V)), RpN K G ds vs → RpN K G' ds vs
  | [], [], h => h
  | d :: ds, v :: vs, h => ⟨RpM.lq s d v h.1, RpN.lq s ds vs h.2⟩
  | [], _ :: _, h => h
  | _ :: _, [], h => h
theorem RpM.lq (s : Lq G G') : ∀ (d : D × D) (v : NestedKey × Addr × V), RpM K G d v → RpM K G' d v
  | (k, d), v, h => ⟨h.1, h.2.1, Rp.lq s k (.ref v.2.1) h.2.2.1, Rp.lq s d v.2.2 h.2.2.2⟩
end
theorem Vw.lq {Hs Hs' H H' : Hp} (s : Lq Hs Hs') (t : Lq H H') : ∀ {d : D} {v : V}, Vw K Hs H d v → Vw K Hs' H' d v
  | .lst l, v, ⟨a, vs, e, h1, h2⟩ => ⟨a, vs, e, t.same h1 not_lst fun _ _ e => (by cases e), RpL.lq s _ _ h2⟩
  | .dk l, v, ⟨a, vs, e, h1, h2⟩ => ⟨a, vs, e, t.rd (.inl ⟨_, rfl⟩) h1, RpK.lq s _ _ h2⟩
  | .dt l, v, ⟨a, vs, e, h1, h2⟩ => ⟨a, vs, e, t.rd (.inr ⟨_, rfl⟩) h1, RpN.lq s _ _ h2⟩
  | .non, v, h => Rp.lq (K := K) s .non v h
  | .bl b, v, h => Rp.lq (K := K) s (.bl b) v h
  | .int b, v, h => Rp.lq (K := K) s (.int b) v h
  | .str b, v, h => Rp.lq (K := K) s (.str b) v h
  | .tup b, v, h => Rp.lq (K := K) s (.tup b) v h
  | .ref b, v, h => Rp.lq (K := K) s (.ref b) v h
  | .fl b, v, h => Rp.lq (K := K) s (.fl b) v h
theorem Top.lq {Hs Hs' H H' : Hp} {p : Addr} (s : Lq Hs Hs') (e : H' p = H p) : ∀ {d : D}, Top K Hs H p d → Top K Hs' H' p d
  | .lst l, ⟨vs, h1, h2⟩ => ⟨vs, e.trans h1, RpL.lq s _ _ h2⟩
  | .dk l, ⟨vs, h1, h2⟩ => ⟨vs, e.trans h1, RpK.lq s _ _ h2⟩
  | .dt l, ⟨vs, h1, h2⟩ => ⟨vs, e.trans h1, RpN.lq s _ _ h2⟩
theorem lq_lock {d : Addr} {u : HO} {od : Obj} (hu : DictO u) (h : ∀ o, G d = some o → o = u) : Lq G (L2.upd G d (.frz od u)) := fun a o e => by
  by_cases ha : a = d
  · subst ha
    obtain rfl := h o e
    exact .inr (.inl ⟨od, hu, upd_same⟩)
  · exact .inl ((upd_ne ha).trans e)
theorem lq_unlock {d : Addr} {u : HO} {od : Obj} (hu : DictO u) (h : ∀ o, G d = some o → o = .frz od u) : Lq G (L2.upd G d u) := fun a o e => by
  by_cases ha : a = d
  · subst ha
    obtain rfl := h o e
    exact .inr (.inr ⟨od, u, rfl, hu, upd_same⟩)
  · exact .inl ((upd_ne ha).trans e)
end
/-- the frame's heaps while the shared dict at d is locked -/
def lockB (B : Bs) (d : Addr) (f : HO) : Bs := ⟨L2.upd B.Hs d f, L2.upd B.H d f, B.io⟩
theorem OkAt.lock {K : Fg} {B : Bs} {L : List Cell} {Hs H : Hp} {d : Addr} {u : HO} (od : Obj) (h : OkAt K B L Hs H) (hd : Hs d = some u) (hu : DictO u) : OkAt K (lockB B d (.frz od u)) L (L2.upd Hs d (.frz od u)) (L2.upd H d (.frz od u)) := by
  have hH : H d = some u := h.gr.sub _ _ hd
  have ls : Lq Hs (L2.upd Hs d (.frz od u)) := lq_lock hu fun o e => by rw [hd] at e; cases e; rfl
  have lh : Lq H (L2.upd H d (.frz od u)) := lq_lock hu fun o e => by rw [hH] at e; cases e; rfl
  have up : ∀ {G G' : Hp}, Same G G' → Same (L2.upd G d (.frz od u)) (L2.upd G' d (.frz od u)) := fun s a o e => by
    by_cases ha : a = d
    · subst ha; rw [upd_same] at e ⊢; exact e
    · rw [upd_ne ha] at e ⊢; exact s a o e
  refine ⟨⟨up h.gr.all, up h.gr.sh, up h.gr.sub, fun a ha e => ?_⟩, fun c hc => ?_, h.sep⟩
  · have hne : a ≠ d := fun z => by
      have e' : L2.upd B.Hs d (.frz od u) a = none := e
      rw [z, upd_same] at e'; cases e'
    have ha' : L2.upd B.H d (.frz od u) a ≠ none := ha
    have e' : L2.upd B.Hs d (.frz od u) a = none := e
    rw [upd_ne hne] at ha' e' ⊢
    exact h.gr.out a ha' e'
  · have hk := h.cells c hc
    have go : ∀ (d' : D) (v : V), Own K B Hs H d' v → Own K (lockB B d (.frz od u)) (L2.upd Hs d (.frz od u)) (L2.upd H d (.frz od u)) d' v := fun d' v ⟨p, e, o1, o2, o3⟩ => by
      have hne : p ≠ d := fun z => by rw [z, hd] at o2; cases o2
      exact ⟨p, e, (upd_ne hne).trans o1, (upd_ne hne).trans o2, o3.lq ls (upd_ne hne)⟩
    obtain ⟨o, x⟩ := c
    cases x with
    | un => trivial
    | sh d' => obtain ⟨v, e, r⟩ := hk; exact ⟨v, e, Rp.lq ls _ _ r⟩
    | own d' => obtain ⟨v, e, r⟩ := hk; exact ⟨v, e, go _ _ r⟩
    | io n d' => obtain ⟨v, e, e2, r⟩ := hk; exact ⟨v, e, e2, go _ _ r⟩
    | vw d' => obtain ⟨v, e, r⟩ := hk; exact ⟨v, e, r.lq ls lh⟩
theorem OkAt.unlock {K : Fg} {B : Bs} {L : List Cell} {Hs H Hs0 H0 : Hp} {d : Addr} {u : HO} {od : Obj} (g0 : Grow B.Hs B.H Hs0 H0) (hd0 : Hs0 d = some u) (h : OkAt K (lockB B d (.frz od u)) L Hs H) (hu : DictO u) : H d = some (.frz od u) ∧ OkAt K B L (L2.upd Hs d u) (L2.upd H d u) := by
  have hH : H d = some (.frz od u) := h.gr.all _ _ upd_same
  have hS : Hs d = some (.frz od u) := h.gr.sh _ _ upd_same
  have ls : Lq Hs (L2.upd Hs d u) := lq_unlock hu fun o e => by rw [hS] at e; cases e; rfl
  have lh : Lq H (L2.upd H d u) := lq_unlock hu fun o e => by rw [hH] at e; cases e; rfl
  have hB : ∀ o, B.H d = some o → o = u := fun o e => by
    have := g0.all _ _ e
    rw [g0.sub _ _ hd0] at this; cases this; rfl
  have hBs : ∀ o, B.Hs d = some o → o = u := fun o e => by
    have := g0.sh _ _ e
    rw [hd0] at this; cases this; rfl
  refine ⟨hH, ⟨fun a o e => ?_, fun a o e => ?_, fun a o e => ?_, fun a ha e => ?_⟩, fun c hc => ?_, h.sep⟩
  · by_cases hb : a = d
    · subst hb; rw [hB o e, upd_same]
    · rw [upd_ne hb]; exact h.gr.all a o (by show L2.upd B.H d _ a = _; rw [upd_ne hb]; exact e)
  · by_cases hb : a = d
    · subst hb; rw [hBs o e, upd_same]
    · rw [upd_ne hb]; exact h.gr.sh a o (by show L2.upd B.Hs d _ a = _; rw [upd_ne hb]; exact e)
  · by_cases hb : a = d
    · subst hb; rw [upd_same] at e ⊢; exact e
    · rw [upd_ne hb] at e ⊢; exact h.gr.sub a o e
  · by_cases hb : a = d
    · subst hb
      have := g0.out a ha e
      rw [hd0] at this; cases this
    · rw [upd_ne hb]
      exact h.gr.out a (by show L2.upd B.H d _ a ≠ _; rw [upd_ne hb]; exact ha) (by show L2.upd B.Hs d _ a = _; rw [upd_ne hb]; exact e)
  · have hk := h.cells c hc
    have go : ∀ (d' : D) (v : V), Own K (lockB B d (.frz od u)) Hs H d' v → Own K B (L2.upd Hs d u) (L2.upd H d u) d' v := fun d' v ⟨p, e, o1, o2, o3⟩ => by
      have hne : p ≠ d := fun z => by rw [z, hS] at o2; cases o2
      have o1' : L2.upd B.H d (.frz od u) p = none := o1
      rw [upd_ne hne] at o1'
      exact ⟨p, e, o1', (upd_ne hne).trans o2, o3.lq ls (upd_ne hne)⟩
    obtain ⟨o, x⟩ := c
    cases x with
    | un => trivial
    | sh d' => obtain ⟨v, e, r⟩ := hk; exact ⟨v, e, Rp.lq ls _ _ r⟩
    | own d' => obtain ⟨v, e, r⟩ := hk; exact ⟨v, e, go _ _ r⟩
    | io n d' => obtain ⟨v, e, e2, r⟩ := hk; exact ⟨v, e, e2, go _ _ r⟩
    | vw d' => obtain ⟨v, e, r⟩ := hk; exact ⟨v, e, r.lq ls lh⟩
end Fx
set_option Elab.async false
set_option linter.all false
set_option maxRecDepth 100000
set_option maxHeartbeats 4000000
/-! Fx: operators and built-in functions by values. -/
namespace Fx
open PySem PySem.Spec PyProof.Rows L2

/-! ### data as the library has it -/
mutual
def toPy : D → PyData
  | .non => .none
  | .bl b => .bool b
  | .int i => .int i
  | .str s => .str (strOf s)
  | .tup l => .tuple (toPyL l)
  | .lst l => .list (toPyL l)
  | _ => .none
def toPyL : List D → List PyData
  | [] => []
  | d :: ds => toPy d :: toPyL ds
end
section
variable {K : Fg} {H Hs : Hp}
mutual
theorem Rp.dp : ∀ (d : D) (v : V), d.fine = true → Rp K H d v → Dp K H v (toPy d)
  | .non, v, _, h => by rw [show v = .non from h]; exact .non
  | .bl b, v, _, h => by rw [show v = .bl b from h]; exact .bl b
  | .int b, v, _, h => by rw [show v = .int b from h]; exact .int b
  | .str b, v, _, h => by rw [show v = .str (strOf b) from h]; exact .str _
  | .tup l, v, f, h => by
    obtain ⟨a, vs, e, h1, h2⟩ := (show ∃ a vs, v = .ref a ∧ SqT K H a vs ∧ RpL K H l vs from h)
    rw [e]
    exact .tup h1 (RpL.dp l vs f h2)
  | .lst l, v, f, h => by
    obtain ⟨a, vs, e, h1, h2⟩ := (show ∃ a vs, v = .ref a ∧ H a = some (.lst vs) ∧ RpL K H l vs from h)
    rw [e]
    exact .lst (.inl (.inl h1)) (RpL.dp l vs f h2)
  | .dk _, _, f, _ => by cases f
  | .dt _, _, f, _ => by cases f
  | .ref _, _, f, _ => by cases f
  | .fl _, _, f, _ => by cases f
theorem RpL.dp : ∀ (ds : List D) (vs : List V), D.fineL ds = true → RpL K H ds vs → DpAll K H vs (toPyL ds)
  | [], [], _, _ => .nil
  | d :: ds, v :: vs, f, h => by
    have f' : (d.fine && D.fineL ds) = true := f
    obtain ⟨f1, f2⟩ := Bool.and_eq_true_iff.mp f'
    exact .cons (Rp.dp d v f1 h.1) (RpL.dp ds vs f2 h.2)
  | [], _ :: _, _, h => h.elim
  | _ :: _, [], _, h => h.elim
end
theorem Vw.dp (s : Same Hs H) {d : D} {v : V} (f : d.fine = true) (h : Vw K Hs H d v) : Dp K H v (toPy d) := by
  cases d with
  | lst l =>
    obtain ⟨a, vs, e, h1, h2⟩ := h
    rw [e]
    exact .lst (.inl (.inl h1)) (RpL.dp l vs f (RpL.mono s _ _ h2))
  | dk _ => cases f
  | non => exact Rp.dp .non v f (Rp.mono s .non v h)
  | bl b => exact Rp.dp (.bl b) v f (Rp.mono s (.bl b) v h)
  | int b => exact Rp.dp (.int b) v f (Rp.mono s (.int b) v h)
  | str b => exact Rp.dp (.str b) v f (Rp.mono s (.str b) v h)
  | tup b => exact Rp.dp (.tup b) v f (Rp.mono s (.tup b) v h)
  | _ => cases f
end
mutual
theorem fine_lay : ∀ d : D, d.fine = true → (toPy d).canLay0 = true
  | .non, _ => by simp [toPy, PyData.canLay0]
  | .bl _, _ => by simp [toPy, PyData.canLay0]
  | .int _, _ => by simp [toPy, PyData.canLay0]
  | .str s, f => by
    have f' : (s.all fun c => decide (c < 1114112)) = true := f
    simp only [toPy, PyData.canLay0, PyData.strOk, strOf]
    rw [← f']
    simp
  | .tup l, f => by simpa [toPy, PyData.canLay0] using fine_layL l f
  | .lst l, f => by simpa [toPy, PyData.canLay0] using fine_layL l f
  | .dk _, f => by cases f
  | .dt _, f => by cases f
  | .ref _, f => by cases f
  | .fl _, f => by cases f
theorem fine_layL : ∀ ds : List D, D.fineL ds = true → PyData.canLayAll0 (toPyL ds) = true
  | [], _ => by simp [toPyL, PyData.canLayAll0]
  | d :: ds, f => by
    have f' : (d.fine && D.fineL ds) = true := f
    obtain ⟨f1, f2⟩ := Bool.and_eq_true_iff.mp f'
    simp [toPyL, PyData.canLayAll0, fine_lay d f1, fine_layL ds f2]
end
mutual
theorem depth_py : ∀ d : D, (toPy d).depth ≤ d.depth
  | .non => by simp [toPy, PyData.depth]
  | .bl _ => by simp [toPy, PyData.depth]
  | .int _ => by simp [toPy, PyData.depth]
  | .str _ => by simp [toPy, PyData.depth]
  | .tup l => by have := depth_pyL l; simp only [toPy, PyData.depth, D.depth]; omega
  | .lst l => by have := depth_pyL l; simp only [toPy, PyData.depth, D.depth]; omega
  | .dk _ => by simp [toPy, PyData.depth]
  | .dt _ => by simp [toPy, PyData.depth]
  | .ref _ => by simp [toPy, PyData.depth]
  | .fl _ => by simp [toPy, PyData.depth]
theorem depth_pyL : ∀ ds : List D, PyData.depthAll (toPyL ds) ≤ D.depthL ds
  | [] => by simp [toPyL, PyData.depthAll]
  | d :: ds => by
    have h1 := depth_py d
    have h2 := depth_pyL ds
    simp only [toPyL, PyData.depthAll, D.depthL]
    omega
end
theorem shaped_of {d : D} (h : d.ok = true) : SeqAt.shaped (toPy d) = true := by
  obtain ⟨h1, h2⟩ := Bool.and_eq_true_iff.mp h
  unfold SeqAt.shaped
  rw [fine_lay d h1, Bool.true_and]
  have := depth_py d
  have := of_decide_eq_true h2
  exact decide_eq_true (by omega)
theorem strOf_beq (a b : List Nat) : (strOf a == strOf b) = (a == b) := by
  by_cases h : a = b
  · subst h; simp
  · have : strOf a ≠ strOf b := fun e => h (by have := congrArg (fun z : Str => z.cps.toList) e; simpa [strOf] using this)
    rw [beq_eq_false_iff_ne.mpr this, beq_eq_false_iff_ne.mpr h]
mutual
theorem eqv_py : ∀ a b : D, a.fine = true → b.fine = true → PyData.eqv (toPy a) (toPy b) = a.eqv b
  | .non, b, _, fb => by cases b <;> first | (simp [toPy, PyData.eqv, D.eqv]; done) | cases fb
  | .bl x, b, _, fb => by cases b <;> first | (simp [toPy, PyData.eqv, D.eqv]; done) | cases fb
  | .int x, b, _, fb => by cases b <;> first | (simp [toPy, PyData.eqv, D.eqv]; done) | cases fb
  | .str x, b, _, fb => by cases b <;> first | (simp [toPy, PyData.eqv, D.eqv, strOf_beq]; done) | cases fb
  | .tup l, b, fa, fb => by
    cases b with
    | tup r => simp only [toPy, PyData.eqv, D.eqv]; exact eqv_pyL l r fa fb
    | _ => first | (simp [toPy, PyData.eqv, D.eqv]; done) | cases fb
  | .lst l, b, fa, fb => by
    cases b with
    | lst r => simp only [toPy, PyData.eqv, D.eqv]; exact eqv_pyL l r fa fb
    | _ => first | (simp [toPy, PyData.eqv, D.eqv]; done) | cases fb
  | .dk _, _, f, _ => by cases f
  | .dt _, _, f, _ => by cases f
  | .ref _, _, f, _ => by cases f
  | .fl _, _, f, _ => by cases f
theorem eqv_pyL : ∀ a b : List D, D.fineL a = true → D.fineL b = true → PyData.eqvAll (toPyL a) (toPyL b) = D.eqvL a b
  | [], [], _, _ => by simp [toPyL, PyData.eqvAll, D.eqvL]
  | [], _ :: _, _, _ => by simp [toPyL, PyData.eqvAll, D.eqvL]
  | _ :: _, [], _, _ => by simp [toPyL, PyData.eqvAll, D.eqvL]
  | x :: xs, y :: ys, fa, fb => by
    have fa' : (x.fine && D.fineL xs) = true := fa
    have fb' : (y.fine && D.fineL ys) = true := fb
    obtain ⟨a1, a2⟩ := Bool.and_eq_true_iff.mp fa'
    obtain ⟨b1, b2⟩ := Bool.and_eq_true_iff.mp fb'
    simp only [toPyL, PyData.eqvAll, D.eqvL]
    rw [eqv_py x y a1 b1, eqv_pyL xs ys a2 b2]
end

/-! ### operators -/
section
variable {K : Fg} {X : Cx}
theorem Vw.int {K : Fg} {Hs H : Hp} {i : Int} {v : V} (h : Vw K Hs H (.int i) v) : v = .int i := h
theorem r2_int {f : Int → Int → Option D} {r : R2} (h : ∀ i j d H Q, f i j = some d → (∀ v H', H' = H → (∀ K Hs, Rp K Hs d v) → Q v H') → r (.int i) (.int j) H Q) : R2Ok K r (gI f) := by
  intro B L Hs H d1 d2 v1 v2 x Q ok h1 h2 hg q
  cases d1 <;> first | (cases hg; done) | skip
  cases d2 <;> first | (cases hg; done) | skip
  rename_i i j
  obtain ⟨d, hd, e⟩ := Option.map_eq_some_iff.mp hg
  subst e
  rw [Vw.int h1, Vw.int h2]
  exact h i j d H Q hd fun v H' e r => by subst e; exact q v H' ⟨Hs, ok.sh (r K Hs)⟩
theorem r2_cmp {f : Int → Int → Bool} : R2Ok K (rI0 fun i j => .bl (f i j)) (gCmp f) := by
  intro B L Hs H d1 d2 v1 v2 x Q ok h1 h2 hg q
  cases d1 <;> first | (cases hg; done) | skip
  cases d2 <;> first | (cases hg; done) | skip
  rename_i i j
  cases hg
  rw [Vw.int h1, Vw.int h2]
  exact ⟨i, j, rfl, rfl, q _ H ⟨Hs, ok.sh (d := .bl (f i j)) rfl⟩⟩
theorem r2_sub : R2Ok K (rI0 fun i j => .int (i - j)) gSub := r2_int fun i j d H Q hd q => by
  cases hd
  exact ⟨i, j, rfl, rfl, q _ H rfl fun _ _ => rfl⟩
theorem r2_mod : R2Ok K (rI (fun _ j => j ≠ 0) fun i j => .int (i.fmod j)) gMod := r2_int fun i j d H Q hd q => by
  by_cases h0 : j = 0
  · rw [if_pos h0] at hd; cases hd
  · rw [if_neg h0] at hd; cases hd
    exact ⟨i, j, rfl, rfl, h0, q _ H rfl fun _ _ => rfl⟩
/-- // by a divisor below 2^9000 -/
theorem op_fdivA : OpR X (binaryOp .FloorDiv) (rI (fun _ j => j ≠ 0 ∧ j.natAbs.log2 < 9000) fun i j => .int (i.fdiv j)) := opI fun i j _ _ _ _ _ hc q =>
  floordiv_int hc.1 q (.inl (PyProof.noPylong_of_log2 hc.2))
theorem r2_fdiv : R2Ok K (rI (fun _ j => j ≠ 0 ∧ j.natAbs.log2 < 9000) fun i j => .int (i.fdiv j)) gFdiv := r2_int fun i j d H Q hd q => by
  by_cases h0 : j = 0 ∨ 9000 ≤ j.natAbs.log2
  · rw [if_pos h0] at hd; cases hd
  · rw [if_neg h0] at hd; cases hd
    exact ⟨i, j, rfl, rfl, ⟨fun e => h0 (.inl e), by omega⟩, q _ H rfl fun _ _ => rfl⟩
/-! + -/
def rAddF (K : Fg) : R2 := fun x y H Q => (rI0 fun i j => .int (i + j)) x y H Q ∨ (∃ i j, x = .str i ∧ y = .str j ∧ i.length + j.length ≤ sizeLine ∧ Q (.str (i ++ j)) H) ∨ rCat x y H Q ∨ rCatA K x y H Q
theorem op_addF : OpR X (binaryOp .Add) (rAddF (kw X)) := OpR.or op_add (OpR.or op_add_str (OpR.or op_cat op_catA))
theorem line_eq : line = sizeLine := sizeLine_eq.symm
theorem strOf_app (a b : List Nat) : strOf a ++ strOf b = strOf (a ++ b) := by
  show Str.append (strOf a) (strOf b) = _
  simp [Str.append, strOf]
theorem r2_add : R2Ok K (rAddF K) gAdd := by
  intro B L Hs H d1 d2 v1 v2 x Q ok h1 h2 hg q
  cases d1 <;> cases d2 <;> first | (cases hg; done) | skip
  · rename_i i j
    cases hg
    rw [Vw.int h1, Vw.int h2]
    exact .inl ⟨i, j, rfl, rfl, q _ H ⟨Hs, ok.sh (d := .int (i + j)) rfl⟩⟩
  · rename_i a b
    have hg' : (if a.length + b.length ≤ line then some (Sl.sh (.str (a ++ b))) else none) = some x := hg
    by_cases hl : a.length + b.length ≤ line
    · rw [if_pos hl] at hg'; cases hg'
      rw [show v1 = .str (strOf a) from h1, show v2 = .str (strOf b) from h2]
      refine .inr (.inl ⟨_, _, rfl, rfl, ?_, q _ H ⟨Hs, ok.sh (d := .str (a ++ b)) ?_⟩⟩)
      · rw [← line_eq]; simpa [strOf, Str.length] using hl
      · show V.str (strOf a ++ strOf b) = V.str (strOf (a ++ b))
        rw [strOf_app]
    · rw [if_neg hl] at hg'; cases hg'
  · rename_i a b
    have hg' : (if a.length + b.length ≤ line then some (Sl.sh (.tup (a ++ b))) else none) = some x := hg
    by_cases hl : a.length + b.length ≤ line
    · rw [if_pos hl] at hg'; cases hg'
      obtain ⟨p1, vs, e1, t1, r1⟩ := (show ∃ p vs, v1 = .ref p ∧ SqT K Hs p vs ∧ RpL K Hs a vs from h1)
      obtain ⟨p2, ws, e2, t2, r2⟩ := (show ∃ p vs, v2 = .ref p ∧ SqT K Hs p vs ∧ RpL K Hs b vs from h2)
      subst e1; subst e2
      have l1 := r1.length
      have l2 := r2.length
      refine .inr (.inr (.inr ⟨p1, p2, vs, ws, rfl, rfl, SqT.mono ok.gr.sub t1, SqT.mono ok.gr.sub t2, by rw [← line_eq]; omega, fun e => ?_, fun _ e => ?_, fun _ _ p hp => ?_⟩))
      · subst e
        have ha : a = [] := List.eq_nil_of_length_eq_zero (by simpa using l1)
        subst ha
        exact q _ H ⟨Hs, ok.sh (d := .tup ([] ++ b)) ⟨p2, ws, rfl, t2, r2⟩⟩
      · subst e
        have hb : b = [] := List.eq_nil_of_length_eq_zero (by simpa using l2)
        subst hb
        exact q _ H ⟨Hs, ok.sh (d := .tup (a ++ [])) ⟨p1, vs, rfl, t1, by rw [List.append_nil]; exact r1⟩⟩
      · refine q _ _ (ok.newSh hp (d := .tup (a ++ b)) ⟨p, vs ++ ws, rfl, .inl (.inl upd_same), ?_⟩)
        exact RpL.mono (Same.upd (ok.gr.sub.free hp)) _ _ (r1.append r2)
    · rw [if_neg hl] at hg'; cases hg'
  · rename_i a b
    have hg' : (if a.length + b.length ≤ line then some (Sl.own (.lst (a ++ b))) else none) = some x := hg
    by_cases hl : a.length + b.length ≤ line
    · rw [if_pos hl] at hg'; cases hg'
      obtain ⟨p1, vs, e1, t1, r1⟩ := h1
      obtain ⟨p2, ws, e2, t2, r2⟩ := h2
      subst e1; subst e2
      have l1 := r1.length
      have l2 := r2.length
      refine .inr (.inr (.inl ⟨p1, p2, vs, ws, rfl, rfl, t1, t2, by rw [← line_eq]; omega, fun p hp => ?_⟩))
      exact q _ _ ⟨Hs, ok.new hp (d := .lst (a ++ b)) ⟨vs ++ ws, upd_same, r1.append r2⟩⟩
    · rw [if_neg hl] at hg'; cases hg'
end
end Fx
set_option Elab.async false
set_option linter.all false
set_option maxRecDepth 100000
set_option maxHeartbeats 4000000
/-! Fx: operators and built-in functions by values, more. -/
namespace Fx
open PySem PySem.Spec PyProof.Rows L2
section
variable {K : Fg} {X : Cx}
/-! ### * -/
theorem tuple_mul1 (l : Addr) (items : Array Value) (n : Nat) (dd : Option Addr) (sl : Array (Option Value)) (x : Int) (u : Tok) (c0 : (decide (x < -(2 ^ 63)) || decide (x ≥ 2 ^ 63)) = false) (c1 : (items.isEmpty || x == 1) = true) :
    Meets (Builtin.«tuple.__mul__» ⟨[.ref l, .int x u], []⟩) (fun _ R s => s.heap.get? l = some { cls := .type "tuple", dict := dd, data := .seq items n, slots := sl } ∧ R (.ok (.ret (Value.ref l))) s) :=
  .of_wp fun prog w A R s h => by
    obtain ⟨hp, g, d, tk, os⟩ := s
    obtain ⟨hl, h⟩ := h
    have f1 := AutoSeq1.idx_int
    wp_walk using wpAny_loadPart' hl
    repeat (first
      | (refine wpAny_ite_false (decide_eq_false (by rw [c0]; exact Bool.false_ne_true)) ?_; wp_walk using wpAny_loadPart' hl)
      | (refine wpAny_ite_true (decide_eq_true c1) ?_; wp_walk using wpAny_loadPart' hl))
    exact ⟨_, rfl, h⟩
theorem tuple_mul0 (l : Addr) (items : Array Value) (n : Nat) (dd : Option Addr) (sl : Array (Option Value)) (x : Int) (u : Tok) (c0 : (decide (x < -(2 ^ 63)) || decide (x ≥ 2 ^ 63)) = false) (c1 : (items.isEmpty || x == 1) = false) (c2 : (decide (x ≤ 0) || items.isEmpty) = true) :
    Meets (Builtin.«tuple.__mul__» ⟨[.ref l, .int x u], []⟩) (fun _ R s => s.heap.get? l = some { cls := .type "tuple", dict := dd, data := .seq items n, slots := sl } ∧
      R (.ok (.ret (Value.ref s.heap.objs.size))) { s with heap := s.heap.push { cls := Value.type "tuple", data := Data.seq #[] }, toks := s.toks }) :=
  .of_wp fun prog w A R s h => by
    obtain ⟨hp, g, d, tk, os⟩ := s
    obtain ⟨hl, h⟩ := h
    have f1 := AutoSeq1.idx_int
    wp_walk using wpAny_loadPart' hl
    repeat (first
      | (refine wpAny_ite_false (decide_eq_false (by rw [c0]; exact Bool.false_ne_true)) ?_; wp_walk using wpAny_loadPart' hl)
      | (refine wpAny_ite_false (decide_eq_false (by rw [c1]; exact Bool.false_ne_true)) ?_; wp_walk using wpAny_loadPart' hl)
      | (refine wpAny_ite_true (decide_eq_true c2) ?_; wp_walk using wpAny_loadPart' hl))
    exact ⟨_, rfl, h⟩

def rRepF (K : Fg) : R2 := fun x y H Q => ∃ l k xs, x = .ref l ∧ y = .int k ∧ SqT K H l xs ∧ xs.length ≤ 1000 ∧ -1000 ≤ k ∧ k ≤ 1000 ∧ (xs = [] ∨ k = 1 → Q (.ref l) H) ∧
  (xs ≠ [] → k ≠ 1 → ∀ p, H p = none → Q (.ref p) (L2.upd H p (.tup (List.replicate k.toNat xs).flatten)))
theorem op_repF : OpR X (binaryOp .Mult) (rRepF (kw X)) := by
  intro pins s σ H x y v u Q I rx ry h
  obtain ⟨l, k, xs, rfl, rfl, hT, hz, h1, h2, q1, q2⟩ := h
  by_cases hk : xs ≠ [] ∧ 2 ≤ k
  · exact op_repT pins s σ H _ _ v u Q I rx ry ⟨l, k, xs, rfl, rfl, hT, hk.1, hk.2, h2, hz, q2 hk.1 (by omega)⟩
  cases rx
  obtain ⟨t, rfl⟩ := ry
  obtain ⟨its, r, ⟨⟨cls, dd, data, sl⟩, ho, hc, n, hd⟩, hs⟩ := I.tuple hT
  simp only at hc hd
  subst hc hd
  have hle : its.length = xs.length := r.length.symm
  have c0 : (decide (k < -(2 ^ 63)) || decide (k ≥ 2 ^ 63)) = false := by
    rw [decide_eq_false (by omega), decide_eq_false (by omega)] <;> rfl
  have emp : its.toArray.isEmpty = decide (xs = []) := by
    cases its with
    | nil =>
      have : xs = [] := List.eq_nil_of_length_eq_zero (by simpa using hle.symm)
      rw [decide_eq_true this] <;> rfl
    | cons a b =>
      have : xs ≠ [] := fun e => by rw [e] at hle; simp at hle
      rw [decide_eq_false this] <;> rfl
  by_cases h1k : xs = [] ∨ k = 1
  · have c1 : (its.toArray.isEmpty || k == 1) = true := by
      rw [emp]
      rcases h1k with e | e
      · rw [decide_eq_true e] <;> rfl
      · rw [e]; simp
    refine wpAny_binaryOp_repeat_ref (T := "tuple") (U := "int") (by decide) ⟨_, ho, rfl⟩ (fun s' => typeIs_int s' k t) noFill_tuple_mul F.fills_int_mul F.slot_int_rmul repeat_tuple F.slot_int_index.lookup
      (call_meets F.slot_int_rmul (typeIs_int s k t) F.entry_int_rmul (F.args_int_rmul_2 _ _) (int_rmul_tuple k t l its.toArray n dd sl)
        ⟨ho, rfl, ⟨_, ho, rfl⟩, call_meets F.slot_tuple_mul ⟨_, ho, rfl⟩ F.entry_tuple_mul (F.args_tuple_mul_2 _ _) (tuple_mul1 l its.toArray n dd sl k t c0 c1) ⟨ho, ?_⟩⟩)
    exact ⟨.ref l, H, I, rfl, q1 h1k⟩
  · have hne : xs ≠ [] := fun e => h1k (.inl e)
    have hk1 : k ≠ 1 := fun e => h1k (.inr e)
    have hk0 : k ≤ 0 := by
      by_cases z : 2 ≤ k
      · exact absurd ⟨hne, z⟩ hk
      · omega
    have c1 : (its.toArray.isEmpty || k == 1) = false := by
      rw [emp, decide_eq_false hne, Bool.false_or]
      exact beq_eq_false_iff_ne.mpr hk1
    have c2 : (decide (k ≤ 0) || its.toArray.isEmpty) = true := by
      rw [decide_eq_true hk0] <;> rfl
    refine wpAny_binaryOp_repeat_ref (T := "tuple") (U := "int") (by decide) ⟨_, ho, rfl⟩ (fun s' => typeIs_int s' k t) noFill_tuple_mul F.fills_int_mul F.slot_int_rmul repeat_tuple F.slot_int_index.lookup
      (call_meets F.slot_int_rmul (typeIs_int s k t) F.entry_int_rmul (F.args_int_rmul_2 _ _) (int_rmul_tuple k t l its.toArray n dd sl)
        ⟨ho, rfl, ⟨_, ho, rfl⟩, call_meets F.slot_tuple_mul ⟨_, ho, rfl⟩ F.entry_tuple_mul (F.args_tuple_mul_2 _ _) (tuple_mul0 l its.toArray n dd sl k t c0 c1 c2) ⟨ho, ?_⟩⟩)
    have e0 : (List.replicate k.toNat xs).flatten = [] := by rw [show k.toNat = 0 by omega]; rfl
    have q3 := q2 hne hk1 s.heap.objs.size (I.hok.fresh (Nat.le_refl _))
    rw [e0] at q3
    refine ⟨.ref s.heap.objs.size, _, I.laid (t' := s.toks) (o := .tup []) (fun b ob q => Heap.get?_push_of_some _ q) (Nat.le_refl _) ?_, rfl, q3⟩
    exact ⟨Nat.zero_le _, [], .nil, IsTup.new _ _⟩
def rMulF (K : Fg) : R2 := fun x y H Q => (rI CMul fun i j => .int (i * j)) x y H Q ∨ rRep x y H Q ∨ rRepF K x y H Q
theorem op_mulF : OpR X (binaryOp .Mult) (rMulF (kw X)) := OpR.or op_mul (OpR.or op_rep op_repF)
theorem RpL.rep {H : Hp} {a : List D} {va : List V} (h : RpL K H a va) : ∀ n, RpL K H (List.replicate n a).flatten (List.replicate n va).flatten
  | 0 => trivial
  | n + 1 => by
    rw [List.replicate_succ, List.replicate_succ, List.flatten_cons, List.flatten_cons]
    exact h.append (RpL.rep h n)
theorem big_eq : big = 2 ^ 64 := by decide
theorem r2_mul : R2Ok K (rMulF K) gMul := by
  intro B L Hs H d1 d2 v1 v2 x Q ok h1 h2 hg q
  cases d1 <;> first | (cases hg; done) | skip
  all_goals (cases d2 <;> first | (cases hg; done) | skip)
  · rename_i i j
    have hg' : (if (-big < i ∧ i < big) ∨ (-big < j ∧ j < big) then some (Sl.sh (.int (i * j))) else none) = some x := hg
    by_cases hc : (-big < i ∧ i < big) ∨ (-big < j ∧ j < big)
    · rw [if_pos hc] at hg'; cases hg'
      rw [Vw.int h1, Vw.int h2]
      rw [big_eq] at hc
      exact .inl ⟨i, j, rfl, rfl, hc, q _ H ⟨Hs, ok.sh (d := .int (i * j)) rfl⟩⟩
    · rw [if_neg hc] at hg'; cases hg'
  · rename_i l k
    have hg' : (if l.length ≤ 1000 ∧ -1000 ≤ k ∧ k ≤ 1000 then some (Sl.sh (.tup (List.replicate k.toNat l).flatten)) else none) = some x := hg
    by_cases hc : l.length ≤ 1000 ∧ -1000 ≤ k ∧ k ≤ 1000
    · rw [if_pos hc] at hg'; cases hg'
      obtain ⟨p1, vs, e1, t1, r1⟩ := (show ∃ p vs, v1 = .ref p ∧ SqT K Hs p vs ∧ RpL K Hs l vs from h1)
      subst e1
      rw [Vw.int h2]
      have l1 := r1.length
      refine .inr (.inr ⟨p1, k, vs, rfl, rfl, SqT.mono ok.gr.sub t1, by omega, hc.2.1, hc.2.2, fun e => ?_, fun _ _ p hp => ?_⟩)
      · refine q _ H ⟨Hs, ok.sh (d := .tup _) ⟨p1, vs, rfl, t1, ?_⟩⟩
        rcases e with e | e
        · have hl : l = [] := List.eq_nil_of_length_eq_zero (by rw [l1, e]; rfl)
          subst hl
          subst e
          have z : ∀ n, (List.replicate n ([] : List D)).flatten = [] := fun n => by simp
          rw [z]
          exact trivial
        · subst e
          simpa using r1
      · refine q _ _ (ok.newSh hp (d := .tup _) ⟨p, _, rfl, .inl (.inl upd_same), ?_⟩)
        exact RpL.mono (Same.upd (ok.gr.sub.free hp)) _ _ (RpL.rep r1 _)
    · rw [if_neg hc] at hg'; cases hg'
  · rename_i l k
    have hg' : (if l.length * k.toNat ≤ line ∧ -9223372036854775808 ≤ k ∧ k < 9223372036854775808 then some (Sl.own (.lst (List.replicate k.toNat l).flatten)) else none) = some x := hg
    by_cases hc : l.length * k.toNat ≤ line ∧ -9223372036854775808 ≤ k ∧ k < 9223372036854775808
    · rw [if_pos hc] at hg'; cases hg'
      obtain ⟨p1, vs, e1, t1, r1⟩ := h1
      subst e1
      rw [Vw.int h2]
      have l1 := r1.length
      refine .inr (.inl ⟨p1, k, vs, rfl, rfl, t1, by omega, by omega, by rw [← line_eq, ← l1]; exact hc.1, fun p hp => ?_⟩)
      exact q _ _ ⟨Hs, ok.new hp (d := .lst _) ⟨_, upd_same, RpL.rep r1 _⟩⟩
    · rw [if_neg hc] at hg'; cases hg'
/-! ### == and != -/
theorem r2_eq : R2Ok K (rEqD K) gEq := by
  intro B L Hs H d1 d2 v1 v2 x Q ok h1 h2 hg q
  unfold gEq at hg
  by_cases hc : (d1.ok && d2.ok) = true
  · rw [if_pos hc] at hg; cases hg
    obtain ⟨c1, c2⟩ := Bool.and_eq_true_iff.mp hc
    have f1 := (Bool.and_eq_true_iff.mp c1).1
    have f2 := (Bool.and_eq_true_iff.mp c2).1
    refine ⟨toPy d1, toPy d2, h1.dp ok.gr.sub f1, h2.dp ok.gr.sub f2, shaped_of c1, shaped_of c2, ?_⟩
    rw [eqv_py d1 d2 f1 f2]
    exact q _ H ⟨Hs, ok.sh (d := .bl _) rfl⟩
  · rw [if_neg hc] at hg; cases hg
theorem r2_ne : R2Ok K (rNeD K) gNe := by
  intro B L Hs H d1 d2 v1 v2 x Q ok h1 h2 hg q
  unfold gNe at hg
  by_cases hc : (d1.ok && d2.ok) = true
  · rw [if_pos hc] at hg; cases hg
    obtain ⟨c1, c2⟩ := Bool.and_eq_true_iff.mp hc
    have f1 := (Bool.and_eq_true_iff.mp c1).1
    have f2 := (Bool.and_eq_true_iff.mp c2).1
    refine ⟨toPy d1, toPy d2, h1.dp ok.gr.sub f1, h2.dp ok.gr.sub f2, shaped_of c1, shaped_of c2, ?_⟩
    rw [eqv_py d1 d2 f1 f2]
    exact q _ H ⟨Hs, ok.sh (d := .bl _) rfl⟩
  · rw [if_neg hc] at hg; cases hg
/-! ### a[i], a[i:j] -/
theorem ixN_eq : @ixN = @L2.ixN := rfl
def rIxF (K : Fg) : R2 := fun x y H Q => rIxL K x y H Q ∨ rIxT K x y H Q ∨ rIxS x y H Q
theorem ix_F : IxR X (rIxF (kw X)) := IxR.or ix_list (IxR.or ix_tup ix_str)
theorem r2_ix : R2Ok K (rIxF K) gIx := by
  intro B L Hs H d1 d2 v1 v2 x Q ok h1 h2 hg q
  cases d1 <;> first | (cases hg; done) | skip
  · rename_i l
    cases d2 <;> first | (cases hg; done) | skip
    rename_i i
    have hg' : (if l.length ≤ line then (ixN l.length i).bind fun j => l[j]?.map fun c => Sl.sh (.str [c]) else none) = some x := hg
    by_cases hl : l.length ≤ line
    · rw [if_pos hl] at hg'
      obtain ⟨j, hj, hx⟩ := Option.bind_eq_some_iff.mp hg'
      obtain ⟨c, hc, e⟩ := Option.map_eq_some_iff.mp hx
      subst e
      rw [show v1 = .str (strOf l) from h1, Vw.int h2]
      refine .inr (.inr ⟨strOf l, i, c, rfl, rfl, ?_, ?_, q _ H ⟨Hs, ok.sh (d := .str [c]) rfl⟩⟩)
      · rw [← line_eq]; simpa [strOf, Str.length] using hl
      · show (L2.ixN l.length i).bind _ = _
        rw [← ixN_eq, hj]
        exact hc
    · rw [if_neg hl] at hg'; cases hg'
  · rename_i l
    cases d2 <;> first | (cases hg; done) | skip
    rename_i i
    obtain ⟨j, hj, hx⟩ := Option.bind_eq_some_iff.mp (show ((ixN l.length i).bind fun j => l[j]?.map Sl.sh) = some x from hg)
    obtain ⟨c, hc, e⟩ := Option.map_eq_some_iff.mp hx
    subst e
    obtain ⟨p1, vs, e1, t1, r1⟩ := (show ∃ p vs, v1 = .ref p ∧ SqT K Hs p vs ∧ RpL K Hs l vs from h1)
    subst e1
    rw [Vw.int h2]
    obtain ⟨u, hu, ru⟩ := r1.get hc
    refine .inr (.inl ⟨p1, vs, i, u, rfl, rfl, SqT.mono ok.gr.sub t1, ?_, q _ H ⟨Hs, ok.sh ru⟩⟩)
    show (L2.ixN vs.length i).bind _ = _
    rw [← ixN_eq, ← r1.length, hj]
    exact hu
  · rename_i l
    cases d2 <;> first | (cases hg; done) | skip
    rename_i i
    obtain ⟨j, hj, hx⟩ := Option.bind_eq_some_iff.mp (show ((ixN l.length i).bind fun j => l[j]?.map Sl.sh) = some x from hg)
    obtain ⟨c, hc, e⟩ := Option.map_eq_some_iff.mp hx
    subst e
    obtain ⟨p1, vs, e1, t1, r1⟩ := h1
    subst e1
    rw [Vw.int h2]
    obtain ⟨u, hu, ru⟩ := r1.get hc
    refine .inl ⟨p1, vs, i, u, rfl, rfl, .inl (.inl t1), ?_, q _ H ⟨Hs, ok.sh ru⟩⟩
    show (L2.ixN vs.length i).bind _ = _
    rw [← ixN_eq, ← r1.length, hj]
    exact hu
def rSlF (K : Fg) : V → Option Int → Option Int → Hp → VK → Prop := fun x lo hi H Q => rSlL K x lo hi H Q ∨ rSlA K x lo hi H Q ∨ rSlS x lo hi H Q
theorem sl_F : SlR X (rSlF (kw X)) := SlR.or sl_list (SlR.or sl_tupA sl_str)
theorem cutIx_eq : @cutIx = @HT.sIx := by
  funext n d o
  cases o <;> rfl
theorem cutV_eq (xs : List V) (lo hi : Option Int) : cutV xs lo hi = cutL xs lo hi := by
  unfold cutV cutL
  rw [cutIx_eq]
theorem RpL.cut {H : Hp} {l : List D} {vs : List V} (h : RpL K H l vs) (lo hi : Option Int) : RpL K H (cutL l lo hi) (cutV vs lo hi) := by
  rw [cutV_eq]
  unfold cutL
  rw [h.length]
  exact RpL.take _ (RpL.drop _ h)
theorem cutS_eq (l : List Nat) (lo hi : Option Int) (h : l.length ≤ line) : cutS (strOf l) lo hi = strOf (cutL l lo hi) := by
  have e : (strOf l).length = l.length := List.size_toArray ..
  unfold cutS cutL
  rw [e, cutIx_eq]
  rfl
end
end Fx
set_option Elab.async false
set_option linter.all false
set_option maxRecDepth 100000
set_option maxHeartbeats 4000000
/-! Fx: min of data, sums, sorted: by values. -/
namespace Fx
open PySem PySem.Spec PyProof.Rows L2
/-! ### min(xs), the items data that a heap lets compare -/
section
variable {prog : Program} {w : World} {A : Around} {R : Result → Shared → Prop} {I : Addr} {fp wr : List Addr} {n : Nat} {P : Nat → Value → Prop} {G : Nat → Heap → Prop}
/-- < answers by bt in every heap that keeps h0 but for wr and S -/
def CmpIn (prog : Program) (w : World) (A : Around) (h0 : Heap) (wr : List Addr) (S : Addr) (P : Nat → Value → Prop) (bt : Nat → Nat → Bool) : Prop :=
  ∀ i j vi vj (s : Shared) (Q : Value → Shared → Prop) (E : Value → Shared → Prop), (∀ b o, b ∉ wr → b ≠ S → h0.get? b = some o → s.heap.get? b = some o) →
    P i vi → P j vj → Q (.bool (bt i j)) s → wpAny (model prog w) A (richCompare .Lt vi vj) Q E s
theorem min_turns (W : Walks prog w A.in1 I fp wr n P G) (h0 : Heap) (bt : Nat → Nat → Bool) (S : Addr) (hcmp : CmpIn prog w A.in1 h0 wr S P bt) (hSf : S ∉ fp) :
    ∀ (k j : Nat) (s : Shared) (vb : Value) (c : Nat), n - (j + 1) = k → j + 1 ≤ n → G (j + 1) s.heap → P (argBest bt j) vb →
    s.heap.get? S = some { cls := .type "list", dict := none, data := .seq #[vb, vb] c, slots := #[] } →
    (∀ b o, b ∉ wr → b ≠ S → h0.get? b = some o → s.heap.get? b = some o) →
    (∀ v h' tk, P (argBest bt (n - 1)) v → (∀ b o, b ∉ wr → b ≠ S → s.heap.get? b = some o → h'.get? b = some o) → R (.ok (.ret v)) { s with heap := h', toks := tk }) →
    codeAny (model prog w) A (.builtin "min.loop" ⟨[.ref I, .none, .ref S], []⟩) R s := by
  have hSw : S ∉ wr := fun h => hSf (W.sub _ h)
  have hname : (toString "min" ++ toString ".loop" : String) = "min.loop" := by decide
  intro k
  induction k with
  | zero =>
    intro j s vb c hk hj hst hPb hS hk0 hR
    have hin : j + 1 = n := by omega
    refine codeAny_builtin F.entry_min_loop ?_
    rw [Around.under_plainId F.plain_min_loop _]
    show wpAny _ A.in1 (seqItems? (.ref S) >>= _) _ _ s
    refine wpAny_bind (wpAny_seqItems hS rfl ?_)
    show wpAny _ A.in1 (tryCatch (pyNext (.ref I)) _ >>= _) _ _ s
    refine wpAny_bind (wpAny_tryCatch (W.done s _ _ (hin ▸ hst) fun h' tk hk' => ?_))
    have hS' := hk' S _ hSw hS
    show wpAny _ A.in1 (updateSeq S (fun _ => #[]) >>= _) _ _ _
    refine wpAny_bind ?_
    refine wpAny_updateSeq hS' rfl (wpAny_bind (wpAny_letGo (wpAny_pure ?_)))
    exact hR vb _ tk (by rw [← hin]; exact hPb) fun b o hbw hbS e => (Heap.get?_update_other _ _ (Ne.symm hbS)).trans (hk' b o hbw e)
  | succ k ih =>
    intro j s vb c hk hj hst hPb hS hk0 hR
    have hlt : j + 1 < n := by omega
    refine codeAny_builtin F.entry_min_loop ?_
    rw [Around.under_plainId F.plain_min_loop _]
    show wpAny _ A.in1 (seqItems? (.ref S) >>= _) _ _ s
    refine wpAny_bind (wpAny_seqItems hS rfl ?_)
    show wpAny _ A.in1 (tryCatch (pyNext (.ref I)) _ >>= _) _ _ s
    refine wpAny_bind (wpAny_tryCatch (W.item (j + 1) s _ _ hlt hst fun v h' tk hP hst' hk' => ?_))
    have hS' := hk' S _ hSw hS
    have hk1 : ∀ b o, b ∉ wr → b ≠ S → h0.get? b = some o → h'.get? b = some o := fun b o h1 h2 e => hk' b o h1 (hk0 b o h1 h2 e)
    show wpAny _ A.in1 (tryCatch (holding [v, v] (richCompare .Lt v vb >>= _)) _ >>= _) _ _ _
    refine wpAny_bind (wpAny_tryCatch (wpAny_holding (wpAny_bind (hcmp (j + 1) (argBest bt j) v vb { s with heap := h', toks := tk } _ _ hk1 hP hPb ?_))))
    refine wpAny_bind (wpAny_holding (wpAny_truthy_bool ?_))
    refine wpAny_bind (wpAny_letGo (wpAny_pure ?_))
    cases hb : bt (j + 1) (argBest bt j) with
    | true =>
      simp only [if_true]
      refine wpAny_bind ?_
      refine wpAny_updateSeq hS' rfl (wpAny_bind (wpAny_letGo ?_))
      rw [hname]
      refine wpAny_pure ⟨plainId_quiet F.plain_min_loop _, ih (j + 1) _ v _ (by omega) hlt (W.frame _ _ _ hst' fun b hbf o e => ?_) (by simp only [argBest, hb, if_true]; exact hP) (Heap.get?_update_self _ hS' rfl)
        (fun b o h1 h2 e => (Heap.get?_update_other _ _ (Ne.symm h2)).trans (hk1 b o h1 h2 e)) fun v' h'' tk'' hP' hk'' => ?_⟩
      · exact (Heap.get?_update_other _ _ (fun h : S = b => hSf (by rw [h]; exact hbf))).trans e
      · exact hR v' h'' tk'' hP' fun b o hbw hbS e => hk'' b o hbw hbS ((Heap.get?_update_other _ _ (Ne.symm hbS)).trans (hk' b o hbw e))
    | false =>
      simp only [Bool.false_eq_true, if_false]
      refine wpAny_bind (wpAny_letGo ?_)
      rw [hname]
      refine wpAny_pure ⟨plainId_quiet F.plain_min_loop _, ih (j + 1) _ vb c (by omega) hlt hst' (by simp only [argBest, hb, Bool.false_eq_true, if_false]; exact hPb) hS' hk1 fun v' h'' tk'' hP' hk'' => ?_⟩
      exact hR v' h'' tk'' hP' fun b o hbw hbS e => hk'' b o hbw hbS (hk' b o hbw e)
theorem min_first (W : Walks prog w A.in1 I fp wr n P G) (h0 : Heap) (bt : Nat → Nat → Bool) (S : Addr) (hcmp : CmpIn prog w A.in1 h0 wr S P bt) (hSf : S ∉ fp) (hn : 0 < n) {s : Shared} {c : Nat} (hst : G 0 s.heap)
    (hS : s.heap.get? S = some { cls := .type "list", dict := none, data := .seq #[] c, slots := #[] }) (hk0 : ∀ b o, b ∉ wr → b ≠ S → h0.get? b = some o → s.heap.get? b = some o)
    (hR : ∀ v h' tk, P (argBest bt (n - 1)) v → (∀ b o, b ∉ wr → b ≠ S → s.heap.get? b = some o → h'.get? b = some o) → R (.ok (.ret v)) { s with heap := h', toks := tk }) :
    codeAny (model prog w) A (.builtin "min.loop" ⟨[.ref I, .none, .ref S], []⟩) R s := by
  have hSw : S ∉ wr := fun h => hSf (W.sub _ h)
  have hname : (toString "min" ++ toString ".loop" : String) = "min.loop" := by decide
  refine codeAny_builtin F.entry_min_loop ?_
  rw [Around.under_plainId F.plain_min_loop _]
  show wpAny _ A.in1 (seqItems? (.ref S) >>= _) _ _ s
  refine wpAny_bind (wpAny_seqItems hS rfl ?_)
  show wpAny _ A.in1 (tryCatch (pyNext (.ref I)) _ >>= _) _ _ s
  refine wpAny_bind (wpAny_tryCatch (W.item 0 s _ _ hn hst fun v h' tk hP hst' hk' => ?_))
  have hS' := hk' S _ hSw hS
  show wpAny _ A.in1 (updateSeq S (fun _ => #[v, v]) >>= _) _ _ _
  refine wpAny_bind ?_
  refine wpAny_updateSeq hS' rfl ?_
  rw [hname]
  refine wpAny_pure ⟨plainId_quiet F.plain_min_loop _, min_turns W h0 bt S hcmp hSf _ 0 _ v _ rfl hn (W.frame _ _ _ hst' fun b hbf o e => ?_) hP (Heap.get?_update_self _ hS' rfl)
    (fun b o h1 h2 e => (Heap.get?_update_other _ _ (Ne.symm h2)).trans (hk' b o h1 (hk0 b o h1 h2 e))) fun v' h'' tk'' hP' hk'' => ?_⟩
  · exact (Heap.get?_update_other _ _ (fun h : S = b => hSf (by rw [h]; exact hbf))).trans e
  · exact hR v' h'' tk'' hP' fun b o hbw hbS e => hk'' b o hbw hbS ((Heap.get?_update_other _ _ (Ne.symm hbS)).trans (hk' b o hbw e))
end
section
variable {prog : Program} {w : World} {A : Around} {E : Value → Shared → Prop} {s : Shared}
theorem call_min_in {x : Value} {Q : Value → Shared → Prop}
    (h : wpAny (model prog w) A.in1 (pyIter x) (fun it s₂ => ∃ I fp wr n P G bt, it = .ref I ∧ Walks prog w A.in1 I fp wr n P G ∧ G 0 s₂.heap ∧ (∀ b ∈ fp, b < s₂.heap.objs.size) ∧ 0 < n ∧ (∀ S, s₂.heap.objs.size ≤ S → CmpIn prog w A.in1 s₂.heap wr S P bt) ∧
      ∀ v h' tk, P (argBest bt (n - 1)) v → (∀ b o, b ∉ wr → s₂.heap.get? b = some o → h'.get? b = some o) → Q v { s₂ with heap := h', toks := tk }) E s) :
    wpAny (model prog w) A (call (.builtin "min") [x]) Q E s := by
  have hname : (toString "min" ++ toString ".loop" : String) = "min.loop" := by decide
  refine call_function_tree F.kind_min F.plain_min F.entry_min (F.args_min1 _) ?_
  show wpAny _ A.in1 (Builtin.Builtins.bindParams "min" ["key", "default"] 0 ⟨[], []⟩ >>= _) _ _ s
  refine wpAny_bind (wpAny_of_eq (show Builtin.Builtins.bindParams "min" ["key", "default"] 0 ⟨[], []⟩ = pure [none, none] from rfl) ?_)
  refine wpAny_bind (wpAny_pure ?_)
  refine wpAny_bind (wpAny_mono h (fun it s₂ h₂ => ?_) fun _ _ e => e)
  obtain ⟨I, fp, wr, n, P, G, bt, rfl, W, hst, hfp, hn, hcmp, hQ⟩ := h₂
  refine wpAny_bind (wpAny_newObj_type ?_)
  have hSf : s₂.heap.objs.size ∉ fp := fun hm => Nat.lt_irrefl _ (hfp _ hm)
  rw [hname]
  refine wpAny_pure ⟨plainId_quiet F.plain_min_loop _, min_first W s₂.heap bt s₂.heap.objs.size (hcmp _ (Nat.le_refl _)) hSf hn (W.frame _ _ _ hst fun b _ o e => Heap.get?_push_of_some _ e) (Heap.get?_push_size _ rfl) (fun b o _ _ e => Heap.get?_push_of_some _ e) fun v h' tk hP hk => ?_⟩
  exact hQ v h' tk hP fun b o hbw e => hk b o hbw (Nat.ne_of_lt (Heap.lt_size e)) (Heap.get?_push_of_some _ e)
end
end Fx
set_option Elab.async false
set_option linter.all false
set_option maxRecDepth 100000
set_option maxHeartbeats 4000000
/-! Fx: built-in functions over the heap of values. -/
namespace Fx
open PySem PySem.Spec PyProof.Rows L2
section
variable {X : Cx}
theorem Vals.one1 {x : V} {us : List Value} (r : Vals [x] us) : ∃ u, us = [u] ∧ RelV x u := vals1 r
/-- min(xs) of alike data -/
def rMinD (K : Fg) : List V → Hp → VK → Prop := fun vs H Q => ∃ (a : Addr) (xs : List V) (ds : List PyData), vs = [V.ref a] ∧ SqL K H a xs ∧ DpAll K H xs ds ∧ (∀ d ∈ ds, ∀ e ∈ ds, PySem.W.alike d e = true) ∧ (∀ d ∈ ds, d ≠ .none ∧ d.depth ≤ 64) ∧ 0 < ds.length ∧
  ∀ v, xs[argBest (fun i j => PySem.W.dataLt (ds.getD i .none) (ds.getD j .none)) (ds.length - 1)]? = some v → Q v H
theorem argBest_le (bt : Nat → Nat → Bool) : ∀ k, argBest bt k ≤ k
  | 0 => Nat.le_refl _
  | k + 1 => by
    have := argBest_le bt k
    unfold argBest
    split <;> omega
theorem readsAll_at {h : Heap} : ∀ {us : List Value} {ds : List PyData} {as : List Addr} {i : Nat} {u : Value}, ReadsAll h us ds as → us[i]? = some u → ∃ d bs, ds[i]? = some d ∧ Reads h u d bs
  | [], _, _, _, _, _, e => by simp at e
  | u :: us, _, _, 0, u', r, e => by
    cases r with
    | cons r1 r2 => simp at e; subst e; exact ⟨_, _, rfl, r1⟩
  | u :: us, _, _, i + 1, u', r, e => by
    cases r with
    | cons r1 r2 =>
      obtain ⟨d, bs, h1, h2⟩ := readsAll_at (i := i) r2 (by simpa using e)
      exact ⟨d, bs, by simpa using h1, h2⟩
theorem cr_minD (hc : X.calm = true) (hu : X.A.units + 70 < cLine) : CallR X (.builtin "min") (rMinD (kw X)) := by
  intro pins s σ H vs us Q I r h
  obtain ⟨a, xs, ds, rfl, hs, hd, hal, hdep, hn, q⟩ := h
  obtain ⟨its, rv, hl, hz⟩ := I.list hs
  obtain ⟨as, hr⟩ := Dp.readsAll I ds xs its hd rv
  rw [Vals.ref1 r]
  have hlen : its.length = ds.length := SeqAt.ReadsAll.length ds its as hr
  have hla := hl.isList
  have hlt : a < s.heap.objs.size := by obtain ⟨_, e, _⟩ := hla; exact Heap.lt_size e
  refine call_min_in (wpAny_pyIter_list hla ?_)
  refine ⟨s.heap.objs.size, [s.heap.objs.size, a], [s.heap.objs.size], its.toArray.size, fun i v => its.toArray[i]? = some v, _, fun i j => PySem.W.dataLt (ds.getD i .none) (ds.getD j .none), rfl,
    Walks.list (A := X.A.in1) (I.ok.hd hc) _ a (Nat.ne_of_lt hlt) its.toArray, ⟨⟨_, Heap.get?_push_size _ rfl, rfl, rfl⟩, hla.push _⟩, fun b hb => ?_, ?_, fun S hS => ?_, fun v h' tk hv hk => ?_⟩
  · show b < (s.heap.push _).objs.size
    rw [Heap.size_push]
    rcases List.mem_cons.mp hb with rfl | hb
    · exact Nat.lt_succ_self _
    · rcases List.mem_cons.mp hb with rfl | hb
      · exact Nat.lt_succ_of_lt hlt
      · cases hb
  · rw [List.size_toArray, hlen]; exact hn
  · intro i j vi vj s' Q' E' hk hi hj hq
    have keep : ∀ b o, s.heap.get? b = some o → s'.heap.get? b = some o := fun b o e => by
      have hb := Heap.lt_size e
      refine hk b o ?_ ?_ (Heap.get?_push_of_some _ e)
      · intro z
        have z' : b = s.heap.objs.size := by simpa using z
        rw [z'] at hb
        exact Nat.lt_irrefl _ hb
      · intro z
        have hS' : s.heap.objs.size + 1 ≤ S := by
          have := hS
          rw [show ({ s with heap := s.heap.push { cls := Value.type "list_iterator", data := Data.fields #[Value.ref a, Value.int 0 0] } } : Shared).heap.objs.size = s.heap.objs.size + 1 from Heap.size_push _ _] at this
          exact this
        rw [z] at hb
        exact Nat.lt_irrefl _ (Nat.lt_of_lt_of_le hb (Nat.le_trans (Nat.le_succ _) hS'))
    have hr' : ReadsAll s'.heap its ds as := PyProof.Rows.ReadsAll.keeps keep hr
    have hi' : its[i]? = some vi := by simpa using hi
    have hj' : its[j]? = some vj := by simpa using hj
    obtain ⟨d, b1, hd1, r1⟩ := readsAll_at hr' hi'
    obtain ⟨e, b2, hd2, r2⟩ := readsAll_at hr' hj'
    have m1 : d ∈ ds := List.mem_of_getElem? hd1
    have m2 : e ∈ ds := List.mem_of_getElem? hd2
    have g1 : ds.getD i .none = d := by rw [List.getD_eq_getElem?_getD, hd1]; rfl
    have g2 : ds.getD j .none = e := by rw [List.getD_eq_getElem?_getD, hd2]; rfl
    refine PySem.W.rcLt_alike d e X.A.in1 s' vi vj b1 b2 r1 r2 (hal d m1 e m2) (hdep d m1).1 ?_ X.prog X.w E' Q' ?_
    · have := (hdep d m1).2
      show X.A.units + 1 + min d.depth e.depth < cLine
      omega
    · rw [← g1, ← g2]; exact hq
  · have hv' : its[argBest (fun i j => PySem.W.dataLt (ds.getD i .none) (ds.getD j .none)) (ds.length - 1)]? = some v := by
      have e0 : its.toArray.size - 1 = ds.length - 1 := by rw [List.size_toArray, hlen]
      have := hv
      rw [e0] at this
      simpa using this
    have hlt2 : argBest (fun i j => PySem.W.dataLt (ds.getD i .none) (ds.getD j .none)) (ds.length - 1) < xs.length := by
      have := argBest_le (fun i j => PySem.W.dataLt (ds.getD i .none) (ds.getD j .none)) (ds.length - 1)
      have := rv.length
      omega
    obtain ⟨u, hu1, hu2⟩ := rv.get (List.getElem?_eq_getElem hlt2)
    rw [hv'] at hu1
    cases hu1
    refine ⟨_, H, I.kept fun b o e => ?_, hu2, q _ (List.getElem?_eq_getElem hlt2)⟩
    refine hk b o ?_ (Heap.get?_push_of_some _ e)
    intro z
    have z' : b = s.heap.objs.size := by simpa using z
    have hb := Heap.lt_size e
    rw [z'] at hb
    exact Nat.lt_irrefl _ hb
/-! ### sum of a list or a tuple of ints -/
def rSumF (K : Fg) : List V → Hp → VK → Prop := fun vs H Q => ∃ (a : Addr) (ns : List Int), vs = [V.ref a] ∧ (SqL K H a (ns.map V.int) ∨ SqT K H a (ns.map V.int)) ∧ Q (.int ns.sum) H
theorem sum_tup_raw {prog : Program} {w : World} {A : Around} {E : Value → Shared → Prop} {s : Shared} {l : Addr} {its : List Value} {ns : List Int} {Q : Value → Shared → Prop} (hh : A.handled = none) (hl : s.heap.IsTuple l its.toArray) (hi : IntsAre its ns)
    (h : ∀ h' tk t', (∀ b o, s.heap.get? b = some o → h'.get? b = some o) → Q (.int ns.sum t') { s with heap := h', toks := tk }) : wpAny (model prog w) A (call (.builtin "sum") [.ref l]) Q E s := by
  obtain ⟨xs, e⟩ := hi.allInts.items
  have hn : numsOf (intItems xs).toList = ns := by rw [← e]; exact hi.numsOf
  rw [nums_intItems] at hn
  rw [e] at hl
  have hlt : l < s.heap.objs.size := by obtain ⟨_, e, _⟩ := hl; exact Heap.lt_size e
  refine call_sum_walkG (wpAny_pyIter_tuple hl ?_)
  refine ⟨_, _, _, _, _, _, numAt xs, rfl, Walks.tuple (A := A.in1) hh _ l (Nat.ne_of_lt hlt) (intItems xs), ⟨⟨_, Heap.get?_push_size _ rfl, rfl, rfl⟩, hl.push _⟩, fun b hb => ?_, (fun _ _ => intItems_at), fun h' tk t' hk => ?_⟩
  · show b < (s.heap.push _).objs.size
    rw [Heap.size_push]
    rcases List.mem_cons.mp hb with rfl | hb
    · exact Nat.lt_succ_self _
    · rcases List.mem_cons.mp hb with rfl | hb
      · exact Nat.lt_succ_of_lt hlt
      · cases hb
  · have := h h' tk t' (fun b o e => hk b o (fun z => by
      have z' : b = s.heap.objs.size := by simpa using z
      have hb := Heap.lt_size e
      rw [z'] at hb
      exact Nat.lt_irrefl _ hb) (Heap.get?_push_of_some _ e))
    have hsz : (intItems xs).size = xs.size := by simp [intItems]
    rw [hsz, preSum_eq, List.take_of_length_le (by simp), hn]; exact this
theorem cr_sumF (hc : X.calm = true) : CallR X (.builtin "sum") (rSumF (kw X)) := by
  intro pins s σ H vs us Q I r h
  obtain ⟨a, ns, rfl, hs, q⟩ := h
  rw [Vals.ref1 r]
  rcases hs with hs | hs
  · obtain ⟨its, rv, hl, _⟩ := I.list hs
    exact sum_raw (I.ok.hd hc) hl.isList rv.ints fun h' tk t' hk => ⟨.int _, H, I.kept hk, ⟨_, rfl⟩, q⟩
  · obtain ⟨its, rv, hl, _⟩ := I.tuple hs
    exact sum_tup_raw (I.ok.hd hc) hl rv.ints fun h' tk t' hk => ⟨.int _, H, I.kept hk, ⟨_, rfl⟩, q⟩
end
end Fx
set_option Elab.async false
set_option linter.all false
set_option maxRecDepth 100000
set_option maxHeartbeats 4000000
/-! Fx: comprehensions as expressions, pairs of stores, lists that change, defs and their calls. -/
namespace Fx
open PySem PySem.Spec PyProof.Rows L2
section
variable {X : Cx} {B : Bs} {a b c e elt iter tg : Expr} {ma mb mc melt : ME} {pos p : Pos} {es ifs : List Expr} {ms : List ME} {it : MI} {t : Tg} {cC : Env → Option Bool} {scope : Scope} {own : List (Str × Nat)}
theorem se_lc {ws : List Nat} (hc : X.calm = true) (hN : X.N.Nodup) (hi : SimI X B tg iter it) (ok : BlkOk X.N X.env.scope scope own) (hws : own.map (·.2) = ws)
    (hg : ∀ (s : Shared) (H : Hp) (C : Addr) (cl : List (Str × Addr)) (fp : List Addr), SimG (X.blk s H scope (compEnvC scope cl C X.env) fp) B tg t)
    (ht : ∀ (s : Shared) (H : Hp) (C : Addr) (cl : List (Str × Addr)) (fp : List Addr), SimTs (X.blk s H scope (compEnvC scope cl C X.env) fp) B ifs cC)
    (he : ∀ (s : Shared) (H : Hp) (C : Addr) (cl : List (Str × Addr)) (fp : List Addr), SimE (X.blk s H scope (compEnvC scope cl C X.env) fp) B elt melt)
    (hsub : ∀ j ∈ t.slots, j ∈ ws) (hs : ∀ x, foldedSetIterable iter X.env x = pure x := by intro _; rfl) :
    SimE X B (.ListComp elt [⟨tg, iter, ifs, 0⟩] scope pos) (eLc it t cC melt ws) := by
  subst hws
  exact (pe_lc hc hN hi ok hg ht he hs).imp fun σ H Q hq => lc_imp hsub hq
theorem ss_setLc (i : Nat) {y : Str} {py spos : Pos} {ws : List Nat} (hc : X.calm = true) (hN : X.N.Nodup) (hi : SimI X B tg iter it) (ok : BlkOk X.N X.env.scope scope own) (hws : own.map (·.2) = ws)
    (hg : ∀ (s : Shared) (H : Hp) (C : Addr) (cl : List (Str × Addr)) (fp : List Addr), SimG (X.blk s H scope (compEnvC scope cl C X.env) fp) B tg t)
    (ht : ∀ (s : Shared) (H : Hp) (C : Addr) (cl : List (Str × Addr)) (fp : List Addr), SimTs (X.blk s H scope (compEnvC scope cl C X.env) fp) B ifs cC)
    (he : ∀ (s : Shared) (H : Hp) (C : Addr) (cl : List (Str × Addr)) (fp : List Addr), SimE (X.blk s H scope (compEnvC scope cl C X.env) fp) B elt melt)
    (hsub : ∀ j ∈ t.slots, j ∈ ws) (hy : X.N[i]? = some y := by rfl) (hyl : X.env.scope.names.lookup y = some .local := by rfl)
    (hsw : swapsWith (.ListComp elt [⟨tg, iter, ifs, 0⟩] scope pos) (some (.Name y py)) spos.line X.env = pure true := by rfl) (hs : ∀ x, foldedSetIterable iter X.env x = pure x := by intro _; rfl) :
    SimS X B (.Assign [.Name y py] (.ListComp elt [⟨tg, iter, ifs, 0⟩] scope pos) spos) (sSet i (eLc it t cC melt ws)) := by
  subst hws
  refine (ps_setLc (te := SE (kw X) B melt) (g := SG (kw X) B t) (tt := ST (kw X) B cC) hc hN hy hyl hsw hi ok hg ht he hs).imp fun D σ H ⟨e, T, f, e', hl, ok, hm, q⟩ => ?_
  obtain ⟨y, hy, h2⟩ := Option.bind_eq_some_iff.mp hm
  by_cases hk : y.keepable = true
  · rw [if_pos hk] at h2
    obtain ⟨e1, h3, h4⟩ := Option.map_eq_some_iff.mp h2
    cases h4
    exact lc_imp hsub ⟨e, T, y, hl, ok.ok, hy, fun v H1 ok1 => q _ _ (len_store hl h3) ⟨ok1.store h3, nv_store ok.nv h3 hk⟩⟩
  · rw [if_neg hk] at h2; cases h2
/-- two values stored -/
theorem par_imp {K : Fg} {i j : Nat} {D : Ends} {σ : L2.St} {H : Hp} (h : SS K B (sPar i j ma mb) D σ H) {R : V → V → Hp → Prop}
    (q : ∀ v w H', (∀ H'', (∀ L, Ok K B L H' → Ok K B L H'') → D.nx ((σ.set i (some v)).set j (some w)) H'') → R v w H') : SE K B ma σ H fun v H1 => SE K B mb σ H1 fun w H2 => R v w H2 := by
  obtain ⟨e, T, f, e', hl, ok, hm, q2⟩ := h
  obtain ⟨x, hx, h2⟩ := Option.bind_eq_some_iff.mp hm
  obtain ⟨y, hy, h3⟩ := Option.bind_eq_some_iff.mp h2
  by_cases hk : (x.keepable && y.keepable) = true
  · rw [if_pos hk] at h3
    obtain ⟨k1, k2⟩ := Bool.and_eq_true_iff.mp hk
    obtain ⟨e1, h4, h5⟩ := Option.bind_eq_some_iff.mp h3
    obtain ⟨e2, h6, h7⟩ := Option.map_eq_some_iff.mp h5
    cases h7
    refine ⟨e, T, x, hl, ok.ok, hx, fun v H1 ok1 => ⟨e, (some v, x) :: T, y, hl, ok1.mid, hy, fun w H2 ok2 => q v w H2 fun H3 mono => ?_⟩⟩
    have ok3 : Ok K B ((some v, x) :: (σ.zip e ++ ((some w, y) :: T))) H2 := by
      refine ok2.perm ?_
      refine List.Perm.trans (List.Perm.cons _ List.perm_middle) ?_
      refine (List.Perm.swap _ _ _).trans (List.Perm.cons _ ?_)
      exact List.perm_middle.symm
    have ok4 := (ok3.store (i := i) h4).unmid
    have ok5 := ok4.store (i := j) h6
    exact q2 _ _ (len_store (len_store hl h4) h6) ⟨mono _ ok5, nv_store (nv_store ok.nv h4 k1) h6 k2⟩
  · rw [if_neg hk] at h3; cases h3
theorem ss_par (i j : Nat) {x y : Str} {px py pt : Pos} {kt k2 pt2} (hc : X.calm = true) (hN : X.N.Nodup) (ha : SimE X B a ma) (hb : SimE X B b mb) (hi : X.N[i]? = some x := by rfl) (hj : X.N[j]? = some y := by rfl) (hij : i ≠ j := by decide)
    (hx : X.env.scope.names.lookup x = some .local := by rfl) (hy : X.env.scope.names.lookup y = some .local := by rfl) (hs1 : starEach [a, b] X.env = (false, eval a X.env) :: starEach [b] X.env := by rfl) (hs2 : starEach [b] X.env = (false, eval b X.env) :: starEach [] X.env := by rfl)
    (hw : swappedStores [.Tuple [.Name x px, .Name y py] kt pt] (.Tuple [a, b] k2 pt2) X.env = pure (some [x, y]) := by rfl)
    (hs : swapsWithSole [.Tuple [.Name x px, .Name y py] kt pt] (.Tuple [a, b] k2 pt2) pos.line X.env = pure false := by rfl) :
    SimS X B (.Assign [.Tuple [.Name x px, .Name y py] kt pt] (.Tuple [a, b] k2 pt2) pos) (sPar i j ma mb) :=
  (ps_par hc hN hi hj hij hx hy (pa_cons ha (pa_cons hb pa_nil hs2) hs1) hw hs).imp fun D σ H h =>
    par_imp h fun v w H' q => ⟨v, w, rfl, q H' fun _ z => z⟩
/-- .. by a pair that no one keeps -/
theorem ss_parT (i j : Nat) {x y : Str} {px py pt : Pos} {kt k2 pt2} (hc : X.calm = true) (hN : X.N.Nodup) (ha : SimE X B a ma) (hb : SimE X B b mb) (hi : X.N[i]? = some x := by rfl) (hj : X.N[j]? = some y := by rfl)
    (hx : Loc X.env.scope x := by first | exact .inl rfl | exact .inr rfl) (hy : Loc X.env.scope y := by first | exact .inl rfl | exact .inr rfl) (hs1 : starEach [a, b] X.env = (false, eval a X.env) :: starEach [b] X.env := by rfl) (hs2 : starEach [b] X.env = (false, eval b X.env) :: starEach [] X.env := by rfl)
    (hf : X.fn x = true ∨ X.env.scope.names.lookup x = some .local := by first | exact .inl rfl | exact .inr rfl) (hf2 : X.fn y = true ∨ X.env.scope.names.lookup y = some .local := by first | exact .inl rfl | exact .inr rfl)
    (hs : swapsWithSole [.Tuple [.Name x px, .Name y py] kt pt] (.Tuple [a, b] k2 pt2) pos.line X.env = pure false := by rfl) (hw : swappedStores [.Tuple [.Name x px, .Name y py] kt pt] (.Tuple [a, b] k2 pt2) X.env = pure none := by rfl)
    (h1 : (assignEach [.Tuple [.Name x px, .Name y py] kt pt] X.env).map (·.2) = [assign (.Tuple [.Name x px, .Name y py] kt pt) X.env] := by rfl)
    (h2 : (assignEach [.Name x px, .Name y py] X.env).map (·.2) = assign (.Name x px) X.env :: (assignEach [.Name y py] X.env).map (·.2) := by rfl) (h3 : (assignEach [.Name y py] X.env).map (·.2) = assign (.Name y py) X.env :: (assignEach [] X.env).map (·.2) := by rfl)
    (h4 : (assignEach [.Name x px, .Name y py] X.env).length = 2 := by rfl) (h5 : (assignEach [.Name x px, .Name y py] X.env).findIdx? (·.1) = none := by rfl) :
    SimS X B (.Assign [.Tuple [.Name x px, .Name y py] kt pt] (.Tuple [a, b] k2 pt2) pos) (sPar i j ma mb) :=
  (ps_asg (pe_tup (pa_cons ha (pa_cons hb pa_nil hs2) hs1)) (pg_tup hc (pgs_cons (pg_name hN hi hx hf) (pgs_cons (pg_name hN hj hy hf2) pgs_nil h3) h2) h4 h5) hs hw h1).imp fun D σ H h =>
    par_imp h fun v w H' q => by
      refine ⟨by rw [sizeLine_eq]; show 2 ≤ 16777216; decide, fun p hp => ⟨p, [v, w], rfl, .inl (.inl upd_same), rfl, v, [w], rfl, w, [], rfl, rfl, ?_⟩⟩
      refine q _ fun L ⟨Hs, h⟩ => ⟨Hs, ?_⟩
      have g : Grow Hs H' Hs (L2.upd H' p (.tup [v, w])) := ⟨Same.upd hp, Same.refl _, h.gr.sub.trans (Same.upd hp), fun _ _ z => z⟩
      exact ⟨h.gr.trans g, fun c hc => (h.cells c hc).mono g, h.sep⟩
/-! ### lists that change -/
theorem ss_append (i : Nat) {x : Str} {px apos cpos : Pos} (ha : SimE X B a ma) (hN : X.N[i]? = some x := by rfl) (hv : Vis X.env.scope x := by first | exact Or.inl rfl | exact Or.inr (Or.inl rfl) | exact Or.inr (Or.inr rfl))
    (hd : (x == ("__debug__" : Str)) = false := by decide) (hcd : (x == ("__classdict__" : Str)) = false := by decide)
    (hb : attributeBase (.Name x px) "append" X.env (eval (.Name x px) X.env) = eval (.Name x px) X.env := by rfl)
    (hfew : ((backTo cpos (starEach [a] X.env)).all (fun x => !x.1) && (backToKw cpos (keywordEach [] X.env)).all (fun x => x.1.isSome)
      && decide ([a].length + ([] : List Keyword).length + (if ([] : List Keyword).isEmpty then 0 else 1) < 30)) = true := by rfl)
    (hline : (apos.endLine == cpos.line) = true := by rfl) (hs : starEach [a] X.env = (false, eval a X.env) :: starEach [] X.env := by rfl) (hpl : (backTo cpos (starEach [] X.env)).any (·.1) = false := by rfl)
    (hsw : swapsWith (.Call (.Attribute (.Name x px) "append" apos) [a] [] cpos) none pos.line X.env = pure false := by rfl) :
    SimS X B (.Expr (.Call (.Attribute (.Name x px) "append" apos) [a] [] cpos) pos) (sAppend i ma) :=
  (ps_expr (pe_bm PySem.F.plainAttrs_list PySem.F.slot_list_append PySem.F.type_list_append mt_append (pe_var (i := i) hN hv hd hcd) (pa_cons ha pa_nil hs) hb hfew hline hs hpl) hsw).imp fun D σ H ⟨e, T, f, e', hl, ok, hm, q⟩ => by
    obtain ⟨⟨d, mk⟩, how, h2⟩ := Option.bind_eq_some_iff.mp hm
    obtain ⟨d2, hd2, h3⟩ := Option.bind_eq_some_iff.mp h2
    cases h3
    cases d <;> first | (cases hd2; done) | skip
    rename_i l
    obtain ⟨y, hy, h4⟩ := Option.bind_eq_some_iff.mp hd2
    obtain ⟨dy, hdy, h5⟩ := Option.bind_eq_some_iff.mp h4
    by_cases hz : l.length < line
    · rw [if_pos hz] at h5
      cases h5
      obtain ⟨he, hmk⟩ := owned_eq how
      obtain ⟨o, z1, z2⟩ := zip_at hl he
      -- where the list stands
      have at_ : ∀ {H : Hp} {L : List Cell} {Hs : Hp}, OkAt (kw X) B L Hs H → (o, mk (.lst l)) ∈ L → ∃ p vs, o = some (.ref p) ∧ H p = some (.lst vs) ∧ RpL (kw X) Hs l vs := fun {H L Hs} h hm => by
        have hc := h.cells _ hm
        rcases hmk with rfl | ⟨n, rfl⟩
        · obtain ⟨v, ev, p, ep, _, _, vs, h1, h2⟩ := hc
          have ev' : o = some v := ev
          subst ev'; subst ep
          exact ⟨p, vs, rfl, h1, h2⟩
        · obtain ⟨v, ev, _, p, ep, _, _, vs, h1, h2⟩ := hc
          have ev' : o = some v := ev
          subst ev'; subst ep
          exact ⟨p, vs, rfl, h1, h2⟩
      obtain ⟨Hs0, ok0⟩ := ok.ok
      obtain ⟨p, vs0, eo, hp0, _⟩ := at_ ok0 (List.mem_append_left T z2)
      subst eo
      refine ⟨.ref p, z1, .inl ⟨rfl, _, .inl (.inl hp0)⟩, ?_⟩
      refine ⟨e, T, y, hl, ok.ok, hy, fun v H1 ok1 => ?_⟩
      obtain ⟨v', ev, ok2⟩ := ok1.fz hdy
      cases ev
      obtain ⟨Hs, ok2⟩ := ok2
      obtain ⟨w, ew, rv⟩ := ok2.cells _ List.mem_cons_self
      cases ew
      obtain ⟨p', vs, eo, hp, hr⟩ := at_ ok2 (List.mem_cons_of_mem _ (List.mem_append_left T z2))
      cases eo
      refine ⟨p, vs, v, rfl, rfl, hp, by rw [← hr.length, ← sizeLine_eq']; exact hz, ?_⟩
      obtain ⟨m1, m2⟩ := OkS.mut (d' := .lst (l ++ [dy])) (o := .lst (vs ++ [v])) (x := .non) hl how ok.nv z1 (ok2.sub (.cons _ (List.Sublist.refl _))) ⟨_, upd_same, hr.snoc rv⟩
      exact q σ _ m2 m1
    · rw [if_neg hz] at h5; cases h5
end
/-! ### defs and their calls -/
/-- a def's promise, no repr under way -/
structure FnG (P : Program) (w : World) (K : PySem.W.Frag) (mg : Str → Option Value) (base : Heap) (CX : CXT) (k : Nat) (f : Addr) (fd : FuncData) (ps : List Str) (sp : Sp) : Prop where
  len : ∀ vs H Q E, sp vs H Q E → vs.length = ps.length
  run : ∀ (A : Around) (outer : List PySem.Env) (s : Shared) (H : Hp) (args : Args) (us : List Value) (vs : List V) (Q : VK) (E : XK), Room k A → A.guards = some [] →
    Env0 P w K mg base A outer s H → BindsTo s fd args (ps.zip us) → Vals vs us → sp vs H Q E → codeAny (model P w) A (.call (.ref f) args) (CR CX outer P w H s Q E) s
end Fx
/-! Fx, the mirror of expressions that change what the def changes: they hand on the slots. -/
set_option linter.all false
namespace Fx
abbrev MX := Env → Option (Sl × Env)
/-- an expression that changes nothing -/
def xP (m : ME) : MX := fun e => (m e).map fun x => (x, e)
def xOp1 (g : D → Option Sl) (a : MX) : MX := fun e => (a e).bind fun p => p.1.val.bind fun d => (g d).map fun y => (y, p.2)
def xOp2 (g : D → D → Option Sl) (a b : MX) : MX := fun e => (a e).bind fun p => if p.1.keepable = true then p.1.val.bind fun d => (b p.2).bind fun q => q.1.val.bind fun d2 => (g d d2).map fun y => (y, q.2) else none
/-- an argument: a value; a new object that the callee changes; a name whose object it changes -/
inductive Ag where
  | val (m : MX)
  | own (m : MX)
  | io (i : Nat)
inductive Pa where
  | sh (d : D)
  | own (d : D)
  | io (i : Nat)
def xArgs : List Ag → Env → Option (List Pa × Env)
  | [], e => some ([], e)
  | .val m :: r, e => (m e).bind fun p => p.1.fz.bind fun d => (xArgs r p.2).map fun q => (.sh d :: q.1, q.2)
  | .own m :: r, e => (m e).bind fun p => match p.1 with
    | .own d => (xArgs r p.2).map fun q => (.own d :: q.1, q.2)
    | _ => none
  | .io i :: r, e => (owned e i).bind fun _ => (xArgs r e).map fun q => (.io i :: q.1, q.2)
/-- the way back of a changed object: to a name, or nowhere -/
abbrev Ret := Option (Nat × (D → Sl))
structure Tk where
  args : List Sl
  rets : List Ret
  ds : List D
  e : Env
def takeA : Nat → List Pa → Env → Option Tk
  | _, [], e => some ⟨[], [], [], e⟩
  | k, .sh d :: r, e => (takeA k r e).map fun t => ⟨.sh d :: t.args, t.rets, t.ds, t.e⟩
  | k, .own d :: r, e => (takeA (k + 1) r e).map fun t => ⟨.io k d :: t.args, none :: t.rets, d :: t.ds, t.e⟩
  | k, .io i :: r, e => (owned e i).bind fun p => (takeA (k + 1) r (e.set i .un)).map fun t => ⟨.io k p.1 :: t.args, some (i, p.2) :: t.rets, p.1 :: t.ds, t.e⟩
def giveA : List Ret → List D → Env → Option Env
  | [], [], e => some e
  | none :: r, _ :: ds, e => giveA r ds e
  | some (i, mk) :: r, d :: ds, e => giveA r ds (e.set i (mk d))
  | _, _, _ => none
/-- what a def does that changes some of its parameters: what it returns, and what it leaves in them -/
abbrev FX := List Sl → Option (Sl × List D)
def xCall (f : FX) (ags : List Ag) : MX := fun e => (xArgs ags e).bind fun p => (takeA 0 p.1 p.2).bind fun t => (f t.args).bind fun q => q.1.out.bind fun r => (giveA t.rets q.2 t.e).map fun e3 => (r, e3)
def getIo : Nat → List Nat → Env → Option (List D)
  | _, [], _ => some []
  | k, i :: is, e => match e[i]? with
    | some (.io n d) => if n = k then (getIo (k + 1) is e).map (d :: ·) else none
    | _ => none
/-- a def by its body: np parameters, ns names, the parameters at ios are changed -/
def mDefX (np ns : Nat) (ios : List Nat) (body : MS) : FX := fun args =>
  if args.length = np then (body (args ++ List.replicate (ns - np) .un)).bind fun q => (match q.1 with
    | .rt v => v.out
    | .nx => some (.sh .non)
    | _ => none).bind fun v => (getIo 0 ios q.2).map fun outs => (v, outs)
  else none
/-! ### displays, tests -/
def xAll : List MX → Env → Option (List D × Env)
  | [], e => some ([], e)
  | m :: ms, e => (m e).bind fun p => p.1.fz.bind fun d => (xAll ms p.2).map fun q => (d :: q.1, q.2)
def xTup (l : List MX) : MX := fun e => (xAll l e).bind fun p => if p.1.length ≤ line then some (.sh (.tup p.1), p.2) else none
def xLst (l : List MX) : MX := fun e => (xAll l e).bind fun p => if p.1.length ≤ line then some (.own (.lst p.1), p.2) else none
abbrev MT := Env → Option (Bool × Env)
def xTst (m : MX) : MT := fun e => (m e).bind fun p => p.1.val.bind fun d => d.tr.map fun b => (b, p.2)
def xT (c : Env → Option Bool) : MT := fun e => (c e).map fun b => (b, e)
/-! ### statements -/
def xSet (i : Nat) (a : MX) : MS := fun e => (a e).bind fun p => if p.1.keepable = true then (setSl i p.1 p.2).map fun e1 => (.nx, e1) else none
def xUnpack (t : Tg) (a : MX) : MS := fun e => (a e).bind fun p => p.1.fz.bind fun d => (t.bind d p.2).map fun e1 => (.nx, e1)
def xRet (a : MX) : MS := fun e => (a e).map fun p => (.rt p.1, p.2)
def xDrop (a : MX) : MS := fun e => (a e).map fun p => (.nx, p.2)
def xIf (c : MT) (a b : MS) : MS := fun e => (c e).bind fun p => if p.1 = true then a p.2 else b p.2
def xPar (i j : Nat) (a b : MX) : MS := fun e => (a e).bind fun p => if p.1.keepable = true then (b p.2).bind fun q => if q.1.keepable = true then (setSl i p.1 q.2).bind fun e1 => (setSl j q.1 e1).map fun e2 => (.nx, e2) else none else none
def xAug (g : D → D → Option Sl) (i : Nat) (a : MX) : MS := fun e => (e[i]?).bind fun x => match x with
  | .sh dx => (a e).bind fun p => p.1.val.bind fun dy => (g dx dy).bind fun r => match r with
    | .sh d => (setSl i (.sh d) p.2).map fun e1 => (.nx, e1)
    | _ => none
  | _ => none
def xAppend (i : Nat) (a : MX) : MS := fun e => (a e).bind fun p => p.1.fz.bind fun y => (owned p.2 i).bind fun q => match q.1 with
  | .lst l => if l.length < line then some (.nx, p.2.set i (q.2 (.lst (l ++ [y])))) else none
  | _ => none
end Fx
set_option Elab.async false
set_option linter.all false
set_option maxRecDepth 100000
set_option maxHeartbeats 4000000
/-! Fx: expressions that change; the frame about a call. -/
namespace Fx
open PySem PySem.Spec PyProof.Rows L2
/-- an expression that may change, by its mirror -/
def SX (K : Fg) (B : Bs) (m : MX) : TE := fun σ H Q => ∃ (e : Env) (T : List Cell) (x : Sl) (e' : Env), σ.length = e.length ∧ OkS K B (σ.zip e ++ T) H ∧ m e = some (x, e') ∧
  ∀ v H', σ.length = e'.length → nvE e' → Ok K B ((some v, x) :: (σ.zip e' ++ T)) H' → Q v H'
def hand : List V → List Pa → List Cell
  | v :: vs, .sh d :: ps => (some v, .sh d) :: hand vs ps
  | v :: vs, .own d :: ps => (some v, .own d) :: hand vs ps
  | v :: vs, .io _ :: ps => (some v, .un) :: hand vs ps
  | _, _ => []
def IoAt (σ : L2.St) : List V → List Pa → Prop
  | [], [] => True
  | _ :: vs, .sh _ :: ps => IoAt σ vs ps
  | _ :: vs, .own _ :: ps => IoAt σ vs ps
  | v :: vs, .io i :: ps => σ[i]? = some (some v) ∧ IoAt σ vs ps
  | _, _ => False
def SAX (K : Fg) (B : Bs) (ags : List Ag) : TA := fun σ H Q => ∃ (e : Env) (T : List Cell) (ps : List Pa) (e' : Env), σ.length = e.length ∧ OkS K B (σ.zip e ++ T) H ∧ xArgs ags e = some (ps, e') ∧
  ∀ vs H', vs.length = ps.length → σ.length = e'.length → nvE e' → IoAt σ vs ps → Ok K B (hand vs ps ++ (σ.zip e' ++ T)) H' → Q vs H'
abbrev SimX (X : Cx) (B : Bs) (e : Expr) (m : MX) : Prop := PE X e (SX (kw X) B m)
abbrev SimAX (X : Cx) (B : Bs) (es : List Expr) (ags : List Ag) : Prop := PA X es (SAX (kw X) B ags)
theorem nv_tl {A T : List Cell} (h : nv (A ++ T)) : nv T := fun c hc => h c (List.mem_append_right _ hc)
section
variable {X : Cx} {B : Bs} {a b c e : Expr} {ma mb mc : ME} {xa xb : MX} {pos p : Pos} {es : List Expr} {ags : List Ag}
theorem sx_pure (h : SimE X B a ma) : SimX X B a (xP ma) := h.imp fun σ H Q ⟨e, T, x, e', hl, ok, hm, q⟩ => by
  obtain ⟨y, hy, h2⟩ := Option.map_eq_some_iff.mp hm
  cases h2
  exact ⟨e, T, x, hl, ok.ok, hy, fun v H' ok' => q v H' hl (nvE_of hl ok.nv) ok'⟩
theorem sx_op1 {r : V → Hp → VK → Prop} {g : D → Option Sl} (hg : R1Ok (kw X) r g) (ha : SimX X B a xa) (h : ∀ ta, PE X a ta → PE X e (tUn r ta)) : SimX X B e (xOp1 g xa) := (h _ ha).imp fun σ H Q ⟨e, T, x, e', hl, ok, hm, q⟩ => by
  obtain ⟨⟨y, e1⟩, hy, h2⟩ := Option.bind_eq_some_iff.mp hm
  obtain ⟨d, hd, h3⟩ := Option.bind_eq_some_iff.mp h2
  obtain ⟨z, hz, h4⟩ := Option.map_eq_some_iff.mp h3
  cases h4
  refine ⟨e, T, y, e1, hl, ok, hy, fun v H' hl' hn ok' => ?_⟩
  obtain ⟨Hs, ok'⟩ := ok'
  obtain ⟨v', ev, hv⟩ := (ok'.cells _ List.mem_cons_self).read ok'.gr.sub hd
  cases ev
  exact hg B (σ.zip e1 ++ T) Hs H' d v x Q (ok'.sub (.cons _ (List.Sublist.refl _))) hv hz fun w H2 ok2 => q w H2 hl' hn ok2
theorem sx_op2 {r : R2} {g : D → D → Option Sl} (hg : R2Ok (kw X) r g) (ha : SimX X B a xa) (hb : SimX X B b xb) (h : ∀ ta tb, PE X a ta → PE X b tb → PE X e (tOp r ta tb)) : SimX X B e (xOp2 g xa xb) := (h _ _ ha hb).imp fun σ H Q ⟨e, T, x, e', hl, ok, hm, q⟩ => by
  obtain ⟨⟨y, e1⟩, hy, h2⟩ := Option.bind_eq_some_iff.mp hm
  by_cases hk : y.keepable = true
  · rw [if_pos hk] at h2
    obtain ⟨d, hd, h3⟩ := Option.bind_eq_some_iff.mp h2
    obtain ⟨⟨z, e2⟩, hz, h4⟩ := Option.bind_eq_some_iff.mp h3
    obtain ⟨d2, hd2, h5⟩ := Option.bind_eq_some_iff.mp h4
    obtain ⟨u, hu, h6⟩ := Option.map_eq_some_iff.mp h5
    cases h6
    refine ⟨e, T, y, e1, hl, ok, hy, fun v H1 hl1 hn1 ok1 => ?_⟩
    refine ⟨e1, (some v, y) :: T, z, e2, hl1, ⟨ok1.mid, nv_zip hn1 (nv_push (nv_tl ok.nv) (nv_keep hk))⟩, hz, fun w H2 hl2 hn2 ok2 => ?_⟩
    obtain ⟨Hs, ok2⟩ := ok2
    obtain ⟨w', ew, hw⟩ := (ok2.cells _ List.mem_cons_self).read ok2.gr.sub hd2
    cases ew
    obtain ⟨v', ev, hv⟩ := (ok2.cells _ (List.mem_cons_of_mem _ (List.mem_append_right _ List.mem_cons_self))).read ok2.gr.sub hd
    cases ev
    exact hg B (σ.zip e2 ++ T) Hs H2 d d2 v w x Q (ok2.sub (.cons _ (sub_mid _ _ _))) hv hw hu fun w H2 ok2 => q w H2 hl2 hn2 ok2
  · rw [if_neg hk] at h2; cases h2
theorem sax_nil : SimAX X B [] [] := pa_nil.imp fun σ H Q ⟨e, T, ps, e', hl, ok, hm, q⟩ => by
  cases hm
  exact q [] H rfl hl (nvE_of hl ok.nv) trivial ok.ok
theorem sax_val (ha : SimX X B a xa) (hr : SimAX X B es ags) (hs : starEach (a :: es) X.env = (false, eval a X.env) :: starEach es X.env := by rfl) : SimAX X B (a :: es) (.val xa :: ags) := (pa_cons ha hr hs).imp fun σ H Q ⟨e, T, ps, e', hl, ok, hm, q⟩ => by
  obtain ⟨⟨y, e1⟩, hy, h2⟩ := Option.bind_eq_some_iff.mp hm
  obtain ⟨d, hd, h3⟩ := Option.bind_eq_some_iff.mp h2
  obtain ⟨⟨pr, e2⟩, hpr, h4⟩ := Option.map_eq_some_iff.mp h3
  cases h4
  refine ⟨e, T, y, e1, hl, ok, hy, fun v H1 hl1 hn1 ok1 => ?_⟩
  obtain ⟨v', ev, ok2⟩ := ok1.fz hd
  cases ev
  refine ⟨e1, (some v, .sh d) :: T, pr, e2, hl1, ⟨ok2.mid, nv_zip hn1 (nv_push (nv_tl ok.nv) fun _ z => by cases z)⟩, hpr, fun vs H2 hlen hl2 hn2 hio ok3 => q (v :: vs) H2 (by simpa using hlen) hl2 hn2 hio ?_⟩
  show Ok (kw X) B ((some v, .sh d) :: (hand vs pr ++ (σ.zip e2 ++ T))) H2
  refine ok3.perm ?_
  rw [← List.append_assoc, ← List.append_assoc]
  exact List.perm_middle
theorem sax_own (ha : SimX X B a xa) (hr : SimAX X B es ags) (hs : starEach (a :: es) X.env = (false, eval a X.env) :: starEach es X.env := by rfl) : SimAX X B (a :: es) (.own xa :: ags) := (pa_cons ha hr hs).imp fun σ H Q ⟨e, T, ps, e', hl, ok, hm, q⟩ => by
  obtain ⟨⟨y, e1⟩, hy, h2⟩ := Option.bind_eq_some_iff.mp hm
  cases y with
  | own d =>
    obtain ⟨⟨pr, e2⟩, hpr, h4⟩ := Option.map_eq_some_iff.mp h2
    cases h4
    refine ⟨e, T, .own d, e1, hl, ok, hy, fun v H1 hl1 hn1 ok1 => ?_⟩
    refine ⟨e1, (some v, .own d) :: T, pr, e2, hl1, ⟨ok1.mid, nv_zip hn1 (nv_push (nv_tl ok.nv) fun _ z => by cases z)⟩, hpr, fun vs H2 hlen hl2 hn2 hio ok3 => q (v :: vs) H2 (by simpa using hlen) hl2 hn2 hio ?_⟩
    show Ok (kw X) B ((some v, .own d) :: (hand vs pr ++ (σ.zip e2 ++ T))) H2
    refine ok3.perm ?_
    rw [← List.append_assoc, ← List.append_assoc]
    exact List.perm_middle
  | _ => cases h2
theorem owned_at {i : Nat} {σ : L2.St} {e : Env} {T : List Cell} {K : Fg} {H : Hp} {p : D × (D → Sl)} (hl : σ.length = e.length) (ok : Ok K B (σ.zip e ++ T) H) (h : owned e i = some p) : ∃ a, σ[i]? = some (some (.ref a)) := by
  obtain ⟨he, hmk⟩ := owned_eq (d := p.1) (mk := p.2) h
  obtain ⟨o, z1, z2⟩ := zip_at hl he
  obtain ⟨Hs, ok⟩ := ok
  have hc := ok.cells _ (List.mem_append_left T z2)
  rcases hmk with q | ⟨n, q⟩
  · rw [q] at hc
    obtain ⟨v, ev, a, ea, _⟩ := hc
    have ev' : o = some v := ev
    subst ev'; subst ea
    exact ⟨a, z1⟩
  · rw [q] at hc
    obtain ⟨v, ev, _, a, ea, _⟩ := hc
    have ev' : o = some v := ev
    subst ev'; subst ea
    exact ⟨a, z1⟩
theorem sax_io (i : Nat) {x : Str} (hr : SimAX X B es ags) (hN : X.N[i]? = some x := by rfl) (hv : Vis X.env.scope x := by first | exact Or.inl rfl | exact Or.inr (Or.inl rfl) | exact Or.inr (Or.inr rfl)) (hd : (x == ("__debug__" : Str)) = false := by decide)
    (hcd : (x == ("__classdict__" : Str)) = false := by decide) (hs : starEach (.Name x pos :: es) X.env = (false, eval (.Name x pos) X.env) :: starEach es X.env := by rfl) : SimAX X B (.Name x pos :: es) (.io i :: ags) :=
  (pa_cons (pe_var (i := i) hN hv hd hcd) hr hs).imp fun σ H Q ⟨e, T, ps, e', hl, ok, hm, q⟩ => by
    obtain ⟨w, hw, h2⟩ := Option.bind_eq_some_iff.mp hm
    obtain ⟨⟨pr, e2⟩, hpr, h4⟩ := Option.map_eq_some_iff.mp h2
    cases h4
    obtain ⟨a, ha⟩ := owned_at hl ok.ok hw
    refine ⟨.ref a, ha, e, T, pr, e2, hl, ok, hpr, fun vs H2 hlen hl2 hn2 hio ok3 => q (.ref a :: vs) H2 (by simpa using hlen) hl2 hn2 ⟨ha, hio⟩ ?_⟩
    obtain ⟨Hs, ok3⟩ := ok3
    exact ⟨Hs, ok3.push (c := (some (.ref a), .un)) trivial rfl⟩
end
/-! ### the frame about a call -/
/-- the objects that the callee changes, as the caller holds them -/
def rc : Ret → D → Sl
  | none, d => .own d
  | some (_, mk), d => mk d
def pc : List V → List Ret → List D → List Cell
  | v :: ps, r :: rs, d :: ds => (some v, rc r d) :: pc ps rs ds
  | _, _, _ => []
def RetOk (σ : L2.St) : List V → List Ret → Prop
  | [], [] => True
  | _ :: ps, none :: rs => RetOk σ ps rs
  | v :: ps, some (i, mk) :: rs => σ[i]? = some (some v) ∧ (mk = .own ∨ ∃ n, mk = .io n) ∧ RetOk σ ps rs
  | _, _ => False
inductive Mt : Nat → List V → List Sl → List V → List D → List Cell → Prop
  | nil (k : Nat) : Mt k [] [] [] [] []
  | sh {k : Nat} {vs args ps ds S} (v : V) (d : D) (h : Mt k vs args ps ds S) : Mt k (v :: vs) (.sh d :: args) ps ds ((some v, .sh d) :: S)
  | io {k : Nat} {vs args ps ds S} (v : V) (d : D) (h : Mt (k + 1) vs args ps ds S) : Mt k (v :: vs) (.io k d :: args) (v :: ps) (d :: ds) S
theorem take_ok {K : Fg} {B : Bs} {H : Hp} {σ : L2.St} : ∀ {pas : List Pa} {vs : List V} {k : Nat} {e : Env} {t : Tk} {T : List Cell}, vs.length = pas.length → σ.length = e.length → nvE e → IoAt σ vs pas → takeA k pas e = some t → Ok K B (hand vs pas ++ (σ.zip e ++ T)) H →
    ∃ ps S, Mt k vs t.args ps t.ds S ∧ RetOk σ ps t.rets ∧ σ.length = t.e.length ∧ nvE t.e ∧ nv S ∧ Ok K B (pc ps t.rets t.ds ++ (S ++ (σ.zip t.e ++ T))) H
  | [], [], k, e, t, T, _, hl, hn, _, ht, ok => by
    cases ht
    exact ⟨[], [], .nil k, trivial, hl, hn, fun c hc => (by cases hc), ok⟩
  | .sh d :: pas, v :: vs, k, e, t, T, hlen, hl, hn, hio, ht, ok => by
    obtain ⟨t1, h1, h2⟩ := Option.map_eq_some_iff.mp ht
    subst h2
    have ok' : Ok K B (hand vs pas ++ (σ.zip e ++ ((some v, .sh d) :: T))) H := ok.perm (by
      show ((some v, Sl.sh d) :: (hand vs pas ++ (σ.zip e ++ T))).Perm _
      rw [← List.append_assoc, ← List.append_assoc]
      exact List.perm_middle.symm)
    obtain ⟨ps, S, m, r, hl', hn', hS, ok2⟩ := take_ok (pas := pas) (vs := vs) (by simpa using hlen) hl hn hio h1 ok'
    refine ⟨ps, (some v, .sh d) :: S, .sh v d m, r, hl', hn', nv_push hS (fun _ z => by cases z), ok2.perm ?_⟩
    refine List.Perm.append_left _ ?_
    show (S ++ (σ.zip t1.e ++ (some v, Sl.sh d) :: T)).Perm ((some v, Sl.sh d) :: (S ++ (σ.zip t1.e ++ T)))
    rw [← List.append_assoc, ← List.append_assoc]
    exact List.perm_middle
  | .own d :: pas, v :: vs, k, e, t, T, hlen, hl, hn, hio, ht, ok => by
    obtain ⟨t1, h1, h2⟩ := Option.map_eq_some_iff.mp ht
    subst h2
    have ok' : Ok K B (hand vs pas ++ (σ.zip e ++ ((some v, .own d) :: T))) H := ok.perm (by
      show ((some v, Sl.own d) :: (hand vs pas ++ (σ.zip e ++ T))).Perm _
      rw [← List.append_assoc, ← List.append_assoc]
      exact List.perm_middle.symm)
    obtain ⟨ps, S, m, r, hl', hn', hS, ok2⟩ := take_ok (pas := pas) (vs := vs) (by simpa using hlen) hl hn hio h1 ok'
    refine ⟨v :: ps, S, .io v d m, r, hl', hn', hS, ok2.perm ?_⟩
    show (pc ps t1.rets t1.ds ++ (S ++ (σ.zip t1.e ++ (some v, Sl.own d) :: T))).Perm ((some v, Sl.own d) :: (pc ps t1.rets t1.ds ++ (S ++ (σ.zip t1.e ++ T))))
    rw [← List.append_assoc, ← List.append_assoc, ← List.append_assoc, ← List.append_assoc]
    exact List.perm_middle
  | .io i :: pas, v :: vs, k, e, t, T, hlen, hl, hn, hio, ht, ok => by
    obtain ⟨⟨d, mk⟩, h0, ht⟩ := Option.bind_eq_some_iff.mp ht
    obtain ⟨t1, h1, h2⟩ := Option.map_eq_some_iff.mp ht
    subst h2
    obtain ⟨he, hmk⟩ := owned_eq h0
    obtain ⟨A, o, C, z1, z2, z3⟩ := zip_split hl he
    obtain ⟨hi1, hi2⟩ := hio
    rw [hi1] at z2
    cases z2
    have ok' : Ok K B (hand vs pas ++ (σ.zip (e.set i .un) ++ ((some v, mk d) :: T))) H := by
      have h3 : Ok K B ((some v, mk d) :: (hand vs pas ++ ((A ++ C) ++ T))) H := (ok.tl).perm (by
        rw [z1]
        refine (List.Perm.append_left _ (List.Perm.append_right T List.perm_middle)).trans ?_
        exact List.perm_middle)
      obtain ⟨Hs, h4⟩ := h3
      refine Ok.perm ⟨Hs, h4.push (c := (some v, .un)) trivial rfl⟩ ?_
      rw [z3 .un]
      refine List.Perm.symm ?_
      refine (List.Perm.append_left _ (List.Perm.append_right _ List.perm_middle)).trans ?_
      show (hand vs pas ++ ((some v, Sl.un) :: (A ++ C ++ (some v, mk d) :: T))).Perm _
      refine List.perm_middle.trans (List.Perm.cons _ ?_)
      have pm := List.perm_middle (a := ((some v, mk d) : Cell)) (l₁ := hand vs pas ++ (A ++ C)) (l₂ := T)
      simpa only [List.append_assoc] using pm
    have hn2 : nvE (e.set i .un) := fun y hy d => by
      rcases List.mem_or_eq_of_mem_set hy with hy | hy
      · exact hn y hy d
      · rw [hy]; intro z; cases z
    obtain ⟨ps, S, m, r, hl', hn', hS, ok2⟩ := take_ok (pas := pas) (vs := vs) (by simpa using hlen) (by simpa using hl) hn2 hi2 h1 ok'
    refine ⟨v :: ps, S, .io v d m, ⟨hi1, hmk, r⟩, hl', hn', hS, ok2.perm ?_⟩
    show (pc ps t1.rets t1.ds ++ (S ++ (σ.zip t1.e ++ (some v, mk d) :: T))).Perm ((some v, mk d) :: (pc ps t1.rets t1.ds ++ (S ++ (σ.zip t1.e ++ T))))
    rw [← List.append_assoc, ← List.append_assoc, ← List.append_assoc, ← List.append_assoc]
    exact List.perm_middle
  | [], _ :: _, _, _, _, _, hlen, _, _, _, _, _ => by simp at hlen
  | _ :: _, [], _, _, _, _, hlen, _, _, _, _, _ => by simp at hlen
theorem give_ok {K : Fg} {B : Bs} {H : Hp} {σ : L2.St} : ∀ {rs : List Ret} {ps : List V} {ds : List D} {e e' : Env} {T : List Cell}, RetOk σ ps rs → σ.length = e.length → nvE e → giveA rs ds e = some e' → Ok K B (pc ps rs ds ++ (σ.zip e ++ T)) H →
    σ.length = e'.length ∧ nvE e' ∧ Ok K B (σ.zip e' ++ T) H
  | [], [], [], e, e', T, _, hl, hn, h, ok => by cases h; exact ⟨hl, hn, ok⟩
  | none :: rs, _ :: ps, d :: ds, e, e', T, r, hl, hn, h, ok => give_ok (rs := rs) r hl hn h ok.tl
  | some (i, mk) :: rs, v :: ps, d :: ds, e, e', T, ⟨r1, hmk, r⟩, hl, hn, h, ok => by
    have h' : giveA rs ds (e.set i (mk d)) = some e' := h
    have hn2 : nvE (e.set i (mk d)) := fun y hy d' => by
      rcases List.mem_or_eq_of_mem_set hy with hy | hy
      · exact hn y hy d'
      · rw [hy]; intro z; rcases hmk with rfl | ⟨n, rfl⟩ <;> cases z
    refine give_ok (rs := rs) (e := e.set i (mk d)) r (by simpa using hl) hn2 h' ?_
    have ok1 : Ok K B ((some v, mk d) :: (σ.zip e ++ (pc ps rs ds ++ T))) H := ok.perm (by
      show ((some v, mk d) :: (pc ps rs ds ++ (σ.zip e ++ T))).Perm _
      refine List.Perm.cons _ ?_
      rw [← List.append_assoc, ← List.append_assoc]
      exact List.Perm.append_right T List.perm_append_comm)
    have ok2 := ok1.setAt (i := i)
    rw [← zip_set] at ok2
    have es : σ.set i (some v) = σ := by
      apply List.ext_getElem?
      intro j
      by_cases hj : i = j
      · subst hj
        rw [r1, List.getElem?_set_self]
        obtain ⟨hlt, _⟩ := List.getElem?_eq_some_iff.mp r1
        exact hlt
      · rw [List.getElem?_set_ne hj]
    rw [es] at ok2
    refine ok2.perm ?_
    rw [← List.append_assoc, ← List.append_assoc]
    exact List.Perm.append_right T List.perm_append_comm
  | [], [], _ :: _, _, _, _, _, _, _, h, _ => by cases h
  | [], _ :: _, _, _, _, _, r, _, _, _, _ => r.elim
  | none :: _, [], _, _, _, _, r, _, _, _, _ => r.elim
  | some _ :: _, [], _, _, _, _, r, _, _, _, _ => r.elim
  | none :: _, _ :: _, [], _, _, _, _, _, _, h, _ => by cases h
  | some _ :: _, _ :: _, [], _, _, _, _, _, _, h, _ => by cases h
end Fx
set_option Elab.async false
set_option linter.all false
set_option maxRecDepth 100000
set_option maxHeartbeats 4000000
/-! Fx: built-in functions, in, signs. -/
namespace Fx
open PySem PySem.Spec PyProof.Rows L2
/-- a built-in function's promise by values -/
def RC1 (K : Fg) (r : List V → Hp → VK → Prop) (g : D → Option Sl) : Prop := R1Ok K (fun v H Q => r [v] H Q) g
def RC2 (K : Fg) (r : List V → Hp → VK → Prop) (g : D → D → Option Sl) : Prop := R2Ok K (fun v w H Q => r [v, w] H Q) g
section
variable {X : Cx} {B : Bs} {a b e : Expr} {ma mb : ME} {xa xb : MX} {pos p : Pos} {id T : String} {r : List V → Hp → VK → Prop} {g : D → Option Sl} {g2 : D → D → Option Sl} {x : Str}
theorem se_b1 (hc : CallR X (.builtin id) r) (hr : RC1 (kw X) r g) (hm : X.mg x = none) (hv : bootBuiltins x = some (.builtin id)) (ha : SimE X B a ma) (hg : Gl X x := by rfl) (hn : x ≠ "__name__" := by decide) (hdb : (x == ("__debug__" : Str)) = false := by decide)
    (hs : starEach [a] X.env = (false, eval a X.env) :: starEach [] X.env := by rfl) (hpl : (backTo pos (starEach [] X.env)).any (·.1) = false := by rfl) : SimE X B (.Call (.Name x p) [a] [] pos) (eOp1 g ma) :=
  se_op1 hr ha fun ta h => (pe_callB hc hg hm hv (pa_cons h pa_nil hs) hn hdb hs hpl)
theorem se_b2 (hc : CallR X (.builtin id) r) (hr : RC2 (kw X) r g2) (hm : X.mg x = none) (hv : bootBuiltins x = some (.builtin id)) (ha : SimE X B a ma) (hb : SimE X B b mb) (hg : Gl X x := by rfl) (hn : x ≠ "__name__" := by decide) (hdb : (x == ("__debug__" : Str)) = false := by decide)
    (hs : starEach [a, b] X.env = (false, eval a X.env) :: starEach [b] X.env := by rfl) (hs2 : starEach [b] X.env = (false, eval b X.env) :: starEach [] X.env := by rfl) (hpl : (backTo pos (starEach [b] X.env)).any (·.1) = false := by rfl) : SimE X B (.Call (.Name x p) [a, b] [] pos) (eOp2 g2 ma mb) :=
  se_op2 hr ha hb fun ta tb h1 h2 => (pe_callB hc hg hm hv (pa_cons h1 (pa_cons h2 pa_nil hs2) hs) hn hdb hs hpl)
theorem se_t1 (hc : CallR X (.type T) r) (hr : RC1 (kw X) r g) (hm : X.mg x = none) (hv : bootBuiltins x = some (.type T)) (ha : SimE X B a ma) (hg : Gl X x := by rfl) (hn : x ≠ "__name__" := by decide) (hdb : (x == ("__debug__" : Str)) = false := by decide)
    (hs : starEach [a] X.env = (false, eval a X.env) :: starEach [] X.env := by rfl) (hpl : (backTo pos (starEach [] X.env)).any (·.1) = false := by rfl) : SimE X B (.Call (.Name x p) [a] [] pos) (eOp1 g ma) :=
  se_op1 hr ha fun ta h => (pe_callTy hc hg hm hv (pa_cons h pa_nil hs) hn hdb hs hpl)
theorem sx_t1 (hc : CallR X (.type T) r) (hr : RC1 (kw X) r g) (hm : X.mg x = none) (hv : bootBuiltins x = some (.type T)) (ha : SimX X B a xa) (hg : Gl X x := by rfl) (hn : x ≠ "__name__" := by decide) (hdb : (x == ("__debug__" : Str)) = false := by decide)
    (hs : starEach [a] X.env = (false, eval a X.env) :: starEach [] X.env := by rfl) (hpl : (backTo pos (starEach [] X.env)).any (·.1) = false := by rfl) : SimX X B (.Call (.Name x p) [a] [] pos) (xOp1 g xa) :=
  sx_op1 hr ha fun ta h => (pe_callTy hc hg hm hv (pa_cons h pa_nil hs) hn hdb hs hpl)
theorem sx_b1 (hc : CallR X (.builtin id) r) (hr : RC1 (kw X) r g) (hm : X.mg x = none) (hv : bootBuiltins x = some (.builtin id)) (ha : SimX X B a xa) (hg : Gl X x := by rfl) (hn : x ≠ "__name__" := by decide) (hdb : (x == ("__debug__" : Str)) = false := by decide)
    (hs : starEach [a] X.env = (false, eval a X.env) :: starEach [] X.env := by rfl) (hpl : (backTo pos (starEach [] X.env)).any (·.1) = false := by rfl) : SimX X B (.Call (.Name x p) [a] [] pos) (xOp1 g xa) :=
  sx_op1 hr ha fun ta h => (pe_callB hc hg hm hv (pa_cons h pa_nil hs) hn hdb hs hpl)
/-- a built-in function that a module's name holds -/
theorem se_m1 (hc : CallR X (.builtin id) r) (hr : RC1 (kw X) r g) (hm : X.mg x = some (.builtin id)) (ha : SimE X B a ma) (hg : Gl X x := by rfl) (hdb : (x == ("__debug__" : Str)) = false := by decide)
    (hs : starEach [a] X.env = (false, eval a X.env) :: starEach [] X.env := by rfl) (hpl : (backTo pos (starEach [] X.env)).any (·.1) = false := by rfl) : SimE X B (.Call (.Name x p) [a] [] pos) (eOp1 g ma) :=
  se_op1 hr ha fun ta h => (pe_callBfun hc hg hm (pa_cons h pa_nil hs) hdb hs hpl)
theorem se_m2 (hc : CallR X (.builtin id) r) (hr : RC2 (kw X) r g2) (hm : X.mg x = some (.builtin id)) (ha : SimE X B a ma) (hb : SimE X B b mb) (hg : Gl X x := by rfl) (hdb : (x == ("__debug__" : Str)) = false := by decide)
    (hs : starEach [a, b] X.env = (false, eval a X.env) :: starEach [b] X.env := by rfl) (hs2 : starEach [b] X.env = (false, eval b X.env) :: starEach [] X.env := by rfl) (hpl : (backTo pos (starEach [b] X.env)).any (·.1) = false := by rfl) : SimE X B (.Call (.Name x p) [a, b] [] pos) (eOp2 g2 ma mb) :=
  se_op2 hr ha hb fun ta tb h1 h2 => (pe_callBfun hc hg hm (pa_cons h1 (pa_cons h2 pa_nil hs2) hs) hdb hs hpl)
end
/-! ### by values -/
section
variable {K : Fg} {X : Cx}
theorem Vw.lst {Hs H : Hp} {l : List D} {v : V} (h : Vw K Hs H (.lst l) v) : ∃ a vs, v = .ref a ∧ H a = some (.lst vs) ∧ RpL K Hs l vs := h
theorem Vw.tup {Hs H : Hp} {l : List D} {v : V} (h : Vw K Hs H (.tup l) v) : ∃ a vs, v = .ref a ∧ SqT K Hs a vs ∧ RpL K Hs l vs := h
theorem Vw.fl {Hs H : Hp} {l : List D} {v : V} (h : Vw K Hs H (.fl l) v) : ∃ a vs, v = .ref a ∧ SqL K Hs a vs ∧ RpL K Hs l vs := h
theorem Vw.dk {Hs H : Hp} {l : List (D × D)} {v : V} (h : Vw K Hs H (.dk l) v) : ∃ a kvs, v = .ref a ∧ Rd H a (.dK kvs) ∧ RpK K Hs l kvs := h
theorem Vw.dt {Hs H : Hp} {l : List (D × D)} {v : V} (h : Vw K Hs H (.dt l) v) : ∃ a kvs, v = .ref a ∧ Rd H a (dnO K a kvs) ∧ RpN K Hs l kvs := h
theorem RpN.length : ∀ {K : Fg} {H : Hp} {l : List (D × D)} {kvs : List (NestedKey × Addr × V)}, RpN K H l kvs → l.length = kvs.length
  | _, _, [], [], _ => rfl
  | _, _, _ :: _, _ :: _, h => congrArg (· + 1) (RpN.length h.2)
  | _, _, [], _ :: _, h => h.elim
  | _, _, _ :: _, [], h => h.elim
theorem RpK.length : ∀ {K : Fg} {H : Hp} {l : List (D × D)} {kvs : List (Key × V)}, RpK K H l kvs → l.length = kvs.length
  | _, _, [], [], _ => rfl
  | _, _, _ :: _, _ :: _, h => congrArg (· + 1) (RpK.length h.2)
  | _, _, [], _ :: _, h => h.elim
  | _, _, _ :: _, [], h => h.elim
theorem ok_int {B : Bs} {L : List Cell} {Hs H : Hp} (ok : OkAt K B L Hs H) (i : Int) : Ok K B ((some (.int i), .sh (.int i)) :: L) H := ⟨Hs, ok.sh (d := .int i) rfl⟩
theorem ok_bl {B : Bs} {L : List Cell} {Hs H : Hp} (ok : OkAt K B L Hs H) (i : Bool) : Ok K B ((some (.bl i), .sh (.bl i)) :: L) H := ⟨Hs, ok.sh (d := .bl i) rfl⟩
def rLenF (K : Fg) : List V → Hp → VK → Prop := fun xs H Q => (∃ x n, xs = [x] ∧ LenV K x H n ∧ Q (.int n) H) ∨ (∃ a kvs, xs = [V.ref a] ∧ DnAt K H a kvs ∧ Q (.int kvs.length) H) ∨ ∃ a kvs, xs = [V.ref a] ∧ Rd H a (.dK kvs) ∧ Q (.int kvs.length) H
theorem cr_lenF : CallR X (.builtin "len") (rLenF (kw X)) := L2.CallR.or call_len (L2.CallR.or cr_lenN cr_lenK)
theorem rc_len : RC1 K (rLenF K) gLen := by
  intro B L Hs H d v x Q ok h hg q
  cases d with
  | lst l =>
    cases hg
    obtain ⟨a, vs, rfl, h1, h2⟩ := Vw.lst h
    refine .inl ⟨_, vs.length, rfl, .inl ⟨vs, .inl (.inl h1), rfl⟩, ?_⟩
    rw [← h2.length]; exact q _ H (ok_int ok _)
  | fl l =>
    cases hg
    obtain ⟨a, vs, rfl, h1, h2⟩ := Vw.fl h
    refine .inl ⟨_, vs.length, rfl, .inl ⟨vs, SqL.mono ok.gr.sub h1, rfl⟩, ?_⟩
    rw [← h2.length]; exact q _ H (ok_int ok _)
  | tup l =>
    cases hg
    obtain ⟨a, vs, rfl, h1, h2⟩ := Vw.tup h
    refine .inl ⟨_, vs.length, rfl, .inr ⟨vs, SqT.mono ok.gr.sub h1, rfl⟩, ?_⟩
    rw [← h2.length]; exact q _ H (ok_int ok _)
  | str l =>
    have hg' : (if l.length ≤ line then some (Sl.sh (.int l.length)) else none) = some x := hg
    by_cases hz : l.length ≤ line
    · rw [if_pos hz] at hg'
      cases hg'
      have ev : v = .str (strOf l) := h
      subst ev
      refine .inl ⟨_, l.length, rfl, ⟨?_, ?_⟩, q _ H (ok_int ok _)⟩
      · rw [← line_eq]; exact hz
      · exact (List.size_toArray ..).symm
    · rw [if_neg hz] at hg'; cases hg'
  | dk l =>
    cases hg
    obtain ⟨a, kvs, rfl, h1, h2⟩ := Vw.dk h
    refine .inr (.inr ⟨a, kvs, rfl, h1, ?_⟩)
    rw [← h2.length]; exact q _ H (ok_int ok _)
  | dt l =>
    cases hg
    obtain ⟨a, kvs, rfl, h1, h2⟩ := Vw.dt h
    refine .inr (.inl ⟨a, kvs, rfl, ⟨h1, l, RpN.mono ok.gr.sub _ _ h2⟩, ?_⟩)
    rw [← h2.length]; exact q _ H (ok_int ok _)
  | _ => cases hg
theorem rc_tuple : RC1 K (fun xs H Q => ∃ p ys, xs = [.ref p] ∧ ((SqL K H p ys ∧ ∀ l, H l = none → Q (.ref l) (L2.upd H l (.tup ys))) ∨ (SqT K H p ys ∧ Q (.ref p) H))) gTuple := by
  intro B L Hs H d v x Q ok h hg q
  cases d with
  | lst l =>
    cases hg
    obtain ⟨a, vs, rfl, h1, h2⟩ := Vw.lst h
    refine ⟨a, vs, rfl, .inl ⟨.inl (.inl h1), fun p hp => q _ _ (ok.newSh hp (d := .tup l) ⟨p, vs, rfl, .inl (.inl upd_same), ?_⟩)⟩⟩
    exact RpL.mono (Same.upd (ok.gr.sub.free hp)) _ _ h2
  | tup l =>
    cases hg
    obtain ⟨a, vs, rfl, h1, h2⟩ := Vw.tup h
    exact ⟨a, vs, rfl, .inr ⟨SqT.mono ok.gr.sub h1, q _ H ⟨Hs, ok.sh (d := .tup l) ⟨a, vs, rfl, h1, h2⟩⟩⟩⟩
  | _ => cases hg
def rListF (K : Fg) : List V → Hp → VK → Prop := fun xs H Q => (∃ p ys, xs = [.ref p] ∧ (SqL K H p ys ∨ SqT K H p ys) ∧ ∀ l, H l = none → Q (.ref l) (L2.upd H l (.lst ys))) ∨ (∃ (a : Addr) (kvs : List (Key × V)), xs = [.ref a] ∧ Rd H a (.dK kvs) ∧ ∀ p, H p = none → Q (.ref p) (L2.upd H p (.lst (kvs.map fun kv => kV kv.1)))) ∨ ∃ a kvs, xs = [V.ref a] ∧ DnAt K H a kvs ∧ ∀ p, H p = none → Q (.ref p) (L2.upd H p (.lst (kvs.map fun kv => V.ref kv.2.1)))
theorem cr_listF (hc : X.calm = true) : CallR X (.type "list") (rListF (kw X)) := L2.CallR.or call_list_of (L2.CallR.or (call_listD hc) (cr_listN hc))
theorem kD_rp {K : Fg} {H : Hp} {k : D} {z : Key} (h : kD k = some z) : Rp K H k (kV z) := by
  cases k <;> first | (cases h; done) | skip
  · cases h; exact (rfl : V.int _ = V.int _)
  · cases h; exact (rfl : V.str _ = V.str _)
theorem RpK.keys : ∀ {l : List (D × D)} {kvs : List (Key × V)} {H : Hp}, RpK K H l kvs → RpL K H (l.map (·.1)) (kvs.map fun kv => kV kv.1)
  | [], [], _, _ => trivial
  | (k, d) :: l, q :: kvs, H, h => ⟨kD_rp h.1.1, RpK.keys h.2⟩
  | [], _ :: _, _, h => h.elim
  | _ :: _, [], _, h => h.elim
theorem RpN.keys : ∀ {l : List (D × D)} {kvs : List (NestedKey × Addr × V)} {H : Hp}, RpN K H l kvs → RpL K H (l.map (·.1)) (kvs.map fun kv => V.ref kv.2.1)
  | [], [], _, _ => trivial
  | (k, d) :: l, q :: kvs, H, h => ⟨h.1.2.2.1, RpN.keys h.2⟩
  | [], _ :: _, _, h => h.elim
  | _ :: _, [], _, h => h.elim
theorem rc_list : RC1 K (rListF K) gList := by
  intro B L Hs H d v x Q ok h hg q
  cases d with
  | lst l =>
    cases hg
    obtain ⟨a, vs, rfl, h1, h2⟩ := Vw.lst h
    exact .inl ⟨a, vs, rfl, .inl (.inl (.inl h1)), fun p hp => q _ _ ⟨Hs, ok.new hp (d := .lst l) ⟨vs, upd_same, h2⟩⟩⟩
  | tup l =>
    cases hg
    obtain ⟨a, vs, rfl, h1, h2⟩ := Vw.tup h
    exact .inl ⟨a, vs, rfl, .inr (SqT.mono ok.gr.sub h1), fun p hp => q _ _ ⟨Hs, ok.new hp (d := .lst l) ⟨vs, upd_same, h2⟩⟩⟩
  | dk l =>
    cases hg
    obtain ⟨a, kvs, rfl, h1, h2⟩ := Vw.dk h
    exact .inr (.inl ⟨a, kvs, rfl, h1, fun p hp => q _ _ ⟨Hs, ok.new hp (d := .lst (l.map (·.1))) ⟨_, upd_same, h2.keys⟩⟩⟩)
  | dt l =>
    cases hg
    obtain ⟨a, kvs, rfl, h1, h2⟩ := Vw.dt h
    exact .inr (.inr ⟨a, kvs, rfl, ⟨h1, l, RpN.mono ok.gr.sub _ _ h2⟩, fun p hp => q _ _ ⟨Hs, ok.new hp (d := .lst (l.map (·.1))) ⟨_, upd_same, h2.keys⟩⟩⟩)
  | _ => cases hg
theorem rc_abs : RC1 K (fun xs H Q => ∃ i, xs = [.int i] ∧ Q (.int (if i < 0 then -i else i)) H) gAbs := by
  intro B L Hs H d v x Q ok h hg q
  cases d <;> first | (cases hg; done) | skip
  rename_i i
  cases hg
  refine ⟨i, by rw [Vw.int h], ?_⟩
  have e : (if i < 0 then -i else i) = (i.natAbs : Int) := by split <;> omega
  rw [e]
  exact q _ H (ok_int ok _)
theorem rc_int : RC1 K (fun xs H Q => (∃ i, xs = [.int i] ∧ Q (.int i) H) ∨ ∃ k, xs = [.bl k] ∧ Q (.int (if k then 1 else 0)) H) gInt := by
  intro B L Hs H d v x Q ok h hg q
  cases d <;> first | (cases hg; done) | skip
  rename_i i
  cases hg
  exact .inl ⟨i, by rw [Vw.int h], q _ H (ok_int ok _)⟩
theorem rc_max2 : RC2 K (fun xs H Q => ∃ i j, xs = [.int i, .int j] ∧ Q (.int (if j > i then j else i)) H) gMax2 := r2_int fun i j d H Q hd q => by
  cases hd
  exact ⟨i, j, rfl, q _ H rfl fun _ _ => rfl⟩
theorem rc_min2 : RC2 K (fun xs H Q => ∃ i j, xs = [.int i, .int j] ∧ Q (.int (if j < i then j else i)) H) gMin2 := r2_int fun i j d H Q hd q => by
  cases hd
  exact ⟨i, j, rfl, q _ H rfl fun _ _ => rfl⟩
theorem r1_neg : R1Ok K (rU fun i => .int (-i)) gNeg := by
  intro B L Hs H d v x Q ok h hg q
  cases d <;> first | (cases hg; done) | skip
  rename_i i
  cases hg
  exact ⟨i, Vw.int h, q _ H (ok_int ok _)⟩
def gPow : D → D → Option Sl := gI fun i j => if 0 ≤ j ∧ j ≤ 1000000 ∧ i.natAbs < 18446744073709551616 then some (.int (i ^ j.toNat)) else none
theorem r2_pow : R2Ok K (rI CPow fun i j => .int (i ^ j.toNat)) gPow := r2_int fun i j d H Q hd q => by
  by_cases h : 0 ≤ j ∧ j ≤ 1000000 ∧ i.natAbs < 18446744073709551616
  · rw [if_pos h] at hd; cases hd
    exact ⟨i, j, rfl, rfl, h, q _ H rfl fun _ _ => rfl⟩
  · rw [if_neg h] at hd; cases hd
/-! gcd, factorial, comb -/
def gGcd : D → D → Option Sl := gI fun i j => some (.int (Nat.gcd i.natAbs j.natAbs : Nat))
theorem rc_gcd : RC2 K rGcd gGcd := r2_int fun i j d H Q hd q => by
  cases hd
  exact ⟨i, j, rfl, q _ H rfl fun _ _ => rfl⟩
def rFact : List V → Hp → VK → Prop := fun vs H Q => ∃ a : Int, vs = [.int a] ∧ 0 ≤ a ∧ a ≤ 1000 ∧ ((Builtin.Math.factorialNat a.toNat : Nat) : Int).natAbs.log2 < bitsLine ∧ Q (.int (Builtin.Math.factorialNat a.toNat : Nat)) H
theorem cr_fact : CallR X (.builtin "math.factorial") rFact := by
  intro pins s σ H vs us Q I r h
  obtain ⟨a, rfl, h0, h1, hz, q⟩ := h
  obtain ⟨u, rfl, t, rfl⟩ := vals1 r
  have m1 : ¬ a > Builtin.Math.maxSsize := fun z => absurd (Int.lt_of_lt_of_le z h1) (by decide)
  have m2 : ¬ a > Builtin.Math.manyFactors := fun z => absurd (Int.lt_of_lt_of_le z h1) (by decide)
  exact PySem.W.mg_factorial m1 (by omega) m2 hz ⟨.int _, H, I.tok _, ⟨_, rfl⟩, q⟩
def facN : Nat → Nat
  | 0 => 1
  | n + 1 => (n + 1) * facN n
def gFact : D → Option Sl
  | .int a => if 0 ≤ a ∧ a ≤ 100 then some (.sh (.int (facN a.toNat : Nat))) else none
  | _ => none
theorem fac_all : ∀ n : Fin 101, Builtin.Math.factorialNat n.val = facN n.val ∧ ((facN n.val : Nat) : Int).natAbs.log2 < bitsLine := by decide +kernel
theorem rc_fact : RC1 K rFact gFact := by
  intro B L Hs H d v x Q ok h hg q
  cases d <;> first | (cases hg; done) | skip
  rename_i a
  have hg' : (if 0 ≤ a ∧ a ≤ 100 then some (Sl.sh (.int (facN a.toNat : Nat))) else none) = some x := hg
  by_cases hz : 0 ≤ a ∧ a ≤ 100
  · rw [if_pos hz] at hg'
    cases hg'
    have hf := fac_all ⟨a.toNat, by omega⟩
    refine ⟨a, by rw [Vw.int h], hz.1, by omega, ?_, ?_⟩
    · rw [show Builtin.Math.factorialNat a.toNat = facN a.toNat from hf.1]; exact hf.2
    · rw [show Builtin.Math.factorialNat a.toNat = facN a.toNat from hf.1]; exact q _ H (ok_int ok _)
  · rw [if_neg hz] at hg'; cases hg'
def rComb : List V → Hp → VK → Prop := fun vs H Q => ∃ a b : Int, vs = [.int a, .int b] ∧ 0 ≤ a ∧ 0 ≤ b ∧ a < 2 ^ 64 ∧ b ≤ 9000 ∧ Q (.int (PySem.W.mcComb a b)) H
theorem cr_comb : CallR X (.builtin "math.comb") rComb := by
  intro pins s σ H vs us Q I r h
  obtain ⟨a, b, rfl, h0, h1, h2, h3, q⟩ := h
  obtain ⟨t, u, rfl⟩ := Vals.int2 r
  exact PySem.W.mc_comb h0 h1 h2 (.inl h3) fun _ => ⟨.int _, H, I.tok _, ⟨_, rfl⟩, q⟩
def gComb : D → D → Option Sl := gI fun a b => if 0 ≤ a ∧ 0 ≤ b ∧ a < 18446744073709551616 ∧ b ≤ 9000 then some (.int (PySem.W.mcComb a b)) else none
theorem rc_comb : RC2 K rComb gComb := r2_int fun i j d H Q hd q => by
  by_cases h : 0 ≤ i ∧ 0 ≤ j ∧ i < 18446744073709551616 ∧ j ≤ 9000
  · rw [if_pos h] at hd; cases hd
    exact ⟨i, j, rfl, h.1, h.2.1, h.2.2.1, h.2.2.2, q _ H rfl fun _ _ => rfl⟩
  · rw [if_neg h] at hd; cases hd
/-! in a list -/
theorem any_eqv {y : D} (fy : y.fine = true) : ∀ l : List D, D.fineL l = true → (toPyL l).any (fun z => PyData.eqv z (toPy y)) = l.any fun z => z.eqv y
  | [], _ => rfl
  | d :: l, f => by
    obtain ⟨f1, f2⟩ := Bool.and_eq_true_iff.mp (show (d.fine && D.fineL l) = true from f)
    simp only [toPyL, List.any_cons]
    rw [eqv_py d y f1 fy, any_eqv fy l f2]
theorem all_fine : ∀ {l : List D}, l.all D.ok = true → D.fineL l = true ∧ D.depthL l ≤ 60
  | [], _ => ⟨rfl, Nat.zero_le _⟩
  | d :: l, h => by
    obtain ⟨h1, h2⟩ := Bool.and_eq_true_iff.mp (show (d.ok && l.all D.ok) = true from h)
    obtain ⟨h3, h4⟩ := Bool.and_eq_true_iff.mp h1
    obtain ⟨h5, h6⟩ := all_fine h2
    refine ⟨?_, ?_⟩
    · show (d.fine && D.fineL l) = true
      rw [h3, h5]; rfl
    · show max d.depth (D.depthL l) ≤ 60
      have := of_decide_eq_true h4
      omega
theorem r2_inList : R2Ok K (rInD K) (fun x y => match y with | .lst l => gIn x (.lst l) | _ => none) := by
  intro B L Hs H d1 d2 v1 v2 x Q ok h1 h2 hg q
  cases d2 <;> first | (cases hg; done) | skip
  rename_i l
  have hg' : (if d1.ok && l.all D.ok then some (Sl.sh (.bl (l.any fun y => y.eqv d1))) else none) = some x := hg
  by_cases hz : (d1.ok && l.all D.ok) = true
  · rw [if_pos hz] at hg'
    cases hg'
    obtain ⟨z1, z2⟩ := Bool.and_eq_true_iff.mp hz
    obtain ⟨f1, f2⟩ := Bool.and_eq_true_iff.mp z1
    obtain ⟨f3, f4⟩ := all_fine z2
    obtain ⟨a, vs, rfl, h3, h4⟩ := Vw.lst h2
    refine ⟨toPy d1, toPyL l, Vw.dp ok.gr.sub f1 h1, .lst (.inl (.inl h3)) (RpL.dp l vs f3 (RpL.mono ok.gr.sub _ _ h4)), shaped_of z1, ?_, ?_⟩
    · have : D.ok (.lst l) = true ∨ True := .inr trivial
      have e1 := fine_layL l f3
      have e2 := depth_pyL l
      have e3 : (PyData.list (toPyL l)).depth = PyData.depthAll (toPyL l) + 1 := by simp only [PyData.depth]
      have e4 : (PyData.list (toPyL l)).canLay0 = true := by simpa only [PyData.canLay0] using e1
      unfold SeqAt.shaped
      rw [e4, Bool.true_and]
      exact decide_eq_true (by omega)
    · rw [any_eqv f1 l f3]; exact q _ H (ok_bl ok _)
  · rw [if_neg hz] at hg'; cases hg'
end
end Fx
set_option Elab.async false
set_option linter.all false
set_option maxRecDepth 100000
set_option maxHeartbeats 4000000
/-! Fx: in, subscripts, slices, stores into lists and dicts, displays. -/
namespace Fx
open PySem PySem.Spec PyProof.Rows L2
/-! ### in -/
section
variable {X : Cx} {K : Fg}
def rInT (K : Fg) (neg : Bool) : R2 := fun x y H Q => ∃ d ds, Dp K H x d ∧ Dp K H y (.tuple ds) ∧ SeqAt.shaped d = true ∧ SeqAt.shaped (.list ds) = true ∧ Q (.bl (if neg then !ds.any (fun z => PyData.eqv z d) else ds.any fun z => PyData.eqv z d)) H
theorem op_inT (hu : X.A.units + 70 < cLine) : OpR X (compareOp .In) (rInT (kw X) false) := by
  intro pins s σ H x y v u Q I rx ry h
  obtain ⟨d, ds, hd, he, sd, se, q⟩ := h
  obtain ⟨as, r1⟩ := Dp.reads I d x v hd rx
  obtain ⟨bs, r2⟩ := Dp.reads I (.tuple ds) y u he ry
  exact SeqAt.in_tuple_reads r2 r1 (SeqAt.canLay_of_shaped se) (SeqAt.canLay_of_shaped sd) (room_in_shaped sd (by omega)) ⟨.bl _, H, I, rfl, q⟩
theorem op_notInT (hu : X.A.units + 70 < cLine) : OpR X (compareOp .NotIn) (rInT (kw X) true) := by
  intro pins s σ H x y v u Q I rx ry h
  obtain ⟨d, ds, hd, he, sd, se, q⟩ := h
  obtain ⟨as, r1⟩ := Dp.reads I d x v hd rx
  obtain ⟨bs, r2⟩ := Dp.reads I (.tuple ds) y u he ry
  exact SeqAt.notIn_tuple_reads r2 r1 (SeqAt.canLay_of_shaped se) (SeqAt.canLay_of_shaped sd) (room_in_shaped sd (by omega)) ⟨.bl _, H, I, rfl, q⟩
def rInF (K : Fg) : R2 := fun x y H Q => rInD K x y H Q ∨ rInT K false x y H Q ∨ rDInF K x y H Q
def rNotInF (K : Fg) : R2 := fun x y H Q => rNotInD K x y H Q ∨ rInT K true x y H Q ∨ rDNotInF K x y H Q
theorem op_in (hu : X.A.units + 70 < cLine) : OpR X (compareOp .In) (rInF (kw X)) := OpR.or (op_inD (by omega)) (OpR.or (op_inT hu) (op_din hu))
theorem op_notIn (hu : X.A.units + 70 < cLine) : OpR X (compareOp .NotIn) (rNotInF (kw X)) := OpR.or (op_notInD (by omega)) (OpR.or (op_notInT hu) (op_dnotIn hu))
theorem shaped_list {l : List D} (h : l.all D.ok = true) : SeqAt.shaped (.list (toPyL l)) = true := by
  obtain ⟨f3, f4⟩ := all_fine h
  have e2 := depth_pyL l
  have e3 : (PyData.list (toPyL l)).depth = PyData.depthAll (toPyL l) + 1 := by simp only [PyData.depth]
  have e4 : (PyData.list (toPyL l)).canLay0 = true := by simpa only [PyData.canLay0] using fine_layL l f3
  unfold SeqAt.shaped
  rw [e4, Bool.true_and]
  exact decide_eq_true (by omega)
/-- a key of a dict: what the dict tells of it -/
theorem dg_of {B : Bs} {L : List Cell} {Hs H : Hp} {d1 d2 : D} {v1 v2 : V} (ok : OkAt K B L Hs H) (h1 : Vw K Hs H d1 v1) (h2 : Vw K Hs H d2 v2) : (∀ l, d2 = .dk l → d1.isK = true → ∃ a o, v2 = .ref a ∧ DG K H a v1 o ∧ (lookD d1 l).isSome = o.isSome ∧ ∀ d, lookD d1 l = some d → ∃ v, o = some v ∧ Rp K Hs d v) ∧
    ∀ l k, d2 = .dt l → d1 = .tup k → d1.key = true → d1.depth ≤ 8 → ∃ a o, v2 = .ref a ∧ DG K H a v1 o ∧ (lookD d1 l).isSome = o.isSome ∧ ∀ d, lookD d1 l = some d → ∃ v, o = some v ∧ Rp K Hs d v := by
  refine ⟨fun l e hk => ?_, fun l k e e1 hk h8 => ?_⟩
  · subst e
    obtain ⟨a, kvs, rfl, h3, h4⟩ := Vw.dk h2
    obtain ⟨z, hz⟩ := kD_of hk
    obtain ⟨l1, l2⟩ := h4.look hz
    exact ⟨a, valV kvs z, rfl, .k kvs z h3 (kD_vw hz h1) rfl, l2, l1⟩
  · subst e; subst e1
    obtain ⟨a, kvs, rfl, h3, h4⟩ := Vw.dt h2
    obtain ⟨b, vs, rfl, t, r⟩ := Vw.tup h1
    obtain ⟨n, hn, hd⟩ := nk_key _ hk
    obtain ⟨l1, l2⟩ := h4.look hn
    exact ⟨a, valN kvs n, rfl, .n kvs n b ⟨h3, l, RpN.mono ok.gr.sub _ _ h4⟩ rfl ⟨.tup k, hn, by omega, Rp.mono ok.gr.sub (.tup k) _ ⟨b, vs, rfl, t, r⟩⟩ rfl, l2, l1⟩
theorem r2_in : R2Ok K (rInF K) gIn := by
  intro B L Hs H d1 d2 v1 v2 x Q ok h1 h2 hg q
  cases d2 with
  | lst l => exact .inl (r2_inList B L Hs H d1 (.lst l) v1 v2 x Q ok h1 h2 hg q)
  | tup l =>
    have hg' : (if d1.ok && l.all D.ok then some (Sl.sh (.bl (l.any fun y => y.eqv d1))) else none) = some x := hg
    by_cases hz : (d1.ok && l.all D.ok) = true
    · rw [if_pos hz] at hg'
      cases hg'
      obtain ⟨z1, z2⟩ := Bool.and_eq_true_iff.mp hz
      obtain ⟨f1, f2⟩ := Bool.and_eq_true_iff.mp z1
      obtain ⟨f3, f4⟩ := all_fine z2
      obtain ⟨a, vs, rfl, h3, h4⟩ := Vw.tup h2
      refine .inr (.inl ⟨toPy d1, toPyL l, Vw.dp ok.gr.sub f1 h1, .tup (SqT.mono ok.gr.sub h3) (RpL.dp l vs f3 (RpL.mono ok.gr.sub _ _ h4)), shaped_of z1, shaped_list z2, ?_⟩)
      simp only [Bool.false_eq_true, if_false]
      rw [any_eqv f1 l f3]; exact q _ H (ok_bl ok _)
    · rw [if_neg hz] at hg'; cases hg'
  | dk l =>
    have hg' : (if d1.isK then some (Sl.sh (.bl (lookD d1 l).isSome)) else none) = some x := hg
    by_cases hz : d1.isK = true
    · rw [if_pos hz] at hg'
      cases hg'
      obtain ⟨a, o, rfl, g, e, _⟩ := (dg_of ok h1 h2).1 l rfl hz
      exact .inr (.inr ⟨a, o, rfl, g, by rw [← e]; exact q _ H (ok_bl ok _)⟩)
    · rw [if_neg hz] at hg'; cases hg'
  | dt l =>
    cases d1 <;> first | (cases hg; done) | skip
    rename_i k
    have hg' : (if (D.tup k).key && decide ((D.tup k).depth ≤ 8) then some (Sl.sh (.bl (lookD (.tup k) l).isSome)) else none) = some x := hg
    by_cases hz : ((D.tup k).key && decide ((D.tup k).depth ≤ 8)) = true
    · rw [if_pos hz] at hg'
      cases hg'
      obtain ⟨z1, z2⟩ := Bool.and_eq_true_iff.mp hz
      obtain ⟨a, o, rfl, g, e, _⟩ := (dg_of ok h1 h2).2 l k rfl rfl z1 (of_decide_eq_true z2)
      exact .inr (.inr ⟨a, o, rfl, g, by rw [← e]; exact q _ H (ok_bl ok _)⟩)
    · rw [if_neg hz] at hg'; cases hg'
  | _ => cases hg
theorem r2_notIn : R2Ok K (rNotInF K) gNotIn := by
  intro B L Hs H d1 d2 v1 v2 x Q ok h1 h2 hg q
  obtain ⟨y, hy, hg⟩ := Option.bind_eq_some_iff.mp hg
  obtain ⟨dy, hdy, hg⟩ := Option.bind_eq_some_iff.mp hg
  obtain ⟨k, hk, hg⟩ := Option.bind_eq_some_iff.mp hg
  cases hg
  have ey : y.val = some (.bl k) := by
    cases dy <;> first | (cases hk; done) | (cases hk; exact hdy)
  cases d2 with
  | lst l =>
    have hg' : (if d1.ok && l.all D.ok then some (Sl.sh (.bl (l.any fun y => y.eqv d1))) else none) = some y := hy
    by_cases hz : (d1.ok && l.all D.ok) = true
    · rw [if_pos hz] at hg'
      cases hg'
      cases ey
      obtain ⟨z1, z2⟩ := Bool.and_eq_true_iff.mp hz
      obtain ⟨f1, f2⟩ := Bool.and_eq_true_iff.mp z1
      obtain ⟨f3, f4⟩ := all_fine z2
      obtain ⟨a, vs, rfl, h3, h4⟩ := Vw.lst h2
      refine .inl ⟨toPy d1, toPyL l, Vw.dp ok.gr.sub f1 h1, .lst (.inl (.inl h3)) (RpL.dp l vs f3 (RpL.mono ok.gr.sub _ _ h4)), shaped_of z1, shaped_list z2, ?_⟩
      rw [any_eqv f1 l f3]; exact q _ H (ok_bl ok _)
    · rw [if_neg hz] at hg'; cases hg'
  | tup l =>
    have hg' : (if d1.ok && l.all D.ok then some (Sl.sh (.bl (l.any fun y => y.eqv d1))) else none) = some y := hy
    by_cases hz : (d1.ok && l.all D.ok) = true
    · rw [if_pos hz] at hg'
      cases hg'
      cases ey
      obtain ⟨z1, z2⟩ := Bool.and_eq_true_iff.mp hz
      obtain ⟨f1, f2⟩ := Bool.and_eq_true_iff.mp z1
      obtain ⟨f3, f4⟩ := all_fine z2
      obtain ⟨a, vs, rfl, h3, h4⟩ := Vw.tup h2
      refine .inr (.inl ⟨toPy d1, toPyL l, Vw.dp ok.gr.sub f1 h1, .tup (SqT.mono ok.gr.sub h3) (RpL.dp l vs f3 (RpL.mono ok.gr.sub _ _ h4)), shaped_of z1, shaped_list z2, ?_⟩)
      simp only [if_true]
      rw [any_eqv f1 l f3]; exact q _ H (ok_bl ok _)
    · rw [if_neg hz] at hg'; cases hg'
  | dk l =>
    have hg' : (if d1.isK then some (Sl.sh (.bl (lookD d1 l).isSome)) else none) = some y := hy
    by_cases hz : d1.isK = true
    · rw [if_pos hz] at hg'
      cases hg'
      cases ey
      obtain ⟨a, o, rfl, g, e, _⟩ := (dg_of ok h1 h2).1 l rfl hz
      exact .inr (.inr ⟨a, o, rfl, g, by rw [← e]; exact q _ H (ok_bl ok _)⟩)
    · rw [if_neg hz] at hg'; cases hg'
  | dt l =>
    cases d1 <;> first | (cases hy; done) | skip
    rename_i k'
    have hg' : (if (D.tup k').key && decide ((D.tup k').depth ≤ 8) then some (Sl.sh (.bl (lookD (.tup k') l).isSome)) else none) = some y := hy
    by_cases hz : ((D.tup k').key && decide ((D.tup k').depth ≤ 8)) = true
    · rw [if_pos hz] at hg'
      cases hg'
      cases ey
      obtain ⟨z1, z2⟩ := Bool.and_eq_true_iff.mp hz
      obtain ⟨a, o, rfl, g, e, _⟩ := (dg_of ok h1 h2).2 l k' rfl rfl z1 (of_decide_eq_true z2)
      exact .inr (.inr ⟨a, o, rfl, g, by rw [← e]; exact q _ H (ok_bl ok _)⟩)
    · rw [if_neg hz] at hg'; cases hg'
  | _ => cases hy
/-! ### subscripts -/
theorem IxR.orL {r r' : R2} (h : IxR X r) (h' : IxR X r') : IxR X (fun x y H Q => r x y H Q ∨ r' x y H Q) := by
  intro value slice pins s σ H x y v u Q I rx ry q hs
  rcases q with q | q
  · exact h value slice pins s σ H x y v u Q I rx ry q hs
  · exact h' value slice pins s σ H x y v u Q I rx ry q hs
def gAt : D → D → Option Sl
  | .dk l, k => gDx (.dk l) k
  | .dt l, k => gDx (.dt l) k
  | a, i => gIx a i
def rAtF (K : Fg) : R2 := fun x y H Q => rDGetF K x y H Q ∨ rIxF K x y H Q
theorem ix_at (hu : X.A.units + 70 < cLine) : IxR X (rAtF (kw X)) := IxR.orL (ix_dict hu) ix_F
theorem r2_at : R2Ok K (rAtF K) gAt := by
  intro B L Hs H d1 d2 v1 v2 x Q ok h1 h2 hg q
  cases d1 with
  | dk l =>
    have hg' : (if d2.isK then (lookD d2 l).map Sl.sh else none) = some x := hg
    by_cases hz : d2.isK = true
    · rw [if_pos hz] at hg'
      obtain ⟨d, hd, e⟩ := Option.map_eq_some_iff.mp hg'
      subst e
      obtain ⟨a, o, rfl, g, _, f⟩ := (dg_of ok h2 h1).1 l rfl hz
      obtain ⟨v, rfl, r⟩ := f d hd
      exact .inl ⟨a, v, rfl, g, q v H ⟨Hs, ok.sh r⟩⟩
    · rw [if_neg hz] at hg'; cases hg'
  | dt l =>
    cases d2 <;> first | (cases hg; done) | skip
    rename_i k
    have hg' : (if (D.tup k).key && decide ((D.tup k).depth ≤ 8) then (lookD (.tup k) l).map Sl.sh else none) = some x := hg
    by_cases hz : ((D.tup k).key && decide ((D.tup k).depth ≤ 8)) = true
    · rw [if_pos hz] at hg'
      obtain ⟨d, hd, e⟩ := Option.map_eq_some_iff.mp hg'
      subst e
      obtain ⟨z1, z2⟩ := Bool.and_eq_true_iff.mp hz
      obtain ⟨a, o, rfl, g, _, f⟩ := (dg_of ok h2 h1).2 l k rfl rfl z1 (of_decide_eq_true z2)
      obtain ⟨v, rfl, r⟩ := f d hd
      exact .inl ⟨a, v, rfl, g, q v H ⟨Hs, ok.sh r⟩⟩
    · rw [if_neg hz] at hg'; cases hg'
  | lst l => exact .inr (r2_ix B L Hs H (.lst l) d2 v1 v2 x Q ok h1 h2 hg q)
  | tup l => exact .inr (r2_ix B L Hs H (.tup l) d2 v1 v2 x Q ok h1 h2 hg q)
  | str l => exact .inr (r2_ix B L Hs H (.str l) d2 v1 v2 x Q ok h1 h2 hg q)
  | _ => exact .inr (r2_ix B L Hs H _ d2 v1 v2 x Q ok h1 h2 hg q)
end
/-! ### slices -/
section
variable {X : Cx} {B : Bs} {a b c e : Expr} {ma mb mc : ME} {pos p p2 : Pos} {oe lo hi : Option Expr} {om ml mh : Option ME}
def SO (K : Fg) (B : Bs) (om : Option ME) : TO := fun σ H Q => ∃ (e : Env) (T : List Cell) (i : Option Int), σ.length = e.length ∧ Ok K B (σ.zip e ++ T) H ∧ ePart om e = some i ∧ ∀ H', Ok K B (σ.zip e ++ T) H' → Q i H'
abbrev SimO (X : Cx) (B : Bs) (oe : Option Expr) (om : Option ME) : Prop := ∃ t, PO X oe t ∧ ∀ σ H Q, SO (kw X) B om σ H Q → t σ H Q
theorem so_none : SimO X B none none := ⟨_, po_none, fun σ H Q ⟨e, T, i, hl, ok, hm, q⟩ => by cases hm; exact q H ok⟩
theorem so_some (h : SimE X B a ma) : SimO X B (some a) (some ma) := ⟨_, po_some h, fun σ H Q ⟨e, T, i, hl, ok, hm, q⟩ => by
  obtain ⟨x, hx, h2⟩ := Option.bind_eq_some_iff.mp hm
  obtain ⟨d, hd, h3⟩ := Option.bind_eq_some_iff.mp h2
  obtain ⟨j, hj, h4⟩ := Option.bind_eq_some_iff.mp h3
  cases h4
  refine ⟨e, T, x, hl, ok, hx, fun v H1 ok1 => ?_⟩
  have ok0 := ok1
  obtain ⟨Hs, ok1⟩ := ok1
  obtain ⟨v', ev, r⟩ := (ok1.cells _ List.mem_cons_self).read ok1.gr.sub hd
  cases ev
  cases d <;> first | (cases hj; done) | skip
  cases hj
  exact ⟨_, Vw.int r, q H1 ok0.tl⟩⟩
theorem rs_cut {K : Fg} {B : Bs} {L : List Cell} {Hs H : Hp} {d : D} {v : V} {x : Sl} {Q : VK} (lo hi : Option Int) (ok : OkAt K B L Hs H) (h : Vw K Hs H d v) (hg : gCut lo hi d = some x) (q : ∀ w H', Ok K B ((some w, x) :: L) H' → Q w H') : rSlF K v lo hi H Q := by
  cases d with
  | lst l =>
    cases hg
    obtain ⟨a, vs, rfl, h1, h2⟩ := Vw.lst h
    exact .inl ⟨a, vs, rfl, .inl (.inl h1), fun p hp => q _ _ ⟨Hs, ok.new hp (d := .lst (cutL l lo hi)) ⟨_, upd_same, h2.cut lo hi⟩⟩⟩
  | fl l =>
    cases hg
    obtain ⟨a, vs, rfl, h1, h2⟩ := Vw.fl h
    exact .inl ⟨a, vs, rfl, SqL.mono ok.gr.sub h1, fun p hp => q _ _ ⟨Hs, ok.new hp (d := .lst (cutL l lo hi)) ⟨_, upd_same, h2.cut lo hi⟩⟩⟩
  | tup l =>
    cases hg
    obtain ⟨a, vs, rfl, h1, h2⟩ := Vw.tup h
    refine .inr (.inl ⟨a, vs, rfl, SqT.mono ok.gr.sub h1, fun e => ?_, fun e p hp => ?_⟩)
    · have e2 : cutL l lo hi = l := by
        unfold cutL
        rw [cutIx_eq, h2.length, e.1, e.2, Nat.sub_zero, List.drop_zero, ← h2.length, List.take_length]
      exact q _ H ⟨Hs, ok.sh (d := .tup (cutL l lo hi)) ⟨a, vs, rfl, h1, by rw [e2]; exact h2⟩⟩
    · refine q _ _ (ok.newSh hp (d := .tup (cutL l lo hi)) ⟨p, _, rfl, .inl (.inl upd_same), ?_⟩)
      exact RpL.mono (Same.upd (ok.gr.sub.free hp)) _ _ (h2.cut lo hi)
  | str l =>
    have hg' : (if l.length ≤ line then some (Sl.sh (.str (cutL l lo hi))) else none) = some x := hg
    by_cases hz : l.length ≤ line
    · rw [if_pos hz] at hg'
      cases hg'
      have ev : v = .str (strOf l) := h
      subst ev
      refine .inr (.inr ⟨_, rfl, by rw [← line_eq]; simpa [strOf, Str.length] using hz, q _ H ⟨Hs, ok.sh (d := .str (cutL l lo hi)) ?_⟩⟩)
      show V.str _ = V.str _
      rw [cutS_eq l lo hi hz]
    · rw [if_neg hz] at hg'; cases hg'
  | _ => cases hg
theorem se_cut (ha : SimE X B a ma) (hl : SimO X B lo ml) (hh : SimO X B hi mh) : SimE X B (.Subscript a (.Slice lo hi none p2) pos) (eCut ma ml mh) := by
  obtain ⟨t1, h1, f1⟩ := hl
  obtain ⟨t2, h2, f2⟩ := hh
  refine (pe_slice sl_F ha h1 h2).imp fun σ H Q ⟨e, T, x, hl, ok, hm, q⟩ => ?_
  obtain ⟨y, hy, hm⟩ := Option.bind_eq_some_iff.mp hm
  obtain ⟨d, hd, hm⟩ := Option.bind_eq_some_iff.mp hm
  obtain ⟨l, hlo, hm⟩ := Option.bind_eq_some_iff.mp hm
  obtain ⟨h, hhi, hm⟩ := Option.bind_eq_some_iff.mp hm
  refine ⟨e, T, y, hl, ok, hy, fun v H1 ok1 => f1 _ _ _ ⟨e, (some v, y) :: T, l, hl, ok1.mid, hlo, fun H2 ok2 => f2 _ _ _ ⟨e, (some v, y) :: T, h, hl, ok2, hhi, fun H3 ok3 => ?_⟩⟩⟩
  obtain ⟨Hs, ok3⟩ := ok3
  obtain ⟨v', ev, r⟩ := (ok3.cells _ (List.mem_append_right _ List.mem_cons_self)).read ok3.gr.sub hd
  cases ev
  exact rs_cut l h (ok3.sub (sub_mid _ _ _)) r hm q
/-! ### stores -/
def rSetF (K : Fg) : V → V → V → Hp → (Hp → Prop) → Prop := fun x y v H Q => rSetL x y v H Q ∨ rDPutF K x y v H Q
theorem set_F (hu : X.A.units + 70 < cLine) : PSet X (rSetF (kw X)) := by
  intro pins s σ H o i v ov iv u Q I ro ri rv h
  rcases h with h | h
  · exact set_list pins s σ H o i v ov iv u Q I ro ri rv h
  · exact set_dict hu pins s σ H o i v ov iv u Q I ro ri rv h
theorem ss_put (i : Nat) {x : Str} {px : Pos} {ix : Expr} {mix : ME} (hu : X.A.units + 70 < cLine) (ha : SimE X B a ma) (hix : SimE X B ix mix) (hN : X.N[i]? = some x := by rfl) (hv : Vis X.env.scope x := by first | exact Or.inl rfl | exact Or.inr (Or.inl rfl) | exact Or.inr (Or.inr rfl))
    (hd : (x == ("__debug__" : Str)) = false := by decide) (hcd : (x == ("__classdict__" : Str)) = false := by decide)
    (hs : swapsWithSole [.Subscript (.Name x px) ix p2] a pos.line X.env = pure false := by rfl) (hw : swappedStores [.Subscript (.Name x px) ix p2] a X.env = pure none := by rfl)
    (h1 : (assignEach [.Subscript (.Name x px) ix p2] X.env).map (·.2) = [assign (.Subscript (.Name x px) ix p2) X.env] := by rfl)
    (hsub : ∀ v, assign (.Subscript (.Name x px) ix p2) X.env v = (do
      let ov ← holding [v] (eval (.Name x px) X.env)
      let iv ← holding [v, ov] (eval ix X.env)
      standAt p2
      holding [v, ov, iv] (setItem ov iv v)
      release [v, ov, iv] []) := by intro _; rfl) :
    SimS X B (.Assign [.Subscript (.Name x px) ix p2] a pos) (sPut i mix ma) :=
  (ps_asg ha (pg_sub (pe_var (i := i) hN hv hd hcd) hix (set_F hu) hsub) hs hw h1).imp fun DD σ H ⟨e, T, f, e', hl, ok, hm, q⟩ => by
    obtain ⟨y, hy, hm⟩ := Option.bind_eq_some_iff.mp hm
    obtain ⟨dv, hdv, hm⟩ := Option.bind_eq_some_iff.mp hm
    obtain ⟨⟨d, mk⟩, how, hm⟩ := Option.bind_eq_some_iff.mp hm
    obtain ⟨k, hk, hm⟩ := Option.bind_eq_some_iff.mp hm
    obtain ⟨kd, hkd, hm⟩ := Option.bind_eq_some_iff.mp hm
    obtain ⟨d', hd', hm⟩ := Option.bind_eq_some_iff.mp hm
    cases hm
    obtain ⟨he, hmk⟩ := owned_eq how
    obtain ⟨o, z1, z2⟩ := zip_at hl he
    have at_ : ∀ {H : Hp} {L : List Cell} {Hs : Hp}, OkAt (kw X) B L Hs H → (o, mk d) ∈ L → ∃ p, o = some (.ref p) ∧ Top (kw X) Hs H p d := fun {H L Hs} h hm => by
      have hc := h.cells _ hm
      rcases hmk with rfl | ⟨n, rfl⟩
      · obtain ⟨v, ev, p, ep, _, _, t⟩ := hc
        have ev' : o = some v := ev
        subst ev'; subst ep
        exact ⟨p, rfl, t⟩
      · obtain ⟨v, ev, _, p, ep, _, _, t⟩ := hc
        have ev' : o = some v := ev
        subst ev'; subst ep
        exact ⟨p, rfl, t⟩
    refine ⟨e, T, y, hl, ok.ok, hy, fun v H1 ok1 => ?_⟩
    obtain ⟨v', ev, ok2⟩ := ok1.fz hdv
    cases ev
    obtain ⟨Hs0, ok0⟩ := ok2
    obtain ⟨p, eo, _⟩ := at_ ok0 (List.mem_cons_of_mem _ (List.mem_append_left T z2))
    subst eo
    refine ⟨.ref p, z1, e, (some v, .sh dv) :: T, k, hl, (Ok.mid ⟨Hs0, ok0⟩), hk, fun kv H2 ok3 => ?_⟩
    obtain ⟨kv', ek, ok4⟩ := ok3.fz hkd
    cases ek
    obtain ⟨Hs, ok4⟩ := ok4
    obtain ⟨kv', ek, rk⟩ := ok4.cells _ List.mem_cons_self
    cases ek
    obtain ⟨v', ev, rv⟩ := ok4.cells (some v, .sh dv) (List.mem_cons_of_mem _ (List.mem_append_right _ List.mem_cons_self))
    cases ev
    obtain ⟨p', eo, t⟩ := at_ ok4 (List.mem_cons_of_mem _ (List.mem_append_left _ z2))
    cases eo
    have okb : OkAt (kw X) B (σ.zip e ++ T) Hs H2 := ok4.sub (.cons _ (sub_mid _ _ _))
    have fin : ∀ (o' : HO), Top (kw X) Hs (L2.upd H2 p o') p d' → DD.nx σ (L2.upd H2 p o') := fun o' t' => by
      obtain ⟨m1, m2⟩ := OkS.mut (d' := d') (o := o') (x := .non) hl how ok.nv z1 okb t'
      exact q σ _ m2 m1
    cases d with
    | lst l =>
      cases kd <;> first | (cases hd'; done) | skip
      rename_i j0
      obtain ⟨j, hj, e2⟩ := Option.map_eq_some_iff.mp (show (ixN l.length j0).map (fun j => D.lst (l.set j dv)) = some d' from hd')
      subst e2
      obtain ⟨vs, t1, t2⟩ := t
      refine .inl ⟨p, vs, j0, j, rfl, rk, t1, by rw [← t2.length, ← ixN_eq]; exact hj, fin _ ⟨vs.set j v, upd_same, t2.set j rv⟩⟩
    | dk l =>
      have hg' : (if kd.isK && decide (l.length < line) then some (D.dk (putD kd dv l)) else none) = some d' := hd'
      by_cases hz : (kd.isK && decide (l.length < line)) = true
      · rw [if_pos hz] at hg'
        cases hg'
        obtain ⟨z1, z2⟩ := Bool.and_eq_true_iff.mp hz
        obtain ⟨n, hn⟩ := kD_of z1
        obtain ⟨kvs, t1, t2⟩ := t
        have hlen := of_decide_eq_true z2
        exact .inr ⟨p, _, rfl, .k kvs n t1 (kD_v hn rk) (by rw [← t2.length, ← line_eq]; exact hlen) rfl, fin _ ⟨_, upd_same, t2.put hn rv⟩⟩
      · rw [if_neg hz] at hg'; cases hg'
    | dt l =>
      cases kd <;> first | (cases hd'; done) | skip
      rename_i kl
      have hg' : (if (D.tup kl).key && decide ((D.tup kl).depth ≤ 8) && decide (l.length < line) then some (D.dt (putD (.tup kl) dv l)) else none) = some d' := hd'
      by_cases hz : ((D.tup kl).key && decide ((D.tup kl).depth ≤ 8) && decide (l.length < line)) = true
      · rw [if_pos hz] at hg'
        cases hg'
        obtain ⟨z0, z3⟩ := Bool.and_eq_true_iff.mp hz
        obtain ⟨z1, z2⟩ := Bool.and_eq_true_iff.mp z0
        have h8 := of_decide_eq_true z2
        have hlen := of_decide_eq_true z3
        obtain ⟨n, hn, hdep⟩ := nk_key _ z1
        obtain ⟨kvs, t1, t2⟩ := t
        obtain ⟨b, ks, rfl, tb, rb⟩ := (show ∃ b ks, kv = .ref b ∧ SqT X.K Hs b ks ∧ RpL (kw X) Hs kl ks from rk)
        have rk2 : Rp (kw X) Hs (.tup kl) (.ref b) := ⟨b, ks, rfl, tb, rb⟩
        exact .inr ⟨p, _, rfl, .n kvs n b t1 ⟨l, RpN.mono ok4.gr.sub _ _ t2⟩ rfl ⟨.tup kl, hn, by omega, Rp.mono ok4.gr.sub (.tup kl) _ rk2⟩ (by rw [← t2.length, ← line_eq]; exact hlen) rfl, fin _ ⟨_, upd_same, t2.put hn (by omega) rk2 rv⟩⟩
      · rw [if_neg hz] at hg'; cases hg'
    | _ => cases hd'
/-- x op= a -/
theorem ss_aug (i : Nat) {x : Str} {px : Pos} {op : Operator} {r : R2} {g : D → D → Option Sl} (ho : OpR X (inplaceOp op) r) (hg : R2Ok (kw X) r g) (ha : SimE X B a ma) (hN : X.N.Nodup) (hi : X.N[i]? = some x := by rfl) (hx : Loc X.env.scope x := by first | exact .inl rfl | exact .inr rfl)
    (hf : X.fn x = true ∨ X.env.scope.names.lookup x = some .local := by first | exact .inl rfl | exact .inr rfl) : SimS X B (.AugAssign (.Name x px) op a pos) (sAug g i ma) :=
  (ps_aug hN hi hx ha ho hf).imp fun DD σ H ⟨e, T, f, e', hl, ok, hm, q⟩ => by
    obtain ⟨sx, hsx, hm⟩ := Option.bind_eq_some_iff.mp hm
    obtain ⟨dx, hdx, hm⟩ := Option.bind_eq_some_iff.mp hm
    obtain ⟨y, hy, hm⟩ := Option.bind_eq_some_iff.mp hm
    obtain ⟨dy, hdy, hm⟩ := Option.bind_eq_some_iff.mp hm
    obtain ⟨rr, hr, hm⟩ := Option.bind_eq_some_iff.mp hm
    obtain ⟨o, z1, z2⟩ := zip_at hl hsx
    have ok' := ok.ok
    obtain ⟨Hs0, ok0⟩ := ok'
    obtain ⟨v, ev, _⟩ := (ok0.cells _ (List.mem_append_left T z2)).read ok0.gr.sub hdx
    subst ev
    refine ⟨v, z1, e, T, y, hl, ok.ok, hy, fun w H1 ok1 => ?_⟩
    obtain ⟨Hs, ok1⟩ := ok1
    obtain ⟨w', ew, rw'⟩ := (ok1.cells _ List.mem_cons_self).read ok1.gr.sub hdy
    cases ew
    obtain ⟨v', ev, rv⟩ := (ok1.cells _ (List.mem_cons_of_mem _ (List.mem_append_left T z2))).read ok1.gr.sub hdx
    cases ev
    refine hg B (σ.zip e ++ T) Hs H1 dx dy v w rr _ (ok1.sub (.cons _ (List.Sublist.refl _))) rv rw' hr fun u H2 ok2 => ?_
    cases rr with
    | sh d =>
      obtain ⟨e1, h3, h4⟩ := Option.map_eq_some_iff.mp hm
      cases h4
      exact q _ _ (len_store hl h3) ⟨ok2.store h3, nv_store ok.nv h3 rfl⟩
    | _ => cases hm
/-! ### list.extend -/
theorem ss_extend (i : Nat) {x : Str} {px apos cpos : Pos} (ha : SimE X B a ma) (hN : X.N[i]? = some x := by rfl) (hv : Vis X.env.scope x := by first | exact Or.inl rfl | exact Or.inr (Or.inl rfl) | exact Or.inr (Or.inr rfl))
    (hd : (x == ("__debug__" : Str)) = false := by decide) (hcd : (x == ("__classdict__" : Str)) = false := by decide)
    (hb : attributeBase (.Name x px) "extend" X.env (eval (.Name x px) X.env) = eval (.Name x px) X.env := by rfl)
    (hfew : ((backTo cpos (starEach [a] X.env)).all (fun x => !x.1) && (backToKw cpos (keywordEach [] X.env)).all (fun x => x.1.isSome)
      && decide ([a].length + ([] : List Keyword).length + (if ([] : List Keyword).isEmpty then 0 else 1) < 30)) = true := by rfl)
    (hline : (apos.endLine == cpos.line) = true := by rfl) (hs : starEach [a] X.env = (false, eval a X.env) :: starEach [] X.env := by rfl) (hpl : (backTo cpos (starEach [] X.env)).any (·.1) = false := by rfl)
    (hsw : swapsWith (.Call (.Attribute (.Name x px) "extend" apos) [a] [] cpos) none pos.line X.env = pure false := by rfl) :
    SimS X B (.Expr (.Call (.Attribute (.Name x px) "extend" apos) [a] [] cpos) pos) (sExtend i ma) :=
  (ps_expr (pe_bm PySem.F.plainAttrs_list PySem.F.slot_list_extend PySem.F.type_list_extend mt_extend (pe_var (i := i) hN hv hd hcd) (pa_cons ha pa_nil hs) hb hfew hline hs hpl) hsw).imp fun DD σ H ⟨e, T, f, e', hl, ok, hm, q⟩ => by
    obtain ⟨⟨d, mk⟩, how, h2⟩ := Option.bind_eq_some_iff.mp hm
    obtain ⟨d2, hd2, h3⟩ := Option.bind_eq_some_iff.mp h2
    cases h3
    cases d <;> first | (cases hd2; done) | skip
    rename_i l
    obtain ⟨y, hy, h4⟩ := Option.bind_eq_some_iff.mp hd2
    obtain ⟨dy, hdy, h5⟩ := Option.bind_eq_some_iff.mp h4
    cases dy <;> first | (cases h5; done) | skip
    rename_i r
    have h5' : (if l.length + r.length ≤ line then some (D.lst (l ++ r)) else none) = some d2 := h5
    by_cases hz : l.length + r.length ≤ line
    · rw [if_pos hz] at h5'
      cases h5'
      obtain ⟨he, hmk⟩ := owned_eq how
      obtain ⟨o, z1, z2⟩ := zip_at hl he
      have at_ : ∀ {H : Hp} {L : List Cell} {Hs : Hp}, OkAt (kw X) B L Hs H → (o, mk (.lst l)) ∈ L → ∃ p vs, o = some (.ref p) ∧ H p = some (.lst vs) ∧ RpL (kw X) Hs l vs := fun {H L Hs} h hm => by
        have hc := h.cells _ hm
        rcases hmk with rfl | ⟨n, rfl⟩
        · obtain ⟨v, ev, p, ep, _, _, vs, h1, h2⟩ := hc
          have ev' : o = some v := ev
          subst ev'; subst ep
          exact ⟨p, vs, rfl, h1, h2⟩
        · obtain ⟨v, ev, _, p, ep, _, _, vs, h1, h2⟩ := hc
          have ev' : o = some v := ev
          subst ev'; subst ep
          exact ⟨p, vs, rfl, h1, h2⟩
      obtain ⟨Hs0, ok0⟩ := ok.ok
      obtain ⟨p, vs0, eo, hp0, _⟩ := at_ ok0 (List.mem_append_left T z2)
      subst eo
      refine ⟨.ref p, z1, .inl ⟨rfl, _, .inl (.inl hp0)⟩, ?_⟩
      refine ⟨e, T, y, hl, ok.ok, hy, fun v H1 ok1 => ?_⟩
      obtain ⟨Hs, ok2⟩ := ok1
      obtain ⟨w, ew, rv⟩ := (ok2.cells _ List.mem_cons_self).read ok2.gr.sub hdy
      cases ew
      obtain ⟨b, zs, rfl, hb1, hb2⟩ := Vw.lst rv
      obtain ⟨p', vs, eo, hp, hr⟩ := at_ ok2 (List.mem_cons_of_mem _ (List.mem_append_left _ z2))
      cases eo
      refine ⟨p, b, vs, zs, rfl, rfl, hp, hb1, by rw [← hr.length, ← hb2.length, ← sizeLine_eq']; exact hz, ?_⟩
      obtain ⟨m1, m2⟩ := OkS.mut (d' := .lst (l ++ r)) (o := .lst (vs ++ zs)) (x := .non) hl how ok.nv z1 (ok2.sub (.cons _ (List.Sublist.refl _))) ⟨_, upd_same, hr.append hb2⟩
      exact q σ _ m2 m1
    · rw [if_neg hz] at h5'; cases h5'
end
end Fx
set_option Elab.async false
set_option linter.all false
set_option maxRecDepth 100000
set_option maxHeartbeats 4000000
/-! Fx: loops and comprehensions over dicts; enumerate, zip, reversed. -/
namespace Fx
open PySem PySem.Spec PyProof.Rows L2
theorem _root_.L2.PS.ex {X : Cx} {st : Stmt} {α : Type} {t : α → TS} (h : ∀ a, PS X st (t a)) : PS X st (fun D σ H => ∃ a, t a D σ H) := ⟨fun pins s σ H D I ⟨a, q⟩ => (h a).run pins s σ H D I q⟩
theorem _root_.L2.PS.or {X : Cx} {st : Stmt} {t u : TS} (h : PS X st t) (h' : PS X st u) : PS X st (fun D σ H => t D σ H ∨ u D σ H) := ⟨fun pins s σ H D I q => q.elim (h.run pins s σ H D I) (h'.run pins s σ H D I)⟩
theorem _root_.L2.PE.ex {X : Cx} {st : Expr} {α : Type} {t : α → TE} (h : ∀ a, PE X st (t a)) : PE X st (fun σ H Q => ∃ a, t a σ H Q) := ⟨fun pins s σ H Q I ⟨a, q⟩ => (h a).run pins s σ H Q I q⟩
theorem _root_.L2.PE.or {X : Cx} {st : Expr} {t u : TE} (h : PE X st t) (h' : PE X st u) : PE X st (fun σ H Q => t σ H Q ∨ u σ H Q) := ⟨fun pins s σ H Q I q => q.elim (h.run pins s σ H Q I) (h'.run pins s σ H Q I)⟩
section
variable {K : Fg} {B : Bs} {L : List Cell} {Hs H : Hp} {d : Addr} {u : HO} {od : Obj} {dd : D}
/-- the dict that a cell owns is locked: it is read for a while -/
theorem OkAt.lockO (od : Obj) (h : OkAt K B ((some (.ref d), .own dd) :: L) Hs H) (hd : H d = some u) (hu : DictO u) : OkAt K ⟨B.Hs, L2.upd B.H d (.frz od u), B.io⟩ ((some (.ref d), .vw dd) :: L) Hs (L2.upd H d (.frz od u)) := by
  obtain ⟨v0, e0, p0, ep0, hb, hs, ht⟩ := h.cells _ List.mem_cons_self
  cases e0; cases ep0
  have sp := List.pairwise_cons.mp h.sep
  have lh : Lq H (L2.upd H d (.frz od u)) := lq_lock hu fun o e => by rw [hd] at e; cases e; rfl
  have lr : Lq Hs Hs := fun a o e => .inl e
  have up : ∀ {G : Hp}, G d = none → Same G H → Same G (L2.upd H d (.frz od u)) := fun hg s a o e => by rw [upd_ne (fun z => by rw [z, hg] at e; cases e)]; exact s a o e
  refine ⟨⟨fun a o e => ?_, h.gr.sh, up hs h.gr.sub, fun a ha e => ?_⟩, fun c hc => ?_, List.Pairwise.cons (fun c _ a => by cases a) sp.2⟩
  · by_cases ha : a = d
    · subst ha
      have e' : L2.upd B.H a (.frz od u) a = some o := e
      rw [upd_same] at e' ⊢; exact e'
    · have e' : L2.upd B.H d (.frz od u) a = some o := e
      rw [upd_ne ha] at e' ⊢; exact h.gr.all a o e'
  · by_cases hne : a = d
    · rw [hne]; exact hs
    · have ha' : L2.upd B.H d (.frz od u) a ≠ none := ha
      rw [upd_ne hne] at ha'
      exact h.gr.out a ha' e
  · rcases List.mem_cons.mp hc with rfl | hm
    · exact ⟨_, rfl, (Top.vw ht).lq lr lh⟩
    · have hk := h.cells c (List.mem_cons_of_mem _ hm)
      have hsep := sp.1 c hm rfl
      have go : ∀ (d' : D) (v : V), v ≠ .ref d → Own K B Hs H d' v → Own K ⟨B.Hs, L2.upd B.H d (.frz od u), B.io⟩ Hs (L2.upd H d (.frz od u)) d' v := fun d' v hn ⟨p, e, o1, o2, o3⟩ => by
        have hne : p ≠ d := fun z => hn (by rw [e, z])
        exact ⟨p, e, (upd_ne hne).trans o1, o2, o3.lq lr (upd_ne hne)⟩
      obtain ⟨o, x⟩ := c
      cases x with
      | un => trivial
      | sh d' => exact hk
      | own d' => obtain ⟨v, e, r⟩ := hk; exact ⟨v, e, go _ _ (fun z => hsep rfl (by show some (V.ref d) = o; rw [show o = some v from e, z])) r⟩
      | io n d' => obtain ⟨v, e, e2, r⟩ := hk; exact ⟨v, e, e2, go _ _ (fun z => hsep rfl (by show some (V.ref d) = o; rw [show o = some v from e, z])) r⟩
      | vw d' => obtain ⟨v, e, r⟩ := hk; exact ⟨v, e, r.lq lr lh⟩
theorem OkAt.unlockO (hB : B.H d = none) (hBs : B.Hs d = none) (hdd : (∃ l, dd = .dk l) ∨ ∃ l, dd = .dt l) (h : OkAt K ⟨B.Hs, L2.upd B.H d (.frz od u), B.io⟩ ((some (.ref d), .vw dd) :: L) Hs H) (hu : DictO u) :
    H d = some (.frz od u) ∧ OkAt K B ((some (.ref d), .own dd) :: L) Hs (L2.upd H d u) := by
  have hH : H d = some (.frz od u) := h.gr.all _ _ upd_same
  have hs : Hs d = none := h.gr.out d (by show L2.upd B.H d _ d ≠ none; rw [upd_same]; simp) hBs
  have lh : Lq H (L2.upd H d u) := lq_unlock hu fun o e => by rw [hH] at e; cases e; rfl
  have lr : Lq Hs Hs := fun a o e => .inl e
  have hne : ∀ {a : Addr}, B.H a ≠ none → a ≠ d := fun ha z => ha (by rw [z]; exact hB)
  obtain ⟨v0, e0, hv⟩ := h.cells _ List.mem_cons_self
  cases e0
  refine ⟨hH, ⟨fun a o e => ?_, h.gr.sh, fun a o e => ?_, fun a ha e => ?_⟩, fun c hc => ?_, List.Pairwise.cons (fun c hc _ b e => ?_) (List.pairwise_cons.mp h.sep).2⟩
  · have n := hne (a := a) (by rw [e]; simp)
    rw [upd_ne n]
    exact h.gr.all a o (by show L2.upd B.H d _ a = _; rw [upd_ne n]; exact e)
  · rw [upd_ne (fun z => by rw [z, hs] at e; cases e)]; exact h.gr.sub a o e
  · exact h.gr.out a (by show L2.upd B.H d _ a ≠ _; rw [upd_ne (hne ha)]; exact ha) e
  · rcases List.mem_cons.mp hc with rfl | hm
    · refine ⟨_, rfl, d, rfl, hB, hs, ?_⟩
      rcases hdd with ⟨l, rfl⟩ | ⟨l, rfl⟩
      · obtain ⟨a, kvs, ea, h1, h2⟩ := hv
        cases ea
        rcases h1 with h1 | ⟨o, h1⟩
        · rw [hH] at h1; cases h1
        · rw [hH] at h1; cases h1; exact ⟨kvs, upd_same, h2⟩
      · obtain ⟨a, kvs, ea, h1, h2⟩ := hv
        cases ea
        rcases h1 with h1 | ⟨o, h1⟩
        · rw [hH] at h1; cases h1
        · rw [hH] at h1
          injection h1 with h1
          injection h1 with h3 h4
          exact ⟨kvs, by rw [upd_same, h4], h2⟩
    · have hk := h.cells c (List.mem_cons_of_mem _ hm)
      have go : ∀ (d' : D) (v : V), Own K ⟨B.Hs, L2.upd B.H d (.frz od u), B.io⟩ Hs H d' v → Own K B Hs (L2.upd H d u) d' v := fun d' v ⟨p, e, o1, o2, o3⟩ => by
        have o1' : L2.upd B.H d (.frz od u) p = none := o1
        have n : p ≠ d := fun z => by rw [z, upd_same] at o1'; cases o1'
        rw [upd_ne n] at o1'
        exact ⟨p, e, o1', o2, o3.lq lr (upd_ne n)⟩
      obtain ⟨o, x⟩ := c
      cases x with
      | un => trivial
      | sh d' => exact hk
      | own d' => obtain ⟨v, e, r⟩ := hk; exact ⟨v, e, go _ _ r⟩
      | io n d' => obtain ⟨v, e, e2, r⟩ := hk; exact ⟨v, e, e2, go _ _ r⟩
      | vw d' => obtain ⟨v, e, r⟩ := hk; exact ⟨v, e, r.lq lr lh⟩
  · have hk := h.cells c (List.mem_cons_of_mem _ hc)
    obtain ⟨o, x⟩ := c
    have e' : some (V.ref d) = o := e
    subst e'
    have bad : ∀ {d' : D} {v : V}, V.ref d = v → Own K ⟨B.Hs, L2.upd B.H d (.frz od u), B.io⟩ Hs H d' v → False := fun {d' v} z ⟨p, e, o1, _⟩ => by
      rw [e] at z; cases z
      have o1' : L2.upd B.H d (.frz od u) d = none := o1
      rw [upd_same] at o1'; cases o1'
    cases x with
    | own d' => obtain ⟨v, e1, r⟩ := hk; exact bad (Option.some.inj e1) r
    | io n d' => obtain ⟨v, e1, _, r⟩ := hk; exact bad (Option.some.inj e1) r
    | _ => cases b
end
/-! ### the keys -/
/-- the dict at slot i is locked -/
def Frz (i : Nat) (σ : L2.St) (H : Hp) : Prop := ∀ d, σ[i]? = some (some (.ref d)) → ∃ o u, H d = some (.frz o u)
section
variable {K : Fg} {B : Bs}
theorem rd_frz {H : Hp} {d : Addr} {od : Obj} {u v : HO} (hH : H d = some (.frz od u)) (hv : DictO v) (h : Rd H d v) : u = v := by
  rcases h with h | ⟨o', h⟩
  · rw [hH] at h
    have e : HO.frz od u = v := Option.some.inj h
    subst e
    exact absurd hv not_frz
  · rw [hH] at h; cases h; rfl
theorem rpk_keys {Hs0 Hs : Hp} : ∀ {l : List (D × D)} {kvs : List (Key × V)}, RpK K Hs0 l kvs → RpL K Hs (l.map (·.1)) (kvs.map fun kv => kV kv.1)
  | [], [], _ => trivial
  | (k, d) :: l, q :: kvs, h => ⟨kD_rp h.1.1, rpk_keys h.2⟩
  | [], _ :: _, h => h.elim
  | _ :: _, [], h => h.elim
theorem itok_dk {d : Addr} {o : Obj} {kvs : List (Key × V)} {l : List (D × D)} {Hs0 : Hp} (h : B.H d = some (.frz o (.dK kvs))) (r : RpK K Hs0 l kvs) : ItOk K B (Itk d o kvs) [] (l.map (·.1)) := fun L H ok => by
  obtain ⟨Hs, ok⟩ := ok
  have hd := ok.gr.all _ _ h
  refine ⟨fun i x hi => ?_, hd, by rw [List.length_map, r.length]; exact Nat.le_refl _⟩
  have hk : RpL K Hs (l.map (·.1)) (kvs.map fun kv => kV kv.1) := by
    clear hi ok hd h
    exact rpk_keys r
  obtain ⟨v, hv, rv⟩ := hk.get hi
  have hlt : i < kvs.length := by
    have := (List.getElem?_eq_some_iff.mp hv).1
    rwa [List.length_map] at this
  refine ⟨⟨hd, hlt⟩, fun y H3 ⟨e, k, w, hk, ey⟩ => ?_⟩
  subst e
  rw [List.getElem?_map, hk] at hv
  cases hv
  rw [ey]
  exact ⟨Hs, ok.sh rv⟩
theorem RpN.get : ∀ {l : List (D × D)} {kvs : List (NestedKey × Addr × V)} {H : Hp} {i : Nat} {x : D}, RpN K H l kvs → (l.map (·.1))[i]? = some x → ∃ q, kvs[i]? = some q ∧ Rp K H x (.ref q.2.1)
  | [], [], _, _, _, _, h => by simp at h
  | (k, dd) :: l, q :: kvs, H, 0, x, r, h => by
    simp at h; subst h
    exact ⟨q, rfl, r.1.2.2.1⟩
  | (k, dd) :: l, q :: kvs, H, i + 1, x, r, h => by
    obtain ⟨q', h1, h2⟩ := RpN.get (i := i) r.2 (by simpa using h)
    exact ⟨q', by simpa using h1, h2⟩
  | [], _ :: _, _, _, _, r, _ => r.elim
  | _ :: _, [], _, _, _, r, _ => r.elim
/-- .. of nested keys: their tuples stand in what the cell lets read -/
theorem itok_dn {d : Addr} {o : Obj} {u : HO} {l : List (D × D)} {c : Cell} (h : B.H d = some (.frz o u)) (hc : ∀ {L : List Cell} {Hs H : Hp}, OkAt K B (c :: L) Hs H → ∃ kvs, Rd H d (dnO K d kvs) ∧ RpN K Hs l kvs) : ItOk K B (Itkn K d o) [c] (l.map (·.1)) := fun L H ok => by
  obtain ⟨Hs, ok⟩ := ok
  have hd := ok.gr.all _ _ h
  obtain ⟨kvs, h1, r2⟩ := hc ok
  have hd2 : H d = some (.frz o (dnO K d kvs)) := by
    rcases h1 with h1 | ⟨o', h1⟩
    · rw [hd] at h1; cases h1
    · rw [hd] at h1; cases h1; exact hd
  refine ⟨fun i x hi => ?_, kvs, hd2, by rw [List.length_map, r2.length]; exact Nat.le_refl _⟩
  obtain ⟨q, hq, rq⟩ := r2.get hi
  refine ⟨⟨kvs, hd2, (List.getElem?_eq_some_iff.mp hq).1⟩, fun y H3 ⟨e, ey⟩ => ?_⟩
  subst e
  rw [ey kvs q hd2 hq]
  exact ⟨Hs, ok.sh rq⟩
/-- the keys of the locked dict at slot i -/
theorem keys_core {X : Cx} {i : Nat} {σ : L2.St} {e : Env} {T : List Cell} {H : Hp} {l : List D} {d : Addr} {od : Obj} {u : HO} (hl : σ.length = e.length) (ok : Ok K B (σ.zip e ++ T) H) (hm : iKeysV i e = some l) (hs : σ[i]? = some (some (.ref d))) (hf : B.H d = some (.frz od u)) :
    ∃ J Ti, ((∃ kvs, H d = some (.frz od (.dK kvs)) ∧ J = Itk d od kvs) ∨ (∃ kvs, H d = some (.frz od (dnO K d kvs)) ∧ J = Itkn K d od)) ∧ ItOk K B J Ti l ∧ Ok K B (Ti ++ (σ.zip e ++ T)) H ∧ ((∀ x, e[i]? = some x → ∀ d, x ≠ .vw d) → nv Ti) := by
  have key : ∀ (c : Sl) (lt : List (D × D)), e[i]? = some c → (c = .sh (.dk lt) ∨ c = .vw (.dk lt) ∨ c = .sh (.dt lt) ∨ c = .vw (.dt lt)) → l = lt.map (·.1) → ∃ J Ti, ((∃ kvs, H d = some (.frz od (.dK kvs)) ∧ J = Itk d od kvs) ∨ (∃ kvs, H d = some (.frz od (dnO K d kvs)) ∧ J = Itkn K d od)) ∧ ItOk K B J Ti l ∧ Ok K B (Ti ++ (σ.zip e ++ T)) H ∧ ((∀ x, e[i]? = some x → ∀ d, x ≠ .vw d) → nv Ti) := by
    intro c lt he hcs hlt
    subst hlt
    obtain ⟨o, z1, z2⟩ := zip_at hl he
    rw [hs] at z1
    cases z1
    have hok := ok
    obtain ⟨Hs, ok⟩ := ok
    have hH := ok.gr.all _ _ hf
    have hk := ok.cells _ (List.mem_append_left T z2)
    rcases hcs with rfl | rfl | rfl | rfl
    · obtain ⟨v, ev, r⟩ := hk
      cases ev
      obtain ⟨a, kvs, ea, h1, h2⟩ := (show ∃ a kvs, V.ref d = .ref a ∧ Rd Hs a (.dK kvs) ∧ RpK K Hs lt kvs from r)
      cases ea
      obtain rfl := rd_frz hH (.inl ⟨_, rfl⟩) (Rd.mono ok.gr.sub h1)
      exact ⟨_, [], .inl ⟨kvs, hH, rfl⟩, itok_dk hf h2, ⟨Hs, ok⟩, fun _ c hc => (by cases hc)⟩
    · obtain ⟨v, ev, r⟩ := hk
      cases ev
      obtain ⟨a, kvs, ea, h1, h2⟩ := r
      cases ea
      obtain rfl := rd_frz hH (.inl ⟨_, rfl⟩) h1
      exact ⟨_, [], .inl ⟨kvs, hH, rfl⟩, itok_dk hf h2, ⟨Hs, ok⟩, fun _ c hc => (by cases hc)⟩
    · obtain ⟨v, ev, r⟩ := hk
      cases ev
      obtain ⟨a, kvs, ea, h1, h2⟩ := (show ∃ a kvs, V.ref d = .ref a ∧ Rd Hs a (dnO K a kvs) ∧ RpN K Hs lt kvs from r)
      cases ea
      obtain rfl := rd_frz hH (.inr ⟨_, rfl⟩) (Rd.mono ok.gr.sub h1)
      refine ⟨_, [(some (.ref d), .sh (.dt lt))], .inr ⟨kvs, hH, rfl⟩, itok_dn hf fun {L Hs2 H2} ok2 => ?_, ⟨Hs, ok.sh r⟩, fun _ c hc => ?_⟩
      · obtain ⟨v, ev, r2⟩ := ok2.cells _ List.mem_cons_self
        cases ev
        obtain ⟨a, kvs2, ea, h3, h4⟩ := (show ∃ a kvs, V.ref d = .ref a ∧ Rd Hs2 a (dnO K a kvs) ∧ RpN K Hs2 lt kvs from r2)
        cases ea
        exact ⟨kvs2, Rd.mono ok2.gr.sub h3, h4⟩
      · obtain rfl : c = (some (.ref d), .sh (.dt lt)) := by simpa using hc
        intro _ z; cases z
    · obtain ⟨v, ev, r⟩ := hk
      cases ev
      have r0 := r
      obtain ⟨a, kvs, ea, h1, h2⟩ := r
      cases ea
      obtain rfl := rd_frz hH (.inr ⟨_, rfl⟩) h1
      refine ⟨_, [(some (.ref d), .vw (.dt lt))], .inr ⟨kvs, hH, rfl⟩, itok_dn hf fun {L Hs2 H2} ok2 => ?_, ⟨Hs, ok.vw r0⟩, fun hn => absurd rfl (hn _ he _)⟩
      obtain ⟨v, ev, r2⟩ := ok2.cells _ List.mem_cons_self
      cases ev
      obtain ⟨a, kvs2, ea, h3, h4⟩ := r2
      cases ea
      exact ⟨kvs2, h3, h4⟩
  unfold iKeysV at hm
  split at hm
  · rename_i lt he; cases hm; exact key _ lt he (.inl rfl) rfl
  · rename_i lt he; cases hm; exact key _ lt he (.inr (.inr (.inl rfl))) rfl
  · rename_i lt he; cases hm; exact key _ lt he (.inr (.inl rfl)) rfl
  · rename_i lt he; cases hm; exact key _ lt he (.inr (.inr (.inr rfl))) rfl
  · cases hm
/-- adding what stands fixed to the frame's heaps -/
theorem OkAt.fixB {L : List Cell} {Hs H : Hp} {d : Addr} {f : HO} (h : OkAt K B L Hs H) (hd : Hs d = some f) : OkAt K (lockB B d f) L Hs H := by
  have hH := h.gr.sub _ _ hd
  refine ⟨⟨fun a o e => ?_, fun a o e => ?_, h.gr.sub, fun a ha e => ?_⟩, fun c hc => ?_, h.sep⟩
  · have e' : L2.upd B.H d f a = some o := e
    by_cases hb : a = d
    · subst hb; rw [upd_same] at e'; cases e'; exact hH
    · rw [upd_ne hb] at e'; exact h.gr.all a o e'
  · have e' : L2.upd B.Hs d f a = some o := e
    by_cases hb : a = d
    · subst hb; rw [upd_same] at e'; cases e'; exact hd
    · rw [upd_ne hb] at e'; exact h.gr.sh a o e'
  · have ha' : L2.upd B.H d f a ≠ none := ha
    have e' : L2.upd B.Hs d f a = none := e
    by_cases hb : a = d
    · subst hb; rw [upd_same] at e'; cases e'
    · rw [upd_ne hb] at ha' e'; exact h.gr.out a ha' e'
  · have hk := h.cells c hc
    have go : ∀ (d' : D) (v : V), Own K B Hs H d' v → Own K (lockB B d f) Hs H d' v := fun d' v ⟨p, e, o1, o2, o3⟩ => by
      have hne : p ≠ d := fun z => by rw [z, hd] at o2; cases o2
      exact ⟨p, e, (upd_ne hne).trans o1, o2, o3⟩
    obtain ⟨o, x⟩ := c
    cases x with
    | un => trivial
    | sh d' => exact hk
    | own d' => obtain ⟨v, e, r⟩ := hk; exact ⟨v, e, go _ _ r⟩
    | io n d' => obtain ⟨v, e, e2, r⟩ := hk; exact ⟨v, e, e2, go _ _ r⟩
    | vw d' => exact hk
theorem OkAt.unfixB {L : List Cell} {Hs H Hs0 H0 : Hp} {d : Addr} {f : HO} (g0 : Grow B.Hs B.H Hs0 H0) (hd0 : Hs0 d = some f) (h : OkAt K (lockB B d f) L Hs H) : OkAt K B L Hs H := by
  have hB : ∀ o, B.H d = some o → o = f := fun o e => by
    have := g0.all _ _ e
    rw [g0.sub _ _ hd0] at this; cases this; rfl
  have hBs : ∀ o, B.Hs d = some o → o = f := fun o e => by
    have := g0.sh _ _ e
    rw [hd0] at this; cases this; rfl
  have hS : Hs d = some f := h.gr.sh _ _ upd_same
  refine ⟨⟨fun a o e => h.gr.all a o ?_, fun a o e => h.gr.sh a o ?_, h.gr.sub, fun a ha e => ?_⟩, fun c hc => ?_, h.sep⟩
  · show L2.upd B.H d f a = _
    by_cases hb : a = d
    · subst hb; rw [hB o e, upd_same]
    · rw [upd_ne hb]; exact e
  · show L2.upd B.Hs d f a = _
    by_cases hb : a = d
    · subst hb; rw [hBs o e, upd_same]
    · rw [upd_ne hb]; exact e
  · by_cases hb : a = d
    · subst hb
      have := g0.out a ha e
      rw [hd0] at this; cases this
    · exact h.gr.out a (by show L2.upd B.H d f a ≠ _; rw [upd_ne hb]; exact ha) (by show L2.upd B.Hs d f a = _; rw [upd_ne hb]; exact e)
  · have hk := h.cells c hc
    have go : ∀ (d' : D) (v : V), Own K (lockB B d f) Hs H d' v → Own K B Hs H d' v := fun d' v ⟨p, e, o1, o2, o3⟩ => by
      have hne : p ≠ d := fun z => by rw [z, hS] at o2; cases o2
      have o1' : L2.upd B.H d f p = none := o1
      rw [upd_ne hne] at o1'
      exact ⟨p, e, o1', o2, o3⟩
    obtain ⟨o, x⟩ := c
    cases x with
    | un => trivial
    | sh d' => exact hk
    | own d' => obtain ⟨v, e, r⟩ := hk; exact ⟨v, e, go _ _ r⟩
    | io n d' => obtain ⟨v, e, e2, r⟩ := hk; exact ⟨v, e, e2, go _ _ r⟩
    | vw d' => exact hk
end
section
variable {X : Cx} {B : Bs} {tg : Expr} {t : Tg} {m : MS} {pos px : Pos} {body : List Stmt}
/-- for k in d, d a name whose dict is shared -/
theorem ss_forD (i : Nat) {x : Str} (ws : List Nat) (hp : PassesOwn (model X.prog X.w) X.A X.env X.xe) (hc : X.calm = true) (hg : ∀ B, SimG X B tg t) (hb : ∀ B, SimSs X B body m) (hN : X.N[i]? = some x := by rfl) (hv : Vis X.env.scope x := by first | exact Or.inl rfl | exact Or.inr (Or.inl rfl) | exact Or.inr (Or.inr rfl))
    (hd : (x == ("__debug__" : Str)) = false := by decide) (hcd : (x == ("__classdict__" : Str)) = false := by decide) (hs : ∀ y, foldedSetIterable (.Name x px) X.env y = pure y := by intro _; rfl) : SimS X B (.For tg (.Name x px) body [] pos) (sFor (iKeysV i) t m ws) := by
  have base : ∀ B', PS X (.For tg (.Name x px) body [] pos) (tFor (iKeysF (kw X) (tVar i)) (SG (kw X) B' t) (SS (kw X) B' m)) := fun B' => ps_for hp hc (pi_keysF (pe_var (i := i) hN hv hd hcd)) (hg B') (hb B') hs
  refine (L2.PS.or (ps_lock (L2.PS.ex base)) (L2.PS.ex base)).imp fun DD σ H ⟨e, T, f, e', hl, ok, hm, q⟩ => ?_
  obtain ⟨l, hk, hgo⟩ := Option.bind_eq_some_iff.mp hm
  -- the dict
  obtain ⟨Hs, ok0⟩ := ok.ok
  have slot : ∃ d u, σ[i]? = some (some (.ref d)) ∧ Rd Hs d u ∧ DictO u := by
    unfold iKeysV at hk
    split at hk
    · rename_i lt he
      obtain ⟨o, z1, z2⟩ := zip_at hl he
      obtain ⟨v, ev, r⟩ := ok0.cells _ (List.mem_append_left T z2)
      obtain ⟨a, kvs, ea, h1, h2⟩ := (show ∃ a kvs, v = .ref a ∧ Rd Hs a (.dK kvs) ∧ RpK (kw X) Hs lt kvs from r)
      have ev' : o = some v := ev
      exact ⟨a, _, by rw [z1, ev', ea], h1, .inl ⟨_, rfl⟩⟩
    · rename_i lt he
      obtain ⟨o, z1, z2⟩ := zip_at hl he
      obtain ⟨v, ev, r⟩ := ok0.cells _ (List.mem_append_left T z2)
      obtain ⟨a, kvs, ea, h1, h2⟩ := (show ∃ a kvs, v = .ref a ∧ Rd Hs a (dnO (kw X) a kvs) ∧ RpN (kw X) Hs lt kvs from r)
      have ev' : o = some v := ev
      exact ⟨a, _, by rw [z1, ev', ea], h1, .inr ⟨_, rfl⟩⟩
    · rename_i lt he
      obtain ⟨o, z1, z2⟩ := zip_at hl he
      exact absurd rfl (ok.nv _ (List.mem_append_left T z2) _)
    · rename_i lt he
      obtain ⟨o, z1, z2⟩ := zip_at hl he
      exact absurd rfl (ok.nv _ (List.mem_append_left T z2) _)
    · cases hk
  obtain ⟨d, u, hsl, hrd, hu⟩ := slot
  have run : ∀ {B' : Bs} {H' : Hp} {od : Obj} {D' : Ends}, B'.H d = some (.frz od u) → SS (kw X) B' (sFor (iKeysV i) t m ws) D' σ H' → tFor (iKeysF (kw X) (tVar i)) (SG (kw X) B' t) (SS (kw X) B' m) D' σ H' := fun {B' H' od D'} hf hss => by
    obtain ⟨e2, T2, l2, hl2, ok2, hm2, k⟩ := for_imp hss
    obtain ⟨J, Ti, hJ, it, ok3, hn⟩ := keys_core (X := X) hl2 ok2.ok hm2 hsl hf
    have hnv : nv Ti := hn fun x hx dd => nvE_of hl2 ok2.nv x (List.mem_of_getElem? hx) dd
    refine ⟨.ref d, hsl, d, od, rfl, ?_⟩
    rcases hJ with ⟨kvs, h1, rfl⟩ | ⟨kvs, h1, rfl⟩
    · exact .inl ⟨kvs, h1, k _ _ _ hnv ok3 it⟩
    · exact .inr ⟨kvs, h1, k _ _ _ hnv ok3 it⟩
  rcases hrd with hpl | ⟨od, hfr⟩
  · refine .inl ⟨d, u, ok0.gr.sub _ _ hpl, hu.mut, fun od => ⟨lockB B d (.frz od u), run upd_same ⟨e, T, f, e', hl, ⟨⟨_, ok0.lock od hpl hu⟩, ok.nv⟩, hm, ?_⟩⟩⟩
    cases f with
    | nx => exact fun σ' H' h1 ⟨⟨Hs2, h2⟩, n2⟩ => let z := OkAt.unlock ok0.gr hpl h2 hu; ⟨z.1, q σ' _ h1 ⟨⟨_, z.2⟩, n2⟩⟩
    | bk => exact fun σ' H' h1 ⟨⟨Hs2, h2⟩, n2⟩ => let z := OkAt.unlock ok0.gr hpl h2 hu; ⟨z.1, q σ' _ h1 ⟨⟨_, z.2⟩, n2⟩⟩
    | ct => exact fun σ' H' h1 ⟨⟨Hs2, h2⟩, n2⟩ => let z := OkAt.unlock ok0.gr hpl h2 hu; ⟨z.1, q σ' _ h1 ⟨⟨_, z.2⟩, n2⟩⟩
    | rt r => exact fun v σ' H' h1 ⟨Hs2, h2⟩ => let z := OkAt.unlock ok0.gr hpl h2 hu; ⟨z.1, q v σ' _ h1 ⟨_, z.2⟩⟩
  · refine .inr ⟨lockB B d (.frz od u), run upd_same ⟨e, T, f, e', hl, ⟨⟨_, ok0.fixB hfr⟩, ok.nv⟩, hm, ?_⟩⟩
    cases f with
    | nx => exact fun σ' H' h1 ⟨⟨Hs2, h2⟩, n2⟩ => q σ' _ h1 ⟨⟨_, OkAt.unfixB ok0.gr hfr h2⟩, n2⟩
    | bk => exact fun σ' H' h1 ⟨⟨Hs2, h2⟩, n2⟩ => q σ' _ h1 ⟨⟨_, OkAt.unfixB ok0.gr hfr h2⟩, n2⟩
    | ct => exact fun σ' H' h1 ⟨⟨Hs2, h2⟩, n2⟩ => q σ' _ h1 ⟨⟨_, OkAt.unfixB ok0.gr hfr h2⟩, n2⟩
    | rt r => exact fun v σ' H' h1 ⟨Hs2, h2⟩ => q v σ' _ h1 ⟨_, OkAt.unfixB ok0.gr hfr h2⟩
/-- [.. for k in d ..], d a name -/
theorem se_lcD (i : Nat) {x : Str} {elt : Expr} {ifs : List Expr} {melt : ME} {cC : Env → Option Bool} {scope : Scope} {own : List (Str × Nat)} {ws : List Nat} (hc : X.calm = true) (hNd : X.N.Nodup) (ok : BlkOk X.N X.env.scope scope own) (hws : own.map (·.2) = ws)
    (hg : ∀ (B : Bs) (s : Shared) (H : Hp) (C : Addr) (cl : List (Str × Addr)) (fp : List Addr), SimG (X.blk s H scope (compEnvC scope cl C X.env) fp) B tg t)
    (ht : ∀ (B : Bs) (s : Shared) (H : Hp) (C : Addr) (cl : List (Str × Addr)) (fp : List Addr), SimTs (X.blk s H scope (compEnvC scope cl C X.env) fp) B ifs cC)
    (he : ∀ (B : Bs) (s : Shared) (H : Hp) (C : Addr) (cl : List (Str × Addr)) (fp : List Addr), SimE (X.blk s H scope (compEnvC scope cl C X.env) fp) B elt melt)
    (hsub : ∀ j ∈ t.slots, j ∈ ws) (hN : X.N[i]? = some x := by rfl) (hv : Vis X.env.scope x := by first | exact Or.inl rfl | exact Or.inr (Or.inl rfl) | exact Or.inr (Or.inr rfl))
    (hd : (x == ("__debug__" : Str)) = false := by decide) (hcd : (x == ("__classdict__" : Str)) = false := by decide) (hs : ∀ y, foldedSetIterable (.Name x px) X.env y = pure y := by intro _; rfl) :
    SimE X B (.ListComp elt [⟨tg, .Name x px, ifs, 0⟩] scope pos) (eLcD i t cC melt ws) := by
  subst hws
  have base : ∀ B', PE X (.ListComp elt [⟨tg, .Name x px, ifs, 0⟩] scope pos) (tLc (iKeysF (kw X) (tVar i)) (SG (kw X) B' t) (ST (kw X) B' cC) (SE (kw X) B' melt) (own.map (·.2))) := fun B' => pe_lc hc hNd (pi_keysF (pe_var (i := i) hN hv hd hcd)) ok (hg B') (ht B') (he B') hs
  refine (L2.PE.or (pe_lock (L2.PE.ex base)) (L2.PE.ex base)).imp fun σ H Q ⟨e, T, y, hl, ok, hm, q⟩ => ?_
  obtain ⟨l, hk, hgo⟩ := Option.bind_eq_some_iff.mp (show (iKeysV i (viewM i e)).bind _ = some y from hm)
  have run : ∀ {B' : Bs} {H' : Hp} {d : Addr} {u : HO} {od : Obj} {Q' : VK}, σ[i]? = some (some (.ref d)) → B'.H d = some (.frz od u) → SE (kw X) B' (eLc (iKeysV i) t cC melt (own.map (·.2))) σ H' Q' → tLc (iKeysF (kw X) (tVar i)) (SG (kw X) B' t) (ST (kw X) B' cC) (SE (kw X) B' melt) (own.map (·.2)) σ H' Q' := fun {B' H' d u od Q'} hsl hf hss => by
    obtain ⟨e2, T2, l2, hl2, ok2, hm2, k⟩ := lc_imp hsub hss
    obtain ⟨J, Ti, hJ, it, ok3, hn⟩ := keys_core (X := X) hl2 ok2 hm2 hsl hf
    refine ⟨.ref d, hsl, d, od, rfl, ?_⟩
    rcases hJ with ⟨kvs, h1, rfl⟩ | ⟨kvs, h1, rfl⟩
    · exact .inl ⟨kvs, h1, k _ _ _ ok3 it⟩
    · exact .inr ⟨kvs, h1, k _ _ _ ok3 it⟩
  obtain ⟨Hs, ok0⟩ := ok
  have shared : ∀ (d : Addr) (u : HO), σ[i]? = some (some (.ref d)) → Rd Hs d u → DictO u → viewM i e = e → (tLockE (fun σ H Q => ∃ B', tLc (iKeysF (kw X) (tVar i)) (SG (kw X) B' t) (ST (kw X) B' cC) (SE (kw X) B' melt) (own.map (·.2)) σ H Q) σ H Q ∨ ∃ B', tLc (iKeysF (kw X) (tVar i)) (SG (kw X) B' t) (ST (kw X) B' cC) (SE (kw X) B' melt) (own.map (·.2)) σ H Q) := fun d u hsl hrd hu hve => by
    have hm' : eLc (iKeysV i) t cC melt (own.map (·.2)) e = some y := by
      have : eLc (iKeysV i) t cC melt (own.map (·.2)) (viewM i e) = some y := hm
      rwa [hve] at this
    rcases hrd with hpl | ⟨od, hfr⟩
    · refine .inl ⟨d, u, ok0.gr.sub _ _ hpl, hu.mut, fun od => ⟨lockB B d (.frz od u), run hsl upd_same ⟨e, T, y, hl, ⟨_, ok0.lock od hpl hu⟩, hm', fun v H' ⟨Hs2, h2⟩ => ?_⟩⟩⟩
      exact let z := OkAt.unlock ok0.gr hpl h2 hu; ⟨z.1, q v _ ⟨_, z.2⟩⟩
    · exact .inr ⟨lockB B d (.frz od u), run hsl upd_same ⟨e, T, y, hl, ⟨_, ok0.fixB hfr⟩, hm', fun v H' ⟨Hs2, h2⟩ => q v _ ⟨_, OkAt.unfixB ok0.gr hfr h2⟩⟩⟩
  cases hei : e[i]? with
  | none =>
    have hve : viewM i e = e := by unfold viewM; rw [hei]
    rw [hve] at hk
    unfold iKeysV at hk
    rw [hei] at hk
    cases hk
  | some c =>
    obtain ⟨o, z1, z2⟩ := zip_at hl hei
    have hcell := ok0.cells _ (List.mem_append_left T z2)
    cases c with
    | own dd =>
      have hve : viewM i e = e.set i (.vw dd) := by unfold viewM; rw [hei]
      rw [hve] at hk
      have hlt : i < e.length := (List.getElem?_eq_some_iff.mp hei).1
      have hdd : (∃ l, dd = .dk l) ∨ ∃ l, dd = .dt l := by
        unfold iKeysV at hk
        rw [List.getElem?_set_self hlt] at hk
        cases dd <;> first | (cases hk; done) | exact .inl ⟨_, rfl⟩ | exact .inr ⟨_, rfl⟩
      obtain ⟨A, o', C, y1, y2, y3⟩ := zip_split hl hei
      rw [z1] at y2; cases y2
      obtain ⟨v, ev, p, ep, hb, hps, htop⟩ := hcell
      have ev' : o = some v := ev
      subst ev'; subst ep
      obtain ⟨u, hu1, hu2⟩ : ∃ u, H p = some u ∧ DictO u := by
        rcases hdd with ⟨l, rfl⟩ | ⟨l, rfl⟩
        · obtain ⟨kvs, h1, _⟩ := htop; exact ⟨_, h1, .inl ⟨_, rfl⟩⟩
        · obtain ⟨kvs, h1, _⟩ := htop; exact ⟨_, h1, .inr ⟨_, rfl⟩⟩
      have hbs : B.Hs p = none := by
        cases hz : B.Hs p with
        | none => rfl
        | some o => have := ok0.gr.sh _ _ hz; rw [hps] at this; cases this
      have pm : ∀ (x : Sl), ((A ++ (some (V.ref p), x) :: C) ++ T).Perm ((some (V.ref p), x) :: ((A ++ C) ++ T)) := fun x => by
        have : (A ++ (some (V.ref p), x) :: C).Perm ((some (V.ref p), x) :: (A ++ C)) := List.perm_middle
        exact this.append_right T
      have ok1 : OkAt (kw X) B ((some (.ref p), .own dd) :: ((A ++ C) ++ T)) Hs H := by
        rw [y1] at ok0
        exact ok0.perm (pm _)
      refine .inl ⟨p, u, hu1, hu2.mut, fun od => ⟨_, run (B' := ⟨B.Hs, L2.upd B.H p (.frz od u), B.io⟩) z1 upd_same ⟨e.set i (.vw dd), T, y, by simpa using hl, ⟨Hs, ?_⟩, ?_, fun v H' ⟨Hs2, h2⟩ => ?_⟩⟩⟩
      · rw [y3]
        exact (ok1.lockO od hu1 hu2).perm (pm _).symm
      · have : eLc (iKeysV i) t cC melt (own.map (·.2)) (viewM i e) = some y := hm
        rwa [hve] at this
      · rw [y3] at h2
        have h3 : OkAt (kw X) ⟨B.Hs, L2.upd B.H p (.frz od u), B.io⟩ ((some (.ref p), .vw dd) :: ((some v, y) :: ((A ++ C) ++ T))) Hs2 H' := h2.perm ((List.Perm.cons _ (pm _)).trans (List.Perm.swap _ _ _))
        obtain ⟨w1, w2⟩ := OkAt.unlockO hb hbs hdd h3 hu2
        refine ⟨w1, q v _ ⟨Hs2, ?_⟩⟩
        rw [y1]
        exact w2.perm ((List.Perm.swap _ _ _).trans (List.Perm.cons _ (pm _).symm))
    | sh dd =>
      have hve : viewM i e = e := by unfold viewM; rw [hei]
      rw [hve] at hk
      obtain ⟨v, ev, r⟩ := hcell
      have ev' : o = some v := ev
      subst ev'
      unfold iKeysV at hk
      rw [hei] at hk
      cases dd <;> first | (cases hk; done) | skip
      · rename_i lt
        obtain ⟨a, kvs, ea, h1, h2⟩ := (show ∃ a kvs, v = .ref a ∧ Rd Hs a (.dK kvs) ∧ RpK (kw X) Hs lt kvs from r)
        subst ea
        exact shared a _ z1 h1 (.inl ⟨_, rfl⟩) hve
      · rename_i lt
        obtain ⟨a, kvs, ea, h1, h2⟩ := (show ∃ a kvs, v = .ref a ∧ Rd Hs a (dnO (kw X) a kvs) ∧ RpN (kw X) Hs lt kvs from r)
        subst ea
        exact shared a _ z1 h1 (.inr ⟨_, rfl⟩) hve
    | vw dd =>
      have hve : viewM i e = e.set i .un := by unfold viewM; rw [hei]
      rw [hve] at hk
      unfold iKeysV at hk
      rw [List.getElem?_set_self (List.getElem?_eq_some_iff.mp hei).1] at hk
      cases hk
    | io n dd =>
      have hve : viewM i e = e := by unfold viewM; rw [hei]
      rw [hve] at hk
      unfold iKeysV at hk
      rw [hei] at hk
      cases hk
    | un =>
      have hve : viewM i e = e := by unfold viewM; rw [hei]
      rw [hve] at hk
      unfold iKeysV at hk
      rw [hei] at hk
      cases hk
end
end Fx
set_option Elab.async false
set_option linter.all false
set_option maxRecDepth 100000
set_option maxHeartbeats 4000000
/-! Fx: enumerate, zip, reversed ranges. -/
namespace Fx
open PySem PySem.Spec PyProof.Rows L2 RZ
/-- the cell lets a sequence be read: a list (false) or a tuple -/
def Src (K : Fg) (B : Bs) (c : Cell) (tp : Bool) (a : Addr) (l : List D) : Prop := ∀ {L : List Cell} {Hs H : Hp}, OkAt K B L Hs H → c ∈ L → ∃ vs, (if tp then SqT K H a vs else SqL K H a vs) ∧ RpL K Hs l vs
section
variable {K : Fg} {B : Bs} {a b : Addr} {l r : List D}
theorem src_sh : Src K B (some (.ref a), .sh (.lst l)) false a l := fun {L Hs H} ok hm => by
  obtain ⟨v, ev, r⟩ := ok.cells _ hm
  cases ev
  obtain ⟨p, vs, e1, h1, h2⟩ := (show ∃ p vs, V.ref a = .ref p ∧ Hs p = some (.lst vs) ∧ RpL K Hs l vs from r)
  cases e1
  exact ⟨vs, .inl (.inl (ok.gr.sub _ _ h1)), h2⟩
theorem src_vw : Src K B (some (.ref a), .vw (.lst l)) false a l := fun {L Hs H} ok hm => by
  obtain ⟨v, ev, r⟩ := ok.cells _ hm
  cases ev
  obtain ⟨p, vs, e1, h1, h2⟩ := (show ∃ p vs, V.ref a = .ref p ∧ H p = some (.lst vs) ∧ RpL K Hs l vs from r)
  cases e1
  exact ⟨vs, .inl (.inl h1), h2⟩
theorem src_tup : Src K B (some (.ref a), .sh (.tup l)) true a l := fun {L Hs H} ok hm => by
  obtain ⟨v, ev, r⟩ := ok.cells _ hm
  cases ev
  obtain ⟨p, vs, e1, h1, h2⟩ := (show ∃ p vs, V.ref a = .ref p ∧ SqT K Hs p vs ∧ RpL K Hs l vs from r)
  cases e1
  exact ⟨vs, SqT.mono ok.gr.sub h1, h2⟩
theorem enumD_len : ∀ {k : Nat} {l : List D}, (enumD k l).length = l.length
  | _, [] => rfl
  | k, x :: l => congrArg (· + 1) (enumD_len (k := k + 1) (l := l))
theorem enumD_get : ∀ {k : Nat} {l : List D} {i : Nat} {d : D}, (enumD k l)[i]? = some d → ∃ x, l[i]? = some x ∧ d = .tup [.int ((k + i : Nat) : Int), x]
  | _, [], _, _, h => by simp [enumD] at h
  | k, x :: l, 0, d, h => by simp [enumD] at h; exact ⟨x, rfl, h.symm⟩
  | k, x :: l, i + 1, d, h => by
    obtain ⟨y, h1, h2⟩ := enumD_get (k := k + 1) (l := l) (i := i) (by simpa [enumD] using h)
    exact ⟨y, by simpa using h1, by rw [h2, show k + 1 + i = k + (i + 1) by omega]⟩
theorem zipD_get : ∀ {l r : List D} {i : Nat} {d : D}, (zipD l r)[i]? = some d → ∃ x y, l[i]? = some x ∧ r[i]? = some y ∧ d = .tup [x, y]
  | [], _, _, _, h => by simp [zipD] at h
  | _ :: _, [], _, _, h => by simp [zipD] at h
  | x :: l, y :: r, 0, d, h => by simp [zipD] at h; exact ⟨x, y, rfl, rfl, h.symm⟩
  | x :: l, y :: r, i + 1, d, h => by
    obtain ⟨u, v, h1, h2, h3⟩ := zipD_get (l := l) (r := r) (i := i) (by simpa [zipD] using h)
    exact ⟨u, v, by simpa using h1, by simpa using h2, h3⟩
theorem zipD_len : ∀ {l r : List D}, (zipD l r).length = l.length ∨ (zipD l r).length = r.length
  | [], _ => .inl rfl
  | _ :: _, [] => .inr rfl
  | _ :: l, _ :: r => (zipD_len (l := l) (r := r)).imp (congrArg (· + 1)) (congrArg (· + 1))
/-- a pair of its own, shared at once -/
theorem ok_pair {L : List Cell} {Hs H : Hp} {T : Addr} {d1 d2 : D} {x y : V} (ok : OkAt K B L Hs H) (hT : H T = none) (h1 : Rp K Hs d1 x) (h2 : Rp K Hs d2 y) : Ok K B ((some (.ref T), .sh (.tup [d1, d2])) :: L) (L2.upd H T (.tup [x, y])) := by
  have s := Same.upd (o := .tup [x, y]) (ok.gr.sub.free hT)
  exact ok.newSh hT (d := .tup [d1, d2]) ⟨T, [x, y], rfl, .inl (.inl upd_same), Rp.mono s _ _ h1, Rp.mono s _ _ h2, trivial⟩
theorem itok_enumL {c : Cell} (s : Src K B c false a l) : ItOk K B (Ite K a) [c] (enumD 0 l) := fun L H ok => by
  obtain ⟨Hs, ok⟩ := ok
  obtain ⟨vs, hq, h2⟩ := s ok List.mem_cons_self
  have hq : SqL K H a vs := hq
  refine ⟨fun i d hi => ?_, vs, hq, by rw [enumD_len, h2.length]; exact Nat.le_refl _⟩
  obtain ⟨x, hx, rfl⟩ := enumD_get hi
  obtain ⟨u, hu, ru⟩ := h2.get hx
  refine ⟨⟨vs, u, hq, hu⟩, fun y H3 ⟨T, z, ey, hT, eH, fx⟩ => ?_⟩
  have e3 := (fx vs hq).symm.trans hu
  cases e3
  subst ey; subst eH
  rw [Nat.zero_add]
  exact ok_pair ok hT rfl ru
theorem itok_enumT {c : Cell} (s : Src K B c true a l) : ItOk K B (IteT K a) [c] (enumD 0 l) := fun L H ok => by
  obtain ⟨Hs, ok⟩ := ok
  obtain ⟨vs, hq, h2⟩ := s ok List.mem_cons_self
  have hq : SqT K H a vs := hq
  refine ⟨fun i d hi => ?_, vs, hq, by rw [enumD_len, h2.length]; exact Nat.le_refl _⟩
  obtain ⟨x, hx, rfl⟩ := enumD_get hi
  obtain ⟨u, hu, ru⟩ := h2.get hx
  refine ⟨⟨vs, u, hq, hu⟩, fun y H3 ⟨T, z, ey, hT, eH, fx⟩ => ?_⟩
  have e3 := (fx vs hq).symm.trans hu
  cases e3
  subst ey; subst eH
  rw [Nat.zero_add]
  exact ok_pair ok hT rfl ru
theorem itok_zipL {c c2 : Cell} (s : Src K B c false a l) (s2 : Src K B c2 false b r) : ItOk K B (Itz K a b) [c, c2] (zipD l r) := fun L H ok => by
  obtain ⟨Hs, ok⟩ := ok
  obtain ⟨vs, hq, h2⟩ := s ok List.mem_cons_self
  obtain ⟨ws, hq', h2'⟩ := s2 ok (List.mem_cons_of_mem _ List.mem_cons_self)
  have hq : SqL K H a vs := hq
  have hq' : SqL K H b ws := hq'
  refine ⟨fun i d hi => ?_, vs, ws, hq, hq', by rw [← h2.length, ← h2'.length]; rcases zipD_len (l := l) (r := r) with e | e <;> rw [e]; exact .inl (Nat.le_refl _); exact .inr (Nat.le_refl _)⟩
  obtain ⟨x, y, hx, hy, rfl⟩ := zipD_get hi
  obtain ⟨u, hu, ru⟩ := h2.get hx
  obtain ⟨w, hw, rw'⟩ := h2'.get hy
  refine ⟨⟨vs, ws, u, w, hq, hq', hu, hw⟩, fun v H3 ⟨T, z, z', ey, hT, eH, fx, fy⟩ => ?_⟩
  have e3 := (fx vs hq).symm.trans hu
  cases e3
  have e4 := (fy ws hq').symm.trans hw
  cases e4
  subst ey; subst eH
  exact ok_pair ok hT ru rw'
theorem itok_zipT {c c2 : Cell} (s : Src K B c true a l) (s2 : Src K B c2 true b r) : ItOk K B (ItzT K a b) [c, c2] (zipD l r) := fun L H ok => by
  obtain ⟨Hs, ok⟩ := ok
  obtain ⟨vs, hq, h2⟩ := s ok List.mem_cons_self
  obtain ⟨ws, hq', h2'⟩ := s2 ok (List.mem_cons_of_mem _ List.mem_cons_self)
  have hq : SqT K H a vs := hq
  have hq' : SqT K H b ws := hq'
  refine ⟨fun i d hi => ?_, vs, ws, hq, hq', by rw [← h2.length, ← h2'.length]; rcases zipD_len (l := l) (r := r) with e | e <;> rw [e]; exact .inl (Nat.le_refl _); exact .inr (Nat.le_refl _)⟩
  obtain ⟨x, y, hx, hy, rfl⟩ := zipD_get hi
  obtain ⟨u, hu, ru⟩ := h2.get hx
  obtain ⟨w, hw, rw'⟩ := h2'.get hy
  refine ⟨⟨vs, ws, u, w, hq, hq', hu, hw⟩, fun v H3 ⟨T, z, z', ey, hT, eH, fx, fy⟩ => ?_⟩
  have e3 := (fx vs hq).symm.trans hu
  cases e3
  have e4 := (fy ws hq').symm.trans hw
  cases e4
  subst ey; subst eH
  exact ok_pair ok hT ru rw'
theorem itok_rev (lo hi : Int) : ItOk K B (Itc (lo + (((hi - lo).toNat : Nat) : Int) - 1) (-1) (hi - lo).toNat) [] (rangeD lo hi).reverse := fun L H ok => by
  have hlen : (rangeD lo hi).length = (hi - lo).toNat := by simp [rangeD]
  refine ⟨fun i d hd => ?_, by rw [List.length_reverse, hlen]; exact Nat.le_refl _⟩
  have hi' : i < (rangeD lo hi).length := by
    have := (List.getElem?_eq_some_iff.mp hd).1
    rwa [List.length_reverse] at this
  rw [List.getElem?_reverse hi'] at hd
  unfold rangeD at hd
  rw [List.getElem?_map] at hd
  have hl2 : (List.map (fun (k : Nat) => D.int (lo + (k : Int))) (List.range (hi - lo).toNat)).length = (hi - lo).toNat := by simp
  rw [hl2, List.getElem?_range (by rw [hlen] at hi'; omega)] at hd
  have hd' := (Option.some.inj hd).symm
  subst hd'
  refine ⟨by rw [← hlen]; exact hi', fun x H3 ⟨e, ex⟩ => ?_⟩
  subst e
  obtain ⟨Hs, ok⟩ := ok
  rw [ex]
  refine ⟨Hs, ok.sh (d := .int _) ?_⟩
  show V.int _ = V.int _
  rw [hlen] at hi'
  congr 1
  omega
end
section
variable {X : Cx} {B : Bs} {a b : Expr} {elts : List Expr} {kk : Nat} {ma mb : ME} {pos p p1 tpos : Pos} {tg : Expr}
/-- a value that is walked, given away -/
theorem seq_fz {K : Fg} {L : List Cell} {H : Hp} {v : V} {x : Sl} {d : D} {l : List D} (ok : Ok K B ((some v, x) :: L) H) (hd : x.fz = some d) (hl : d.asSeq = some l) : ∃ a c tp, v = .ref a ∧ Ok K B (c :: L) H ∧ (∀ d, c.2 ≠ .vw d) ∧ Src K B c tp a l := by
  obtain ⟨v', ev, ok1⟩ := ok.fz hd
  cases ev
  have ok0 := ok1
  obtain ⟨Hs, ok1⟩ := ok1
  obtain ⟨v', ev, r⟩ := ok1.cells _ List.mem_cons_self
  cases ev
  cases d <;> first | (cases hl; done) | skip
  · cases hl
    obtain ⟨p, vs, rfl, _⟩ := (show ∃ p vs, v = .ref p ∧ SqT K Hs p vs ∧ RpL K Hs l vs from r)
    exact ⟨p, _, true, rfl, ok0, fun _ z => (by cases z), src_tup⟩
  · cases hl
    obtain ⟨p, vs, rfl, _⟩ := (show ∃ p vs, v = .ref p ∧ Hs p = some (.lst vs) ∧ RpL K Hs l vs from r)
    exact ⟨p, _, false, rfl, ok0, fun _ z => (by cases z), src_sh⟩
/-- .. or but read for a while -/
theorem seq_vw {K : Fg} {L : List Cell} {H : Hp} {v : V} {x : Sl} {d : D} {l : List D} (ok : Ok K B ((some v, x) :: L) H) (hd : x.val = some d) (hl : d.asSeq = some l) : ∃ a c tp, v = .ref a ∧ Ok K B (c :: L) H ∧ Src K B c tp a l := by
  obtain ⟨Hs, ok1⟩ := ok
  obtain ⟨v', ev, r⟩ := (ok1.cells _ List.mem_cons_self).read ok1.gr.sub hd
  cases ev
  have ok2 := ok1.sub (.cons _ (List.Sublist.refl L))
  cases d <;> first | (cases hl; done) | skip
  · cases hl
    obtain ⟨p, vs, rfl, t1, r1⟩ := Vw.tup r
    exact ⟨p, _, true, rfl, ⟨Hs, ok2.sh (d := .tup l) ⟨p, vs, rfl, t1, r1⟩⟩, src_tup⟩
  · cases hl
    obtain ⟨p, vs, rfl, t1, r1⟩ := Vw.lst r
    exact ⟨p, _, false, rfl, ⟨Hs, ok2.vw (d := .lst l) ⟨p, vs, rfl, t1, r1⟩⟩, src_vw⟩
theorem siz_enum (hm : X.mg "enumerate" = none) (ha : SimE X B a ma) (hg : Gl X "enumerate" := by rfl) (hs : starEach [a] X.env = [(false, eval a X.env)] := by rfl) : SimIz X B (.Tuple elts kk tpos) (.Call (.Name "enumerate" p1) [a] [] pos) (iEnumZ ma) :=
  (pi_enumF (ta := tCons (SE (kw X) B ma) tNil) hg hm (pa_cons ha pa_nil hs) hs).imp fun σ H R ⟨e, T, l, hl, ok, hm, q⟩ => by
    obtain ⟨l0, h1, h2⟩ := Option.map_eq_some_iff.mp hm
    subst h2
    obtain ⟨x, hx, h3⟩ := Option.bind_eq_some_iff.mp h1
    obtain ⟨d, hd, h4⟩ := Option.bind_eq_some_iff.mp h3
    refine ⟨e, T, x, hl, ok, hx, fun v H1 ok1 => ?_⟩
    obtain ⟨p, c, tp, rfl, ok2, nc, src⟩ := seq_fz ok1 hd h4
    have okc := ok2
    obtain ⟨Hs, ok3⟩ := ok2
    obtain ⟨vs, hq, _⟩ := src ok3 List.mem_cons_self
    refine ⟨p, vs, rfl, ?_⟩
    cases tp with
    | true => exact .inr ⟨hq, q _ [c] _ (nv_one nc) okc (itok_enumT src)⟩
    | false => exact .inl ⟨hq, q _ [c] _ (nv_one nc) okc (itok_enumL src)⟩
theorem si_enum (hm : X.mg "enumerate" = none) (ha : SimE X B a ma) (hg : Gl X "enumerate" := by rfl) (hs : starEach [a] X.env = [(false, eval a X.env)] := by rfl) : SimI X B (.Tuple elts kk tpos) (.Call (.Name "enumerate" p1) [a] [] pos) (iEnum ma) :=
  (pi_enumF (ta := tCons (SE (kw X) B ma) tNil) hg hm (pa_cons ha pa_nil hs) hs).imp fun σ H R ⟨e, T, l, hl, ok, hm, q⟩ => by
    obtain ⟨l0, h1, h2⟩ := Option.map_eq_some_iff.mp hm
    subst h2
    obtain ⟨x, hx, h3⟩ := Option.bind_eq_some_iff.mp h1
    obtain ⟨d, hd, h4⟩ := Option.bind_eq_some_iff.mp h3
    refine ⟨e, T, x, hl, ok, hx, fun v H1 ok1 => ?_⟩
    obtain ⟨p, c, tp, rfl, ok2, src⟩ := seq_vw ok1 hd h4
    have okc := ok2
    obtain ⟨Hs, ok3⟩ := ok2
    obtain ⟨vs, hq, _⟩ := src ok3 List.mem_cons_self
    refine ⟨p, vs, rfl, ?_⟩
    cases tp with
    | true => exact .inr ⟨hq, q _ [c] _ okc (itok_enumT src)⟩
    | false => exact .inl ⟨hq, q _ [c] _ okc (itok_enumL src)⟩
theorem siz_rev2 (hm : X.mg "reversed" = none) (hr : X.mg "range" = none) (ha : SimE X B a ma) (hb : SimE X B b mb) (hg : Gl X "reversed" := by rfl) (hg2 : Gl X "range" := by rfl) (na : starEach [a, b] X.env = (false, eval a X.env) :: starEach [b] X.env := by rfl) (nb : starEach [b] X.env = (false, eval b X.env) :: starEach [] X.env := by rfl) (hpp : (backTo pos (starEach [b] X.env)).any (·.1) = false := by rfl)
    (hs : starEach [.Call (.Name "range" p1) [a, b] [] pos] X.env = (false, eval (.Call (.Name "range" p1) [a, b] [] pos) X.env) :: starEach [] X.env := by rfl) :
    SimIz X B tg (.Call (.Name "reversed" p) [.Call (.Name "range" p1) [a, b] [] pos] [] tpos) (iRev (iRange2 ma mb)) :=
  (pi_revR hg hm (prg_2 hg2 hr ha hb na nb hpp) hs).imp fun σ H R ⟨e, T, l0, hl, ok, hm, q⟩ => by
    obtain ⟨l, h1, h2⟩ := Option.map_eq_some_iff.mp hm
    subst h2
    obtain ⟨x, hx, h2⟩ := Option.bind_eq_some_iff.mp h1
    obtain ⟨d, hd, h3⟩ := Option.bind_eq_some_iff.mp h2
    obtain ⟨n, hn, h4⟩ := Option.bind_eq_some_iff.mp h3
    obtain ⟨y, hy, h5⟩ := Option.bind_eq_some_iff.mp h4
    obtain ⟨d2, hd2, h6⟩ := Option.bind_eq_some_iff.mp h5
    obtain ⟨k, hk, h7⟩ := Option.bind_eq_some_iff.mp h6
    refine ⟨e, T, x, hl, ok, hx, fun v H1 ok1 => ?_⟩
    cases d <;> first | (cases hn; done) | skip
    cases hn
    have ev : v = .int n := by
      obtain ⟨Hs, ok2⟩ := ok1
      obtain ⟨v', ev, r⟩ := (ok2.cells _ List.mem_cons_self).read ok2.gr.sub hd
      cases ev
      exact r
    refine ⟨e, T, y, hl, ok1.tl, hy, fun w H2 ok3 => ?_⟩
    have ok0 := ok3.tl
    obtain ⟨Hs, ok3⟩ := ok3
    obtain ⟨w', ew, r⟩ := (ok3.cells _ List.mem_cons_self).read ok3.gr.sub hd2
    cases ew
    cases d2 <;> first | (cases hk; done) | skip
    cases hk
    by_cases hz : (okR n && okR k) = true
    · rw [if_pos hz] at h7
      cases h7
      obtain ⟨z1, z2⟩ := Bool.and_eq_true_iff.mp hz
      have hz1 := of_decide_eq_true z1
      have hz2 := of_decide_eq_true z2
      simp only [small] at hz1 hz2
      refine ⟨n, k, ev, r, by omega, by omega, by omega, by omega, ?_⟩
      exact q _ [] _ (fun c hc => by cases hc) ok0 (itok_rev n k)
    · rw [if_neg hz] at h7; cases h7
end
end Fx
set_option Elab.async false
set_option linter.all false
set_option maxRecDepth 100000
set_option maxHeartbeats 4000000
/-! Fx: the frame about a call, defs, calls. -/
namespace Fx
open PySem PySem.Spec PyProof.Rows L2
def ioCells (io : Nat → V) : Nat → List D → List Cell
  | _, [] => []
  | k, d :: ds => (some (io k), .io k d) :: ioCells io (k + 1) ds
section
variable {K : Fg} {B : Bs} {Hs H : Hp} {σ : L2.St}
theorem Mt.len {k : Nat} {vs : List V} {args : List Sl} {ps : List V} {ds : List D} {S : List Cell} (h : Mt k vs args ps ds S) : vs.length = args.length ∧ ps.length = ds.length := by
  induction h with
  | nil => exact ⟨rfl, rfl⟩
  | sh v d h ih => exact ⟨congrArg (· + 1) ih.1, ih.2⟩
  | io v d h ih => exact ⟨congrArg (· + 1) ih.1, congrArg (· + 1) ih.2⟩
/-- where a parameter comes from -/
theorem Mt.at {k : Nat} {vs : List V} {args : List Sl} {ps : List V} {ds : List D} {S : List Cell} (h : Mt k vs args ps ds S) : ∀ c ∈ (vs.map some).zip args,
    (∃ v d, c = (some v, .sh d) ∧ (some v, .sh d) ∈ S) ∨ ∃ j v d, c = (some v, .io (k + j) d) ∧ ps[j]? = some v ∧ ds[j]? = some d := by
  induction h with
  | nil => intro c hc; cases hc
  | sh v d h ih =>
    intro c hc
    rcases List.mem_cons.mp hc with rfl | hc
    · exact .inl ⟨v, d, rfl, List.mem_cons_self⟩
    · rcases ih c hc with ⟨v', d', e, m⟩ | q
      · exact .inl ⟨v', d', e, List.mem_cons_of_mem _ m⟩
      · exact .inr q
  | @io k vs args ps ds S v d h ih =>
    intro c hc
    rcases List.mem_cons.mp hc with rfl | hc
    · exact .inr ⟨0, v, d, rfl, rfl, rfl⟩
    · rcases ih c hc with q | ⟨j, v', d', e, m1, m2⟩
      · exact .inl q
      · exact .inr ⟨j + 1, v', d', by rw [e]; congr 2; omega, m1, m2⟩
theorem Mt.sep {k : Nat} {vs : List V} {args : List Sl} {ps : List V} {ds : List D} {S : List Cell} (h : Mt k vs args ps ds S) : ps.Nodup → ((vs.map some).zip args).Pairwise Sep := by
  induction h with
  | nil => intro _; exact List.Pairwise.nil
  | sh v d m ih => intro nd; exact List.Pairwise.cons (fun c _ a => by cases a) (ih nd)
  | @io k vs args ps ds S v d m ih =>
    intro nd
    obtain ⟨n1, n2⟩ := List.nodup_cons.mp nd
    refine List.Pairwise.cons (fun c hc _ hs e => ?_) (ih n2)
    rcases m.at c hc with ⟨v', d', rfl, _⟩ | ⟨j, v', d', rfl, h1, _⟩
    · cases hs
    · cases e
      exact n1 (List.mem_of_getElem? h1)
theorem pc_at : ∀ {ps : List V} {rs : List Ret} {ds : List D} {j : Nat} {v : V} {d : D}, RetOk σ ps rs → ps[j]? = some v → ds[j]? = some d → ∃ mk : D → Sl, (mk = .own ∨ ∃ n, mk = .io n) ∧ (some v, mk d) ∈ pc ps rs ds
  | [], _, _, _, _, _, _, h, _ => by simp at h
  | v :: ps, none :: rs, d :: ds, 0, _, _, r, h1, h2 => by
    simp at h1 h2; subst h1; subst h2
    exact ⟨.own, .inl rfl, List.mem_cons_self⟩
  | v :: ps, some (i, mk) :: rs, d :: ds, 0, _, _, r, h1, h2 => by
    simp at h1 h2; subst h1; subst h2
    exact ⟨mk, r.2.1, List.mem_cons_self⟩
  | v :: ps, none :: rs, d :: ds, j + 1, _, _, r, h1, h2 => by
    obtain ⟨mk, h, m⟩ := pc_at (ps := ps) (rs := rs) (ds := ds) (j := j) r (by simpa using h1) (by simpa using h2)
    exact ⟨mk, h, List.mem_cons_of_mem _ m⟩
  | v :: ps, some (i, mk) :: rs, d :: ds, j + 1, _, _, r, h1, h2 => by
    obtain ⟨mk, h, m⟩ := pc_at (ps := ps) (rs := rs) (ds := ds) (j := j) r.2.2 (by simpa using h1) (by simpa using h2)
    exact ⟨mk, h, List.mem_cons_of_mem _ m⟩
  | _ :: _, [], _, _, _, _, r, _, _ => r.elim
  | _ :: _, _ :: _, [], _, _, _, _, _, h => by simp at h
theorem pc_mem : ∀ {ps : List V} {rs : List Ret} {ds : List D} {c : Cell}, RetOk σ ps rs → c ∈ pc ps rs ds → ∃ (j : Nat) (v : V) (d : D) (mk : D → Sl), c = (some v, mk d) ∧ ps[j]? = some v ∧ ds[j]? = some d ∧ (mk = .own ∨ ∃ n, mk = .io n)
  | [], _, _, _, _, h => by simp [pc] at h
  | v :: ps, none :: rs, d :: ds, c, r, h => by
    rcases List.mem_cons.mp h with rfl | h
    · exact ⟨0, v, d, .own, rfl, rfl, rfl, .inl rfl⟩
    · obtain ⟨j, v', d', mk, e, h1, h2, h3⟩ := pc_mem (ps := ps) (rs := rs) (ds := ds) r h
      exact ⟨j + 1, v', d', mk, e, by simpa using h1, by simpa using h2, h3⟩
  | v :: ps, some (i, mk) :: rs, d :: ds, c, r, h => by
    rcases List.mem_cons.mp h with rfl | h
    · exact ⟨0, v, d, mk, rfl, rfl, rfl, r.2.1⟩
    · obtain ⟨j, v', d', mk, e, h1, h2, h3⟩ := pc_mem (ps := ps) (rs := rs) (ds := ds) r.2.2 h
      exact ⟨j + 1, v', d', mk, e, by simpa using h1, by simpa using h2, h3⟩
  | _ :: _, [], _, _, r, _ => r.elim
  | _ :: _, _ :: _, [], _, _, h => by simp [pc] at h
theorem solo_mk {mk : D → Sl} (h : mk = .own ∨ ∃ n, mk = .io n) (d : D) : (mk d).solo = true := by rcases h with rfl | ⟨n, rfl⟩ <;> rfl
/-- an object held -/
theorem own_mk {mk : D → Sl} {v : V} {d : D} (h : mk = .own ∨ ∃ n, mk = .io n) (hc : CellOk K B Hs H (some v, mk d)) : Own K B Hs H d v := by
  rcases h with rfl | ⟨n, rfl⟩
  · obtain ⟨w, e, h⟩ := hc; cases e; exact h
  · obtain ⟨w, e, _, h⟩ := hc; cases e; exact h
theorem mk_own {mk : D → Sl} {v : V} {d d0 : D} {Hs0 H0 : Hp} (h : mk = .own ∨ ∃ n, mk = .io n) (h0 : CellOk K B Hs0 H0 (some v, mk d0)) (ho : Own K B Hs H d v) : CellOk K B Hs H (some v, mk d) := by
  rcases h with rfl | ⟨n, rfl⟩
  · exact ⟨v, rfl, ho⟩
  · obtain ⟨w, e, e2, _⟩ := h0; cases e; exact ⟨v, rfl, e2, ho⟩
theorem pc_nodup : ∀ {ps : List V} {rs : List Ret} {ds : List D}, RetOk σ ps rs → ps.length = ds.length → (pc ps rs ds).Pairwise Sep → ps.Nodup
  | [], _, _, _, _, _ => List.nodup_nil
  | v :: ps, r :: rs, d :: ds, hr, hl, h => by
    have hr' : RetOk σ ps rs := by
      cases r with
      | none => exact hr
      | some x => exact hr.2.2
    have h' : ((some v, rc r d) :: pc ps rs ds).Pairwise Sep := h
    obtain ⟨h1, h2⟩ := List.pairwise_cons.mp h'
    have hl' : ps.length = ds.length := by simpa using hl
    refine List.nodup_cons.mpr ⟨fun hm => ?_, pc_nodup hr' hl' h2⟩
    obtain ⟨j, hj, ej⟩ := List.mem_iff_getElem.mp hm
    obtain ⟨mk, hmk, m⟩ := pc_at (ds := ds) (j := j) (v := v) (d := ds[j]'(by omega)) hr' (by rw [List.getElem?_eq_getElem hj, ej]) (List.getElem?_eq_getElem (by omega))
    refine h1 _ m ?_ (solo_mk hmk _) rfl
    cases r with
    | none => rfl
    | some x => exact solo_mk hr.2.1 d
  | _ :: _, [], _, r, _, _ => r.elim
  | _ :: _, _ :: _, [], _, h, _ => by simp at h
/-- H without the objects that a callee changes -/
def hid (H : Hp) (ps : List V) : Hp := fun a => if V.ref a ∈ ps then none else H a
def inB (Hs H : Hp) (ps : List V) : Bs := ⟨Hs, hid H ps, fun k => ps.getD k .non⟩
theorem hid_same {ps : List V} : Same (hid H ps) H := fun a x e => by
  unfold hid at e
  split at e
  · cases e
  · exact e
theorem frame_in {R S : List Cell} {vs ps : List V} {args : List Sl} {ds : List D} {rs : List Ret} (m : Mt 0 vs args ps ds S) (r : RetOk σ ps rs) (hS : ∀ c ∈ S, c ∈ R) (h : OkAt K B (pc ps rs ds ++ R) Hs H) :
    OkAt K (inB Hs H ps) ((vs.map some).zip args) Hs H := by
  have hn : ∀ p ∈ ps, ∀ a, p = .ref a → Hs a = none := fun p hp a e => by
    obtain ⟨j, hj, ej⟩ := List.mem_iff_getElem.mp hp
    obtain ⟨mk, hmk, hm⟩ := pc_at (ds := ds) (j := j) (v := p) (d := ds[j]'(by rw [← m.len.2]; exact hj)) r (by rw [List.getElem?_eq_getElem hj, ej]) (List.getElem?_eq_getElem (by rw [← m.len.2]; exact hj))
    obtain ⟨q, eq, _, h2, _⟩ := own_mk hmk (h.cells _ (List.mem_append_left _ hm))
    rw [e] at eq; cases eq; exact h2
  have sub : Same Hs (hid H ps) := fun a x e => by
    unfold hid
    split
    · rename_i hm; rw [hn _ hm a rfl] at e; cases e
    · exact h.gr.sub a x e
  have nd : ps.Nodup := pc_nodup r m.len.2 (h.sep.sublist (List.sublist_append_left _ _))
  refine ⟨⟨hid_same, Same.refl _, h.gr.sub, fun _ _ e => e⟩, fun c hc => ?_, ?_⟩
  · rcases m.at c hc with ⟨v, d, rfl, hm⟩ | ⟨j, v, d, rfl, h1, h2⟩
    · exact h.cells (some v, .sh d) (List.mem_append_right _ (hS _ hm))
    · obtain ⟨mk, hmk, hm⟩ := pc_at r h1 h2
      obtain ⟨q, eq, _, h3, h4⟩ := own_mk hmk (h.cells _ (List.mem_append_left _ hm))
      refine ⟨v, rfl, ?_, q, eq, ?_, h3, h4⟩
      · show v = ps.getD (0 + j) .non
        rw [Nat.zero_add, List.getD_eq_getElem?_getD, h1]; rfl
      · show hid H ps q = none
        unfold hid
        rw [if_pos (by rw [← eq]; exact List.mem_of_getElem? h1)]
  · exact m.sep nd
theorem ioCells_at {io : Nat → V} : ∀ {ds : List D} {k j : Nat} {d : D}, ds[j]? = some d → (some (io (k + j)), .io (k + j) d) ∈ ioCells io k ds
  | [], _, _, _, h => by simp at h
  | d :: ds, k, 0, _, h => by simp at h; subst h; exact List.mem_cons_self
  | d :: ds, k, j + 1, d', h => by
    have := ioCells_at (io := io) (ds := ds) (k := k + 1) (j := j) (d := d') (by simpa using h)
    rw [show k + 1 + j = k + (j + 1) by omega] at this
    exact List.mem_cons_of_mem _ this
theorem frame_out {R S : List Cell} {vs ps : List V} {args : List Sl} {ds ds' : List D} {rs : List Ret} {v : V} {x y : Sl} {H2 : Hp} (m : Mt 0 vs args ps ds S) (r : RetOk σ ps rs) (hR : nv R) (h : OkAt K B (pc ps rs ds ++ R) Hs H)
    (hl : ds'.length = ds.length) (hx : x.out = some y) (h2 : Ok K (inB Hs H ps) ((some v, x) :: ioCells (inB Hs H ps).io 0 ds') H2) : Ok K B ((some v, x) :: (pc ps rs ds' ++ R)) H2 := by
  obtain ⟨Hs2, h2⟩ := h2
  have hb : ∀ p ∈ ps, ∃ a, p = .ref a ∧ B.H a = none := fun p hp => by
    obtain ⟨j, hj, ej⟩ := List.mem_iff_getElem.mp hp
    obtain ⟨mk, hmk, hm⟩ := pc_at (ds := ds) (j := j) (v := p) (d := ds[j]'(by rw [← m.len.2]; exact hj)) r (by rw [List.getElem?_eq_getElem hj, ej]) (List.getElem?_eq_getElem (by rw [← m.len.2]; exact hj))
    obtain ⟨q, eq, h1, _⟩ := own_mk hmk (h.cells _ (List.mem_append_left _ hm))
    exact ⟨q, eq, h1⟩
  have stay : ∀ a : Addr, V.ref a ∉ ps → hid H ps a = H a := fun a ha => if_neg ha
  have notin : ∀ a : Addr, B.H a ≠ none → V.ref a ∉ ps := fun a ha hm => by
    obtain ⟨q, eq, h1⟩ := hb _ hm
    cases eq; exact ha h1
  have bnone : ∀ a : Addr, hid H ps a = none → B.H a = none := fun a ha => by
    by_cases hm : V.ref a ∈ ps
    · obtain ⟨q, eq, h1⟩ := hb _ hm
      cases eq; exact h1
    · rw [stay a hm] at ha
      exact h.gr.all.free ha
  have g2 := h2.gr
  have gr : Grow B.Hs B.H Hs2 H2 := ⟨fun a u e => g2.all a u (by
      show hid H ps a = some u
      rw [stay a (notin a (by rw [e]; simp))]; exact h.gr.all a u e), h.gr.sh.trans g2.sh, g2.sub, fun a ha hs => g2.out a (by
      show hid H ps a ≠ none
      rw [stay a (notin a ha)]; exact fun z => ha (h.gr.all.free z)) (h.gr.out a ha hs)⟩
  -- an object of another name
  have keep : ∀ (d : D) (w : V), Own K B Hs H d w → w ∉ ps → Own K B Hs2 H2 d w := fun d w ⟨q, eq, o1, o2, o3⟩ hw => by
    have hq : hid H ps q = H q := stay q (by rw [← eq]; exact hw)
    refine ⟨q, eq, o1, g2.out q (by show hid H ps q ≠ none; rw [hq]; exact o3.there) o2, ?_⟩
    cases d with
    | lst l => obtain ⟨us, u1, u2⟩ := o3; exact ⟨us, g2.all q _ (by show hid H ps q = _; rw [hq]; exact u1), RpL.mono g2.sh _ _ u2⟩
    | dk l => obtain ⟨us, u1, u2⟩ := o3; exact ⟨us, g2.all q _ (by show hid H ps q = _; rw [hq]; exact u1), RpK.mono g2.sh _ _ u2⟩
    | dt l => obtain ⟨us, u1, u2⟩ := o3; exact ⟨us, g2.all q _ (by show hid H ps q = _; rw [hq]; exact u1), RpN.mono g2.sh _ _ u2⟩
    | _ => exact o3.elim
  have sep0 := List.pairwise_append.mp h.sep
  have apart : ∀ c ∈ R, c.2.solo = true → ∀ w, c.1 = some w → w ∉ ps := fun c hc hs w e hm => by
    obtain ⟨j, hj, ej⟩ := List.mem_iff_getElem.mp hm
    obtain ⟨mk, hmk, hm⟩ := pc_at (ds := ds) (j := j) (v := w) (d := ds[j]'(by rw [← m.len.2]; exact hj)) r (by rw [List.getElem?_eq_getElem hj, ej]) (List.getElem?_eq_getElem (by rw [← m.len.2]; exact hj))
    exact sep0.2.2 _ hm c hc (solo_mk hmk _) hs e.symm
  have sep2 := List.pairwise_cons.mp h2.sep
  -- what the callee returns
  have hv := h2.cells _ List.mem_cons_self
  have hv' : CellOk K B Hs2 H2 (some v, x) ∧ (x.solo = true → ∃ q, v = .ref q ∧ hid H ps q = none) := by
    cases x with
    | sh d => exact ⟨hv, fun z => by cases z⟩
    | own d => obtain ⟨w, e, q, eq, o1, o2, o3⟩ := hv; cases e; exact ⟨⟨v, rfl, q, eq, bnone q o1, o2, o3⟩, fun _ => ⟨q, eq, o1⟩⟩
    | _ => cases hx
  refine ⟨Hs2, gr, fun c hc => ?_, List.Pairwise.cons (fun c hc hs hs' e => ?_) (List.pairwise_append.mpr ⟨?_, sep0.2.1, fun c hc c' hc' hs hs' e => ?_⟩)⟩
  · rcases List.mem_cons.mp hc with rfl | hc
    · exact hv'.1
    · rcases List.mem_append.mp hc with hc | hc
      · obtain ⟨j, w, d, mk, rfl, h3, h4, hmk⟩ := pc_mem r hc
        have hjl : j < ds.length := by rw [← hl]; exact (List.getElem?_eq_some_iff.mp h4).1
        obtain ⟨mk0, hmk0, hm0⟩ := pc_at (ds := ds) (d := ds[j]) r h3 (List.getElem?_eq_getElem hjl)
        have hio := h2.cells _ (List.mem_cons_of_mem _ (ioCells_at (io := (inB Hs H ps).io) (k := 0) h4))
        obtain ⟨w', e1, e2, q, eq, o1, o2, o3⟩ := hio
        have e3 : (inB Hs H ps).io (0 + j) = w := by
          show ps.getD (0 + j) .non = w
          rw [Nat.zero_add, List.getD_eq_getElem?_getD, h3]; rfl
        rw [e3] at e1
        cases e1
        have ho : Own K B Hs2 H2 d w := ⟨q, eq, bnone q o1, o2, o3⟩
        rcases hmk with rfl | ⟨n, rfl⟩
        · exact ⟨w, rfl, ho⟩
        · refine ⟨w, rfl, ?_, ho⟩
          -- the caller's own parameter
          have : ∀ {ps : List V} {rs : List Ret} {ds ds' : List D} {w : V} {n : Nat} {d : D}, RetOk σ ps rs → ds'.length = ds.length → (some w, Sl.io n d) ∈ pc ps rs ds' → ∃ d0, (some w, Sl.io n d0) ∈ pc ps rs ds := by
            intro ps
            induction ps with
            | nil => intro rs ds ds' w n d _ _ h; simp [pc] at h
            | cons p ps ih =>
              intro rs ds ds' w n d r hl h
              cases rs with
              | nil => exact r.elim
              | cons r0 rs =>
                cases ds' with
                | nil => simp [pc] at h
                | cons d1 ds' =>
                  cases ds with
                  | nil => simp at hl
                  | cons d2 ds =>
                    have r' : RetOk σ ps rs := by
                      cases r0 with
                      | none => exact r
                      | some _ => exact r.2.2
                    rcases List.mem_cons.mp h with e | h
                    · cases r0 with
                      | none => cases e
                      | some y =>
                        obtain ⟨i, mk⟩ := y
                        have e2 : (some w, Sl.io n d) = (some p, mk d1) := e
                        rcases r.2.1 with z | ⟨n', z⟩
                        · rw [z] at e2; cases e2
                        · subst z; cases e2
                          exact ⟨d2, List.mem_cons_self⟩
                    · obtain ⟨d0, h0⟩ := ih r' (by simpa using hl) h
                      exact ⟨d0, List.mem_cons_of_mem _ h0⟩
          obtain ⟨d0, h0⟩ := this r hl hc
          obtain ⟨w', e1, e2, _⟩ := h.cells _ (List.mem_append_left _ h0)
          cases e1; exact e2
      · have hk := h.cells c (List.mem_append_right _ hc)
        have ha := apart c hc
        have hnv := hR c hc
        obtain ⟨o, z⟩ := c
        cases z with
        | un => trivial
        | sh d => obtain ⟨w, e, hh⟩ := hk; exact ⟨w, e, Rp.mono g2.sh _ _ hh⟩
        | own d => obtain ⟨w, e, hh⟩ := hk; exact ⟨w, e, keep d w hh (ha rfl w e)⟩
        | io n d => obtain ⟨w, e, e2, hh⟩ := hk; exact ⟨w, e, e2, keep d w hh (ha rfl w e)⟩
        | vw d => exact absurd rfl (hnv d)
  · -- the returned object and the others
    obtain ⟨q, eq, hq⟩ := hv'.2 hs
    subst eq
    rcases List.mem_append.mp hc with hc | hc
    · obtain ⟨j, w, d, mk, rfl, h3, h4, hmk⟩ := pc_mem r hc
      have hm := ioCells_at (io := (inB Hs H ps).io) (k := 0) h4
      refine sep2.1 _ hm hs rfl ?_
      have e3 : (inB Hs H ps).io (0 + j) = w := by
        show ps.getD (0 + j) .non = w
        rw [Nat.zero_add, List.getD_eq_getElem?_getD, h3]; rfl
      rw [e3]; exact e
    · have hk := h.cells c (List.mem_append_right _ hc)
      have ha := apart c hc hs' _ e.symm
      rw [stay q ha] at hq
      obtain ⟨o, z⟩ := c
      have e' : some (V.ref q) = o := e
      subst e'
      cases z with
      | own d => obtain ⟨w, e1, q', e2, _, _, t⟩ := hk; cases e1; cases e2; exact t.there hq
      | io n d => obtain ⟨w, e1, _, q', e2, _, _, t⟩ := hk; cases e1; cases e2; exact t.there hq
      | _ => cases hs'
  · -- the changed objects among themselves
    have nd : ps.Nodup := pc_nodup r m.len.2 sep0.1
    clear sep0 h keep apart h2 hv hv' sep2 g2 gr bnone notin stay hb hx
    have : ∀ {ps : List V} {rs : List Ret} {ds : List D}, RetOk σ ps rs → ps.Nodup → (pc ps rs ds).Pairwise Sep := by
      intro ps
      induction ps with
      | nil => intro rs ds _ _; exact List.Pairwise.nil
      | cons p ps ih =>
        intro rs ds r nd
        cases rs with
        | nil => exact r.elim
        | cons r0 rs =>
          cases ds with
          | nil => exact List.Pairwise.nil
          | cons d ds =>
            have r' : RetOk σ ps rs := by
              cases r0 with
              | none => exact r
              | some _ => exact r.2.2
            obtain ⟨n1, n2⟩ := List.nodup_cons.mp nd
            refine List.Pairwise.cons (fun c hc _ _ e => ?_) (ih r' n2)
            obtain ⟨j, w, d', mk, rfl, h3, _, _⟩ := pc_mem r' hc
            have e' : some p = some w := e
            cases e'
            exact n1 (List.mem_of_getElem? h3)
    exact this r nd
  · obtain ⟨j, w, d, mk, rfl, h3, _, hmk⟩ := pc_mem r hc
    exact apart c' hc' hs' w e.symm (List.mem_of_getElem? h3)
end
end Fx
set_option Elab.async false
set_option linter.all false
set_option maxRecDepth 100000
set_option maxHeartbeats 4000000
/-! Fx: defs by their bodies, calls, the law's own call; no repr is under way. -/
namespace Fx
open PySem PySem.Spec PyProof.Rows L2
/-- a def's promise by its mirror, parameters that it changes among them -/
def spX (K : Fg) (f : FX) (n : Nat) : Sp := fun vs H Q _ => ∃ (B : Bs) (args : List Sl) (r : Sl) (outs : List D), vs.length = n ∧ vs.length = args.length ∧ OkS K B ((vs.map some).zip args) H ∧ f args = some (r, outs) ∧
  ∀ v H', Ok K B ((some v, r) :: ioCells B.io 0 outs) H' → Q v H'
/-- every address apart from p: the names' way out -/
theorem getIo_at : ∀ {is : List Nat} {k : Nat} {e : Env} {outs : List D}, getIo k is e = some outs → ∀ j d, outs[j]? = some d → ∃ i : Nat, e[i]? = some (Sl.io (k + j) d)
  | [], k, e, outs, h, j, d, hj => by
    cases h
    simp at hj
  | i :: is, k, e, outs, h, j, d, hj => by
    unfold getIo at h
    split at h
    · rename_i n d0 he
      split at h
      · rename_i hn
        subst hn
        obtain ⟨os, h1, h2⟩ := Option.map_eq_some_iff.mp h
        subst h2
        cases j with
        | zero => simp at hj; subst hj; exact ⟨i, he⟩
        | succ j =>
          obtain ⟨i', h3⟩ := getIo_at h1 j d (by simpa using hj)
          exact ⟨i', by rw [h3]; congr 2; omega⟩
      · cases h
    · cases h
theorem ioCells_mem {io : Nat → V} : ∀ {ds : List D} {k : Nat} {c : Cell}, c ∈ ioCells io k ds → ∃ j d, c = (some (io (k + j)), .io (k + j) d) ∧ ds[j]? = some d
  | [], _, _, h => by simp [ioCells] at h
  | d :: ds, k, c, h => by
    rcases List.mem_cons.mp h with rfl | h
    · exact ⟨0, d, rfl, rfl⟩
    · obtain ⟨j, d', e, h2⟩ := ioCells_mem (io := io) h
      exact ⟨j + 1, d', by rw [e, show k + 1 + j = k + (j + 1) by omega], by simpa using h2⟩
section
variable {K : Fg} {B : Bs} {H : Hp} {σ : L2.St}
/-- what is left in the changed parameters -/
theorem ok_outs {is : List Nat} {e : Env} {outs : List D} {c : Cell} {L : List Cell} (hl : σ.length = e.length) (hg : getIo 0 is e = some outs) (hL : ∀ (i : Nat) (x : Sl), e[i]? = some x → (∃ n d, x = .io n d) → ∀ o : Option V, σ[i]? = some o → (o, x) ∈ L) (h : Ok K B (c :: L) H) :
    Ok K B (c :: ioCells B.io 0 outs) H := by
  obtain ⟨Hs, h⟩ := h
  have hin : ∀ j d, outs[j]? = some d → (some (B.io j), Sl.io j d) ∈ L := fun j d hj => by
    obtain ⟨i, hi⟩ := getIo_at hg j d hj
    rw [Nat.zero_add] at hi
    obtain ⟨o, h1, _⟩ := zip_at hl hi
    have hm := hL i _ hi ⟨_, _, rfl⟩ o h1
    obtain ⟨v, ev, e2, _⟩ := h.cells _ (List.mem_cons_of_mem _ hm)
    have ev' : o = some v := ev
    rw [ev', e2] at hm
    exact hm
  have sp := List.pairwise_cons.mp h.sep
  -- two changed parameters stand apart
  have two : ∀ (l : List Cell), l.Pairwise Sep → ∀ a ∈ l, ∀ b ∈ l, a ≠ b → Sep a b := by
    intro l hp
    induction hp with
    | nil => intro a ha; cases ha
    | @cons x l h1 h2 ih =>
      intro a ha b hb hne
      cases List.mem_cons.mp ha with
      | inl ea => cases List.mem_cons.mp hb with
        | inl eb => exact absurd (ea.trans eb.symm) hne
        | inr hb2 => rw [ea]; exact h1 b hb2
      | inr ha2 => cases List.mem_cons.mp hb with
        | inl eb => rw [eb]; exact (h1 a ha2).symm
        | inr hb2 => exact ih a ha2 b hb2 hne
  refine ⟨Hs, h.gr, fun x hx => ?_, List.Pairwise.cons (fun x hx => ?_) ?_⟩
  · rcases List.mem_cons.mp hx with rfl | hx
    · exact h.cells _ List.mem_cons_self
    · obtain ⟨j, d, rfl, hj⟩ := ioCells_mem hx
      rw [Nat.zero_add]
      exact h.cells _ (List.mem_cons_of_mem _ (hin j d hj))
  · obtain ⟨j, d, rfl, hj⟩ := ioCells_mem hx
    rw [Nat.zero_add]
    exact sp.1 _ (hin j d hj)
  · have : ∀ (ds : List D) (k : Nat), (∀ j d, ds[j]? = some d → outs[k + j]? = some d) → (ioCells B.io k ds).Pairwise Sep := by
      intro ds
      induction ds with
      | nil => intro k _; exact List.Pairwise.nil
      | cons d ds ih =>
        intro k hk
        refine List.Pairwise.cons (fun x hx => ?_) (ih (k + 1) fun j d' hj => by rw [show k + 1 + j = k + (j + 1) by omega]; exact hk (j + 1) d' (by simpa using hj))
        obtain ⟨j, d', rfl, hj⟩ := ioCells_mem hx
        refine two L sp.2 _ (hin k d (hk 0 d rfl)) _ (hin _ d' ?_) fun e => ?_
        · rw [show k + 1 + j = k + (j + 1) by omega]; exact hk (j + 1) d' (by simpa using hj)
        · have : Sl.io k d = Sl.io (k + 1 + j) d' := congrArg Prod.snd e
          injection this with h1 _
          omega
    exact this outs 0 fun j d hj => by rw [Nat.zero_add]; exact hj
/-- the slots at a body's entry -/
theorem start_ok {N : List Str} {vs : List V} {args : List Sl} (hv : vs.length = args.length) (hN : vs.length ≤ N.length) (ok : OkS K B ((vs.map some).zip args) H) :
    (L2.start N vs).length = (args ++ List.replicate (N.length - args.length) Sl.un).length ∧ OkS K B ((L2.start N vs).zip (args ++ List.replicate (N.length - args.length) Sl.un) ++ []) H := by
  unfold L2.start
  refine ⟨by simp [hv], ?_⟩
  rw [List.append_nil, List.zip_append (by simpa using hv), ← hv]
  have hz : ∀ n : Nat, ∀ c ∈ (List.replicate n (none : Option V)).zip (List.replicate n Sl.un), c.2 = .un := fun n c hc => List.eq_of_mem_replicate (List.of_mem_zip (show (c.1, c.2) ∈ _ from hc)).2
  obtain ⟨⟨Hs, o⟩, n⟩ := ok
  refine ⟨⟨Hs, o.gr, fun c hc => ?_, List.pairwise_append.mpr ⟨o.sep, ?_, fun a _ b hb _ hs => ?_⟩⟩, fun c hc d => ?_⟩
  · rcases List.mem_append.mp hc with hc | hc
    · exact o.cells c hc
    · have := hz _ c hc
      obtain ⟨u, x⟩ := c
      have this' : x = .un := this
      subst this'
      trivial
  · generalize N.length - vs.length = n
    induction n with
    | zero => exact List.Pairwise.nil
    | succ n ih => exact List.Pairwise.cons (fun b _ hs => by cases hs) ih
  · rw [hz _ b hb] at hs; cases hs
  · rcases List.mem_append.mp hc with hc | hc
    · exact n c hc d
    · rw [hz _ c hc]; intro z; cases z
end
section
variable {CX : CXT} {P : Program} {w : World} {K : PySem.W.Frag} {mg : Str → Option Value} {base : Heap} {k : Nat} {f : Addr} {name qual : Str} {params : Arguments} {body : List Stmt} {scope : Scope} {dV kV doc pm cdv ct oc : Value} {an od : Option Addr} {osl : Array (Option Value)} {N ps : List Str} {sp : Sp}
theorem FnG.mono {fd : FuncData} {j : Nat} (F : FnG P w K mg base CX j f fd ps sp) (h : j ≤ k) : FnG P w K mg base CX k f fd ps sp :=
  ⟨F.len, fun A outer s H args us vs Q E hr hg => F.run A outer s H args us vs Q E (hr.mono h) hg⟩
/-- a def by its body: no repr is under way -/
theorem fng_of (lk : K.lookup f = some ⟨oc, od, .func (PySem.W.fnOf name qual params body scope dV kV doc pm an cdv ct), osl⟩) (hcd : PySem.W.codeIn K cdv qual = true) (S : FnScope N ps scope) (len : ∀ vs H Q E, sp vs H Q E → vs.length = ps.length)
    (hbody : ∀ (A : Around) (outer : List PySem.Env) (s : Shared) (H : Hp) (vs : List V) (Q : VK) (E : XK), Room k (A.deeper (envOfC qual scope s.heap.objs.size f cdv)) → A.guards = some [] → sp vs H Q E →
      ∃ t, PSs (cxOf CX P w K mg base N qual scope f cdv A outer s H E) body t ∧ t { nx := fun _ H' => Q .non H', rt := Q } (L2.start N vs) H) :
    FnG P w K mg base CX (k + 1) f (PySem.W.fnOf name qual params body scope dV kV doc pm an cdv ct) ps sp := by
  constructor
  · exact len
  intro A outer s H args us vs Q E room gd e0 hbi rel hsp
  have inK : K.In s.heap := e0.mod.kin.keeps fun b o e => (e0.bs b o e).1
  have nolim : s.heap.NoLimit := e0.mod.nolimit.keeps fun b o e => (e0.bs b o e).1
  refine codeAny_call_function room.depth (inK _ _ lk) rfl S.co S.gen rfl (PySem.W.codeRec_of inK hcd) (hbi _ _ _ _ ?_)
  refine wpAny_newFunctionEnv_cells S.kind (fun ⟨n, v⟩ hy => ?_) fun en he s1 x => ?_
  · cases S.par n (List.of_mem_zip hy).1 with
    | inl q => exact .inl q
    | inr q => exact .inr ⟨q, PySem.W.cellsFrom_some _ _ _ (.inl q)⟩
  subst he
  refine ⟨nolim.keeps x.toInCall.keep, codeAny_func ?_⟩
  obtain ⟨t, ht, hq⟩ := hbody A outer s H vs Q E (room.deeper _) gd hsp
  have I := inv_start (CX := CX) (E := E) S room.hd e0 (len _ _ _ _ hsp) rel x
  refine wpAny_mono (ht.run [] s1 (L2.start N vs) H _ I hq) (fun fl s' hs => ?_) fun e s' hs => hs
  cases fl with
  | ret u => let ⟨v, _, H', J, rv, q⟩ := hs; exact ⟨v, H', J.os, J.bare, J.base, J.hok, rv, q⟩
  | next => let ⟨_, H', J, q⟩ := hs; exact ⟨.non, H', J.os, J.bare, J.base, J.hok, rfl, q⟩
  | brk => exact hs.elim fun _ h => h.elim fun _ h => h.2.elim
  | cont => exact hs.elim fun _ h => h.elim fun _ h => h.2.elim
/-- a def by its mirror -/
theorem fng_mir {np ns : Nat} {ios : List Nat} {m : MS} (lk : K.lookup f = some ⟨oc, od, .func (PySem.W.fnOf name qual params body scope dV kV doc pm an cdv ct), osl⟩) (hcd : PySem.W.codeIn K cdv qual = true) (S : FnScope N ps scope) (hp : ps.length = np) (hn : N.length = ns)
    (hbody : ∀ (A : Around) (outer : List PySem.Env) (s : Shared) (H : Hp) (E : XK) (B : Bs), Room k (A.deeper (envOfC qual scope s.heap.objs.size f cdv)) → A.guards = some [] → SimSs (cxOf CX P w K mg base N qual scope f cdv A outer s H E) B body m) :
    FnG P w K mg base CX (k + 1) f (PySem.W.fnOf name qual params body scope dV kV doc pm an cdv ct) ps (spX ⟨K, P, w⟩ (mDefX np ns ios m) np) := by
  subst hp hn
  have pre : ps.length ≤ N.length := by
    have := congrArg List.length S.pre
    rw [List.length_take] at this
    omega
  refine fng_of lk hcd S (fun vs H Q E h => ?_) fun A outer s H vs Q E hr hg hsp => ?_
  · obtain ⟨_, _, _, _, h, _⟩ := h; exact h
  obtain ⟨B, args, r, outs, h1, h2, ok, hm, q⟩ := hsp
  refine ⟨_, hbody A outer s H E B hr hg, ?_⟩
  unfold mDefX at hm
  by_cases hz : args.length = ps.length
  · rw [if_pos hz] at hm
    obtain ⟨⟨fl, e'⟩, h3, h4⟩ := Option.bind_eq_some_iff.mp hm
    obtain ⟨v0, h5, h6⟩ := Option.bind_eq_some_iff.mp h4
    obtain ⟨os, h7, h8⟩ := Option.map_eq_some_iff.mp h6
    cases h8
    obtain ⟨hl, ok0⟩ := start_ok (N := N) h2 (by omega) ok
    rw [hz] at hl ok0
    refine ⟨_, [], fl, e', hl, ok0, h3, ?_⟩
    cases fl with
    | rt x =>
      refine fun v σ' H' hl' ok' => q v H' ?_
      have hx : x = r := by
        cases x <;> first | (cases h5; rfl) | cases h5
      subst hx
      refine ok_outs hl' h7 (fun i y hi ⟨n, d, e⟩ o ho => List.mem_filter.mpr ⟨?_, by rw [e]; rfl⟩) ok'
      obtain ⟨o', a1, a2⟩ := zip_at hl' hi
      rw [a1] at ho; cases ho; exact a2
    | nx =>
      refine fun σ' H' hl' ok' => q .non H' ?_
      cases h5
      obtain ⟨⟨Hs, o⟩, _⟩ := ok'
      rw [List.append_nil] at o
      refine ok_outs hl' h7 (fun i y hi _ o ho => ?_) ⟨Hs, o.sh (d := .non) rfl⟩
      obtain ⟨o', a1, a2⟩ := zip_at hl' hi
      rw [a1] at ho; cases ho; exact a2
    | bk => cases h5
    | ct => cases h5
  · rw [if_neg hz] at hm; cases hm
end
section
variable {X : Cx} {B : Bs} {CX : CXT} {k : Nat} {f : Addr} {fd : FuncData} {ps : List Str} {E : XK} {x : Str} {p pos : Pos} {e : Expr} {es : List Expr} {t : TA} {sp : Sp} {fm : FX} {ags : List Ag} {n : Nat}
/-- a def's call -/
theorem pe_callG (F : FnG X.prog X.w X.K X.mg X.base CX k f fd ps sp) (room : Room k X.A) (gd : X.A.guards = some []) (hg : Gl X x) (hm : X.mg x = some (.ref f)) (hk : PySem.W.keepIn X.K (.ref f) = true) (hb : Binds X.K fd ps []) (hx : Passes CX X E) (ha : PA X (e :: es) t)
    (hdb : (x == ("__debug__" : Str)) = false := by decide) (he : starEach (e :: es) X.env = (false, eval e X.env) :: starEach es X.env := by rfl) (hpl : (backTo pos (starEach es X.env)).any (·.1) = false := by rfl) :
    PE X (.Call (.Name x p) (e :: es) [] pos) (fun σ H Q => t σ H fun vs H1 => sp vs H1 Q E) := by
  constructor
  intro pins s σ H Q I h
  refine wpAny_Call_Name_kw (ld_glob I hg hm (PySem.W.callWith_K (h₀ := X.base) I.ok.mod.kin hk (thn (ha.run pos pins s σ H _ I h) fun us s1 hus => ?_) he hpl) hdb)
  obtain ⟨vs, H1, I1, rel, q⟩ := hus
  refine ⟨I1.kIn, wpAny_call (codeAny_mono (F.run X.A X.stack s1 H1 ⟨us, []⟩ us vs Q E room gd I1.env0 ?_ rel q) fun r s2 hq => ?_)⟩
  · have := hb s1 us I1.kIn (by rw [List.append_nil, ← rel.length]; exact F.len _ _ _ _ q)
    rwa [List.append_nil] at this
  · cases r with
    | error e => exact hx pins σ H1 s1 e s2 I1 hq
    | ok fl => cases fl with
      | ret u => exact I1.after hq
      | next => exact hq.elim
      | brk => exact hq.elim
      | cont => exact hq.elim
theorem sx_call (F : FnG X.prog X.w X.K X.mg X.base CX k f fd ps (spX (kw X) fm n)) (room : Room k X.A) (gd : X.A.guards = some []) (hg : Gl X x) (hm : X.mg x = some (.ref f)) (hk : PySem.W.keepIn X.K (.ref f) = true) (hb : Binds X.K fd ps []) (hx : Passes CX X E) (hn : ags.length = n) (ha : SimAX X B (e :: es) ags)
    (hdb : (x == ("__debug__" : Str)) = false := by decide) (he : starEach (e :: es) X.env = (false, eval e X.env) :: starEach es X.env := by rfl) (hpl : (backTo pos (starEach es X.env)).any (·.1) = false := by rfl) :
    SimX X B (.Call (.Name x p) (e :: es) [] pos) (xCall fm ags) :=
  (pe_callG F room gd hg hm hk hb hx ha hdb he hpl).imp fun σ H Q ⟨e, T, x, e', hl, ok, hm, q⟩ => by
    obtain ⟨⟨pas, e1⟩, h1, h2⟩ := Option.bind_eq_some_iff.mp hm
    obtain ⟨tk, h3, h4⟩ := Option.bind_eq_some_iff.mp h2
    obtain ⟨⟨r, outs⟩, h5, h6⟩ := Option.bind_eq_some_iff.mp h4
    obtain ⟨r', h7, h8⟩ := Option.bind_eq_some_iff.mp h6
    obtain ⟨e3, h9, h10⟩ := Option.map_eq_some_iff.mp h8
    cases h10
    have er : r = x := by cases r <;> first | (cases h7; rfl) | cases h7
    subst er
    refine ⟨e, T, pas, e1, hl, ok, h1, fun vs H1 hlen hl1 hn1 hio ok1 => ?_⟩
    obtain ⟨pv, S, mt, ret, hl2, hn2, hS, ok2⟩ := take_ok hlen hl1 hn1 hio h3 ok1
    obtain ⟨Hs, ok2⟩ := ok2
    have nvR : nv (S ++ (σ.zip tk.e ++ T)) := fun c hc => by
      rcases List.mem_append.mp hc with hc | hc
      · exact hS c hc
      · exact nv_zip hn2 (nv_tl ok.nv) c hc
    have al : ∀ {ags : List Ag} {e : Env} {p : List Pa × Env}, xArgs ags e = some p → p.1.length = ags.length := by
      intro ags
      induction ags with
      | nil => intro e p h; cases h; rfl
      | cons a ags ih =>
        intro e p h
        cases a with
        | val m =>
          obtain ⟨_, _, h⟩ := Option.bind_eq_some_iff.mp h
          obtain ⟨_, _, h⟩ := Option.bind_eq_some_iff.mp h
          obtain ⟨z, h1, h⟩ := Option.map_eq_some_iff.mp h
          subst h; exact congrArg (· + 1) (ih h1)
        | own m =>
          obtain ⟨y, _, h⟩ := Option.bind_eq_some_iff.mp h
          obtain ⟨y1, y2⟩ := y
          cases y1 with
          | own d =>
            obtain ⟨z, h1, h⟩ := Option.map_eq_some_iff.mp h
            subst h; exact congrArg (· + 1) (ih h1)
          | _ => cases h
        | io i =>
          obtain ⟨_, _, h⟩ := Option.bind_eq_some_iff.mp h
          obtain ⟨z, h1, h⟩ := Option.map_eq_some_iff.mp h
          subst h; exact congrArg (· + 1) (ih h1)
    have hlen2 : vs.length = n := by rw [hlen, ← hn]; exact al h1
    refine ⟨inB Hs H1 pv, tk.args, r, outs, hlen2, mt.len.1, ⟨⟨Hs, frame_in mt ret (fun c hc => List.mem_append_left _ hc) ok2⟩, fun c hc d => ?_⟩, h5, fun v H2 ok3 => ?_⟩
    · rcases mt.at c hc with ⟨_, _, rfl, _⟩ | ⟨_, _, _, rfl, _⟩ <;> (intro z; cases z)
    · have lo : outs.length = tk.ds.length := by
        have g1 : ∀ {rs : List Ret} {ds : List D} {e e' : Env}, giveA rs ds e = some e' → ds.length = rs.length := by
          intro rs
          induction rs with
          | nil => intro ds e e' h; cases ds with
            | nil => rfl
            | cons _ _ => cases h
          | cons r rs ih =>
            intro ds e e' h
            cases ds with
            | nil => cases r <;> cases h
            | cons d ds =>
              cases r with
              | none => exact congrArg (· + 1) (ih (show giveA rs ds e = some e' from h))
              | some y => exact congrArg (· + 1) (ih (show giveA rs ds (e.set y.1 (y.2 d)) = some e' from h))
        have g2 : ∀ {ps : List V} {rs : List Ret}, RetOk σ ps rs → ps.length = rs.length := by
          intro ps
          induction ps with
          | nil => intro rs h; cases rs with
            | nil => rfl
            | cons _ _ => exact h.elim
          | cons p ps ih =>
            intro rs h
            cases rs with
            | nil => exact h.elim
            | cons r rs => cases r with
              | none => exact congrArg (· + 1) (ih h)
              | some y => exact congrArg (· + 1) (ih h.2.2)
        rw [g1 h9, ← g2 ret, mt.len.2]
      have ok4 := frame_out mt ret nvR ok2 lo h7 ok3
      have ok5 : Ok (kw X) B (pc pv tk.rets outs ++ (σ.zip tk.e ++ ((some v, r) :: T))) H2 := by
        have := ok4.perm (L' := pc pv tk.rets outs ++ (σ.zip tk.e ++ ((some v, r) :: (S ++ T)))) (by
          have p1 := List.perm_middle (a := ((some v, r) : Cell)) (l₁ := pc pv tk.rets outs ++ σ.zip tk.e) (l₂ := S ++ T)
          rw [List.append_assoc] at p1
          refine List.Perm.trans ?_ p1.symm
          refine List.Perm.cons _ ?_
          rw [List.append_assoc]
          refine List.Perm.append_left _ ?_
          rw [← List.append_assoc, ← List.append_assoc]
          exact List.Perm.append_right T List.perm_append_comm)
        refine this.sub (List.Sublist.append (List.Sublist.refl _) (List.Sublist.append (List.Sublist.refl _) (.cons₂ _ (List.sublist_append_right _ _))))
      obtain ⟨hl3, hn3, ok6⟩ := give_ok ret hl2 hn2 h9 ok5
      exact q v H2 hl3 hn3 ok6.unmid
end
end Fx
set_option Elab.async false
set_option linter.all false
set_option maxRecDepth 100000
set_option maxHeartbeats 4000000
/-! Fx: the law's own call. -/
namespace Fx
open PySem PySem.Spec PyProof.Rows L2
/-- a callee: a def of the text by its mirror -/
def CalF (P : Program) (w : World) (K : PySem.W.Frag) (mg : Str → Option Value) (base : Heap) (k : Nat) (x : Str) (fm : FX) (n : Nat) : Prop :=
  ∃ f fd ps, FnG P w K mg base L2.CX0 k f fd ps (spX ⟨K, P, w⟩ fm n) ∧ mg x = some (.ref f) ∧ PySem.W.keepIn K (.ref f) = true ∧ Binds K fd ps []
theorem CalF.mono {P : Program} {w : World} {K : PySem.W.Frag} {mg : Str → Option Value} {base : Heap} {j k : Nat} {x : Str} {fm : FX} {n : Nat} (c : CalF P w K mg base j x fm n) (h : j ≤ k) : CalF P w K mg base k x fm n :=
  let ⟨f, fd, ps, F, a, b, d⟩ := c
  ⟨f, fd, ps, F.mono h, a, b, d⟩
/-- what every call in a body asks of it -/
structure RmA (k : Nat) (A : Around) : Prop where
  room : Room k A
  gd : A.guards = some []
abbrev Rm (k : Nat) (X : Cx) : Prop := RmA k X.A
/-- a def's mirror over plain data -/
def pureF (fm : FX) (ds : List D) : Option Sl := match fm (ds.map .sh) with
  | some (r, []) => some r
  | _ => none
theorem OkAt.call {K : Fg} {B : Bs} {L : List Cell} {Hs H H2 : Hp} {io : Nat → V} {v : V} {x y : Sl} (h : OkAt K B L Hs H) (h2 : Ok K ⟨Hs, H, io⟩ [(some v, x)] H2) (hx : x.out = some y) : Ok K B ((some v, x) :: L) H2 := by
  obtain ⟨Hs2, h2⟩ := h2
  have hv := h2.cells _ List.mem_cons_self
  have hv' : CellOk K B Hs2 H2 (some v, x) ∧ (x.solo = true → ∃ q, v = .ref q ∧ H q = none) := by
    cases x with
    | sh d => exact ⟨hv, fun z => by cases z⟩
    | own d => obtain ⟨w, e, q, eq, o1, o2, o3⟩ := hv; cases e; exact ⟨⟨v, rfl, q, eq, h.gr.all.free o1, o2, o3⟩, fun _ => ⟨q, eq, o1⟩⟩
    | _ => cases hx
  refine ⟨Hs2, h.gr.trans h2.gr, fun c hc => ?_, List.Pairwise.cons (fun c hc hs hs' e => ?_) h.sep⟩
  · rcases List.mem_cons.mp hc with rfl | hc
    · exact hv'.1
    · exact (h.cells c hc).mono h2.gr
  · obtain ⟨q, eq, hq⟩ := hv'.2 hs
    subst eq
    have hk := h.cells c hc
    obtain ⟨o, z⟩ := c
    have e' : some (V.ref q) = o := e
    subst e'
    cases z with
    | own d => obtain ⟨w, e1, q', e2, _, _, t⟩ := hk; cases e1; cases e2; exact t.there hq
    | io n d => obtain ⟨w, e1, _, q', e2, _, _, t⟩ := hk; cases e1; cases e2; exact t.there hq
    | _ => cases hs'
section
variable {X : Cx} {B : Bs} {k : Nat} {x : Str} {p pos : Pos} {e : Expr} {es : List Expr} {fm : FX} {ags : List Ag} {ms : List ME} {n : Nat}
theorem sx_callC (C : CalF X.prog X.w X.K X.mg X.base k x fm n) (R : Rm k X) (hn : ags.length = n) (ha : SimAX X B (e :: es) ags) (hg : Gl X x := by rfl) (hdb : (x == ("__debug__" : Str)) = false := by decide)
    (he : starEach (e :: es) X.env = (false, eval e X.env) :: starEach es X.env := by rfl) (hpl : (backTo pos (starEach es X.env)).any (·.1) = false := by rfl) : SimX X B (.Call (.Name x p) (e :: es) [] pos) (xCall fm ags) := by
  obtain ⟨f, fd, ps, F, hm, hk, hb⟩ := C
  exact sx_call (E := L2.E0) F R.room R.gd hg hm hk hb L2.pass0 hn ha hdb he hpl
theorem rp_cells {K : Fg} {B : Bs} {Hs H : Hp} : ∀ {vs : List V} {ds : List D}, RpL K Hs ds vs → ∀ c ∈ (vs.map some).zip (ds.map Sl.sh), CellOk K B Hs H c
  | [], _, _, c, h => by simp at h
  | _ :: _, [], _, c, h => by simp at h
  | v :: vs, d :: ds, r, c, h => by
    rcases List.mem_cons.mp h with rfl | h
    · exact ⟨v, rfl, r.1⟩
    · exact rp_cells (vs := vs) (ds := ds) r.2 c h
theorem sh_sep : ∀ (vs : List V) (ds : List D), ((vs.map some).zip (ds.map Sl.sh)).Pairwise Sep
  | [], _ => List.Pairwise.nil
  | _ :: _, [] => List.Pairwise.nil
  | v :: vs, d :: ds => List.Pairwise.cons (fun c _ hs => by cases hs) (sh_sep vs ds)
theorem eAll_len : ∀ {ms : List ME} {e : Env} {ds : List D}, eAll ms e = some ds → ds.length = ms.length
  | [], _, _, h => by cases h; rfl
  | m :: ms, e, ds, h => by
    obtain ⟨_, _, h⟩ := Option.bind_eq_some_iff.mp h
    obtain ⟨_, _, h⟩ := Option.bind_eq_some_iff.mp h
    obtain ⟨z, h1, h⟩ := Option.bind_eq_some_iff.mp h
    cases h; exact congrArg (· + 1) (eAll_len h1)
theorem se_callC (C : CalF X.prog X.w X.K X.mg X.base k x fm n) (R : Rm k X) (hn : ms.length = n) (ha : SimA X B (e :: es) ms) (hg : Gl X x := by rfl) (hdb : (x == ("__debug__" : Str)) = false := by decide)
    (he : starEach (e :: es) X.env = (false, eval e X.env) :: starEach es X.env := by rfl) (hpl : (backTo pos (starEach es X.env)).any (·.1) = false := by rfl) : SimE X B (.Call (.Name x p) (e :: es) [] pos) (eCall (pureF fm) ms) := by
  obtain ⟨f, fd, ps, F, hm, hk, hb⟩ := C
  refine (pe_callG (E := L2.E0) F R.room R.gd hg hm hk hb L2.pass0 ha hdb he hpl).imp fun σ H Q ⟨e, T, r, hl, ok, hm, q⟩ => ?_
  obtain ⟨ds, h1, h2⟩ := Option.bind_eq_some_iff.mp hm
  obtain ⟨r', h3, h4⟩ := Option.bind_eq_some_iff.mp h2
  have er : r' = r := by cases r' <;> first | (cases h4; rfl) | cases h4
  subst er
  have h5 : fm (ds.map .sh) = some (r', []) := by
    unfold pureF at h3
    split at h3
    · rename_i r0 h; cases h3; exact h
    · cases h3
  refine ⟨e, T, ds, hl, ok, h1, fun vs H1 hlen ⟨Hs, ok1⟩ => ?_⟩
  have rp := cells_rp hlen ok1
  refine ⟨⟨Hs, H1, fun _ => .non⟩, ds.map .sh, r', [], by rw [hlen, eAll_len h1, hn], by simpa using hlen, ⟨⟨Hs, Grow.refl ok1.gr.sub, ?_, ?_⟩, ?_⟩, h5, fun v H2 ok2 => q v H2 (ok1.uncells.call ok2 h4)⟩
  · exact rp_cells rp
  · exact sh_sep vs ds
  · intro c hc d hd
    obtain ⟨y, hy, ey⟩ := List.mem_map.mp (List.of_mem_zip (show (c.1, c.2) ∈ _ from hc)).2
    rw [← ey] at hd
    cases hd
end
/-! ### the law -/
section
variable {P : Program} {w : World} {K : PySem.W.Frag} {mg mb : Str → Option Value} {k : Nat} {fa a : Addr} {fd : FuncData} {x : Str} {sp : Sp} {s₁ : Shared} {vs : List Value} {ns : List Int}
/-- the script and the abstract heap about it -/
theorem law_heap (KX : K.In s₁.heap) (ha : s₁.heap.get? a = some { cls := .type "list", data := .seq vs.toArray }) (hi : IntsAre vs ns) (hl : ns.length ≤ sizeLine) :
    ∃ H : Hp, Only H ∧ SqL K H a (ns.map V.int) ∧ HOk P w H s₁.heap ∧ (∀ b, H b ≠ none → b = a ∧ K.lookup a = none) := by
  have rv := vals_ints hi
  have lenV := hi.length
  cases hk : K.lookup a with
  | some o =>
    have e := (KX a o hk).symm.trans ha
    cases e
    exact ⟨fun _ => none, fun _ => .inl rfl, .inr ⟨_, vs.toArray, _, hk, rfl, rfl, rfl, by rw [List.size_toArray, lenV]; exact hl, by simpa using rv⟩, fun b u z => (nomatch (show (none : Option HO) = some u from z)), fun b z => absurd rfl z⟩
  | none =>
    have one : ∀ (b : Addr) (u : HO), (if b = a then some (HO.frz { cls := .type "list", data := .seq vs.toArray } (.lst (ns.map V.int))) else none) = some u → b = a ∧ u = .frz { cls := .type "list", data := .seq vs.toArray } (.lst (ns.map V.int)) := fun b u z => by
      split at z
      · cases z; exact ⟨by assumption, rfl⟩
      · cases z
    refine ⟨fun b => if b = a then some (.frz { cls := .type "list", data := .seq vs.toArray } (.lst (ns.map V.int))) else none, fun b => ?_, .inl (.inr ⟨_, if_pos rfl⟩), fun b u z => ?_, fun b z => ⟨?_, rfl⟩⟩
    · by_cases hb : b = a
      · exact .inr ⟨_, _, if_pos hb⟩
      · exact .inl (if_neg hb)
    · obtain ⟨rfl, rfl⟩ := one b u z
      exact ⟨ha, by rw [List.length_map]; exact hl, vs, _, rv, ha⟩
    · by_cases hb : b = a
      · exact hb
      · exact absurd (if_neg hb) z
theorem law_callG (KX : K.In s₁.heap) (hns : s₁.heap.Ns mainGlobals mg) (hb : s₁.heap.Ns builtinsNs mb) (hbb : ∀ x : Str, x ≠ "__name__" → mb x = bootBuiltins x) (hlim : s₁.heap.NoLimit) (hg : s₁.gens = #[])
    (ha : s₁.heap.get? a = some { cls := .type "list", data := .seq vs.toArray }) (hi : IntsAre vs ns) (hl : ns.length ≤ sizeLine) (hr : Room k callerA) (F : ∀ base : Heap, K.In base → base.Ns mainGlobals mg → FnG P w K mg base L2.CX0 k fa fd [x] sp)
    (hbind : ∀ (s : Shared) (u : Value), BindsTo s fd ⟨[u], []⟩ [(x, u)]) (hsp : ∀ H : Hp, Only H → SqL K H a (ns.map V.int) → sp [.ref a] H (fun v _ => v = .bl true) fun _ _ _ => False) :
    codeAny (model P w) callerA (.call (.ref fa) ⟨[.ref a], []⟩) (fun r s' => r = .ok (.ret (.bool true)) ∧ OldK s₁.heap s'.heap ∧ s'.os = s₁.os ∧ AllBare s'.gens) s₁ := by
  obtain ⟨H, only, sq, hok, at_⟩ := law_heap (P := P) (w := w) KX ha hi hl
  have old : ∀ {b : Addr} {o : Obj}, s₁.heap.get? b = some o → H b = none → (hidT s₁.heap H).get? b = some o := fun e n => hidT_get e n
  have free : ∀ {b : Addr} {o : Obj}, s₁.heap.get? b = some o → (∀ z, o.data ≠ .seq z) → H b = none := fun {b o} e d => by
    cases q : H b with
    | none => rfl
    | some u =>
      obtain ⟨rfl, _⟩ := at_ b (by rw [q]; simp)
      rw [ha] at e; cases e
      exact absurd rfl (d _)
  have names : ∀ {b : Addr} {m : Str → Option Value}, s₁.heap.Ns b m → (hidT s₁.heap H).Ns b m := fun {b m} h => by
    obtain ⟨o, es, ep, e, d, r⟩ := h
    exact ⟨o, es, ep, old e (free e fun z q => by rw [d] at q; cases q), d, r⟩
  have kin : K.In (hidT s₁.heap H) := fun b o e => old (KX b o e) (by
    cases q : H b with
    | none => rfl
    | some u =>
      obtain ⟨rfl, z⟩ := at_ b (by rw [q]; simp)
      rw [z] at e; cases e)
  obtain ⟨mc, l1, l2⟩ := hlim
  have e0 : Env0 P w K mg (hidT s₁.heap H) callerA [] s₁ H :=
    ⟨rfl, ⟨kin, names hns, ⟨mb, names hb, hbb⟩, ⟨mc, names l1, l2⟩⟩, fun b o e => of_hidT e, Nat.le_of_eq (hidT_size _ _), trivial, fun b z => (nomatch (show b ∈ ([] : List Addr) from z)), hok, .of_eq hg⟩
  refine codeAny_mono ((F _ kin (names hns)).run callerA [] s₁ H ⟨[.ref a], []⟩ [.ref a] [.ref a] _ _ hr rfl e0 (hbind s₁ (.ref a)) (.cons rfl .nil) (hsp H only sq)) fun r s' h => ?_
  match r, h with
  | .ok (.ret u), h =>
    obtain ⟨v, H', os, bare, un, hok', rel, q⟩ := h
    have q1 : v = .bl true := q
    rw [q1] at rel
    have q2 : u = Value.bool true := rel
    refine ⟨by rw [q2], OldK.of_keep fun b o e => ?_, os, bare⟩
    rcases only b with z | ⟨ob, xs, z⟩
    · exact un.keep b o e z (fun y => (nomatch (show b ∈ ([] : List Addr) from y))) (by simp)
    · have z1 := (hok b _ z).1
      rw [e] at z1; cases z1
      exact (hok' b _ (un.frzs b _ _ z)).1
end
/-- the law's goal behind the head -/
theorem walk_ofG {l : PySem.W.OpenLaw} {n k : Nat} {q : Program} {loose : List Str} {XP : (Str → Option Value) → Heap → Prop} {YP : World → Heap → Prop} {d : DefRec} {x : Str} (hn : l.most = some n) (hn2 : n ≤ sizeLine) (hdf : d.params.defaults = []) (hr : Room k callerA)
    (F : ∀ (w : World) (mg : Str → Option Value) (fa : Addr) (h : Heap), YP w h → h.Ns mainGlobals mg → mg d.name = some (.ref fa) →
      ∃ (K : PySem.W.Frag) (fd : FuncData) (sp : Sp), K.In h ∧ (∀ (s : Shared) (u : Value), BindsTo s fd ⟨[u], []⟩ [(x, u)]) ∧
        (∀ (H : Hp) (a : Addr) (ns : List Int), ns.length ≤ n → Only H → SqL K H a (ns.map V.int) → sp [.ref a] H (fun v _ => v = .bl true) fun _ _ _ => False) ∧
        ∀ base : Heap, K.In base → base.Ns mainGlobals mg → FnG l.prog w K mg base L2.CX0 k fa fd [x] sp) :
    PySem.W.WalkO q loose XP YP l.row.toRowW d [] (fun f vs => PySem.call f vs) := by
  refine Att.attach_call hn hdf fun w s₀ s₁ mg mb fa o pm cd doc a vs ns G Y _ _ _ hmg hobj hints hlen hg => ?_
  obtain ⟨K, fd, sp, KX, hb, hsp, hF⟩ := F w mg fa _ Y G.T.g hmg
  exact law_callG KX G.T.g G.T.b G.T.builtins G.T.nolimit hg hobj hints (Nat.le_trans hlen hn2) hr hF hb fun H hO hS => hsp H a ns hlen hO hS
/-- the law's promise, from its mirror: it takes the script -/
theorem law_sp {K : Fg} {fm : FX} {H : Hp} {a : Addr} {ns : List Int} (h : fm [.sh (.fl (ns.map .int))] = some (.sh (.bl true), [])) (hS : SqL K H a (ns.map V.int)) : spX K fm 1 [.ref a] H (fun v _ => v = .bl true) fun _ _ _ => False := by
  have hr : ∀ ns : List Int, RpL K H (ns.map .int) (ns.map V.int) := fun ns => by
    induction ns with
    | nil => trivial
    | cons n ns ih => exact ⟨rfl, ih⟩
  refine ⟨⟨H, H, fun _ => .non⟩, _, _, [], rfl, rfl, ⟨⟨H, Grow.refl (Same.refl _), fun c hc => ?_, ?_⟩, fun c hc d => ?_⟩, h, fun v H' ok => ?_⟩
  · have : c = (some (.ref a), .sh (.fl (ns.map .int))) := by simpa using hc
    subst this
    exact ⟨_, rfl, a, _, rfl, hS, hr ns⟩
  · exact List.Pairwise.cons (fun _ h => by cases h) List.Pairwise.nil
  · have : c = (some (.ref a), .sh (.fl (ns.map .int))) := by simpa using hc
    subst this
    intro z; cases z
  · obtain ⟨Hs, ok⟩ := ok
    obtain ⟨v', e, r⟩ := ok.cells _ List.mem_cons_self
    cases e
    exact r
end Fx
set_option Elab.async false
set_option linter.all false
set_option maxRecDepth 100000
set_option maxHeartbeats 4000000
/-! Fx: displays of dicts, get, a star in a tuple, statements whose expressions change. -/
namespace Fx
open PySem PySem.Spec PyProof.Rows L2
/-! ### the mirror -/
def eAllP : List (ME × ME) → Env → Option (List (D × D))
  | [], _ => some []
  | (a, b) :: r, e => (a e).bind fun x => x.fz.bind fun k => (b e).bind fun y => y.fz.bind fun v => (eAllP r e).bind fun ds => some ((k, v) :: ds)
def putAll (l more : List (D × D)) : List (D × D) := more.foldl (fun acc p => putD p.1 p.2 acc) l
/-- a display of a dict: its keys ints and texts -/
def eDictK (l : List (ME × ME)) : ME := fun e => (eAllP l e).bind fun ds => if ds.all (fun p => p.1.isK) = true then some (.own (.dk (putAll [] ds))) else none
/-- .. tuples -/
def isNk : D → Bool
  | .tup l => (D.tup l).key && decide ((D.tup l).depth ≤ 8)
  | _ => false
def eDictT (l : List (ME × ME)) : ME := fun e => (eAllP l e).bind fun ds => if ds.all (fun p => isNk p.1) = true then some (.own (.dt (putAll [] ds))) else none
/-- d.get(k, x) -/
def eGet (a k x : ME) : ME := fun e => (a e).bind fun d => d.val.bind fun dd => (k e).bind fun y => y.val.bind fun dk => (x e).bind fun z => z.fz.bind fun dz => match dd with
  | .dk l => if dk.isK then (match lookD dk l with | some v => some (.sh v) | none => some (.sh dz)) else none
  | _ => none
/-- an item of a display: one, or all of a sequence -/
inductive Ar where
  | one (m : ME)
  | star (m : ME)
def eAllS : List Ar → Env → Option (List D)
  | [], _ => some []
  | .one a :: r, e => (a e).bind fun x => x.fz.bind fun d => (eAllS r e).bind fun ds => some (d :: ds)
  | .star a :: r, e => (a e).bind fun x => x.fz.bind fun d => d.asSeq.bind fun l => (eAllS r e).bind fun ds => some (l ++ ds)
def eTupS (l : List Ar) : ME := fun e => (eAllS l e).bind fun ds => if ds.length ≤ line then some (.sh (.tup ds)) else none
/-! ### displays -/
def pcells : List (V × V) → List (D × D) → List Cell
  | (x, y) :: ps, (k, v) :: ds => (some x, .sh k) :: (some y, .sh v) :: pcells ps ds
  | _, _ => []
section
variable {X : Cx} {B : Bs} {a b c e : Expr} {ma mb mc : ME} {pos p px apos cpos : Pos} {es : List Expr} {ms : List ME} {ks : List (Option Expr)} {vs : List Expr} {prs : List (ME × ME)}
/-- the pairs of a display by their mirror -/
def SPs (K : Fg) (B : Bs) (prs : List (ME × ME)) : List (TE × TE) → Prop := fun trs => ∀ (σ : L2.St) (H : Hp) (Q : List (V × V) → Hp → Prop), (∃ (e : Env) (T : List Cell) (ds : List (D × D)), σ.length = e.length ∧ Ok K B (σ.zip e ++ T) H ∧ eAllP prs e = some ds ∧
  ∀ ps H', ps.length = ds.length → Ok K B (pcells ps ds ++ (σ.zip e ++ T)) H' → Q ps H') → tPairs trs σ H Q
abbrev SimP (X : Cx) (B : Bs) (pos : Pos) (ks : List (Option Expr)) (vs : List Expr) (prs : List (ME × ME)) : Prop := ∃ trs, PPs X pos ks vs trs ∧ SPs (kw X) B prs trs
theorem sp_nil : SimP X B pos [] [] [] := ⟨[], pps_nil, fun σ H Q ⟨e, T, ds, hl, ok, hm, q⟩ => by
  cases hm
  exact q [] H rfl ok⟩
theorem sp_cons (ha : SimE X B a ma) (hb : SimE X B b mb) (hr : SimP X B pos ks vs prs) : SimP X B pos (some a :: ks) (b :: vs) ((ma, mb) :: prs) := by
  obtain ⟨trs, h1, h2⟩ := hr
  refine ⟨(SE (kw X) B ma, SE (kw X) B mb) :: trs, pps_cons ha hb h1, fun σ H Q ⟨e, T, ds, hl, ok, hm, q⟩ => ?_⟩
  obtain ⟨x, hx, hm⟩ := Option.bind_eq_some_iff.mp hm
  obtain ⟨k, hk, hm⟩ := Option.bind_eq_some_iff.mp hm
  obtain ⟨y, hy, hm⟩ := Option.bind_eq_some_iff.mp hm
  obtain ⟨v, hv, hm⟩ := Option.bind_eq_some_iff.mp hm
  obtain ⟨ds', hds, hm⟩ := Option.bind_eq_some_iff.mp hm
  cases hm
  refine ⟨e, T, x, hl, ok, hx, fun xv H1 ok1 => ?_⟩
  obtain ⟨w, ew, ok1⟩ := ok1.fz hk
  cases ew
  refine ⟨e, (some xv, .sh k) :: T, y, hl, ok1.mid, hy, fun yv H2 ok2 => ?_⟩
  obtain ⟨w, ew, ok2⟩ := ok2.fz hv
  cases ew
  refine h2 σ H2 _ ⟨e, (some yv, .sh v) :: (some xv, .sh k) :: T, ds', hl, ok2.mid, hds, fun ps H3 hlen ok3 => q ((xv, yv) :: ps) H3 (by simpa using hlen) ?_⟩
  show Ok (kw X) B ((some xv, .sh k) :: (some yv, .sh v) :: (pcells ps ds' ++ (σ.zip e ++ T))) H3
  refine ok3.perm ?_
  have p1 := List.perm_middle (a := ((some yv, Sl.sh v) : Cell)) (l₁ := pcells ps ds' ++ σ.zip e) (l₂ := (some xv, Sl.sh k) :: T)
  have p2 := List.perm_middle (a := ((some xv, Sl.sh k) : Cell)) (l₁ := pcells ps ds' ++ σ.zip e) (l₂ := T)
  rw [List.append_assoc, List.append_assoc] at p1 p2
  exact p1.trans ((List.Perm.cons _ p2).trans (List.Perm.swap _ _ _))
theorem eAllP_len : ∀ {prs : List (ME × ME)} {e : Env} {ds : List (D × D)}, eAllP prs e = some ds → ds.length = prs.length
  | [], _, _, h => by cases h; rfl
  | (a, b) :: r, e, ds, h => by
    obtain ⟨_, _, h⟩ := Option.bind_eq_some_iff.mp h
    obtain ⟨_, _, h⟩ := Option.bind_eq_some_iff.mp h
    obtain ⟨_, _, h⟩ := Option.bind_eq_some_iff.mp h
    obtain ⟨_, _, h⟩ := Option.bind_eq_some_iff.mp h
    obtain ⟨z, h1, h⟩ := Option.bind_eq_some_iff.mp h
    cases h; exact congrArg (· + 1) (eAllP_len h1)
theorem pcells_k {K : Fg} {Hs H : Hp} : ∀ {ps : List (V × V)} {ds : List (D × D)} {L : List Cell}, ps.length = ds.length → ds.all (fun p => p.1.isK) = true → OkAt K B (pcells ps ds ++ L) Hs H → ∃ kvs : List (Key × V), ps = kvs.map (fun kv => (kV kv.1, kv.2)) ∧ RpK K Hs ds kvs ∧ OkAt K B L Hs H
  | [], [], _, _, _, h => ⟨[], rfl, trivial, h⟩
  | (x, y) :: ps, (k, v) :: ds, L, hl, hk, h => by
    obtain ⟨k1, k2⟩ := Bool.and_eq_true_iff.mp (show (k.isK && ds.all fun p => p.1.isK) = true from hk)
    obtain ⟨kvs, e, r, o⟩ := pcells_k (ps := ps) (ds := ds) (L := L) (by simpa using hl) k2 (h.sub (.cons _ (.cons _ (List.Sublist.refl _))))
    obtain ⟨w, ew, rk⟩ := h.cells (some x, .sh k) List.mem_cons_self
    cases ew
    obtain ⟨w, ew, rv⟩ := h.cells (some y, .sh v) (List.mem_cons_of_mem _ List.mem_cons_self)
    cases ew
    obtain ⟨z, hz⟩ := kD_of k1
    exact ⟨(z, y) :: kvs, by rw [e, kD_v hz rk]; rfl, ⟨⟨hz, rv⟩, r⟩, o⟩
  | [], _ :: _, _, hl, _, _ => by simp at hl
  | _ :: _, [], _, hl, _, _ => by simp at hl
theorem putAll_k {K : Fg} {Hs : Hp} : ∀ {more l : List (D × D)} {ks kvs : List (Key × V)}, RpK K Hs more ks → RpK K Hs l kvs → RpK K Hs (putAll l more) (mergeK kvs ks)
  | [], _, [], _, _, h => h
  | (k, d) :: more, l, q :: ks, kvs, h, h2 => putAll_k (more := more) (ks := ks) h.2 (h2.put h.1.1 h.1.2)
  | [], _, _ :: _, _, h, _ => h.elim
  | _ :: _, _, [], _, h, _ => h.elim
theorem se_dictK (h : SimP X B pos ks vs prs) (hall : ks.all (·.isSome) = true) (hl : ks.length = vs.length) (h0 : ks ≠ []) (h15 : ks.length ≤ 15) (hn : prs.length = ks.length) : SimE X B (.Dict ks vs pos) (eDictK prs) := by
  obtain ⟨trs, h1, h2⟩ := h
  refine (pe_disp h1 hall hl h0 h15).imp fun σ H Q ⟨e, T, x, hl, ok, hm, q⟩ => fun p hp => ?_
  obtain ⟨ds, hds, hm⟩ := Option.bind_eq_some_iff.mp hm
  by_cases hz : ds.all (fun p => p.1.isK) = true
  · rw [if_pos hz] at hm
    cases hm
    obtain ⟨Hs, ok⟩ := ok
    have hap : Apart p (σ.zip e ++ T) := ok.apart hp
    have okp : Ok (kw X) B ((some (.ref p), .own (.dk [])) :: (σ.zip e ++ T)) (L2.upd H p (.dK [])) := ⟨Hs, ok.new hp (d := .dk []) ⟨[], upd_same, trivial⟩⟩
    refine h2 σ _ _ ⟨e, (some (.ref p), .own (.dk [])) :: T, ds, hl, okp.mid, hds, fun ps H2 hlen ok2 => ?_⟩
    obtain ⟨Hs2, ok2⟩ := ok2
    obtain ⟨kvs, e1, rk, ok3⟩ := pcells_k hlen hz ok2
    have ok4 : OkAt (kw X) B ((some (.ref p), .own (.dk [])) :: (σ.zip e ++ T)) Hs2 H2 := ok3.perm List.perm_middle
    obtain ⟨w, ew, p', ep, _, _, kvs0, t1, t2⟩ := ok4.cells _ List.mem_cons_self
    cases ew; cases ep
    have e0 : kvs0 = [] := by
      cases kvs0 with
      | nil => rfl
      | cons _ _ => exact t2.elim
    subst e0
    refine ⟨t1, kvs, e1, ?_, q _ _ ⟨Hs2, ok4.mut (x' := .own (.dk (putAll [] ds))) (o := .dK (mergeK [] kvs)) hap (.inl ⟨_, rfl⟩) fun mk hmk ⟨d0, e0⟩ => ?_⟩⟩
    · have a1 := rk.length
      have a2 := eAllP_len hds
      omega
    · rcases hmk with rfl | ⟨n, rfl⟩
      · exact ⟨_, rfl, _, upd_same, putAll_k rk trivial⟩
      · cases e0
  · rw [if_neg hz] at hm; cases hm
/-! #### keys that are tuples -/
def VN : List (V × V) → List (NestedKey × Addr × V) → Prop
  | [], [] => True
  | (x, y) :: ps, q :: kvs => x = .ref q.2.1 ∧ y = q.2.2 ∧ VN ps kvs
  | _, _ => False
theorem pcells_n {K : Fg} {Hs H : Hp} : ∀ {ps : List (V × V)} {ds : List (D × D)} {L : List Cell}, ps.length = ds.length → ds.all (fun p => isNk p.1) = true → OkAt K B (pcells ps ds ++ L) Hs H → ∃ kvs : List (NestedKey × Addr × V), VN ps kvs ∧ RpN K Hs ds kvs ∧ OkAt K B L Hs H
  | [], [], _, _, _, h => ⟨[], trivial, trivial, h⟩
  | (x, y) :: ps, (k, v) :: ds, L, hl, hk, h => by
    obtain ⟨k1, k2⟩ := Bool.and_eq_true_iff.mp (show (isNk k && ds.all fun p => isNk p.1) = true from hk)
    obtain ⟨kvs, e, r, o⟩ := pcells_n (ps := ps) (ds := ds) (L := L) (by simpa using hl) k2 (h.sub (.cons _ (.cons _ (List.Sublist.refl _))))
    obtain ⟨w, ew, rk⟩ := h.cells (some x, .sh k) List.mem_cons_self
    cases ew
    obtain ⟨w, ew, rv⟩ := h.cells (some y, .sh v) (List.mem_cons_of_mem _ List.mem_cons_self)
    cases ew
    cases k <;> first | (cases k1; done) | skip
    rename_i l
    obtain ⟨k3, k4⟩ := Bool.and_eq_true_iff.mp (show ((D.tup l).key && decide ((D.tup l).depth ≤ 8)) = true from k1)
    obtain ⟨n, hn, hd⟩ := nk_key _ k3
    have h8 := of_decide_eq_true k4
    obtain ⟨a, ws, rfl, t1, r1⟩ := (show ∃ a vs, x = .ref a ∧ SqT K Hs a vs ∧ RpL K Hs l vs from rk)
    exact ⟨(n, a, y) :: kvs, ⟨rfl, rfl, e⟩, ⟨⟨hn, (by show n.depth ≤ 8; omega), ⟨a, ws, rfl, t1, r1⟩, rv⟩, r⟩, o⟩
  | [], _ :: _, _, hl, _, _ => by simp at hl
  | _ :: _, [], _, hl, _, _ => by simp at hl
def putAllN (l more : List (NestedKey × Addr × V)) : List (NestedKey × Addr × V) := more.foldl (fun acc p => putN acc p.1 p.2.1 p.2.2) l
theorem putAll_n {K : Fg} {Hs : Hp} : ∀ {more l : List (D × D)} {ks kvs : List (NestedKey × Addr × V)}, RpN K Hs more ks → RpN K Hs l kvs → RpN K Hs (putAll l more) (putAllN kvs ks)
  | [], _, [], _, _, h => h
  | (k, d) :: more, l, q :: ks, kvs, h, h2 => putAll_n (more := more) (ks := ks) h.2 (h2.put h.1.1 h.1.2.1 h.1.2.2.1 h.1.2.2.2)
  | [], _, _ :: _, _, h, _ => h.elim
  | _ :: _, _, [], _, h, _ => h.elim
theorem KN.storedAll : ∀ {more : List (NestedKey × Addr × V)} {xs : List (NestedKey × Addr × Value)} {kvs : List (NestedKey × Addr × V)} {ys : List (NestedKey × Addr × Value)}, KN more xs → KN kvs ys → KN (putAllN kvs more) (storedAllH ys xs)
  | _, _, _, _, .nil, h => h
  | _, _, kvs, ys, .cons (a := p) (b := q) (l₁ := more) (l₂ := xs) hp t, h => by
    have h1 : KN (putN kvs p.1 p.2.1 p.2.2) (storedH ys q.1 q.2.1 q.2.2) := by
      rw [← hp.1, ← hp.2.1]
      exact KN.put h p.1 p.2.1 hp.2.2
    exact KN.storedAll (more := more) (xs := xs) t h1
theorem putAllN_len : ∀ (more kvs : List (NestedKey × Addr × V)), (putAllN kvs more).length ≤ kvs.length + more.length
  | [], kvs => Nat.le_refl _
  | p :: more, kvs => by
    have h1 := putAllN_len more (putN kvs p.1 p.2.1 p.2.2)
    have h2 := putN_len kvs p.1 p.2.1 p.2.2
    show (putAllN (putN kvs p.1 p.2.1 p.2.2) more).length ≤ _
    rw [List.length_cons]; omega
theorem carriesN {pins : List (Addr × Obj)} {σ : L2.St} {H : Hp} {s : Shared} (I : Inv X pins σ H s) : ∀ {ps : List (V × V)} {ws : List (Value × Value)} {kvs : List (NestedKey × Addr × V)} {ds : List (D × D)}, VV ps ws → VN ps kvs → RpN (kw X) H ds kvs → ∃ xs, CarriesH (nestedKind X.prog X.w) s.heap ws xs ∧ KN kvs xs
  | [], _, [], [], .nil, _, _ => ⟨[], trivial, .nil⟩
  | (x, y) :: ps, _, q :: kvs, (k, d) :: ds, .cons (b := w) (l₂ := ws) h t, hn, hr => by
    obtain ⟨xs, c, kn⟩ := carriesN I (ps := ps) (ws := ws) (kvs := kvs) (ds := ds) t hn.2.2 hr.2
    obtain ⟨w1, w2⟩ := w
    obtain ⟨e1, e2, _⟩ := hn
    have h1 : RelV x w1 := h.1
    have h2 : RelV y w2 := h.2
    rw [e1] at h1
    rw [e2] at h2
    obtain rfl : w1 = Value.ref q.2.1 := h1
    exact ⟨(q.1, q.2.1, w2) :: xs, ⟨rfl, rfl, ⟨Rp.nested I k (.ref q.2.1) (.ref q.2.1) q.1 hr.1.2.2.1 rfl hr.1.1, hr.1.2.1⟩, c⟩, .cons ⟨rfl, rfl, h2⟩ kn⟩
  | [], _, _ :: _, _, _, h, _ => h.elim
  | _ :: _, _, [], _, _, h, _ => h.elim
  | (_, _) :: _, _, _ :: _, [], _, _, h => h.elim
  | [], _, [], _ :: _, _, _, h => h.elim
def tDispN (K : Fg) (trs : List (TE × TE)) : TE := fun σ H Q => ∀ p, H p = none → tPairs trs σ (L2.upd H p (dnO K p [])) fun ps H2 => (∃ kvs0, H2 p = some (dnO K p kvs0) ∧ kvs0 = []) ∧ ∃ (kvs : List (NestedKey × Addr × V)) (ds : List (D × D)), VN ps kvs ∧ RpN K H2 ds kvs ∧ kvs.length ≤ 15 ∧ Q (.ref p) (L2.upd H2 p (dnO K p (putAllN [] kvs)))
theorem pe_dispN {trs : List (TE × TE)} (hu : X.A.units + 70 < cLine) (h : PPs X pos ks vs trs) (hall : ks.all (·.isSome) = true) (hl : ks.length = vs.length) (h0 : ks ≠ []) (h15 : ks.length ≤ 15) : PE X (.Dict ks vs pos) (tDispN (kw X) trs) := by
  refine ⟨fun pins s σ H Q I q => ?_⟩
  have hn := I.hok.fresh (Nat.le_refl s.heap.objs.size)
  have I1 := I.laid (a := s.heap.objs.size) (o := dnO (kw X) s.heap.objs.size []) (h' := s.heap.push { cls := .type "dict", data := .dict #[] }) (t' := s.toks) (fun _ _ q => Heap.get?_push_of_some _ q) (Nat.le_refl _)
    (dn_new (K := X.K) (P := X.prog) (w := X.w) (xs := []) (Nat.zero_le _) (beq_eq_false_iff_ne.mpr (Ne.symm (Nat.ne_of_lt I.big))) .nil ⟨_, #[], 0, Heap.get?_push_size _ rfl, ⟨rfl, rfl, rfl⟩, rfl, rfl, (fun x hx => by cases hx), List.nodup_nil⟩)
  have hpl := pairTrees_length ks vs X.env pos hall hl
  have hne : pairTrees ks vs X.env pos ≠ [] := fun z => by
    rw [z] at hpl
    exact h0 (List.length_eq_zero_iff.mp hpl.symm)
  rw [arm_eval_Dict, zip_pairTrees ks vs X.env pos hall hl, dictDisplay_pairs _ hne (by omega)]
  refine wpAny_bind (wpAny_standAt (wpAny_bind (wpAny_subDictH (knd := nestedKind X.prog X.w) (show (nestedKind X.prog X.w).room X.A from (by show X.A.units + 8 < cLine; omega)) (by rw [hpl]; exact h15)
    (thn (h.run pins _ σ _ _ I1 (q _ hn)) fun ws s2 ⟨ps, H2, I2, rel, ⟨kvs0, e, e0⟩, kvs, ds, vn, rn, lk, q2⟩ => ?_))))
  subst e0
  obtain ⟨xs, c, kn⟩ := carriesN I2 rel vn rn
  obtain ⟨z, hd, ys, r0, dd⟩ := dn_rd I2 ⟨.inl e, [], trivial⟩
  cases r0
  refine ⟨xs, c, dd, fun h' tk dd' hs => wpAny_pure ⟨.ref s.heap.objs.size, _, ?_, rfl, q2⟩⟩
  have hz : (putAllN [] kvs).length ≤ sizeLine := by
    have h1 := putAllN_len kvs []
    rw [List.length_nil] at h1
    rw [sizeLine_eq]; omega
  have he : ∃ q, h'.get? s.heap.objs.size = some q := let ⟨q, _, _, hq, _⟩ := dd'; ⟨q, hq⟩
  exact d_write I2 (by rw [e]; exact True.intro) hs he (dn_new hz hd (KN.storedAll kn .nil) dd')
theorem se_dictT (hu : X.A.units + 70 < cLine) (h : SimP X B pos ks vs prs) (hall : ks.all (·.isSome) = true) (hl : ks.length = vs.length) (h0 : ks ≠ []) (h15 : ks.length ≤ 15) (hn : prs.length = ks.length) : SimE X B (.Dict ks vs pos) (eDictT prs) := by
  obtain ⟨trs, h1, h2⟩ := h
  refine (pe_dispN hu h1 hall hl h0 h15).imp fun σ H Q ⟨e, T, x, hl, ok, hm, q⟩ => fun p hp => ?_
  obtain ⟨ds, hds, hm⟩ := Option.bind_eq_some_iff.mp hm
  by_cases hz : ds.all (fun p => isNk p.1) = true
  · rw [if_pos hz] at hm
    cases hm
    obtain ⟨Hs, ok⟩ := ok
    have hap : Apart p (σ.zip e ++ T) := ok.apart hp
    have okp : Ok (kw X) B ((some (.ref p), .own (.dt [])) :: (σ.zip e ++ T)) (L2.upd H p (dnO (kw X) p [])) := ⟨Hs, ok.new hp (d := .dt []) ⟨[], upd_same, trivial⟩⟩
    refine h2 σ _ _ ⟨e, (some (.ref p), .own (.dt [])) :: T, ds, hl, okp.mid, hds, fun ps H2 hlen ok2 => ?_⟩
    obtain ⟨Hs2, ok2⟩ := ok2
    obtain ⟨kvs, e1, rk, ok3⟩ := pcells_n hlen hz ok2
    have ok4 : OkAt (kw X) B ((some (.ref p), .own (.dt [])) :: (σ.zip e ++ T)) Hs2 H2 := ok3.perm List.perm_middle
    obtain ⟨w, ew, p', ep, _, _, kvs0, t1, t2⟩ := ok4.cells _ List.mem_cons_self
    cases ew; cases ep
    have e0 : kvs0 = [] := by
      cases kvs0 with
      | nil => rfl
      | cons _ _ => exact t2.elim
    refine ⟨⟨kvs0, t1, e0⟩, kvs, ds, e1, RpN.mono ok4.gr.sub _ _ rk, ?_, q _ _ ⟨Hs2, ok4.mut (x' := .own (.dt (putAll [] ds))) (o := dnO (kw X) p (putAllN [] kvs)) hap (.inl ⟨_, rfl⟩) fun mk hmk ⟨d0, e0⟩ => ?_⟩⟩
    · have a1 := rk.length
      have a2 := eAllP_len hds
      omega
    · rcases hmk with rfl | ⟨n, rfl⟩
      · exact ⟨_, rfl, _, upd_same, putAll_n rk trivial⟩
      · cases e0
  · rw [if_neg hz] at hm; cases hm
theorem se_dnewK : SimE X B (.Dict [] [] pos) (fun _ => some (.own (.dk []))) := pe_dnewK.imp fun σ H Q ⟨e, T, x, hl, ok, hm, q⟩ => fun p hp => by
  cases hm
  obtain ⟨Hs, ok⟩ := ok
  exact q _ _ ⟨Hs, ok.new hp (d := .dk []) ⟨[], upd_same, trivial⟩⟩
theorem se_dnewT : SimE X B (.Dict [] [] pos) (fun _ => some (.own (.dt []))) := pe_dnewN.imp fun σ H Q ⟨e, T, x, hl, ok, hm, q⟩ => fun p hp => by
  cases hm
  obtain ⟨Hs, ok⟩ := ok
  exact q _ _ ⟨Hs, ok.new hp (d := .dt []) ⟨[], upd_same, trivial⟩⟩
/-- d.get(k, x), the keys ints and texts -/
theorem se_get {o k x : Expr} {mo mk mx : ME} (hu : X.A.units + 70 < cLine) (ho : SimE X B o mo) (hk : SimE X B k mk) (hx : SimE X B x mx) (hbase : attributeBase o "get" X.env (eval o X.env) = eval o X.env := by rfl)
    (hfew : ((backTo cpos (starEach [k, x] X.env)).all (fun x => !x.1) && (backToKw cpos (keywordEach [] X.env)).all (fun x => x.1.isSome) && decide (([k, x] : List Expr).length + ([] : List Keyword).length + (if ([] : List Keyword).isEmpty then 0 else 1) < 30)) = true := by rfl)
    (hline : (apos.endLine == cpos.line) = true := by rfl) (htr : backTo cpos (starEach [k, x] X.env) = [(false, eval k X.env), (false, eval x X.env)] := by rfl) :
    SimE X B (.Call (.Attribute o "get" apos) [k, x] [] cpos) (eGet mo mk mx) := (pe_dget2 (by omega) ho hk hx ⟨hbase, hfew, hline, htr⟩).imp fun σ H Q ⟨e, T, y, hl, ok, hm, q⟩ => by
  obtain ⟨d, hd, hm⟩ := Option.bind_eq_some_iff.mp hm
  obtain ⟨dd, hdd, hm⟩ := Option.bind_eq_some_iff.mp hm
  obtain ⟨yk, hyk, hm⟩ := Option.bind_eq_some_iff.mp hm
  obtain ⟨dk, hdk, hm⟩ := Option.bind_eq_some_iff.mp hm
  obtain ⟨z, hz, hm⟩ := Option.bind_eq_some_iff.mp hm
  obtain ⟨dz, hdz, hm⟩ := Option.bind_eq_some_iff.mp hm
  cases dd with
  | dk l =>
    have hm' : (if dk.isK then (match lookD dk l with | some v => some (Sl.sh v) | none => some (Sl.sh dz)) else none) = some y := hm
    by_cases hi : dk.isK = true
    · rw [if_pos hi] at hm'
      refine ⟨e, T, d, hl, ok, hd, fun v H1 ok1 => ?_⟩
      have okx := ok1.mid
      obtain ⟨Hs1, ok1⟩ := ok1
      obtain ⟨v', ev, rv⟩ := (ok1.cells _ List.mem_cons_self).read ok1.gr.sub hdd
      cases ev
      obtain ⟨a, kvs, rfl, h1, h2⟩ := Vw.dk rv
      refine ⟨a, rfl, .inl ⟨kvs, h1⟩, e, _, yk, hl, okx, hyk, fun w H2 ok2 => ?_⟩
      refine ⟨e, _, z, hl, ok2.mid, hz, fun u H3 ok3 => ?_⟩
      obtain ⟨u', eu, ok4⟩ := ok3.fz hdz
      cases eu
      obtain ⟨Hs, ok4⟩ := ok4
      obtain ⟨u', eu, ru⟩ := ok4.cells _ List.mem_cons_self
      cases eu
      obtain ⟨w', ew, rw'⟩ := (ok4.cells (some w, yk) (List.mem_cons_of_mem _ (List.mem_append_right _ List.mem_cons_self))).read ok4.gr.sub hdk
      cases ew
      obtain ⟨v', ev, rv⟩ := (ok4.cells (some (.ref a), d) (List.mem_cons_of_mem _ (List.mem_append_right _ (List.mem_cons_of_mem _ List.mem_cons_self)))).read ok4.gr.sub hdd
      cases ev
      obtain ⟨a', kvs', ea, h3, h4⟩ := Vw.dk rv
      cases ea
      obtain ⟨n, hn⟩ := kD_of hi
      obtain ⟨lk1, lk2⟩ := h4.look hn
      refine ⟨valV kvs' n, .inl ⟨kvs', n, h3, kD_vw hn rw', rfl⟩, ?_⟩
      have okb : OkAt (kw X) B (σ.zip e ++ T) Hs H3 := ok4.sub (.cons _ (List.Sublist.append (List.Sublist.refl _) (.cons _ (.cons _ (List.Sublist.refl _)))))
      cases hlk : lookD dk l with
      | some dv =>
        rw [hlk] at hm'
        cases hm'
        obtain ⟨vv, e1, r1⟩ := lk1 dv hlk
        rw [e1]
        exact q vv H3 ⟨Hs, okb.sh r1⟩
      | none =>
        rw [hlk] at hm' lk2
        cases hm'
        have e1 : valV kvs' n = none := by
          cases hv : valV kvs' n with
          | none => rfl
          | some _ => rw [hv] at lk2; cases lk2
        rw [e1]
        exact q u H3 ⟨Hs, okb.sh ru⟩
    · rw [if_neg hi] at hm'; cases hm'
  | _ => cases hm
/-! ### a star -/
def SAS (K : Fg) (B : Bs) (ms : List Ar) : TA := fun σ H Q => ∃ (e : Env) (T : List Cell) (ds : List D), σ.length = e.length ∧ Ok K B (σ.zip e ++ T) H ∧ eAllS ms e = some ds ∧ ∀ vs H', vs.length = ds.length → Ok K B (cellsOf vs ds ++ (σ.zip e ++ T)) H' → Q vs H'
abbrev SimAS (X : Cx) (B : Bs) (es : List Expr) (ms : List Ar) : Prop := PA X es (SAS (kw X) B ms)
theorem sas_nil : SimAS X B [] [] := pa_nil.imp fun σ H Q ⟨e, T, ds, hl, ok, hm, q⟩ => by
  cases hm
  exact q [] H rfl ok
theorem sas_cons {ars : List Ar} (ha : SimE X B a ma) (hr : SimAS X B es ars) (hs : starEach (a :: es) X.env = (false, eval a X.env) :: starEach es X.env := by rfl) : SimAS X B (a :: es) (.one ma :: ars) := (pa_cons ha hr hs).imp fun σ H Q ⟨e, T, ds, hl, ok, hm, q⟩ => by
  obtain ⟨x, hx, h2⟩ := Option.bind_eq_some_iff.mp hm
  obtain ⟨d, hd, h3⟩ := Option.bind_eq_some_iff.mp h2
  obtain ⟨ds', hds, h4⟩ := Option.bind_eq_some_iff.mp h3
  cases h4
  refine ⟨e, T, x, hl, ok, hx, fun v H1 ok1 => ?_⟩
  obtain ⟨v', ev, ok2⟩ := ok1.fz hd
  cases ev
  refine ⟨e, (some v, .sh d) :: T, ds', hl, ok2.mid, hds, fun vs H2 hlen ok3 => q (v :: vs) H2 (by simpa using hlen) ?_⟩
  show Ok (kw X) B ((some v, .sh d) :: (cellsOf vs ds' ++ (σ.zip e ++ T))) H2
  refine ok3.perm ?_
  rw [← List.append_assoc, ← List.append_assoc]
  exact List.perm_middle
theorem cells_app : ∀ {v1 v2 : List V} {d1 d2 : List D}, v1.length = d1.length → cellsOf (v1 ++ v2) (d1 ++ d2) = cellsOf v1 d1 ++ cellsOf v2 d2
  | [], _, [], _, _ => rfl
  | v :: v1, v2, d :: d1, d2, h => by
    show (some v, Sl.sh d) :: cellsOf (v1 ++ v2) (d1 ++ d2) = (some v, Sl.sh d) :: (cellsOf v1 d1 ++ cellsOf v2 d2)
    rw [cells_app (by simpa using h)]
  | [], _, _ :: _, _, h => by simp at h
  | _ :: _, _, [], _, h => by simp at h
theorem sas_star {ars : List Ar} (ha : SimE X B a ma) (hr : SimAS X B es ars) (hs : starEach (.Starred a p :: es) X.env = (true, eval a X.env) :: starEach es X.env := by rfl) : SimAS X B (.Starred a p :: es) (.star ma :: ars) := (StX.pa_star ha hr hs).imp fun σ H Q ⟨e, T, ds, hl, ok, hm, q⟩ => by
  obtain ⟨x, hx, h2⟩ := Option.bind_eq_some_iff.mp hm
  obtain ⟨d, hd, h3⟩ := Option.bind_eq_some_iff.mp h2
  obtain ⟨l, hls, h3⟩ := Option.bind_eq_some_iff.mp h3
  obtain ⟨ds', hds, h4⟩ := Option.bind_eq_some_iff.mp h3
  cases h4
  refine ⟨e, T, x, hl, ok, hx, fun v H1 ok1 => ?_⟩
  obtain ⟨v', ev, ok2⟩ := ok1.fz hd
  cases ev
  obtain ⟨Hs, ok2⟩ := ok2
  obtain ⟨v', ev, r⟩ := ok2.cells _ List.mem_cons_self
  cases ev
  have okc := ok2.sub (.cons _ (List.Sublist.refl (σ.zip e ++ T)))
  have fin : ∀ (a : Addr) (vs : List V), (SqT X.K H1 a vs ∨ SqL X.K H1 a vs) → RpL (kw X) Hs l vs → StX.tStar X.K (fun σ H Q => Q (.ref a) H1) (SAS (kw X) B ars) σ H1 Q := fun a vs hq r => by
    have ok3 : Ok (kw X) B (σ.zip e ++ (cellsOf vs l ++ T)) H1 := by
      refine Ok.perm ⟨Hs, cells_of r okc⟩ ?_
      rw [← List.append_assoc, ← List.append_assoc]
      exact List.Perm.append_right T List.perm_append_comm
    refine ⟨a, vs, rfl, hq, e, cellsOf vs l ++ T, ds', hl, ok3, hds, fun ws H2 hlen ok4 => q (vs ++ ws) H2 (by rw [List.length_append, List.length_append, hlen, r.length]) ?_⟩
    rw [cells_app r.length.symm, List.append_assoc]
    refine ok4.perm ?_
    have p1 : (cellsOf ws ds' ++ (σ.zip e ++ (cellsOf vs l ++ T))).Perm (cellsOf vs l ++ (cellsOf ws ds' ++ (σ.zip e ++ T))) := by
      rw [← List.append_assoc, ← List.append_assoc, ← List.append_assoc (cellsOf ws ds'), ← List.append_assoc (cellsOf vs l)]
      exact List.Perm.append_right T List.perm_append_comm
    exact p1
  cases d <;> first | (cases hls; done) | skip
  · cases hls
    obtain ⟨a, vs, rfl, h1, h2⟩ := (show ∃ a vs, v = .ref a ∧ SqT X.K Hs a vs ∧ RpL (kw X) Hs l vs from r)
    exact fin a vs (.inl (SqT.mono (K := kw X) ok2.gr.sub h1)) h2
  · cases hls
    obtain ⟨a, vs, rfl, h1, h2⟩ := (show ∃ a vs, v = .ref a ∧ Hs a = some (.lst vs) ∧ RpL (kw X) Hs l vs from r)
    exact fin a vs (.inr (.inl (.inl (ok2.gr.sub _ _ h1)))) h2
theorem se_tupS {k : Nat} {ars : List Ar} (h : SimAS X B es ars) : SimE X B (.Tuple es k pos) (eTupS ars) := (pe_tup h).imp fun σ H Q ⟨e, T, x, hl, ok, hm, q⟩ => by
  obtain ⟨ds, hds, h2⟩ := Option.bind_eq_some_iff.mp hm
  by_cases hz : ds.length ≤ line
  · rw [if_pos hz] at h2
    cases h2
    refine ⟨e, T, ds, hl, ok, hds, fun vs H1 hlen ⟨Hs, ok1⟩ => ⟨by rw [hlen, ← sizeLine_eq']; exact hz, fun p hp => ?_⟩⟩
    have r := cells_rp hlen ok1
    refine q _ _ (ok1.uncells.newSh hp (d := .tup ds) ⟨p, vs, rfl, .inl (.inl upd_same), ?_⟩)
    exact RpL.mono (Same.upd (ok1.gr.sub.free hp)) _ _ r
  · rw [if_neg hz] at h2; cases h2
end
end Fx
set_option Elab.async false
set_option linter.all false
set_option maxRecDepth 100000
set_option maxHeartbeats 4000000
/-! Fx: statements whose expressions change; repr; sorted. -/
namespace Fx
open PySem PySem.Spec PyProof.Rows L2
section
variable {X : Cx} {B : Bs} {a b c e : Expr} {ma mb : ME} {xa xb : MX} {pos p : Pos}
theorem okS_of {K : Fg} {σ : L2.St} {e : Env} {T : List Cell} {H : Hp} (hn : nvE e) (hT : nv T) (ok : Ok K B (σ.zip e ++ T) H) : OkS K B (σ.zip e ++ T) H := ⟨ok, nv_zip hn hT⟩
theorem ss_setX (i : Nat) {x : Str} {pos' : Pos} (ha : SimX X B a xa) (hN : X.N.Nodup) (hi : X.N[i]? = some x := by rfl) (hx : Loc X.env.scope x := by first | exact .inl rfl | exact .inr rfl)
    (hs : swapsWith a (some (.Name x pos')) pos.line X.env = pure false := by rfl) (hf : X.fn x = true ∨ X.env.scope.names.lookup x = some .local := by first | exact .inl rfl | exact .inr rfl) : SimS X B (.Assign [.Name x pos'] a pos) (xSet i xa) :=
  (ps_set hN hi hx ha hs hf).imp fun DD σ H ⟨e, T, f, e', hl, ok, hm, q⟩ => by
    obtain ⟨⟨y, e1⟩, hy, h2⟩ := Option.bind_eq_some_iff.mp hm
    by_cases hk : y.keepable = true
    · rw [if_pos hk] at h2
      obtain ⟨e2, h3, h4⟩ := Option.map_eq_some_iff.mp h2
      cases h4
      exact ⟨e, T, y, e1, hl, ok, hy, fun v H1 hl1 hn1 ok1 => q _ _ (len_store hl1 h3) ⟨ok1.store h3, nv_store (nv_zip hn1 (nv_tl ok.nv)) h3 hk⟩⟩
    · rw [if_neg hk] at h2; cases h2
theorem ss_retX (ha : SimX X B a xa) : SimS X B (.Return (some a) pos) (xRet xa) :=
  (ps_ret ha).imp fun DD σ H ⟨e, T, f, e', hl, ok, hm, q⟩ => by
    obtain ⟨⟨y, e1⟩, hy, h2⟩ := Option.map_eq_some_iff.mp hm
    cases h2
    exact ⟨e, T, y, e1, hl, ok, hy, fun v H1 hl1 hn1 ok1 => q v σ H1 hl1 (ok1.sub (.cons₂ _ (List.Sublist.trans (List.filter_sublist ..) (List.sublist_append_left _ _))))⟩
theorem ss_dropX (ha : SimX X B a xa) (hs : swapsWith a none pos.line X.env = pure false := by rfl) : SimS X B (.Expr a pos) (xDrop xa) :=
  (ps_expr ha hs).imp fun DD σ H ⟨e, T, f, e', hl, ok, hm, q⟩ => by
    obtain ⟨⟨y, e1⟩, hy, h2⟩ := Option.map_eq_some_iff.mp hm
    cases h2
    exact ⟨e, T, y, e1, hl, ok, hy, fun v H1 hl1 hn1 ok1 => q σ H1 hl1 (okS_of hn1 (nv_tl ok.nv) ok1.tl)⟩
theorem ss_unpackX {t : Tg} {g : Expr} (ha : SimX X B a xa) (hg : SimG X B g t) (hs : swapsWithSole [g] a pos.line X.env = pure false := by rfl) (hw : swappedStores [g] a X.env = pure none := by rfl)
    (h1 : (assignEach [g] X.env).map (·.2) = [assign g X.env] := by rfl) : SimS X B (.Assign [g] a pos) (xUnpack t xa) :=
  (ps_asg ha hg hs hw h1).imp fun DD σ H ⟨e, T, f, e', hl, ok, hm, q⟩ => by
    obtain ⟨⟨y, e1⟩, hy, h2⟩ := Option.bind_eq_some_iff.mp hm
    obtain ⟨d, hd, h3⟩ := Option.bind_eq_some_iff.mp h2
    obtain ⟨e2, h4, h5⟩ := Option.map_eq_some_iff.mp h3
    cases h5
    refine ⟨e, T, y, e1, hl, ok, hy, fun v H1 hl1 hn1 ok1 => ?_⟩
    obtain ⟨v', ev, ok2⟩ := ok1.fz hd
    cases ev
    exact ⟨e1, T, d, e', hl1, ok2, h4, fun σ' hl' _ ok3 => q _ _ hl' (okS_of (bind_nv _ _ _ _ hn1 h4) (nv_tl ok.nv) ok3)⟩
/-- x op= a -/
theorem ss_augX (i : Nat) {x : Str} {px : Pos} {op : Operator} {r : R2} {g : D → D → Option Sl} (ho : OpR X (inplaceOp op) r) (hg : R2Ok (kw X) r g) (ha : SimX X B a xa) (hN : X.N.Nodup) (hi : X.N[i]? = some x := by rfl) (hx : Loc X.env.scope x := by first | exact .inl rfl | exact .inr rfl)
    (hf : X.fn x = true ∨ X.env.scope.names.lookup x = some .local := by first | exact .inl rfl | exact .inr rfl) : SimS X B (.AugAssign (.Name x px) op a pos) (xAug g i xa) :=
  (ps_aug hN hi hx ha ho hf).imp fun DD σ H ⟨e, T, f, e', hl, ok, hm, q⟩ => by
    obtain ⟨sx, hsx, hm⟩ := Option.bind_eq_some_iff.mp hm
    cases sx with
    | sh dx =>
      obtain ⟨⟨y, e1⟩, hy, hm⟩ := Option.bind_eq_some_iff.mp hm
      obtain ⟨dy, hdy, hm⟩ := Option.bind_eq_some_iff.mp hm
      obtain ⟨rr, hr, hm⟩ := Option.bind_eq_some_iff.mp hm
      obtain ⟨o, z1, z2⟩ := zip_at hl hsx
      obtain ⟨Hs0, ok0⟩ := ok.ok
      obtain ⟨v, ev, rv⟩ := ok0.cells _ (List.mem_append_left T z2)
      have ev' : o = some v := ev
      subst ev'
      have okT : OkS (kw X) B (σ.zip e ++ ((some v, .sh dx) :: T)) H := ⟨Ok.mid ⟨Hs0, ok0.sh rv⟩, nv_zip (nvE_of hl ok.nv) (nv_push (nv_tl ok.nv) fun _ z => by cases z)⟩
      refine ⟨v, z1, e, (some v, .sh dx) :: T, y, e1, hl, okT, hy, fun w H1 hl1 hn1 ok1 => ?_⟩
      obtain ⟨Hs, ok1⟩ := ok1
      obtain ⟨w', ew, rw'⟩ := (ok1.cells _ List.mem_cons_self).read ok1.gr.sub hdy
      cases ew
      obtain ⟨v', ev, rv⟩ := (ok1.cells (some v, .sh dx) (List.mem_cons_of_mem _ (List.mem_append_right _ List.mem_cons_self))).read ok1.gr.sub (x := .sh dx) rfl
      cases ev
      refine hg B (σ.zip e1 ++ T) Hs H1 dx dy v w rr _ (ok1.sub (.cons _ (sub_mid _ _ _))) rv rw' hr fun u H2 ok2 => ?_
      cases rr with
      | sh d =>
        obtain ⟨e2, h3, h4⟩ := Option.map_eq_some_iff.mp hm
        cases h4
        exact q _ _ (len_store hl1 h3) ⟨ok2.store h3, nv_store (nv_zip hn1 (nv_tl ok.nv)) h3 rfl⟩
      | _ => cases hm
    | _ => cases hm
/-- i, j = a, b -/
theorem parX_imp {K : Fg} {i j : Nat} {DD : Ends} {σ : L2.St} {H : Hp} (h : SS K B (xPar i j xa xb) DD σ H) {R : V → V → Hp → Prop}
    (q : ∀ v w H', (∀ H'', (∀ L, Ok K B L H' → Ok K B L H'') → DD.nx ((σ.set i (some v)).set j (some w)) H'') → R v w H') : SX K B xa σ H fun v H1 => SX K B xb σ H1 fun w H2 => R v w H2 := by
  obtain ⟨e, T, f, e', hl, ok, hm, q2⟩ := h
  obtain ⟨⟨x, e1⟩, hx, h2⟩ := Option.bind_eq_some_iff.mp hm
  by_cases hk1 : x.keepable = true
  · rw [if_pos hk1] at h2
    obtain ⟨⟨y, e2⟩, hy, h3⟩ := Option.bind_eq_some_iff.mp h2
    by_cases hk2 : y.keepable = true
    · rw [if_pos hk2] at h3
      obtain ⟨e3, h4, h5⟩ := Option.bind_eq_some_iff.mp h3
      obtain ⟨e4, h6, h7⟩ := Option.map_eq_some_iff.mp h5
      cases h7
      refine ⟨e, T, x, e1, hl, ok, hx, fun v H1 hl1 hn1 ok1 => ⟨e1, (some v, x) :: T, y, e2, hl1, ⟨ok1.mid, nv_zip hn1 (nv_push (nv_tl ok.nv) (nv_keep hk1))⟩, hy, fun w H2 hl2 hn2 ok2 => q v w H2 fun H3 mono => ?_⟩⟩
      have ok3 : Ok K B ((some v, x) :: (σ.zip e2 ++ ((some w, y) :: T))) H2 := by
        refine ok2.perm ?_
        refine List.Perm.trans (List.Perm.cons _ List.perm_middle) ?_
        exact (List.Perm.swap _ _ _).trans (List.Perm.cons _ List.perm_middle.symm)
      have ok4 := (ok3.store (i := i) h4).unmid
      have ok5 := ok4.store (i := j) h6
      exact q2 _ _ (len_store (len_store hl2 h4) h6) ⟨mono _ ok5, nv_store (nv_store (nv_zip hn2 (nv_tl ok.nv)) h4 hk1) h6 hk2⟩
    · rw [if_neg hk2] at h3; cases h3
  · rw [if_neg hk1] at h2; cases h2
theorem ss_parX (i j : Nat) {x y : Str} {px py pt : Pos} {kt k2 pt2} (hc : X.calm = true) (hN : X.N.Nodup) (ha : SimX X B a xa) (hb : SimX X B b xb) (hi : X.N[i]? = some x := by rfl) (hj : X.N[j]? = some y := by rfl) (hij : i ≠ j := by decide)
    (hx : X.env.scope.names.lookup x = some .local := by rfl) (hy : X.env.scope.names.lookup y = some .local := by rfl) (hs1 : starEach [a, b] X.env = (false, eval a X.env) :: starEach [b] X.env := by rfl) (hs2 : starEach [b] X.env = (false, eval b X.env) :: starEach [] X.env := by rfl)
    (hw : swappedStores [.Tuple [.Name x px, .Name y py] kt pt] (.Tuple [a, b] k2 pt2) X.env = pure (some [x, y]) := by rfl)
    (hs : swapsWithSole [.Tuple [.Name x px, .Name y py] kt pt] (.Tuple [a, b] k2 pt2) pos.line X.env = pure false := by rfl) :
    SimS X B (.Assign [.Tuple [.Name x px, .Name y py] kt pt] (.Tuple [a, b] k2 pt2) pos) (xPar i j xa xb) :=
  (ps_par hc hN hi hj hij hx hy (pa_cons ha (pa_cons hb pa_nil hs2) hs1) hw hs).imp fun DD σ H h =>
    parX_imp h fun v w H' q => ⟨v, w, rfl, q H' fun _ z => z⟩
end
/-! ### repr -/
namespace D
mutual
/-- the same data, kind by kind -/
def same : D → D → Bool
  | .non, .non => true
  | .bl a, .bl b => a == b
  | .int a, .int b => a == b
  | .str a, .str b => a == b
  | .tup a, .tup b => sameL a b
  | .lst a, .lst b => sameL a b
  | _, _ => false
def sameL : List D → List D → Bool
  | [], [] => true
  | x :: xs, y :: ys => same x y && sameL xs ys
  | _, _ => false
end
mutual
theorem same_eq : ∀ a b : D, same a b = true → a = b
  | .non, b, h => by cases b <;> simp_all [same]
  | .bl a, b, h => by cases b <;> simp_all [same]
  | .int a, b, h => by cases b <;> simp_all [same]
  | .str a, b, h => by cases b <;> simp_all [same]
  | .tup a, b, h => by
    cases b with
    | tup l => rw [sameL_eq a l (by simpa [same] using h)]
    | _ => simp [same] at h
  | .lst a, b, h => by
    cases b with
    | lst l => rw [sameL_eq a l (by simpa [same] using h)]
    | _ => simp [same] at h
  | .dk _, b, h => by cases b <;> simp [same] at h
  | .dt _, b, h => by cases b <;> simp [same] at h
  | .ref _, b, h => by cases b <;> simp [same] at h
  | .fl _, b, h => by cases b <;> simp [same] at h
theorem sameL_eq : ∀ a b : List D, sameL a b = true → a = b
  | [], [], _ => rfl
  | [], _ :: _, h => by simp [sameL] at h
  | _ :: _, [], h => by simp [sameL] at h
  | x :: xs, y :: ys, h => by
    obtain ⟨h1, h2⟩ := Bool.and_eq_true_iff.mp (show (same x y && sameL xs ys) = true by simpa [sameL] using h)
    rw [same_eq x y h1, sameL_eq xs ys h2]
end
mutual
/-- all ints below 10^12 -/
def short : D → Bool
  | .int i => decide (i.natAbs < 1000000000000)
  | .tup l => shortL l
  | .lst l => shortL l
  | _ => true
def shortL : List D → Bool
  | [] => true
  | x :: xs => short x && shortL xs
end
mutual
def wt : D → Nat
  | .int i => if i == 0 then 0 else i.natAbs.log2 + 1
  | .str s => s.length
  | .tup l => wtL l
  | .lst l => wtL l
  | _ => 0
def wtL : List D → Nat
  | [] => 0
  | x :: xs => wt x + 1 + wtL xs
end
end D
mutual
theorem wt_py : ∀ d : D, (toPy d).weight = d.wt
  | .non => by simp [toPy, PyData.weight, D.wt]
  | .bl _ => by simp [toPy, PyData.weight, D.wt]
  | .int _ => by simp [toPy, PyData.weight, D.wt]
  | .str _ => by simp [toPy, PyData.weight, D.wt, strOf]
  | .tup l => by simp only [toPy, PyData.weight, D.wt]; exact wt_pyL l
  | .lst l => by simp only [toPy, PyData.weight, D.wt]; exact wt_pyL l
  | .dk _ => by simp [toPy, PyData.weight, D.wt]
  | .dt _ => by simp [toPy, PyData.weight, D.wt]
  | .ref _ => by simp [toPy, PyData.weight, D.wt]
  | .fl _ => by simp [toPy, PyData.weight, D.wt]
theorem wt_pyL : ∀ ds : List D, PyData.weightAll (toPyL ds) = D.wtL ds
  | [] => by simp [toPyL, PyData.weightAll, D.wtL]
  | d :: ds => by simp only [toPyL, PyData.weightAll, D.wtL]; rw [wt_py d, wt_pyL ds]
end
mutual
theorem short_py : ∀ d : D, d.short = true → (toPy d).intsShort 13 = true ∧ (toPy d).showable = true
  | .non, _ => by simp [toPy, PyData.intsShort, PyData.showable]
  | .bl _, _ => by simp [toPy, PyData.intsShort, PyData.showable]
  | .int i, h => by
    have h' : i.natAbs < 1000000000000 := by simpa [D.short] using h
    have a := PyData.intsShortAll_ints [i] (by intro n hn; simp at hn; subst hn; exact h')
    refine ⟨by simpa [toPy, PyData.intsShortAll] using a, ?_⟩
    simp only [toPy, PyData.showable, decide_eq_true_eq]
    by_cases h0 : i.natAbs = 0
    · rw [h0]; decide
    · rw [Nat.log2_lt h0]
      exact Nat.lt_of_lt_of_le h' (Nat.le_trans (show 1000000000000 ≤ 2 ^ 40 by decide) (Nat.pow_le_pow_right (by decide) (by decide)))
  | .str _, _ => by simp [toPy, PyData.intsShort, PyData.showable]
  | .tup l, h => by
    have := short_pyL l (by simpa [D.short] using h)
    exact ⟨by simpa [toPy, PyData.intsShort] using this.1, by simpa [toPy, PyData.showable] using this.2⟩
  | .lst l, h => by
    have := short_pyL l (by simpa [D.short] using h)
    exact ⟨by simpa [toPy, PyData.intsShort] using this.1, by simpa [toPy, PyData.showable] using this.2⟩
  | .dk _, _ => by simp [toPy, PyData.intsShort, PyData.showable]
  | .dt _, _ => by simp [toPy, PyData.intsShort, PyData.showable]
  | .ref _, _ => by simp [toPy, PyData.intsShort, PyData.showable]
  | .fl _, _ => by simp [toPy, PyData.intsShort, PyData.showable]
theorem short_pyL : ∀ ds : List D, D.shortL ds = true → PyData.intsShortAll 13 (toPyL ds) = true ∧ PyData.showableAll (toPyL ds) = true
  | [], _ => by simp [toPyL, PyData.intsShortAll, PyData.showableAll]
  | d :: ds, h => by
    obtain ⟨h1, h2⟩ := Bool.and_eq_true_iff.mp (show (d.short && D.shortL ds) = true by simpa [D.shortL] using h)
    have a := short_py d h1
    have b := short_pyL ds h2
    simp [toPyL, PyData.intsShortAll, PyData.showableAll, a.1, a.2, b.1, b.2]
end
def D.tells (d : D) : Bool := d.ok && d.short && decide (d.wt ≤ 1048576)
/-- repr(x) == repr(y), of the same data -/
def gLike (x y : D) : Option Sl := if x.same y && x.tells then some (.sh (.bl true)) else none
def rRepr (K : Fg) : List V → Hp → VK → Prop := fun xs H Q => ∃ (x : V) (d : PyData), xs = [x] ∧ Dp K H x d ∧ d.showable = true ∧ d.canLay0 = true ∧ d.depth ≤ 60 ∧ d.shown.length ≤ sizeLine ∧ Q (.str d.shown) H
section
variable {X : Cx} {B : Bs} {a b : Expr} {ma mb : ME} {pos p : Pos}
theorem cr_repr (hg : X.A.guards = some []) (hu : X.A.units + 70 < cLine) : CallR X (.builtin "repr") (rRepr (kw X)) := by
  intro pins s σ H xs us Q I r h
  obtain ⟨x, d, rfl, hd, hs, hc, hdep, hz, q⟩ := h
  obtain ⟨u, rfl, ru⟩ := vals1 r
  obtain ⟨as, rd⟩ := Dp.reads I d x u hd ru
  have nd := PyData.hasDict_of_canLay d hc
  cases rd with
  | none => exact PySem.P.repr_of_none ⟨.str _, H, I.tok _, ⟨_, rfl⟩, by simpa only [PyData.shown] using q⟩
  | bool b => exact PySem.P.repr_of_bool ⟨.str _, H, I.tok _, ⟨_, rfl⟩, by simpa only [PyData.shown] using q⟩
  | int i t => exact PySem.P.repr_of_int (by simpa only [PyData.showable, decide_eq_true_eq] using hs) ⟨.str _, H, I.tok _, ⟨_, rfl⟩, by simpa only [PyData.shown] using q⟩
  | str z t => exact PySem.P.repr_of_str ⟨.str _, H, I.tok _, ⟨_, rfl⟩, by simpa only [PyData.shown] using q⟩ (by simpa only [PyData.shown] using hz)
  | list h1 h2 h3 h4 => exact repr_of_reads' (.list h1 h2 h3 h4) hs (PyData.noDict_hsm nd) hg (by omega) (fun _ _ e => e) (fun h' u tk hk => ⟨.str _, H, I.kept (t' := tk) hk, ⟨_, rfl⟩, q⟩) hz
  | tuple h1 h2 h3 h4 => exact repr_of_reads' (.tuple h1 h2 h3 h4) hs (PyData.noDict_hsm nd) hg (by omega) (fun _ _ e => e) (fun h' u tk hk => ⟨.str _, H, I.kept (t' := tk) hk, ⟨_, rfl⟩, q⟩) hz
  | dict h1 h2 h3 h4 h5 => simp [PyData.canLay0] at hc
theorem tells_repr {K : Fg} {Hs H : Hp} {d : D} {v : V} {Q : VK} (s : Same Hs H) (h : Vw K Hs H d v) (t : d.tells = true) (q : Q (.str (toPy d).shown) H) : rRepr K [v] H Q := by
  obtain ⟨t1, t2⟩ := Bool.and_eq_true_iff.mp (show (d.ok && d.short && decide (d.wt ≤ 1048576)) = true from t)
  obtain ⟨t3, t4⟩ := Bool.and_eq_true_iff.mp t1
  obtain ⟨f1, f2⟩ := Bool.and_eq_true_iff.mp t3
  have hl := fine_lay d f1
  have hd := depth_py d
  have h60 := of_decide_eq_true f2
  have hsh := short_py d t4
  have hw := of_decide_eq_true t2
  refine ⟨v, toPy d, rfl, Vw.dp s f1 h, hsh.2, hl, by omega, PyData.shown_fits_of_layable0 (B := 13) (by decide) (by decide) ?_ hsh.1, q⟩
  show (PyData.canLay0 (toPy d) && decide (PyData.depth (toPy d) ≤ 64) && decide (PyData.weight (toPy d) ≤ 2 ^ 20)) = true
  rw [hl, wt_py d]
  simp only [Bool.true_and, Bool.and_eq_true, decide_eq_true_eq]
  exact ⟨by omega, by simpa using hw⟩
theorem se_like {p1 p2 q1 q2 : Pos} (hg : X.A.guards = some []) (hu : X.A.units + 70 < cLine) (hm : X.mg "repr" = none) (ha : SimE X B a ma) (hb : SimE X B b mb) (gl : Gl X "repr" := by rfl)
    (hs1 : starEach [a] X.env = (false, eval a X.env) :: starEach [] X.env := by rfl) (hs2 : starEach [b] X.env = (false, eval b X.env) :: starEach [] X.env := by rfl) (hpl1 : (backTo q1 (starEach [] X.env)).any (·.1) = false := by rfl) (hpl2 : (backTo q2 (starEach [] X.env)).any (·.1) = false := by rfl) :
    SimE X B (.Compare (.Call (.Name "repr" p1) [a] [] q1) [.Eq] [.Call (.Name "repr" p2) [b] [] q2] pos) (eOp2 gLike ma mb) := by
  have h1 := pe_callB (cr_repr hg hu) gl hm PyProof.Rows.boot_repr (pa_cons ha pa_nil hs1) (by decide) (by decide) hs1 hpl1 (p := p1)
  have h2 := pe_callB (cr_repr hg hu) gl hm PyProof.Rows.boot_repr (pa_cons hb pa_nil hs2) (by decide) (by decide) hs2 hpl2 (p := p2)
  refine (pe_cmpR op_eq h1 h2 (nomark _)).imp fun σ H Q ⟨e, T, z, hl, ok, hm, q⟩ => ?_
  obtain ⟨x, hx, hm⟩ := Option.bind_eq_some_iff.mp hm
  obtain ⟨d1, hd1, hm⟩ := Option.bind_eq_some_iff.mp hm
  obtain ⟨y, hy, hm⟩ := Option.bind_eq_some_iff.mp hm
  obtain ⟨d2, hd2, hm⟩ := Option.bind_eq_some_iff.mp hm
  have hm' : (if d1.same d2 && d1.tells then some (Sl.sh (.bl true)) else none) = some z := hm
  by_cases hz : (d1.same d2 && d1.tells) = true
  · rw [if_pos hz] at hm'
    cases hm'
    obtain ⟨z1, z2⟩ := Bool.and_eq_true_iff.mp hz
    have e12 := D.same_eq d1 d2 z1
    subst e12
    refine ⟨e, T, x, hl, ok, hx, fun v H1 ok1 => ?_⟩
    have okt := ok1.tl
    obtain ⟨Hs, ok1⟩ := ok1
    obtain ⟨v', ev, rv⟩ := (ok1.cells _ List.mem_cons_self).read ok1.gr.sub hd1
    cases ev
    refine (show rRepr (kw X) [v] H1 (fun x H1 => tCB (rRepr (kw X)) (tCons (SE (kw X) B mb) tNil) σ H1 fun y H2 => rEq x y H2 Q) from tells_repr ok1.gr.sub rv z2 ?_)
    refine ⟨e, T, y, hl, okt, hy, fun w H2 ok2 => ?_⟩
    have okt2 := ok2.tl
    obtain ⟨Hs2, ok2⟩ := ok2
    obtain ⟨w', ew, rw'⟩ := (ok2.cells _ List.mem_cons_self).read ok2.gr.sub hd2
    cases ew
    refine (show rRepr (kw X) [w] H2 (fun y H2 => rEq _ y H2 Q) from tells_repr ok2.gr.sub rw' z2 ?_)
    refine ⟨rfl, ?_⟩
    rw [decide_eq_true rfl]
    exact q _ H2 (okt2.addBl true)
  · rw [if_neg hz] at hm'; cases hm'
end
end Fx
set_option Elab.async false
set_option linter.all false
set_option maxRecDepth 100000
set_option maxHeartbeats 4000000
/-! Fx: sorted. -/
namespace Fx
open PySem PySem.Spec PyProof.Rows L2
/-! ### the mirror -/
namespace D
mutual
/-- ints, k deep in tuples -/
def unif : Nat → D → Bool
  | 0, .int _ => true
  | k + 1, .tup l => unifL k l
  | _, _ => false
def unifL : Nat → List D → Bool
  | _, [] => true
  | k, x :: xs => unif k x && unifL k xs
end
end D
def insD (le : D → D → Bool) (x : D) : List D → List D
  | [] => [x]
  | y :: r => if le x y then x :: y :: r else y :: insD le x r
def isortD (le : D → D → Bool) : List D → List D
  | [] => []
  | x :: r => insD le x (isortD le r)
def leD (rev : Bool) (x y : D) : Bool := if rev then !(x.ltv y) else !(y.ltv x)
def nonE : D → Bool
  | .tup [] => false
  | _ => true
def canSort (l : List D) : Bool := D.unifL (D.depthL l) l && l.all nonE && decide (D.depthL l ≤ 20) && decide (l.length ≤ line)
def gSort (rev : Bool) : D → Option Sl
  | .lst l => if canSort l then some (.own (.lst (isortD (leD rev) l))) else none
  | _ => none
/-! ### the law of sorting -/
theorem unifL_mem : ∀ {k : Nat} {l : List D}, D.unifL k l = true → ∀ x ∈ l, x.unif k = true
  | _, [], _, _, h => by cases h
  | k, y :: l, h, x, hx => by
    obtain ⟨h1, h2⟩ := Bool.and_eq_true_iff.mp (show (D.unif k y && D.unifL k l) = true by simpa [D.unifL] using h)
    rcases List.mem_cons.mp hx with rfl | hx
    · exact h1
    · exact unifL_mem h2 x hx
mutual
theorem unif_alike : ∀ (k : Nat) (x y : D), x.unif k = true → y.unif k = true → PySem.W.alike (toPy x) (toPy y) = true
  | 0, x, y, hx, hy => by
    cases x <;> first | (simp [D.unif] at hx; done) | skip
    cases y <;> first | (simp [D.unif] at hy; done) | skip
    simp [toPy, PySem.W.alike]
  | k + 1, x, y, hx, hy => by
    cases x with
    | tup l =>
      cases y with
      | tup r =>
        simp only [toPy, PySem.W.alike]
        exact unif_alikeL k l r (by simpa [D.unif] using hx) (by simpa [D.unif] using hy)
      | _ => simp [D.unif] at hy
    | _ => simp [D.unif] at hx
theorem unif_alikeL : ∀ (k : Nat) (l r : List D), D.unifL k l = true → D.unifL k r = true → PySem.W.alikeAll (toPyL l) (toPyL r) = true
  | _, [], r, _, _ => by cases r <;> simp [toPyL, PySem.W.alikeAll]
  | _, x :: l, [], _, _ => by simp [toPyL, PySem.W.alikeAll]
  | k, x :: l, y :: r, hx, hy => by
    obtain ⟨h1, h2⟩ := Bool.and_eq_true_iff.mp (show (D.unif k x && D.unifL k l) = true by simpa [D.unifL] using hx)
    obtain ⟨h3, h4⟩ := Bool.and_eq_true_iff.mp (show (D.unif k y && D.unifL k r) = true by simpa [D.unifL] using hy)
    simp only [toPyL, PySem.W.alikeAll]
    rw [unif_alike k x y h1 h3, unif_alikeL k l r h2 h4]
    rfl
end
mutual
theorem unif_fine : ∀ (k : Nat) (x : D), x.unif k = true → x.fine = true
  | 0, x, h => by cases x <;> first | (simp [D.unif] at h; done) | simp [D.fine]
  | k + 1, x, h => by
    cases x with
    | tup l => simpa [D.fine] using unif_fineL k l (by simpa [D.unif] using h)
    | _ => simp [D.unif] at h
theorem unif_fineL : ∀ (k : Nat) (l : List D), D.unifL k l = true → D.fineL l = true
  | _, [], _ => by simp [D.fineL]
  | k, x :: l, h => by
    obtain ⟨h1, h2⟩ := Bool.and_eq_true_iff.mp (show (D.unif k x && D.unifL k l) = true by simpa [D.unifL] using h)
    simp [D.fineL, unif_fine k x h1, unif_fineL k l h2]
end
mutual
theorem unif_eqv : ∀ (k : Nat) (x y : D), x.unif k = true → y.unif k = true → x.eqv y = true → x = y
  | 0, x, y, hx, hy, e => by
    cases x <;> first | (simp [D.unif] at hx; done) | skip
    cases y <;> first | (simp [D.unif] at hy; done) | skip
    simp [D.eqv] at e
    rw [e]
  | k + 1, x, y, hx, hy, e => by
    cases x with
    | tup l =>
      cases y with
      | tup r => rw [unif_eqvL k l r (by simpa [D.unif] using hx) (by simpa [D.unif] using hy) (by simpa [D.eqv] using e)]
      | _ => simp [D.unif] at hy
    | _ => simp [D.unif] at hx
theorem unif_eqvL : ∀ (k : Nat) (l r : List D), D.unifL k l = true → D.unifL k r = true → D.eqvL l r = true → l = r
  | _, [], [], _, _, _ => rfl
  | _, [], _ :: _, _, _, e => by simp [D.eqvL] at e
  | _, _ :: _, [], _, _, e => by simp [D.eqvL] at e
  | k, x :: l, y :: r, hx, hy, e => by
    obtain ⟨h1, h2⟩ := Bool.and_eq_true_iff.mp (show (D.unif k x && D.unifL k l) = true by simpa [D.unifL] using hx)
    obtain ⟨h3, h4⟩ := Bool.and_eq_true_iff.mp (show (D.unif k y && D.unifL k r) = true by simpa [D.unifL] using hy)
    obtain ⟨e1, e2⟩ := Bool.and_eq_true_iff.mp (show (D.eqv x y && D.eqvL l r) = true by simpa [D.eqvL] using e)
    rw [unif_eqv k x y h1 h3 e1, unif_eqvL k l r h2 h4 e2]
end
mutual
theorem ltv_py : ∀ (k : Nat) (x y : D), x.unif k = true → y.unif k = true → PySem.W.dataLt (toPy x) (toPy y) = x.ltv y
  | 0, x, y, hx, hy => by
    cases x <;> first | (simp [D.unif] at hx; done) | skip
    cases y <;> first | (simp [D.unif] at hy; done) | skip
    simp only [toPy, D.ltv, PySem.W.dataLt_int]
  | k + 1, x, y, hx, hy => by
    cases x with
    | tup l =>
      cases y with
      | tup r =>
        simp only [toPy, D.ltv, PySem.W.dataLt_tuple]
        exact ltv_pyL k l r (by simpa [D.unif] using hx) (by simpa [D.unif] using hy)
      | _ => simp [D.unif] at hy
    | _ => simp [D.unif] at hx
theorem ltv_pyL : ∀ (k : Nat) (l r : List D), D.unifL k l = true → D.unifL k r = true → PyProof.Rows.lexLt PyProof.Rows.itemOrd (PySem.W.keyToksAll (toPyL l)) (PySem.W.keyToksAll (toPyL r)) = D.ltvL l r
  | _, [], [], _, _ => by simp only [toPyL, D.ltvL]; exact PyProof.Rows.lex_irrefl _
  | _, [], y :: r, _, _ => by
    simp only [toPyL, D.ltvL]
    rw [PySem.W.toks_all_cons]
    simp only [PySem.W.keyToksAll]
    rw [PyProof.Rows.lex_diff (O := PyProof.Rows.itemOrd) (by simp)]
    rfl
  | _, x :: l, [], _, _ => by
    simp only [toPyL, D.ltvL]
    rw [PySem.W.toks_all_cons]
    simp only [PySem.W.keyToksAll]
    rw [PyProof.Rows.lex_diff (O := PyProof.Rows.itemOrd) (by simp)]
    rfl
  | k, x :: l, y :: r, hx, hy => by
    obtain ⟨h1, h2⟩ := Bool.and_eq_true_iff.mp (show (D.unif k x && D.unifL k l) = true by simpa [D.unifL] using hx)
    obtain ⟨h3, h4⟩ := Bool.and_eq_true_iff.mp (show (D.unif k y && D.unifL k r) = true by simpa [D.unifL] using hy)
    simp only [toPyL, D.ltvL]
    rw [PySem.W.dataLt_cons (unif_alike k x y h1 h3), eqv_py x y (unif_fine k x h1) (unif_fine k y h3), ltv_pyL k l r h2 h4, ltv_py k x y h1 h3]
end
mutual
theorem ltv_antisymm : ∀ (k : Nat) (x y : D), x.unif k = true → y.unif k = true → x.ltv y = false → y.ltv x = false → x = y
  | 0, x, y, hx, hy, h1, h2 => by
    cases x <;> first | (simp [D.unif] at hx; done) | skip
    cases y <;> first | (simp [D.unif] at hy; done) | skip
    rename_i i j
    have a : ¬ i < j := of_decide_eq_false (by simpa [D.ltv] using h1)
    have b : ¬ j < i := of_decide_eq_false (by simpa [D.ltv] using h2)
    have : i = j := by omega
    rw [this]
  | k + 1, x, y, hx, hy, h1, h2 => by
    cases x with
    | tup l =>
      cases y with
      | tup r => rw [ltv_antisymmL k l r (by simpa [D.unif] using hx) (by simpa [D.unif] using hy) (by simpa only [D.ltv] using h1) (by simpa only [D.ltv] using h2)]
      | _ => simp [D.unif] at hy
    | _ => simp [D.unif] at hx
theorem ltv_antisymmL : ∀ (k : Nat) (l r : List D), D.unifL k l = true → D.unifL k r = true → D.ltvL l r = false → D.ltvL r l = false → l = r
  | _, [], [], _, _, _, _ => rfl
  | _, [], _ :: _, _, _, h, _ => by simp [D.ltvL] at h
  | _, _ :: _, [], _, _, _, h => by simp [D.ltvL] at h
  | k, x :: l, y :: r, hx, hy, a, b => by
    obtain ⟨h1, h2⟩ := Bool.and_eq_true_iff.mp (show (D.unif k x && D.unifL k l) = true by simpa [D.unifL] using hx)
    obtain ⟨h3, h4⟩ := Bool.and_eq_true_iff.mp (show (D.unif k y && D.unifL k r) = true by simpa [D.unifL] using hy)
    simp only [D.ltvL] at a b
    by_cases e : x.eqv y = true
    · have exy := unif_eqv k x y h1 h3 e
      subst exy
      rw [if_pos e] at a b
      rw [ltv_antisymmL k l r h2 h4 a b]
    · have e' : ¬ y.eqv x = true := fun z => e (by
        have := unif_eqv k y x h3 h1 z
        subst this; exact z)
      rw [if_neg e] at a
      rw [if_neg e'] at b
      have exy := ltv_antisymm k x y h1 h3 a b
      subst exy
      -- the same data is equal to itself
      exfalso
      apply e
      have hr : PySem.W.alike (toPy x) (toPy x) = true := unif_alike k x x h1 h1
      rw [← eqv_py x x (unif_fine k x h1) (unif_fine k x h1)]
      exact SeqAt.eqv_refl _ (fine_lay x (unif_fine k x h1))
end
theorem insD_perm (le : D → D → Bool) (x : D) : ∀ l : List D, (insD le x l).Perm (x :: l)
  | [] => List.Perm.refl _
  | y :: r => by
    unfold insD
    split
    · exact List.Perm.refl _
    · exact (List.Perm.cons y (insD_perm le x r)).trans (List.Perm.swap x y r)
theorem isortD_perm (le : D → D → Bool) : ∀ l : List D, (isortD le l).Perm l
  | [] => List.Perm.refl _
  | x :: r => (insD_perm le x _).trans (List.Perm.cons x (isortD_perm le r))
theorem insD_sorted {le : D → D → Bool} (tr : ∀ a b c, le a b = true → le b c = true → le a c = true) (to : ∀ a b, le a b = true ∨ le b a = true) (x : D) : ∀ l : List D, l.Pairwise (fun a b => le a b = true) → (insD le x l).Pairwise fun a b => le a b = true
  | [], _ => List.Pairwise.cons (fun _ h => by cases h) List.Pairwise.nil
  | y :: r, h => by
    obtain ⟨h1, h2⟩ := List.pairwise_cons.mp h
    unfold insD
    split
    · rename_i hxy
      exact List.Pairwise.cons (fun a ha => by
        rcases List.mem_cons.mp ha with rfl | ha
        · exact hxy
        · exact tr _ _ _ hxy (h1 a ha)) h
    · rename_i hxy
      refine List.Pairwise.cons (fun a ha => ?_) (insD_sorted tr to x r h2)
      rcases List.mem_cons.mp ((insD_perm le x r).mem_iff.mp ha) with rfl | ha
      · exact (to y _).resolve_right hxy
      · exact h1 a ha
theorem isortD_sorted {le : D → D → Bool} (tr : ∀ a b c, le a b = true → le b c = true → le a c = true) (to : ∀ a b, le a b = true ∨ le b a = true) : ∀ l : List D, (isortD le l).Pairwise fun a b => le a b = true
  | [] => List.Pairwise.nil
  | x :: r => insD_sorted tr to x _ (isortD_sorted tr to r)
theorem insD_congr {le le' : D → D → Bool} (x : D) : ∀ l : List D, (∀ y ∈ l, le x y = le' x y) → insD le x l = insD le' x l
  | [], _ => rfl
  | y :: r, h => by
    unfold insD
    rw [h y List.mem_cons_self, insD_congr x r fun z hz => h z (List.mem_cons_of_mem _ hz)]
theorem isortD_congr {le le' : D → D → Bool} : ∀ l : List D, (∀ a ∈ l, ∀ b ∈ l, le a b = le' a b) → isortD le l = isortD le' l
  | [], _ => rfl
  | x :: r, h => by
    show insD le x (isortD le r) = insD le' x (isortD le' r)
    rw [isortD_congr r fun a ha b hb => h a (List.mem_cons_of_mem _ ha) b (List.mem_cons_of_mem _ hb)]
    exact insD_congr x _ fun y hy => h x List.mem_cons_self y (List.mem_cons_of_mem _ ((isortD_perm le' r).mem_iff.mp hy))
/-- the library's sort, by data alone -/
theorem sort_eq {rev : Bool} {k : Nat} {l : List D} (h : D.unifL k l = true) : l.mergeSort (PySem.W.dataLe rev toPy) = isortD (leD rev) l := by
  have hm := fun x hx => unifL_mem h x hx
  have T := PySem.W.sortLe_total (PyProof.Rows.listOrd PyProof.Rows.itemOrd) rev fun b : D => PySem.W.keyToks (toPy b)
  have e : isortD (leD rev) l = isortD (PySem.W.dataLe rev toPy) l := isortD_congr l fun a ha b hb => by
    rw [PySem.W.dataLe_eq]
    unfold leD
    cases rev with
    | true => simp only [if_true, cond_true]; rw [ltv_py k a b (hm a ha) (hm b hb)]
    | false => simp only [Bool.false_eq_true, if_false, cond_false]; rw [ltv_py k b a (hm b hb) (hm a ha)]
  rw [e]
  refine List.Perm.eq_of_pairwise (le := fun a b => PySem.W.dataLe rev toPy a b = true) (fun a b ha hb h1 h2 => ?_) (PySem.W.sort_pairwise T l) (isortD_sorted T.trans T.total l) ((List.mergeSort_perm l _).trans (isortD_perm _ l).symm)
  have ma : a ∈ l := (List.mergeSort_perm l _).mem_iff.mp ha
  have mb : b ∈ l := (isortD_perm _ l).mem_iff.mp hb
  rw [PySem.W.dataLe_eq] at h1 h2
  cases rev with
  | true =>
    simp only [cond_true, Bool.not_eq_true'] at h1 h2
    rw [ltv_py k a b (hm a ma) (hm b mb)] at h1
    rw [ltv_py k b a (hm b mb) (hm a ma)] at h2
    exact ltv_antisymm k a b (hm a ma) (hm b mb) h1 h2
  | false =>
    simp only [cond_false, Bool.not_eq_true'] at h1 h2
    rw [ltv_py k b a (hm b mb) (hm a ma)] at h1
    rw [ltv_py k a b (hm a ma) (hm b mb)] at h2
    exact ltv_antisymm k a b (hm a ma) (hm b mb) h2 h1
/-! ### the machine -/
theorem unif_depth_mem {k : Nat} {l : List D} : ∀ x ∈ l, x.depth ≤ D.depthL l := by
  induction l with
  | nil => intro x h; cases h
  | cons y l ih =>
    intro x h
    simp only [D.depthL]
    rcases List.mem_cons.mp h with rfl | h
    · exact Nat.le_max_left _ _
    · exact Nat.le_trans (ih x h) (Nat.le_max_right _ _)
def rSortF (K : Fg) (rev : Bool) : List V → Hp → VK → Prop := fun vs H Q => ∃ (a : Addr) (xs : List V) (ds : List D), vs = [V.ref a] ∧ SqL K H a xs ∧ DpAll K H xs (toPyL ds) ∧ xs.length = ds.length ∧ canSort ds = true ∧
  ∀ (p : Addr) (bs : List (V × D)), H p = none → bs.Perm (xs.zip ds) → bs.map (·.2) = isortD (leD rev) ds → Q (.ref p) (L2.upd H p (.lst (bs.map (·.1))))
theorem each_vals : ∀ {out : List Value} {bs : List (V × D)}, PySem.W.EachIs (fun u b => RelV b.1 u) out bs → Vals (bs.map (·.1)) out
  | _, _, .nil => .nil
  | _, _, .cons h t => .cons h (each_vals t)
theorem each_of_vals : ∀ {xs : List V} {its : List Value} {ds : List D}, Vals xs its → xs.length = ds.length → PySem.W.EachIs (fun u (b : V × D) => RelV b.1 u) its (xs.zip ds)
  | [], _, [], .nil, _ => .nil
  | x :: xs, _, d :: ds, .cons h t, hl => .cons h (each_of_vals t (by simpa using hl))
  | [], _, _ :: _, _, hl => by simp at hl
  | _ :: _, _, [], _, hl => by simp at hl
theorem each_reads {h : Heap} : ∀ {its : List Value} {xs : List V} {ds : List D} {as : List Addr}, ReadsAll h its (toPyL ds) as → its.length = xs.length → xs.length = ds.length → PySem.W.EachIs (fun v (b : V × D) => ∃ as, Reads h v (toPy b.2) as) its (xs.zip ds)
  | [], [], [], _, _, _, _ => .nil
  | u :: its, x :: xs, d :: ds, _, r, h1, h2 => by
    cases r with
    | cons r1 r2 => exact .cons ⟨_, r1⟩ (each_reads r2 (by simpa using h1) (by simpa using h2))
  | [], _ :: _, _, _, _, h, _ => by simp at h
  | _ :: _, [], _, _, _, h, _ => by simp at h
  | [], [], _ :: _, _, _, _, h => by simp at h
  | _ :: _, _ :: _, [], _, _, _, h => by simp at h
theorem zip_snd : ∀ {xs : List V} {ds : List D}, xs.length = ds.length → (xs.zip ds).map (·.2) = ds
  | [], [], _ => rfl
  | x :: xs, d :: ds, h => by
    show d :: (xs.zip ds).map (·.2) = d :: ds
    rw [zip_snd (by simpa using h)]
  | [], _ :: _, h => by simp at h
  | _ :: _, [], h => by simp at h
section
variable {X : Cx}
theorem sort_run {rev : Bool} {pins : List (Addr × Obj)} {s : Shared} {σ : L2.St} {H : Hp} {a : Addr} {xs : List V} {ds : List D} {Q : VK} {call_ : Sem Value} (hu : X.A.units + 70 < cLine) (I : Inv X pins σ H s) (hs : SqL X.K H a xs) (hd : DpAll X.K H xs (toPyL ds)) (hl : xs.length = ds.length) (hc : canSort ds = true)
    (q : ∀ (p : Addr) (bs : List (V × D)), H p = none → bs.Perm (xs.zip ds) → bs.map (·.2) = isortD (leD rev) ds → Q (.ref p) (L2.upd H p (.lst (bs.map (·.1)))))
    (go : ∀ (its : List Value), s.heap.IsList a its.toArray → PySem.W.EachIs (fun u (b : V × D) => RelV b.1 u) its (xs.zip ds) → PySem.W.EachIs (fun v (b : V × D) => ∃ as, Reads s.heap v (toPy b.2) as) its (xs.zip ds) → PySem.W.AllAlike ((xs.zip ds).map fun b => toPy b.2) → PySem.W.Sortable ((xs.zip ds).map fun b => toPy b.2) → (xs.zip ds).length ≤ sizeLine →
      (∀ b, b ∈ xs.zip ds → X.A.units + 2 + (toPy b.2).depth < cLine) → (∀ out, out.length = (xs.zip ds).length → PySem.W.EachIs (fun u (b : V × D) => RelV b.1 u) out ((xs.zip ds).mergeSort (PySem.W.dataLe rev fun b => toPy b.2)) → EP X pins σ Q (.ref (s.heap.objs.size + 1)) { s with heap := PyProof.Rows.sortedAll s.heap its (List.toArray out) }) →
      wpAny (model X.prog X.w) X.A call_ (EP X pins σ Q) X.xe s) : wpAny (model X.prog X.w) X.A call_ (EP X pins σ Q) X.xe s := by
  obtain ⟨its, rv, pl, hz⟩ := I.list hs
  obtain ⟨as, hr⟩ := Dp.readsAll I (toPyL ds) xs its hd rv
  obtain ⟨c1, c4⟩ := Bool.and_eq_true_iff.mp (show (D.unifL (D.depthL ds) ds && ds.all nonE && decide (D.depthL ds ≤ 20) && decide (ds.length ≤ line)) = true from hc)
  obtain ⟨c2, c3⟩ := Bool.and_eq_true_iff.mp c1
  obtain ⟨cu, cn⟩ := Bool.and_eq_true_iff.mp c2
  have c20 := of_decide_eq_true c3
  have hm := fun x hx => unifL_mem cu x hx
  have mem2 : ∀ b ∈ xs.zip ds, b.2 ∈ ds := fun b hb => (List.of_mem_zip (show (b.1, b.2) ∈ _ from hb)).2
  refine go its pl.isList (each_of_vals rv hl) (each_reads hr rv.length.symm hl) (fun d hd' d' hd'' => ?_) ?_ ?_ (fun b hb => ?_) fun out ho eo => ?_
  · obtain ⟨b, hb, rfl⟩ := List.mem_map.mp hd'
    obtain ⟨b', hb', rfl⟩ := List.mem_map.mp hd''
    exact unif_alike _ _ _ (hm _ (mem2 b hb)) (hm _ (mem2 b' hb'))
  · cases hk : D.depthL ds with
    | zero =>
      refine .inr fun d hd' => ?_
      obtain ⟨b, hb, rfl⟩ := List.mem_map.mp hd'
      have := hm _ (mem2 b hb)
      rw [hk] at this
      cases hb2 : b.2 <;> rw [hb2] at this <;> first | (simp [D.unif] at this; done) | skip
      exact ⟨by simp [toPy], by simp [toPy]⟩
    | succ k =>
      refine .inl fun d hd' => ?_
      obtain ⟨b, hb, rfl⟩ := List.mem_map.mp hd'
      have h1 := hm _ (mem2 b hb)
      rw [hk] at h1
      have h2 := List.all_eq_true.mp cn _ (mem2 b hb)
      cases hb2 : b.2 <;> rw [hb2] at h1 h2 <;> first | (simp [D.unif] at h1; done) | skip
      rename_i l
      cases l with
      | nil => simp [nonE] at h2
      | cons y l => exact ⟨toPy y, toPyL l, by simp [toPy, toPyL]⟩
  · rw [List.length_zip, hl, Nat.min_self, ← line_eq]; exact of_decide_eq_true c4
  · have h1 := depth_py b.2
    have h2 := unif_depth_mem (k := 0) b.2 (mem2 b hb)
    omega
  · have hp : ((xs.zip ds).mergeSort (PySem.W.dataLe rev fun b => toPy b.2)).Perm (xs.zip ds) := List.mergeSort_perm _ _
    have e2 : ((xs.zip ds).mergeSort (PySem.W.dataLe rev fun b => toPy b.2)).map (·.2) = isortD (leD rev) ds := by
      rw [PySem.W.sort_maps (s := PySem.W.dataLe rev toPy) (fun b : V × D => b.2) (fun a _ b _ => by rw [PySem.W.dataLe_eq, PySem.W.dataLe_eq]), zip_snd hl]
      exact sort_eq cu
    obtain ⟨ep, he'⟩ := PyProof.Rows.sortedAll_at s.heap its out.toArray
    have hlen : (((xs.zip ds).mergeSort (PySem.W.dataLe rev fun b => toPy b.2)).map (·.1)).length ≤ sizeLine := by
      rw [List.length_map, hp.length_eq, List.length_zip, hl, Nat.min_self, ← line_eq]; exact of_decide_eq_true c4
    exact ⟨.ref _, _, I.laid (t' := s.toks) (o := .lst (((xs.zip ds).mergeSort (PySem.W.dataLe rev fun b => toPy b.2)).map (·.1))) (fun _ _ => PyProof.Rows.sortedAll_old) (Nat.le_succ _) ⟨hlen, out, ep, each_vals eo, by simpa using he'⟩, rfl, q _ _ (I.hok.fresh (Nat.le_succ _)) hp e2⟩
theorem cr_sortF (hu : X.A.units + 70 < cLine) : CallR X (.builtin "sorted") (rSortF (kw X) false) := by
  intro pins s σ H vs us Q I r h
  obtain ⟨a, xs, ds, rfl, hs, hd, hl, hc, q⟩ := h
  rw [Vals.ref1 r]
  exact sort_run (rev := false) hu I hs hd hl hc q fun its il e er hal hk hL hu' h => PySem.W.sorted_data il e er hal hk hL hu' h
theorem cr_sortR {b : Bool} (hu : X.A.units + 70 < cLine) : CallRK X (.builtin "sorted") [Str.ofString "reverse"] (fun vs zs H Q => zs = [.bl b] ∧ rSortF (kw X) b vs H Q) := by
  intro pins s σ H vs zs us ws Q I r rz h
  obtain ⟨rfl, a, xs, ds, rfl, hs, hd, hl, hc, q⟩ := h
  obtain ⟨w1, rfl, e1⟩ := vals1 rz
  obtain rfl : w1 = Value.bool b := e1
  rw [Vals.ref1 r]
  exact sort_run (rev := b) hu I hs hd hl hc q fun its il e er hal hk hL hu' h => PySem.W.sorted_rev_data il e er hal hk hL hu' h
end
theorem perm_rp {K : Fg} {Hs : Hp} : ∀ {bs : List (V × D)}, (∀ b ∈ bs, Rp K Hs b.2 b.1) → RpL K Hs (bs.map (·.2)) (bs.map (·.1))
  | [], _ => trivial
  | b :: bs, h => ⟨h b List.mem_cons_self, perm_rp fun c hc => h c (List.mem_cons_of_mem _ hc)⟩
theorem zip_rp {K : Fg} {Hs : Hp} : ∀ {vs : List V} {l : List D}, RpL K Hs l vs → ∀ b ∈ vs.zip l, Rp K Hs b.2 b.1
  | [], _, _, b, hb => by simp at hb
  | _ :: _, [], _, b, hb => by simp at hb
  | v :: vs, d :: l, h, b, hb => by
    rcases List.mem_cons.mp hb with rfl | hb
    · exact h.1
    · exact zip_rp h.2 b hb
theorem rc_sort {K : Fg} {rev : Bool} : RC1 K (rSortF K rev) (gSort rev) := by
  intro B L Hs H d v x Q ok h hg q
  cases d <;> first | (cases hg; done) | skip
  rename_i l
  have hg' : (if canSort l then some (Sl.own (.lst (isortD (leD rev) l))) else none) = some x := hg
  by_cases hz : canSort l = true
  · rw [if_pos hz] at hg'
    cases hg'
    obtain ⟨a, vs, rfl, h1, h2⟩ := Vw.lst h
    obtain ⟨c1, c4⟩ := Bool.and_eq_true_iff.mp (show (D.unifL (D.depthL l) l && l.all nonE && decide (D.depthL l ≤ 20) && decide (l.length ≤ line)) = true from hz)
    obtain ⟨c2, c3⟩ := Bool.and_eq_true_iff.mp c1
    obtain ⟨cu, cn⟩ := Bool.and_eq_true_iff.mp c2
    refine ⟨a, vs, l, rfl, .inl (.inl h1), RpL.dp l vs (unif_fineL _ l cu) (RpL.mono ok.gr.sub _ _ h2), h2.length.symm, hz, fun p bs hp hperm hsnd => q _ _ ⟨Hs, ok.new hp (d := .lst (isortD (leD rev) l)) ⟨_, upd_same, ?_⟩⟩⟩
    rw [← hsnd]
    exact perm_rp fun b hb => zip_rp h2 b (hperm.mem_iff.mp hb)
  · rw [if_neg hz] at hg'; cases hg'
section
variable {X : Cx} {B : Bs} {a : Expr} {ma : ME} {pos p kp bp : Pos}
/-- sorted(a, reverse=b) -/
theorem se_sortR {b : Bool} {j} (hu : X.A.units + 70 < cLine) (hm : X.mg "sorted" = none) (ha : SimE X B a ma) (hv : bootBuiltins "sorted" = some (.builtin "sorted") := by decide +kernel) (hg : Gl X "sorted" := by rfl) (hs : starEach [a] X.env = (false, eval a X.env) :: starEach [] X.env := by rfl)
    (he : backTo pos (starEach [a] X.env) = (false, eval a X.env) :: backTo pos (starEach [] X.env) := by rfl) (hpl : (backTo pos (starEach [a] X.env)).any (·.1) = false := by rfl)
    (hall : (backToKw pos (keywordEach [⟨some "reverse", .Constant (.bool b) j bp, kp⟩] X.env)).all (·.1.isSome) = true := by rfl) (hnone : (backToKw pos (keywordEach [⟨some "reverse", .Constant (.bool b) j bp, kp⟩] X.env)).any (·.1.isNone) = false := by rfl)
    (hks : (backToKw pos (keywordEach [⟨some "reverse", .Constant (.bool b) j bp, kp⟩] X.env)).filterMap (·.1) = [Str.ofString "reverse"] := by rfl) :
    SimE X B (.Call (.Name "sorted" p) [a] [⟨some "reverse", .Constant (.bool b) j bp, kp⟩] pos) (eOp1 (gSort b) ma) :=
  (pe_callBK (cr_sortR (b := b) hu) hg hm hv (pa_cons ha pa_nil hs) (pk_cons pe_bl pk_nil) (by decide) (by decide) he hpl hall hnone hks).imp fun σ H Q hq => by
    refine SE.bind hq fun e T x y v H' hl hx hy ok q => ?_
    obtain ⟨d, hd, hy⟩ := Option.bind_eq_some_iff.mp hy
    obtain ⟨Hs, ok⟩ := ok
    obtain ⟨v', ev, hv⟩ := (ok.cells _ List.mem_cons_self).read ok.gr.sub hd
    cases ev
    exact ⟨rfl, rc_sort B (σ.zip e ++ T) Hs H' d v y Q (ok.sub (.cons _ (List.Sublist.refl _))) hv hy q⟩
end
end Fx
set_option Elab.async false
set_option linter.all false
set_option maxRecDepth 100000
set_option maxHeartbeats 4000000
/-! Fx: the last words for a generated text. -/
namespace Fx
open PySem PySem.Spec PyProof.Rows L2
/-- return x: x's own object, or shared data -/
def sRetN (i : Nat) : MS := fun e => match e[i]? with
  | some (.own d) => some (.rt (.own d), e)
  | some (.sh d) => some (.rt (.sh d), e)
  | _ => none
section
variable {X : Cx} {B : Bs} {pos : Pos}
theorem ss_retNm (i : Nat) {x : Str} {pos' : Pos} (hN : X.N[i]? = some x := by rfl) (hv : Vis X.env.scope x := by first | exact Or.inl rfl | exact Or.inr (Or.inl rfl) | exact Or.inr (Or.inr rfl)) (hd : (x == ("__debug__" : Str)) = false := by decide)
    (hcd : (x == ("__classdict__" : Str)) = false := by decide) : SimS X B (.Return (some (.Name x pos')) pos) (sRetN i) := by
  refine (L2.PS.or (ss_retV (X := X) (B := B) (pos := pos) (pos' := pos') i hN hv hd hcd) (ss_ret (se_var (X := X) (B := B) (pos := pos') i hN hv hd hcd))).imp fun DD σ H ⟨e, T, f, e', hl, ok, hm, q⟩ => ?_
  unfold sRetN at hm
  split at hm
  · rename_i d he
    exact .inl ⟨e, T, f, e', hl, ok, by unfold sRetV; rw [he]; exact hm, q⟩
  · rename_i d he
    exact .inr ⟨e, T, f, e', hl, ok, by unfold sRet eVar; rw [he]; exact hm, q⟩
  · cases hm
theorem cal_zero {P : Program} {w : World} {K : PySem.W.Frag} {mg : Str → Option Value} {base : Heap} {k : Nat} {x : Str} {f : Addr} {fd : FuncData} {ps : List Str} (hm : mg x = some (.ref f)) (hk : PySem.W.keepIn K (.ref f) = true) (hb : Binds K fd ps []) {n : Nat} (hn : ps.length = n) : CalF P w K mg base k x (fun _ => none) n :=
  ⟨f, fd, ps, ⟨fun vs H Q E ⟨_, _, _, _, h, _⟩ => h.trans hn.symm, fun _ _ _ _ _ _ _ _ _ _ _ _ _ _ ⟨_, _, _, _, _, _, _, h, _⟩ => by cases h⟩, hm, hk, hb⟩
/-- a def of the text, by its mirror -/
theorem cal_of {P : Program} {w : World} {K : PySem.W.Frag} {mg : Str → Option Value} {base : Heap} {k : Nat} {x : Str} {params : Arguments} {body : List Stmt} {scope : Scope} {f : Addr} {fd : FuncData} {N ps : List Str} {np ns : Nat} {ios : List Nat} {m : MS} (F : FunD K x x params body scope [] [] f fd) (hm : mg x = some (.ref f)) (S : FnScope N ps scope) (hp : ps.length = np) (hn : N.length = ns)
    (hb : ∀ (kV doc pm : Value) (an : Option Addr) (cdv ct : Value) (us : List Value), us.length = ps.length → bindArgs (PySem.W.fnOf x x params body scope .none kV doc pm an cdv ct) ⟨us, []⟩ = pure (ps.zip us))
    (hbody : ∀ (cdv : Value) (A : Around) (outer : List PySem.Env) (s : Shared) (H : Hp) (E : XK) (B : Bs), Rm k (cxOf L2.CX0 P w K mg base N x scope f cdv A outer s H E).nox → SimSs (cxOf L2.CX0 P w K mg base N x scope f cdv A outer s H E).nox B body m) : CalF P w K mg base (k + 1) x (mDefX np ns ios m) np := by
  have hbn := F.bindsN (ps := ps) hb
  obtain ⟨oc, od, dV, kV, doc, pm, an, cdv, ct, osl, e, lk, hcd, _, _⟩ := F.ex
  refine ⟨f, fd, ps, ?_, hm, F.kp, hbn⟩
  subst e
  exact fng_mir lk hcd S hp hn fun A outer s H E B hr hg => PSs.nox (hbody cdv A outer s H E B ⟨hr, hg⟩)
theorem Rm.hu {k : Nat} {X : Cx} (R : Rm k X) : X.A.units + 70 < cLine := by have := R.room.un; omega
theorem Rm.mono {j k : Nat} {X : Cx} (R : Rm k X) (h : j ≤ k) : Rm j X := ⟨R.room.mono h, R.gd⟩
end
abbrev tAndM (a b : Env → Option Bool) : Env → Option Bool := fun e => (a e).bind fun c => if c = true then b e else some false
abbrev tOrM (a b : Env → Option Bool) : Env → Option Bool := fun e => (a e).bind fun c => if c = true then some true else b e
abbrev tNotM (a : Env → Option Bool) : Env → Option Bool := fun e => (a e).map (!·)
abbrev eIfT (c : Env → Option Bool) (a b : ME) : ME := fun e => (c e).bind fun k => if k = true then a e else b e
abbrev sIfM (c : Env → Option Bool) (a b : MS) : MS := fun e => (c e).bind fun k => if k = true then a e else b e
theorem Rm.hu64 {k : Nat} {X : Cx} (R : Rm k X) : X.A.units + 64 < cLine := by have := R.room.un; omega
theorem se_strE {X : Cx} {B : Bs} {pos : Pos} {x : Str} {l : List Nat} {j} (h : x.cps.toList = l) : SimE X B (.Constant (.str x) j pos) (eC (.str l)) := h ▸ se_str
def gAddI : D → D → Option Sl := gI fun a b => some (.int (a + b))
theorem r2_addI {K : Fg} : R2Ok K (rI0 fun i j => .int (i + j)) gAddI := r2_int fun i j d H Q hd q => by
  cases hd
  exact ⟨i, j, rfl, rfl, q _ H rfl fun _ _ => rfl⟩
theorem ints_rp {K : Fg} {H : Hp} : ∀ {l : List D} {vs : List V} {ns : List Int}, intsD l = some ns → RpL K H l vs → vs = ns.map V.int
  | [], [], _, h, _ => by cases h; rfl
  | [], _ :: _, _, _, r => r.elim
  | .int i :: l, v :: vs, ns, h, r => by
    obtain ⟨ms, h1, h2⟩ := Option.map_eq_some_iff.mp (show (intsD l).map (i :: ·) = some ns from h)
    subst h2
    rw [ints_rp h1 r.2, show v = .int i from r.1]
    rfl
  | .int _ :: _, [], _, _, r => r.elim
  | .non :: _, _, _, h, _ => by cases h
  | .bl _ :: _, _, _, h, _ => by cases h
  | .str _ :: _, _, _, h, _ => by cases h
  | .tup _ :: _, _, _, h, _ => by cases h
  | .lst _ :: _, _, _, h, _ => by cases h
  | .dk _ :: _, _, _, h, _ => by cases h
  | .dt _ :: _, _, _, h, _ => by cases h
  | .ref _ :: _, _, _, h, _ => by cases h
  | .fl _ :: _, _, _, h, _ => by cases h
theorem rc_sum {K : Fg} : RC1 K (rSumF K) gSum := by
  intro B L Hs H d v x Q ok h hg q
  obtain ⟨l, hl, hg⟩ := Option.bind_eq_some_iff.mp hg
  obtain ⟨ns, hns, hg⟩ := Option.bind_eq_some_iff.mp hg
  cases d <;> first | (cases hl; done) | skip
  · cases hl; cases hg
    obtain ⟨a, vs, rfl, h1, h2⟩ := Vw.tup h
    have e := ints_rp hns h2
    subst e
    exact ⟨a, ns, rfl, .inr (SqT.mono ok.gr.sub h1), q _ H (ok_int ok _)⟩
  · cases hl; cases hg
    obtain ⟨a, vs, rfl, h1, h2⟩ := Vw.lst h
    have e := ints_rp hns h2
    subst e
    exact ⟨a, ns, rfl, .inl (.inl (.inl h1)), q _ H (ok_int ok _)⟩
def gMinD : D → Option Sl
  | .lst l => if canSort l && decide (0 < l.length) then l[argBest (fun i j => (l.getD i .non).ltv (l.getD j .non)) (l.length - 1)]?.map .sh else none
  | _ => none
theorem toPyL_get : ∀ {l : List D} {i : Nat}, (toPyL l)[i]? = l[i]?.map toPy
  | [], _ => by simp [toPyL]
  | d :: l, 0 => by simp [toPyL]
  | d :: l, i + 1 => by simpa [toPyL] using toPyL_get (l := l) (i := i)
theorem toPyL_len : ∀ {l : List D}, (toPyL l).length = l.length
  | [] => rfl
  | d :: l => by simp [toPyL, toPyL_len (l := l)]
theorem argBest_congr {f g : Nat → Nat → Bool} {n : Nat} (h : ∀ i j, i ≤ n → j ≤ n → f i j = g i j) : ∀ k, k ≤ n → argBest f k = argBest g k
  | 0, _ => rfl
  | k + 1, hk => by
    have ih := argBest_congr h k (by omega)
    have hb := argBest_le g k
    unfold argBest
    rw [ih, h (k + 1) (argBest g k) hk (by omega)]
theorem mem_toPyL : ∀ {l : List D} {z : PyData}, z ∈ toPyL l → ∃ d ∈ l, z = toPy d
  | [], _, h => by simp [toPyL] at h
  | d :: l, z, h => by
    rcases List.mem_cons.mp (show z ∈ toPy d :: toPyL l by simpa [toPyL] using h) with rfl | h
    · exact ⟨d, List.mem_cons_self, rfl⟩
    · obtain ⟨d', h1, h2⟩ := mem_toPyL h
      exact ⟨d', List.mem_cons_of_mem _ h1, h2⟩
theorem rc_minD {K : Fg} : RC1 K (rMinD K) gMinD := by
  intro B L Hs H d v x Q ok h hg q
  cases d <;> first | (cases hg; done) | skip
  rename_i l
  have hg' : (if canSort l && decide (0 < l.length) then l[argBest (fun i j => (l.getD i .non).ltv (l.getD j .non)) (l.length - 1)]?.map Sl.sh else none) = some x := hg
  by_cases hz : (canSort l && decide (0 < l.length)) = true
  · rw [if_pos hz] at hg'
    obtain ⟨dm, hdm, e⟩ := Option.map_eq_some_iff.mp hg'
    subst e
    obtain ⟨z1, z2⟩ := Bool.and_eq_true_iff.mp hz
    obtain ⟨c1, c4⟩ := Bool.and_eq_true_iff.mp (show (D.unifL (D.depthL l) l && l.all nonE && decide (D.depthL l ≤ 20) && decide (l.length ≤ line)) = true from z1)
    obtain ⟨c2, c3⟩ := Bool.and_eq_true_iff.mp c1
    obtain ⟨cu, cn⟩ := Bool.and_eq_true_iff.mp c2
    have hm := fun x hx => unifL_mem cu x hx
    have hpos := of_decide_eq_true z2
    have h20 := of_decide_eq_true c3
    obtain ⟨a, vs, rfl, h1, h2⟩ := Vw.lst h
    have hcong : argBest (fun i j => PySem.W.dataLt ((toPyL l).getD i .none) ((toPyL l).getD j .none)) ((toPyL l).length - 1) = argBest (fun i j => (l.getD i .non).ltv (l.getD j .non)) (l.length - 1) := by
      rw [toPyL_len]
      refine argBest_congr (n := l.length - 1) (fun i j hi hj => ?_) _ (Nat.le_refl _)
      have gi : ∀ i, i ≤ l.length - 1 → ∃ x, l[i]? = some x ∧ (toPyL l).getD i .none = toPy x ∧ l.getD i .non = x := fun i hi => by
        have hlt : i < l.length := by omega
        refine ⟨l[i], List.getElem?_eq_getElem hlt, ?_, ?_⟩
        · rw [List.getD_eq_getElem?_getD, toPyL_get, List.getElem?_eq_getElem hlt]; rfl
        · rw [List.getD_eq_getElem?_getD, List.getElem?_eq_getElem hlt]; rfl
      obtain ⟨x, hx, e1, e2⟩ := gi i hi
      obtain ⟨y, hy, e3, e4⟩ := gi j hj
      show PySem.W.dataLt ((toPyL l).getD i .none) ((toPyL l).getD j .none) = (l.getD i .non).ltv (l.getD j .non)
      rw [e1, e2, e3, e4]
      exact ltv_py _ _ _ (hm _ (List.mem_of_getElem? hx)) (hm _ (List.mem_of_getElem? hy))
    refine ⟨a, vs, toPyL l, rfl, .inl (.inl h1), RpL.dp l vs (unif_fineL _ l cu) (RpL.mono ok.gr.sub _ _ h2), fun d hd e he => ?_, fun d hd => ?_, by rw [toPyL_len]; exact hpos, fun w hw => ?_⟩
    · obtain ⟨x, hx, rfl⟩ := mem_toPyL hd
      obtain ⟨y, hy, rfl⟩ := mem_toPyL he
      exact unif_alike _ _ _ (hm _ hx) (hm _ hy)
    · obtain ⟨x, hx, rfl⟩ := mem_toPyL hd
      have hu := hm _ hx
      have hdp := depth_py x
      have hmd := unif_depth_mem (k := 0) x hx
      refine ⟨?_, by omega⟩
      cases hk : D.depthL l with
      | zero => rw [hk] at hu; cases x <;> first | (simp [D.unif] at hu; done) | simp [toPy]
      | succ k => rw [hk] at hu; cases x <;> first | (simp [D.unif] at hu; done) | simp [toPy]
    · rw [hcong] at hw
      obtain ⟨u, hu1, hu2⟩ := h2.get hdm
      rw [hw] at hu1
      cases hu1
      exact q w H ⟨Hs, ok.sh hu2⟩
  · rw [if_neg hz] at hg'; cases hg'
end Fx
set_option Elab.async false
set_option linter.all false
set_option maxRecDepth 100000
/-! Fx: the mirrors are monotone in the defs that they call: a def may be replaced by what is known of it. -/
namespace Fx
def MLe {α : Type} (m m' : Env → Option α) : Prop := ∀ e r, m e = some r → m' e = some r
def FLe (f g : FX) : Prop := ∀ a r, f a = some r → g a = some r
inductive LeL : List ME → List ME → Prop where
  | nil : LeL [] []
  | cons {a a' : ME} {l l' : List ME} : MLe a a' → LeL l l' → LeL (a :: l) (a' :: l')
inductive LeS : List Ar → List Ar → Prop where
  | nil : LeS [] []
  | one {a a' : ME} {l l' : List Ar} : MLe a a' → LeS l l' → LeS (.one a :: l) (.one a' :: l')
  | star {a a' : ME} {l l' : List Ar} : MLe a a' → LeS l l' → LeS (.star a :: l) (.star a' :: l')
inductive LeG : List Ag → List Ag → Prop where
  | nil : LeG [] []
  | val {x x' : MX} {l l' : List Ag} : MLe x x' → LeG l l' → LeG (.val x :: l) (.val x' :: l')
  | own {x x' : MX} {l l' : List Ag} : MLe x x' → LeG l l' → LeG (.own x :: l) (.own x' :: l')
  | io {l l' : List Ag} {k : Nat} : LeG l l' → LeG (.io k :: l) (.io k :: l')
section
variable {α β : Type} {a a' b b' c c' d d' : ME} {m m' n n' : MS} {t t' u u' : Env → Option Bool} {f f' : FX} {x x' y y' z z' : MX}
theorem bind_mono {p q : Option α} {f g : α → Option β} (h : ∀ r, p = some r → q = some r) (k : ∀ a r, f a = some r → g a = some r) : ∀ r, p.bind f = some r → q.bind g = some r := by
  intro r hr
  obtain ⟨v, h1, h2⟩ := Option.bind_eq_some_iff.mp hr
  rw [h v h1]
  exact k v r h2
theorem map_mono {p q : Option α} {f : α → β} (h : ∀ r, p = some r → q = some r) : ∀ r, p.map f = some r → q.map f = some r := by
  intro r hr
  obtain ⟨v, h1, h2⟩ := Option.map_eq_some_iff.mp hr
  rw [h v h1, ← h2]; rfl
theorem bind_monoL {p q : Option α} {f : α → Option β} (h : ∀ r, p = some r → q = some r) : ∀ r, p.bind f = some r → q.bind f = some r := bind_mono h fun _ _ h => h
theorem MLe.rfl {m : Env → Option α} : MLe m m := fun _ _ h => h
theorem FLe.rfl : FLe f f := fun _ _ h => h
theorem FLe.trans {f g k : FX} (h : FLe f g) (h' : FLe g k) : FLe f k := fun a r q => h' a r (h a r q)
/-! expressions -/
theorem le_op1 {g} (h : MLe a a') : MLe (eOp1 g a) (eOp1 g a') := fun e => bind_monoL (h e)
theorem le_op2 {g} (h : MLe a a') (h' : MLe b b') : MLe (eOp2 g a b) (eOp2 g a' b') := fun e => bind_mono (h e) fun _ => bind_mono (fun _ h => h) fun _ => bind_monoL (h' e)
theorem le_tst (h : MLe a a') : MLe (tst a) (tst a') := fun e => bind_monoL (h e)
theorem le_if (h : MLe t t') (h1 : MLe a a') (h2 : MLe b b') : MLe (eIfT t a b) (eIfT t' a' b') := fun e => bind_mono (h e) fun k r q => by
  cases k
  · exact h2 e r q
  · exact h1 e r q
theorem le_and (h : MLe t t') (h1 : MLe u u') : MLe (tAndM t u) (tAndM t' u') := fun e => bind_mono (h e) fun k r q => by
  cases k
  · exact q
  · exact h1 e r q
theorem le_or (h : MLe t t') (h1 : MLe u u') : MLe (tOrM t u) (tOrM t' u') := fun e => bind_mono (h e) fun k r q => by
  cases k
  · exact h1 e r q
  · exact q
theorem le_not (h : MLe t t') : MLe (tNotM t) (tNotM t') := fun e => map_mono (h e)
theorem le_chain {g k} (h : MLe a a') (h1 : MLe b b') (h2 : MLe c c') : MLe (eChain g k a b c) (eChain g k a' b' c') := fun e => bind_mono (h e) fun _ => bind_mono (fun _ h => h) fun _ => bind_mono (h1 e) fun _ => bind_mono (fun _ h => h) fun _ => bind_mono (fun _ h => h) fun _ => bind_mono (fun _ h => h) fun _ => bind_mono (fun _ h => h) fun k r q => by
  cases k
  · exact q
  · exact bind_monoL (h2 e) r q
theorem le_all {l l' : List ME} (h : LeL l l') : MLe (eAll l) (eAll l') := by
  induction h with
  | nil => exact MLe.rfl
  | cons h _ ih => exact fun e => bind_mono (h e) fun _ => bind_mono (fun _ h => h) fun _ => bind_monoL (ih e)
theorem le_tup {l l' : List ME} (h : LeL l l') : MLe (eTup l) (eTup l') := fun e => bind_monoL (le_all h e)
theorem le_lst {l l' : List ME} (h : LeL l l') : MLe (eLst l) (eLst l') := fun e => bind_monoL (le_all h e)
theorem le_pure (h : FLe f f') (ds : List D) : ∀ r, pureF f ds = some r → pureF f' ds = some r := by
  intro r q
  unfold pureF at q ⊢
  cases hq : f (ds.map .sh) with
  | none => rw [hq] at q; cases q
  | some v => rw [h _ _ hq]; rw [hq] at q; exact q
theorem le_call {l l' : List ME} (hf : FLe f f') (h : LeL l l') : MLe (eCall (pureF f) l) (eCall (pureF f') l') := fun e => bind_mono (le_all h e) fun ds => bind_monoL (le_pure hf ds)
theorem le_part (h : MLe a a') : MLe (ePart (some a)) (ePart (some a')) := fun e => bind_monoL (h e)
theorem le_cut {lo lo' hi hi' : Option ME} (h : MLe a a') (h1 : MLe (ePart lo) (ePart lo')) (h2 : MLe (ePart hi) (ePart hi')) : MLe (eCut a lo hi) (eCut a' lo' hi') := fun e => bind_mono (h e) fun _ => bind_mono (fun _ h => h) fun _ => bind_mono (h1 e) fun _ => bind_monoL (h2 e)
theorem le_allS {l l' : List Ar} (h : LeS l l') : MLe (eAllS l) (eAllS l') := by
  induction h with
  | nil => exact MLe.rfl
  | one h _ ih => exact fun e => bind_mono (h e) fun _ => bind_mono (fun _ h => h) fun _ => bind_monoL (ih e)
  | star h _ ih => exact fun e => bind_mono (h e) fun _ => bind_mono (fun _ h => h) fun _ => bind_mono (fun _ h => h) fun _ => bind_monoL (ih e)
theorem le_tupS {l l' : List Ar} (h : LeS l l') : MLe (eTupS l) (eTupS l') := fun e => bind_monoL (le_allS h e)
theorem le_get (h : MLe a a') (h1 : MLe b b') (h2 : MLe c c') : MLe (eGet a b c) (eGet a' b' c') := fun e => bind_mono (h e) fun _ => bind_mono (fun _ h => h) fun _ => bind_mono (h1 e) fun _ => bind_mono (fun _ h => h) fun _ => bind_monoL (h2 e)
/-! what is walked -/
variable {i i' : MI}
theorem le_seq (h : MLe a a') : MLe (iSeq a) (iSeq a') := fun e => bind_monoL (h e)
theorem le_seqZ (h : MLe a a') : MLe (iSeqZ a) (iSeqZ a') := fun e => bind_monoL (h e)
theorem le_range1 (h : MLe a a') : MLe (iRange1 a) (iRange1 a') := fun e => bind_monoL (h e)
theorem le_range2 (h : MLe a a') (h' : MLe b b') : MLe (iRange2 a b) (iRange2 a' b') := fun e => bind_mono (h e) fun _ => bind_mono (fun _ h => h) fun _ => bind_mono (fun _ h => h) fun _ => bind_monoL (h' e)
theorem le_rev (h : MLe i i') : MLe (iRev i) (iRev i') := fun e => map_mono (h e)
theorem le_enum (h : MLe a a') : MLe (iEnum a) (iEnum a') := fun e => map_mono (le_seq h e)
theorem le_enumZ (h : MLe a a') : MLe (iEnumZ a) (iEnumZ a') := fun e => map_mono (le_seqZ h e)
theorem le_lcGo {tg} (h1 : MLe t t') (h2 : MLe a a') (e : Env) : ∀ l r, lcGo tg t a e l = some r → lcGo tg t' a' e l = some r
  | [], r, q => q
  | x :: xs, r, q => by
    refine bind_mono (fun _ h => h) (fun e1 => ?_) r q
    refine bind_mono (h1 e1) (fun k => ?_)
    intro r q
    cases k
    · exact le_lcGo h1 h2 e xs r q
    · exact bind_mono (h2 e1) (fun _ => bind_mono (fun _ h => h) fun _ => bind_monoL (le_lcGo h1 h2 e xs)) r q
theorem le_lc {tg ws} (h : MLe i i') (h1 : MLe t t') (h2 : MLe a a') : MLe (eLc i tg t a ws) (eLc i' tg t' a' ws) := fun e => bind_mono (h e) fun l => bind_monoL (le_lcGo h1 h2 _ l)
/-! statements -/
theorem le_sSeq (h : MLe m m') (h' : MLe n n') : MLe (sSeq m n) (sSeq m' n') := fun e => bind_mono (h e) fun p r q => by
  cases hp : p.1 <;> rw [hp] at q <;> first | exact q | exact h' _ r q
theorem le_sSet {k} (h : MLe a a') : MLe (sSet k a) (sSet k a') := fun e => bind_monoL (h e)
theorem le_sPar {k l} (h : MLe a a') (h' : MLe b b') : MLe (sPar k l a b) (sPar k l a' b') := fun e => bind_mono (h e) fun _ => bind_monoL (h' e)
theorem le_sUnpack {k} (h : MLe a a') : MLe (sUnpack k a) (sUnpack k a') := fun e => bind_monoL (h e)
theorem le_sIf (h : MLe t t') (h1 : MLe m m') (h2 : MLe n n') : MLe (sIfM t m n) (sIfM t' m' n') := fun e => bind_mono (h e) fun k r q => by
  cases k
  · exact h2 e r q
  · exact h1 e r q
theorem le_sRet (h : MLe a a') : MLe (sRet a) (sRet a') := fun e => map_mono (h e)
theorem le_sFz {k} (h : MLe m m') : MLe (sFz k m) (sFz k m') := fun e => h (fzM k e)
theorem le_sAppend {k} (h : MLe a a') : MLe (sAppend k a) (sAppend k a') := fun e => bind_mono (fun _ h => h) fun p => bind_monoL fun r q => by
  revert q
  show (match p.1 with | .lst l => _ | _ => _) = some r → (match p.1 with | .lst l => _ | _ => _) = some r
  cases p.1 <;> first | exact fun q => q | exact bind_monoL (h e) r
theorem le_sExtend {k} (h : MLe a a') : MLe (sExtend k a) (sExtend k a') := fun e => bind_mono (fun _ h => h) fun p => bind_monoL fun r q => by
  revert q
  show (match p.1 with | .lst l => _ | _ => _) = some r → (match p.1 with | .lst l => _ | _ => _) = some r
  cases p.1 <;> first | exact fun q => q | exact bind_monoL (h e) r
theorem le_sPut {k} (h : MLe a a') (h' : MLe b b') : MLe (sPut k a b) (sPut k a' b') := fun e => bind_mono (h' e) fun _ => bind_mono (fun _ h => h) fun _ => bind_mono (fun _ h => h) fun _ => bind_monoL (h e)
theorem le_sAug {g k} (h : MLe a a') : MLe (sAug g k a) (sAug g k a') := fun e => bind_mono (fun _ h => h) fun _ => bind_mono (fun _ h => h) fun _ => bind_monoL (h e)
theorem le_forGo {tg ws} (h : MLe m m') : ∀ l e r, forGo tg ws m l e = some r → forGo tg ws m' l e = some r
  | [], e, r, q => q
  | x :: xs, e, r, q => by
    refine bind_mono (fun _ h => h) (fun e1 => bind_mono (h e1) fun p => ?_) r q
    intro r q
    cases hp : p.1 <;> rw [hp] at q <;> first | exact q | exact le_forGo h xs _ r q
theorem le_sFor {tg ws} (h : MLe i i') (h' : MLe m m') : MLe (sFor i tg m ws) (sFor i' tg m' ws) := fun e => bind_mono (h e) fun l => le_forGo h' l e
theorem le_whileGo {ws} (h : MLe t t') (h' : MLe m m') : ∀ k e r, whileGo t ws m k e = some r → whileGo t' ws m' k e = some r
  | 0, e, r, q => q
  | k + 1, e, r, q => by
    refine bind_mono (h e) (fun b => ?_) r q
    intro r q
    cases b
    · exact q
    · refine bind_mono (h' e) (fun p => ?_) r q
      intro r q
      cases hp : p.1 <;> rw [hp] at q <;> first | exact q | exact le_whileGo h h' k _ r q
theorem le_sWhile {k ws} (h : MLe t t') (h' : MLe m m') : MLe (sWhile k t m ws) (sWhile k t' m' ws) := fun e => le_whileGo h h' k e
/-! what changes -/
theorem le_xP (h : MLe a a') : MLe (xP a) (xP a') := fun e => map_mono (h e)
theorem le_xOp1 {g} (h : MLe x x') : MLe (xOp1 g x) (xOp1 g x') := fun e => bind_monoL (h e)
theorem le_xOp2 {g} (h : MLe x x') (h' : MLe y y') : MLe (xOp2 g x y) (xOp2 g x' y') := fun e => bind_mono (h e) fun p r q => by
  by_cases hk : p.1.keepable = true
  · rw [if_pos hk] at q ⊢
    exact bind_mono (fun _ h => h) (fun _ => bind_monoL (h' _)) r q
  · rw [if_neg hk] at q; cases q
theorem le_args : ∀ {l l' : List Ag}, LeG l l' → MLe (xArgs l) (xArgs l')
  | _, _, .nil => MLe.rfl
  | _, _, .val h r => fun e => bind_mono (h e) fun p => bind_mono (fun _ h => h) fun _ => map_mono (le_args r _)
  | _, _, .own h r => fun e => bind_mono (h e) fun p s q => by
    cases hp : p.1 with
    | own d => rw [hp] at q; exact map_mono (le_args r _) s q
    | _ => rw [hp] at q; cases q
  | _, _, .io r => fun e => bind_mono (fun _ h => h) fun _ => map_mono (le_args r e)
theorem le_xCall {l l' : List Ag} (hf : FLe f f') (h : LeG l l') : MLe (xCall f l) (xCall f' l') := fun e => bind_mono (le_args h e) fun _ => bind_mono (fun _ h => h) fun t => bind_monoL (hf t.args)
theorem le_xSet {k} (h : MLe x x') : MLe (xSet k x) (xSet k x') := fun e => bind_monoL (h e)
theorem le_xRet (h : MLe x x') : MLe (xRet x) (xRet x') := fun e => map_mono (h e)
theorem le_xPar {k l} (h : MLe x x') (h' : MLe y y') : MLe (xPar k l x y) (xPar k l x' y') := fun e => bind_mono (h e) fun p r q => by
  by_cases hk : p.1.keepable = true
  · rw [if_pos hk] at q ⊢
    exact bind_monoL (h' _) r q
  · rw [if_neg hk] at q; cases q
theorem le_xAug {g k} (h : MLe x x') : MLe (xAug g k x) (xAug g k x') := fun e => bind_mono (fun _ h => h) fun s r q => by
  cases s <;> first | (cases q; done) | exact bind_monoL (h e) r q
theorem le_def {np ns ios} (h : MLe m m') : FLe (mDefX np ns ios m) (mDefX np ns ios m') := by
  intro a r q
  unfold mDefX at q ⊢
  by_cases hz : a.length = np
  · rw [if_pos hz] at q ⊢
    exact bind_monoL (h _) r q
  · rw [if_neg hz] at q; cases q
end
end Fx
set_option Elab.async false
set_option linter.all false
set_option maxRecDepth 100000
/-! Fx: the mirrors run by simp. -/
namespace Fx
/-! what goes on behind a value: functions of the value alone, so that nothing is looked at before it is reached -/
def valK {α : Type} (g : D → Option α) : Option Sl → Option α := fun x => x.bind fun s => s.val.bind g
def fzK {α : Type} (g : D → Option α) : Option Sl → Option α := fun x => x.bind fun s => s.fz.bind g
def op2K (g : D → D → Option Sl) (b : ME) (e : Env) : Option Sl → Option Sl := valK fun d => valK (g d) (b e)
def chK2 (h : D → D → Option Sl) (dy : D) (c : ME) (e : Env) : Option Sl → Option Sl := valK fun dr => dr.tr.bind fun k => if k = true then valK (h dy) (c e) else some (.sh (.bl false))
def chK1 (g h : D → D → Option Sl) (dx : D) (c : ME) (e : Env) : Option Sl → Option Sl := valK fun dy => chK2 h dy c e (g dx dy)
def chK (g h : D → D → Option Sl) (b c : ME) (e : Env) : Option Sl → Option Sl := valK fun dx => chK1 g h dx c e (b e)
def ifK {α : Type} (a b : Env → Option α) (e : Env) : Option Bool → Option α := fun x => x.bind fun k => if k = true then a e else b e
def andK (u : Env → Option Bool) (e : Env) : Option Bool → Option Bool := fun x => x.bind fun k => if k = true then u e else some false
def orK (u : Env → Option Bool) (e : Env) : Option Bool → Option Bool := fun x => x.bind fun k => if k = true then some true else u e
def consK {α : Type} (d : α) : Option (List α) → Option (List α) := fun x => x.bind fun ds => some (d :: ds)
def appK {α : Type} (l : List α) : Option (List α) → Option (List α) := fun x => x.bind fun ds => some (l ++ ds)
def allK (r : List ME) (e : Env) : Option Sl → Option (List D) := fzK fun d => consK d (eAll r e)
def allSK (r : List Ar) (e : Env) : Option Sl → Option (List D) := fzK fun d => consK d (eAllS r e)
def starK (r : List Ar) (e : Env) : Option Sl → Option (List D) := fzK fun d => d.asSeq.bind fun l => appK l (eAllS r e)
def pairK1 (k : D) (r : List (ME × ME)) (e : Env) : Option Sl → Option (List (D × D)) := fzK fun v => consK (k, v) (eAllP r e)
def pairK (b : ME) (r : List (ME × ME)) (e : Env) : Option Sl → Option (List (D × D)) := fzK fun k => pairK1 k r e (b e)
def tupK : Option (List D) → Option Sl := fun x => x.bind fun ds => if ds.length ≤ line then some (.sh (.tup ds)) else none
def lstK : Option (List D) → Option Sl := fun x => x.bind fun ds => if ds.length ≤ line then some (.own (.lst ds)) else none
def dkK : Option (List (D × D)) → Option Sl := fun x => x.bind fun ds => if ds.all (fun p => p.1.isK) = true then some (.own (.dk (putAll [] ds))) else none
def dtK : Option (List (D × D)) → Option Sl := fun x => x.bind fun ds => if ds.all (fun p => isNk p.1) = true then some (.own (.dt (putAll [] ds))) else none
def outK : Option Sl → Option Sl := fun x => x.bind Sl.out
def callK (f : List D → Option Sl) : Option (List D) → Option Sl := fun x => x.bind fun ds => outK (f ds)
def cutK2 (l : Option Int) (d : D) : Option (Option Int) → Option Sl := fun x => x.bind fun h => gCut l h d
def cutK1 (d : D) (hi : Option ME) (e : Env) : Option (Option Int) → Option Sl := fun x => x.bind fun l => cutK2 l d (ePart hi e)
def cutK (lo hi : Option ME) (e : Env) : Option Sl → Option Sl := valK fun d => cutK1 d hi e (ePart lo e)
def partK : Option Sl → Option (Option Int) := valK fun d => d.asInt.bind fun i => some (some i)
def getK2 (dd dk : D) : Option Sl → Option Sl := fzK fun dz => match dd with
  | .dk l => if dk.isK then (match lookD dk l with | some v => some (.sh v) | none => some (.sh dz)) else none
  | _ => none
def getK1 (dd : D) (x : ME) (e : Env) : Option Sl → Option Sl := valK fun dk => getK2 dd dk (x e)
def getK (k x : ME) (e : Env) : Option Sl → Option Sl := valK fun dd => getK1 dd x e (k e)
def mapK {α β : Type} (f : α → β) : Option α → Option β := fun x => x.map f
def r1K : Option Sl → Option (List D) := valK fun d => d.asInt.bind fun n => if okR n then some (rangeD 0 n) else none
def r2K1 (n : Int) : Option Sl → Option (List D) := valK fun d2 => d2.asInt.bind fun m => if okR n && okR m then some (rangeD n m) else none
def r2K (b : ME) (e : Env) : Option Sl → Option (List D) := valK fun d => d.asInt.bind fun n => r2K1 n (b e)
def lcK1 : Option (List D) → Option Sl := fun x => x.bind fun ds => if ds.length < line then some (.own (.lst ds)) else none
def lcK (tg : Tg) (t : Env → Option Bool) (a : ME) (e : Env) : Option (List D) → Option Sl := fun x => x.bind fun l => lcK1 (lcGo tg t a e l)
def seqK (n : MS) : Option (Fl × Env) → Option (Fl × Env) := fun x => x.bind fun r => match r.1 with
  | .nx => n r.2
  | _ => some r
def nxK : Option Env → Option (Fl × Env) := fun x => x.map fun e1 => (.nx, e1)
def setK (i : Nat) (e : Env) : Option Sl → Option (Fl × Env) := fun x => x.bind fun x => if x.keepable then nxK (setSl i x e) else none
def parK1 (i j : Nat) (x : Sl) (e : Env) : Option Sl → Option (Fl × Env) := fun y => y.bind fun y => if x.keepable && y.keepable then (setSl i x e).bind fun e1 => nxK (setSl j y e1) else none
def parK (i j : Nat) (b : ME) (e : Env) : Option Sl → Option (Fl × Env) := fun x => x.bind fun x => parK1 i j x e (b e)
def unpK (g : Tg) (e : Env) : Option Sl → Option (Fl × Env) := fzK fun d => nxK (g.bind d e)
def retK (e : Env) : Option Sl → Option (Fl × Env) := fun x => x.map fun x => (.rt x, e)
def appdK (i : Nat) (e : Env) (p : D × (D → Sl)) : Option Sl → Option (Fl × Env) := fzK fun y => match p.1 with
  | .lst l => if l.length < line then some (.nx, e.set i (p.2 (.lst (l ++ [y])))) else none
  | _ => none
def putK3 (i : Nat) (e : Env) (mk : D → Sl) : Option D → Option (Fl × Env) := fun x => x.bind fun d => some (.nx, e.set i (mk d))
def putK2 (i : Nat) (e : Env) (v : D) (p : D × (D → Sl)) : Option Sl → Option (Fl × Env) := fzK fun kd => putK3 i e p.2 (putAt p.1 kd v)
def putK (i : Nat) (a : ME) (e : Env) : Option Sl → Option (Fl × Env) := fzK fun v => (owned e i).bind fun p => putK2 i e v p (a e)
def augK2 (i : Nat) (e : Env) : Option Sl → Option (Fl × Env) := fun r => r.bind fun r => match r with
  | .sh d => nxK (setSl i (.sh d) e)
  | _ => none
def augK (g : D → D → Option Sl) (i : Nat) (dx : D) (e : Env) : Option Sl → Option (Fl × Env) := valK fun dy => augK2 i e (g dx dy)
def forK (tg : Tg) (ws : List Nat) (m : MS) (e : Env) : Option (List D) → Option (Fl × Env) := fun x => x.bind fun l => forGo tg ws m l e
def defK1 (outs : Option (List D)) : Option Sl → Option (Sl × List D) := fun v => v.bind fun v => outs.map fun outs => (v, outs)
def defK (ios : List Nat) : Option (Fl × Env) → Option (Sl × List D) := fun x => x.bind fun q => defK1 (getIo 0 ios q.2) (match q.1 with
    | .rt v => v.out
    | .nx => some (.sh .non)
    | _ => none)
/-! what changes -/
def xP1 (e : Env) : Option Sl → Option (Sl × Env) := fun x => x.map fun x => (x, e)
def xO1 (e : Env) : Option Sl → Option (Sl × Env) := fun x => x.map fun y => (y, e)
def xOp1K (g : D → Option Sl) : Option (Sl × Env) → Option (Sl × Env) := fun x => x.bind fun p => p.1.val.bind fun d => xO1 p.2 (g d)
def xOp2K1 (g : D → Option Sl) : Option (Sl × Env) → Option (Sl × Env) := xOp1K g
def xOp2K (g : D → D → Option Sl) (y : MX) : Option (Sl × Env) → Option (Sl × Env) := fun x => x.bind fun p => if p.1.keepable = true then p.1.val.bind fun d => xOp2K1 (g d) (y p.2) else none
def argC (a : Pa) : Option (List Pa × Env) → Option (List Pa × Env) := fun x => x.map fun q => (a :: q.1, q.2)
def argV (r : List Ag) : Option (Sl × Env) → Option (List Pa × Env) := fun x => x.bind fun p => p.1.fz.bind fun d => argC (.sh d) (xArgs r p.2)
def argO (r : List Ag) : Option (Sl × Env) → Option (List Pa × Env) := fun x => x.bind fun p => match p.1 with
    | .own d => argC (.own d) (xArgs r p.2)
    | _ => none
def xcK4 (r : Sl) : Option Env → Option (Sl × Env) := fun x => x.map fun e3 => (r, e3)
def xcK3 (t : Tk) : Option (Sl × List D) → Option (Sl × Env) := fun x => x.bind fun q => q.1.out.bind fun r => xcK4 r (giveA t.rets q.2 t.e)
def xcK2 (f : FX) : Option Tk → Option (Sl × Env) := fun x => x.bind fun t => xcK3 t (f t.args)
def xcK (f : FX) : Option (List Pa × Env) → Option (Sl × Env) := fun x => x.bind fun p => xcK2 f (takeA 0 p.1 p.2)
def xSetK (i : Nat) : Option (Sl × Env) → Option (Fl × Env) := fun x => x.bind fun p => if p.1.keepable = true then nxK (setSl i p.1 p.2) else none
def xRetK : Option (Sl × Env) → Option (Fl × Env) := fun x => x.map fun p => (.rt p.1, p.2)
def xUnpK (g : Tg) : Option (Sl × Env) → Option (Fl × Env) := fun x => x.bind fun p => p.1.fz.bind fun d => nxK (g.bind d p.2)
def xDropK : Option (Sl × Env) → Option (Fl × Env) := fun x => x.map fun p => (.nx, p.2)
def xParK1 (i j : Nat) (a : Sl) : Option (Sl × Env) → Option (Fl × Env) := fun x => x.bind fun q => if q.1.keepable = true then (setSl i a q.2).bind fun e1 => nxK (setSl j q.1 e1) else none
def xParK (i j : Nat) (y : MX) : Option (Sl × Env) → Option (Fl × Env) := fun x => x.bind fun p => if p.1.keepable = true then xParK1 i j p.1 (y p.2) else none
def xAugK2 (i : Nat) (e : Env) : Option Sl → Option (Fl × Env) := augK2 i e
def xAugK (g : D → D → Option Sl) (i : Nat) (dx : D) : Option (Sl × Env) → Option (Fl × Env) := fun x => x.bind fun p => p.1.val.bind fun dy => xAugK2 i p.2 (g dx dy)
def xTstK : Option (Sl × Env) → Option (Bool × Env) := fun x => x.bind fun p => p.1.val.bind fun d => d.tr.map fun b => (b, p.2)
def xIfK (a b : MS) : Option (Bool × Env) → Option (Fl × Env) := fun x => x.bind fun p => if p.1 = true then a p.2 else b p.2
def xAllC (d : D) : Option (List D × Env) → Option (List D × Env) := fun x => x.map fun q => (d :: q.1, q.2)
def xAllK (r : List MX) : Option (Sl × Env) → Option (List D × Env) := fun x => x.bind fun p => p.1.fz.bind fun d => xAllC d (xAll r p.2)
def xTupK : Option (List D × Env) → Option (Sl × Env) := fun x => x.bind fun p => if p.1.length ≤ line then some (.sh (.tup p.1), p.2) else none
def xLstK : Option (List D × Env) → Option (Sl × Env) := fun x => x.bind fun p => if p.1.length ≤ line then some (.own (.lst p.1), p.2) else none
def xAppK (i : Nat) : Option (Sl × Env) → Option (Fl × Env) := fun x => x.bind fun p => p.1.fz.bind fun y => (owned p.2 i).bind fun q => match q.1 with
  | .lst l => if l.length < line then some (.nx, p.2.set i (q.2 (.lst (l ++ [y])))) else none
  | _ => none
section
variable {α β : Type} {e : Env} {a b c : ME} {m n : MS} {t u : Env → Option Bool} {x y : MX} {d d' : D} {k : Nat}
@[simp] theorem vk1 {g : D → Option α} : valK g (some (.sh d)) = g d := rfl
@[simp] theorem vk2 {g : D → Option α} : valK g (some (.own d)) = g d := rfl
@[simp] theorem vk3 {g : D → Option α} : valK g (some (.vw d)) = g d := rfl
@[simp] theorem vk4 {g : D → Option α} : valK g (some (.io k d)) = g d := rfl
@[simp] theorem fk1 {g : D → Option α} : fzK g (some (.sh d)) = g d := rfl
@[simp] theorem fk2 {g : D → Option α} : fzK g (some (.own d)) = g d := rfl
@[simp] theorem sm_eC : eC d e = some (.sh d) := rfl
@[simp] theorem sm_op1 {g} : eOp1 g a e = valK g (a e) := rfl
@[simp] theorem sm_op2 {g} : eOp2 g a b e = op2K g b e (a e) := rfl
@[simp] theorem op2K1 {g} : op2K g b e (some (.sh d)) = valK (g d) (b e) := rfl
@[simp] theorem op2K2 {g} : op2K g b e (some (.own d)) = valK (g d) (b e) := rfl
@[simp] theorem op2K3 {g} : op2K g b e (some (.vw d)) = valK (g d) (b e) := rfl
@[simp] theorem op2K4 {g} : op2K g b e (some (.io k d)) = valK (g d) (b e) := rfl
@[simp] theorem sm_tst : tst a e = valK D.tr (a e) := rfl
@[simp] theorem sm_ifT : eIfT t a b e = ifK a b e (t e) := rfl
@[simp] theorem sm_sIf : sIfM t m n e = ifK m n e (t e) := rfl
@[simp] theorem ifK1 {a b : Env → Option α} : ifK a b e (some true) = a e := rfl
@[simp] theorem ifK2 {a b : Env → Option α} : ifK a b e (some false) = b e := rfl
@[simp] theorem sm_and : tAndM t u e = andK u e (t e) := rfl
@[simp] theorem andK1 : andK u e (some true) = u e := rfl
@[simp] theorem andK2 : andK u e (some false) = some false := rfl
@[simp] theorem sm_or : tOrM t u e = orK u e (t e) := rfl
@[simp] theorem orK1 : orK u e (some true) = some true := rfl
@[simp] theorem orK2 : orK u e (some false) = u e := rfl
@[simp] theorem sm_not : tNotM t e = mapK (!·) (t e) := rfl
@[simp] theorem mapK1 {f : α → β} {v} : mapK f (some v) = some (f v) := rfl
@[simp] theorem sm_chain {g h} : eChain g h a b c e = chK g h b c e (a e) := rfl
@[simp] theorem chKs {g h} : chK g h b c e (some (.sh d)) = chK1 g h d c e (b e) := rfl
@[simp] theorem chKv {g h} : chK g h b c e (some (.vw d)) = chK1 g h d c e (b e) := rfl
@[simp] theorem chK1s {g h d'} : chK1 g h d' c e (some (.sh d)) = chK2 h d c e (g d' d) := rfl
@[simp] theorem chK1v {g h d'} : chK1 g h d' c e (some (.vw d)) = chK2 h d c e (g d' d) := rfl
@[simp] theorem chK2t {h} : chK2 h d c e (some (.sh (.bl true))) = valK (h d) (c e) := rfl
@[simp] theorem chK2f {h} : chK2 h d c e (some (.sh (.bl false))) = some (.sh (.bl false)) := rfl
@[simp] theorem sm_all0 : eAll [] e = some [] := rfl
@[simp] theorem sm_all1 {r : List ME} : eAll (a :: r) e = allK r e (a e) := rfl
@[simp] theorem allK1 {r : List ME} : allK r e (some (.sh d)) = consK d (eAll r e) := rfl
@[simp] theorem allK2 {r : List ME} : allK r e (some (.own d)) = consK d (eAll r e) := rfl
@[simp] theorem consK1 {v : α} {l} : consK v (some l) = some (v :: l) := rfl
@[simp] theorem appK1 {v : List α} {l} : appK v (some l) = some (v ++ l) := rfl
@[simp] theorem sm_tup {l} : eTup l e = tupK (eAll l e) := rfl
@[simp] theorem sm_lst {l} : eLst l e = lstK (eAll l e) := rfl
@[simp] theorem tupK1 {l} : tupK (some l) = if l.length ≤ line then some (.sh (.tup l)) else none := rfl
@[simp] theorem lstK1 {l} : lstK (some l) = if l.length ≤ line then some (.own (.lst l)) else none := rfl
@[simp] theorem sm_call {f l} : eCall f l e = callK f (eAll l e) := rfl
@[simp] theorem callK1 {f l} : callK f (some l) = outK (f l) := rfl
@[simp] theorem outK1 : outK (some (.sh d)) = some (.sh d) := rfl
@[simp] theorem outK2 : outK (some (.own d)) = some (.own d) := rfl
@[simp] theorem sm_line : line = 16777216 := rfl
@[simp] theorem sm_allS0 : eAllS [] e = some [] := rfl
@[simp] theorem sm_allS1 {r : List Ar} : eAllS (.one a :: r) e = allSK r e (a e) := rfl
@[simp] theorem allSK1 {r} : allSK r e (some (.sh d)) = consK d (eAllS r e) := rfl
@[simp] theorem allSK2 {r} : allSK r e (some (.own d)) = consK d (eAllS r e) := rfl
@[simp] theorem sm_allS2 {r : List Ar} : eAllS (.star a :: r) e = starK r e (a e) := rfl
@[simp] theorem starK1 {r l} : starK r e (some (.sh (.tup l))) = appK l (eAllS r e) := rfl
@[simp] theorem starK2 {r l} : starK r e (some (.own (.lst l))) = appK l (eAllS r e) := rfl
@[simp] theorem starK3 {r l} : starK r e (some (.sh (.lst l))) = appK l (eAllS r e) := rfl
@[simp] theorem sm_tupS {l} : eTupS l e = tupK (eAllS l e) := rfl
@[simp] theorem sm_allP0 : eAllP [] e = some [] := rfl
@[simp] theorem sm_allP1 {r : List (ME × ME)} : eAllP ((a, b) :: r) e = pairK b r e (a e) := rfl
@[simp] theorem pairKs {r} : pairK b r e (some (.sh d)) = pairK1 d r e (b e) := rfl
@[simp] theorem pairK1s {r d'} : pairK1 d' r e (some (.sh d)) = consK (d', d) (eAllP r e) := rfl
@[simp] theorem pairK1o {r d'} : pairK1 d' r e (some (.own d)) = consK (d', d) (eAllP r e) := rfl
@[simp] theorem sm_dictK {l} : eDictK l e = dkK (eAllP l e) := rfl
@[simp] theorem sm_dictT {l} : eDictT l e = dtK (eAllP l e) := rfl
@[simp] theorem dkK1 {l} : dkK (some l) = if l.all (fun p => p.1.isK) = true then some (.own (.dk (putAll [] l))) else none := rfl
@[simp] theorem dtK1 {l} : dtK (some l) = if l.all (fun p => isNk p.1) = true then some (.own (.dt (putAll [] l))) else none := rfl
@[simp] theorem sm_part0 : ePart none e = some none := rfl
@[simp] theorem sm_part1 : ePart (some a) e = partK (a e) := rfl
@[simp] theorem partK1 {i} : partK (some (.sh (.int i))) = some (some i) := rfl
@[simp] theorem sm_cut {lo hi} : eCut a lo hi e = cutK lo hi e (a e) := rfl
@[simp] theorem cutKs {lo hi} : cutK lo hi e (some (.sh d)) = cutK1 d hi e (ePart lo e) := rfl
@[simp] theorem cutKo {lo hi} : cutK lo hi e (some (.own d)) = cutK1 d hi e (ePart lo e) := rfl
@[simp] theorem cutKv {lo hi} : cutK lo hi e (some (.vw d)) = cutK1 d hi e (ePart lo e) := rfl
@[simp] theorem cutK1s {hi l} : cutK1 d hi e (some l) = cutK2 l d (ePart hi e) := rfl
@[simp] theorem cutK2s {l h} : cutK2 l d (some h) = gCut l h d := rfl
@[simp] theorem sm_get : eGet a b c e = getK b c e (a e) := rfl
@[simp] theorem getKv : getK b c e (some (.vw d)) = getK1 d c e (b e) := rfl
@[simp] theorem getKs : getK b c e (some (.sh d)) = getK1 d c e (b e) := rfl
@[simp] theorem getK1s {d'} : getK1 d' c e (some (.sh d)) = getK2 d' d (c e) := rfl
@[simp] theorem getK2s {d' l} : getK2 (.dk l) d' (some (.sh d)) = if d'.isK then (match lookD d' l with | some v => some (.sh v) | none => some (.sh d)) else none := rfl
/-! walks -/
@[simp] theorem sm_seq : iSeq a e = valK D.asSeq (a e) := rfl
@[simp] theorem sm_seqZ : iSeqZ a e = fzK D.asSeq (a e) := rfl
@[simp] theorem sm_enum : iEnum a e = mapK (enumD 0) (iSeq a e) := rfl
@[simp] theorem sm_enumZ : iEnumZ a e = mapK (enumD 0) (iSeqZ a e) := rfl
@[simp] theorem sm_range1 : iRange1 a e = r1K (a e) := rfl
@[simp] theorem r1K1 {i} : r1K (some (.sh (.int i))) = if okR i then some (rangeD 0 i) else none := rfl
@[simp] theorem sm_range2 : iRange2 a b e = r2K b e (a e) := rfl
@[simp] theorem r2Ks {i} : r2K b e (some (.sh (.int i))) = r2K1 i (b e) := rfl
@[simp] theorem r2K1s {i j} : r2K1 i (some (.sh (.int j))) = if okR i && okR j then some (rangeD i j) else none := rfl
@[simp] theorem sm_rev {i : MI} : iRev i e = mapK List.reverse (i e) := rfl
@[simp] theorem sm_lc {it : MI} {tg ws} : eLc it tg t a ws e = lcK tg t a (wipeC ws e) (it e) := rfl
@[simp] theorem lcKs {tg l} : lcK tg t a e (some l) = lcK1 (lcGo tg t a e l) := rfl
@[simp] theorem lcK1s {l} : lcK1 (some l) = if l.length < line then some (.own (.lst l)) else none := rfl
@[simp] theorem sm_wipeC0 : wipeC [] e = e := rfl
@[simp] theorem sm_wipeC1 {w ws} : wipeC (w :: ws) e = (wipeC ws e).set w .un := rfl
@[simp] theorem sm_yes : yes e = some true := rfl
/-! statements -/
@[simp] theorem sm_pass : sPass e = some (.nx, e) := rfl
@[simp] theorem sm_sSeq : sSeq m n e = seqK n (m e) := rfl
@[simp] theorem seqK1 : seqK n (some (.nx, e)) = n e := rfl
@[simp] theorem seqK2 {v} : seqK n (some (.rt v, e)) = some (.rt v, e) := rfl
@[simp] theorem seqK3 : seqK n (some (.bk, e)) = some (.bk, e) := rfl
@[simp] theorem seqK4 : seqK n (some (.ct, e)) = some (.ct, e) := rfl
@[simp] theorem nxK1 : nxK (some e) = some (.nx, e) := rfl
@[simp] theorem sm_sSet {i} : sSet i a e = setK i e (a e) := rfl
@[simp] theorem setK1 {i} : setK i e (some (.sh d)) = nxK (setSl i (.sh d) e) := rfl
@[simp] theorem setK2 {i} : setK i e (some (.own d)) = nxK (setSl i (.own d) e) := rfl
@[simp] theorem sm_sPar {i j} : sPar i j a b e = parK i j b e (a e) := rfl
@[simp] theorem parKs {i j} {x : Sl} : parK i j b e (some x) = parK1 i j x e (b e) := rfl
@[simp] theorem parK1s {i j} {x y : Sl} : parK1 i j x e (some y) = if x.keepable && y.keepable then (setSl i x e).bind fun e1 => nxK (setSl j y e1) else none := rfl
@[simp] theorem sm_sUnpack {g} : sUnpack g a e = unpK g e (a e) := rfl
@[simp] theorem unpK1 {g} : unpK g e (some (.sh d)) = nxK (g.bind d e) := rfl
@[simp] theorem unpK2 {g} : unpK g e (some (.own d)) = nxK (g.bind d e) := rfl
@[simp] theorem sm_sRet : sRet a e = retK e (a e) := rfl
@[simp] theorem retK1 {x : Sl} : retK e (some x) = some (.rt x, e) := rfl
@[simp] theorem sm_sFz {i} : sFz i m e = m (fzM i e) := rfl
theorem sm_sAppend' {i} {p : D × (D → Sl)} (h : owned e i = some p) : sAppend i a e = appdK i e p (a e) := by
  unfold sAppend sMut
  rw [h]
  obtain ⟨d, mk⟩ := p
  rw [Option.bind_some]
  dsimp only
  generalize a e = v
  cases d <;> cases v with
  | none => rfl
  | some x => cases x <;> first | rfl | (simp only [appdK, fzK, Option.bind_some, Sl.fz]; split <;> rfl)
def appdK0 (i : Nat) (a : ME) (e : Env) : Option (D × (D → Sl)) → Option (Fl × Env) := fun o => o.bind fun p => appdK i e p (a e)
@[simp] theorem sm_sAppend {i} : sAppend i a e = appdK0 i a e (owned e i) := by
  cases h : owned e i with
  | none => unfold sAppend sMut; rw [h]; rfl
  | some p => exact sm_sAppend' h
@[simp] theorem appdK0s {i p} : appdK0 i a e (some p) = appdK i e p (a e) := rfl
@[simp] theorem appdK1 {i} {l : List D} {mk} : appdK i e (.lst l, mk) (some (.sh d)) = if l.length < line then some (.nx, e.set i (mk (.lst (l ++ [d])))) else none := rfl
@[simp] theorem appdK2 {i} {l : List D} {mk} : appdK i e (.lst l, mk) (some (.own d)) = if l.length < line then some (.nx, e.set i (mk (.lst (l ++ [d])))) else none := rfl
@[simp] theorem sm_sPut {i} : sPut i a b e = putK i a e (b e) := rfl
def putK0 (i : Nat) (v : D) (a : ME) (e : Env) : Option (D × (D → Sl)) → Option (Fl × Env) := fun o => o.bind fun p => putK2 i e v p (a e)
@[simp] theorem putKs {i} : putK i a e (some (.sh d)) = putK0 i d a e (owned e i) := rfl
@[simp] theorem putKo {i} : putK i a e (some (.own d)) = putK0 i d a e (owned e i) := rfl
@[simp] theorem putK0s {i p} : putK0 i d a e (some p) = putK2 i e d p (a e) := rfl
@[simp] theorem putK2s {i p d'} : putK2 i e d' p (some (.sh d)) = putK3 i e p.2 (putAt p.1 d d') := rfl
@[simp] theorem putK3s {i mk} : putK3 i e mk (some d) = some (.nx, e.set i (mk d)) := rfl
def augK0 (g : D → D → Option Sl) (i : Nat) (a : ME) (e : Env) : Option Sl → Option (Fl × Env) := valK fun dx => augK g i dx e (a e)
@[simp] theorem sm_sAug {g i} : sAug g i a e = augK0 g i a e (e[i]?) := rfl
@[simp] theorem augK0s {g i} : augK0 g i a e (some (.sh d)) = augK g i d e (a e) := rfl
@[simp] theorem augKs {g i d'} : augK g i d' e (some (.sh d)) = augK2 i e (g d' d) := rfl
@[simp] theorem augKv {g i d'} : augK g i d' e (some (.vw d)) = augK2 i e (g d' d) := rfl
@[simp] theorem augK2s {i} : augK2 i e (some (.sh d)) = nxK (setSl i (.sh d) e) := rfl
@[simp] theorem sm_sFor {it : MI} {tg ws} : sFor it tg m ws e = forK tg ws m e (it e) := rfl
@[simp] theorem forK1 {tg ws l} : forK tg ws m e (some l) = forGo tg ws m l e := rfl
@[simp] theorem sm_break : sBreak e = some (.bk, e) := rfl
@[simp] theorem sm_cont : sCont e = some (.ct, e) := rfl
/-! what changes -/
@[simp] theorem sm_xP : xP a e = xP1 e (a e) := rfl
@[simp] theorem xP1s {x : Sl} : xP1 e (some x) = some (x, e) := rfl
@[simp] theorem xO1s {x : Sl} : xO1 e (some x) = some (x, e) := rfl
@[simp] theorem sm_xOp1 {g} : xOp1 g x e = xOp1K g (x e) := rfl
@[simp] theorem xOp1Ks {g} : xOp1K g (some (.sh d, e)) = xO1 e (g d) := rfl
@[simp] theorem xOp1Ko {g} : xOp1K g (some (.own d, e)) = xO1 e (g d) := rfl
@[simp] theorem xOp1Kv {g} : xOp1K g (some (.vw d, e)) = xO1 e (g d) := rfl
@[simp] theorem sm_xOp2 {g} : xOp2 g x y e = xOp2K g y (x e) := rfl
@[simp] theorem xOp2Ks {g} : xOp2K g y (some (.sh d, e)) = xOp2K1 (g d) (y e) := rfl
@[simp] theorem xOp2Ko {g} : xOp2K g y (some (.own d, e)) = xOp2K1 (g d) (y e) := rfl
@[simp] theorem xOp2K1s {g} : xOp2K1 g (some (.sh d, e)) = xO1 e (g d) := rfl
@[simp] theorem xOp2K1o {g} : xOp2K1 g (some (.own d, e)) = xO1 e (g d) := rfl
@[simp] theorem xOp2K1v {g} : xOp2K1 g (some (.vw d, e)) = xO1 e (g d) := rfl
@[simp] theorem sm_xArgs0 : xArgs [] e = some ([], e) := rfl
@[simp] theorem sm_xArgs1 {r} : xArgs (.val x :: r) e = argV r (x e) := rfl
@[simp] theorem argVs {r} : argV r (some (.sh d, e)) = argC (.sh d) (xArgs r e) := rfl
@[simp] theorem argVo {r} : argV r (some (.own d, e)) = argC (.sh d) (xArgs r e) := rfl
@[simp] theorem argCs {p q} : argC p (some q) = some (p :: q.1, q.2) := rfl
@[simp] theorem sm_xArgs2 {r} : xArgs (.own x :: r) e = argO r (x e) := rfl
@[simp] theorem argOo {r} : argO r (some (.own d, e)) = argC (.own d) (xArgs r e) := rfl
def argI (i : Nat) (r : List Ag) (e : Env) : Option (D × (D → Sl)) → Option (List Pa × Env) := fun o => o.bind fun _ => argC (.io i) (xArgs r e)
@[simp] theorem sm_xArgs3 {i r} : xArgs (.io i :: r) e = argI i r e (owned e i) := rfl
@[simp] theorem argIs {i r p} : argI i r e (some p) = argC (.io i) (xArgs r e) := rfl
@[simp] theorem sm_take0 : takeA k [] e = some ⟨[], [], [], e⟩ := rfl
@[simp] theorem sm_take1 {r} : takeA k (.sh d :: r) e = (takeA k r e).map fun t => ⟨.sh d :: t.args, t.rets, t.ds, t.e⟩ := rfl
@[simp] theorem sm_take2 {r} : takeA k (.own d :: r) e = (takeA (k + 1) r e).map fun t => ⟨.io k d :: t.args, none :: t.rets, d :: t.ds, t.e⟩ := rfl
@[simp] theorem sm_take3 {i r} : takeA k (.io i :: r) e = (owned e i).bind fun p => (takeA (k + 1) r (e.set i .un)).map fun t => ⟨.io k p.1 :: t.args, some (i, p.2) :: t.rets, p.1 :: t.ds, t.e⟩ := rfl
@[simp] theorem sm_give0 : giveA [] [] e = some e := rfl
@[simp] theorem sm_give1 {r ds} : giveA (none :: r) (d :: ds) e = giveA r ds e := rfl
@[simp] theorem sm_give2 {i mk r ds} : giveA (some (i, mk) :: r) (d :: ds) e = giveA r ds (e.set i (mk d)) := rfl
@[simp] theorem sm_xCall {f ags} : xCall f ags e = xcK f (xArgs ags e) := rfl
@[simp] theorem xcKs {f p} : xcK f (some p) = xcK2 f (takeA 0 p.1 p.2) := rfl
@[simp] theorem xcK2s {f t} : xcK2 f (some t) = xcK3 t (f t.args) := rfl
@[simp] theorem xcK3s {t ds} : xcK3 t (some (.sh d, ds)) = xcK4 (.sh d) (giveA t.rets ds t.e) := rfl
@[simp] theorem xcK3o {t ds} : xcK3 t (some (.own d, ds)) = xcK4 (.own d) (giveA t.rets ds t.e) := rfl
@[simp] theorem xcK4s {r : Sl} : xcK4 r (some e) = some (r, e) := rfl
@[simp] theorem sm_xSet {i} : xSet i x e = xSetK i (x e) := rfl
@[simp] theorem xSetKs {i} : xSetK i (some (.sh d, e)) = nxK (setSl i (.sh d) e) := rfl
@[simp] theorem xSetKo {i} : xSetK i (some (.own d, e)) = nxK (setSl i (.own d) e) := rfl
@[simp] theorem sm_xRet : xRet x e = xRetK (x e) := rfl
@[simp] theorem xRetKs {r : Sl} : xRetK (some (r, e)) = some (.rt r, e) := rfl
@[simp] theorem sm_xUnp {g} : xUnpack g x e = xUnpK g (x e) := rfl
@[simp] theorem xUnpKs {g} : xUnpK g (some (.sh d, e)) = nxK (g.bind d e) := rfl
@[simp] theorem xUnpKo {g} : xUnpK g (some (.own d, e)) = nxK (g.bind d e) := rfl
@[simp] theorem sm_xDrop : xDrop x e = xDropK (x e) := rfl
@[simp] theorem xDropKs {r : Sl} : xDropK (some (r, e)) = some (.nx, e) := rfl
@[simp] theorem sm_xPar {i j} : xPar i j x y e = xParK i j y (x e) := rfl
@[simp] theorem xParKs {i j} : xParK i j y (some (.sh d, e)) = xParK1 i j (.sh d) (y e) := rfl
@[simp] theorem xParKo {i j} : xParK i j y (some (.own d, e)) = xParK1 i j (.own d) (y e) := rfl
@[simp] theorem xParK1s {i j} {v : Sl} : xParK1 i j v (some (.sh d, e)) = (setSl i v e).bind fun e1 => nxK (setSl j (.sh d) e1) := rfl
@[simp] theorem xParK1o {i j} {v : Sl} : xParK1 i j v (some (.own d, e)) = (setSl i v e).bind fun e1 => nxK (setSl j (.own d) e1) := rfl
def xAugK0 (g : D → D → Option Sl) (i : Nat) (x : MX) (e : Env) : Option Sl → Option (Fl × Env) := fun o => o.bind fun s => match s with
  | .sh d => xAugK g i d (x e)
  | _ => none
@[simp] theorem sm_xAug {g i} : xAug g i x e = xAugK0 g i x e (e[i]?) := rfl
@[simp] theorem xAugK0s {g i} : xAugK0 g i x e (some (.sh d)) = xAugK g i d (x e) := rfl
@[simp] theorem xAugKs {g i d'} : xAugK g i d' (some (.sh d, e)) = xAugK2 i e (g d' d) := rfl
@[simp] theorem xAugK2s {i} : xAugK2 i e (some (.sh d)) = nxK (setSl i (.sh d) e) := rfl
@[simp] theorem sm_xTst : xTst x e = xTstK (x e) := rfl
@[simp] theorem xTstKs {v} : xTstK (some (.sh (.bl v), e)) = some (v, e) := rfl
@[simp] theorem sm_xIf {c : MT} : xIf c m n e = xIfK m n (c e) := rfl
@[simp] theorem xIfKt : xIfK m n (some (true, e)) = m e := rfl
@[simp] theorem xIfKf : xIfK m n (some (false, e)) = n e := rfl
@[simp] theorem sm_xT : xT t e = mapK (fun b => (b, e)) (t e) := rfl
@[simp] theorem sm_xAll0 : xAll [] e = some ([], e) := rfl
@[simp] theorem sm_xAll1 {r} : xAll (x :: r) e = xAllK r (x e) := rfl
@[simp] theorem xAllKs {r} : xAllK r (some (.sh d, e)) = xAllC d (xAll r e) := rfl
@[simp] theorem xAllKo {r} : xAllK r (some (.own d, e)) = xAllC d (xAll r e) := rfl
@[simp] theorem xAllCs {q} : xAllC d (some q) = some (d :: q.1, q.2) := rfl
@[simp] theorem sm_xTup {l} : xTup l e = xTupK (xAll l e) := rfl
@[simp] theorem xTupKs {p} : xTupK (some p) = if p.1.length ≤ line then some (.sh (.tup p.1), p.2) else none := rfl
@[simp] theorem sm_xLst {l} : xLst l e = xLstK (xAll l e) := rfl
@[simp] theorem xLstKs {p} : xLstK (some p) = if p.1.length ≤ line then some (.own (.lst p.1), p.2) else none := rfl
@[simp] theorem sm_xAppend {i} : xAppend i x e = xAppK i (x e) := rfl
def xAppK1 (i : Nat) (y : D) (e : Env) : Option (D × (D → Sl)) → Option (Fl × Env) := fun o => o.bind fun q => match q.1 with
  | .lst l => if l.length < line then some (.nx, e.set i (q.2 (.lst (l ++ [y])))) else none
  | _ => none
@[simp] theorem xAppKs {i} : xAppK i (some (.sh d, e)) = xAppK1 i d e (owned e i) := rfl
@[simp] theorem xAppKo {i} : xAppK i (some (.own d, e)) = xAppK1 i d e (owned e i) := rfl
@[simp] theorem xAppK1s {i l mk} : xAppK1 i d e (some (.lst l, mk)) = if l.length < line then some (.nx, e.set i (mk (.lst (l ++ [d])))) else none := rfl
/-! defs -/
@[simp] theorem sm_def {np ns ios body args} : mDefX np ns ios body args = if args.length = np then defK ios (body (args ++ List.replicate (ns - np) .un)) else none := by
  unfold mDefX
  split
  · cases h : body (args ++ List.replicate (ns - np) .un) with
    | none => rfl
    | some q => rfl
  · rfl
@[simp] theorem defKr {ios v} : defK ios (some (.rt v, e)) = defK1 (getIo 0 ios e) v.out := rfl
@[simp] theorem defKn {ios} : defK ios (some (.nx, e)) = defK1 (getIo 0 ios e) (some (.sh .non)) := rfl
@[simp] theorem defK1s {v : Sl} {outs} : defK1 (some outs) (some v) = some (v, outs) := rfl
@[simp] theorem sm_getIo0 : getIo k [] e = some [] := rfl
@[simp] theorem sm_getIo1 {i is} : getIo k (i :: is) e = match e[i]? with
    | some (.io n d) => if n = k then (getIo (k + 1) is e).map (d :: ·) else none
    | _ => none := rfl
end
/-! values -/
@[simp] theorem sm_val0 : Sl.un.val = none := rfl
@[simp] theorem sm_val1 {d} : (Sl.sh d).val = some d := rfl
@[simp] theorem sm_val2 {d} : (Sl.own d).val = some d := rfl
@[simp] theorem sm_val3 {d} : (Sl.vw d).val = some d := rfl
@[simp] theorem sm_val4 {n d} : (Sl.io n d).val = some d := rfl
@[simp] theorem sm_fz1 {d} : (Sl.sh d).fz = some d := rfl
@[simp] theorem sm_fz2 {d} : (Sl.own d).fz = some d := rfl
@[simp] theorem sm_out1 {d} : (Sl.sh d).out = some (.sh d) := rfl
@[simp] theorem sm_out2 {d} : (Sl.own d).out = some (.own d) := rfl
@[simp] theorem sm_keep1 {d} : (Sl.sh d).keepable = true := rfl
@[simp] theorem sm_keep2 {d} : (Sl.own d).keepable = true := rfl
@[simp] theorem sm_tr {b} : (D.bl b).tr = some b := rfl
@[simp] theorem sm_asInt {i} : (D.int i).asInt = some i := rfl
@[simp] theorem sm_asSeq1 {l} : (D.lst l).asSeq = some l := rfl
@[simp] theorem sm_asSeq2 {l} : (D.tup l).asSeq = some l := rfl
@[simp] theorem sm_var {i e} : eVar i e = match e[i]? with
  | some (.sh d) => some (.sh d)
  | some (.own d) => some (.vw d)
  | some (.io _ d) => some (.vw d)
  | some (.vw d) => some (.vw d)
  | _ => none := rfl
@[simp] theorem sm_setSl {i x e} : setSl i x e = match e[i]? with
  | some (.io _ _) => none
  | some _ => some (e.set i x)
  | none => none := rfl
@[simp] theorem sm_fzM {i e} : fzM i e = match e[i]? with
  | some (.own d) => e.set i (.sh d)
  | _ => e := rfl
@[simp] theorem sm_owned {i e} : owned e i = match e[i]? with
  | some (.own d) => some (d, .own)
  | some (.io n d) => some (d, .io n)
  | _ => none := rfl
@[simp] theorem sm_retN {i e} : sRetN i e = match e[i]? with
  | some (.own d) => some (.rt (.own d), e)
  | some (.sh d) => some (.rt (.sh d), e)
  | _ => none := rfl
@[simp] theorem sm_nm {i d e} : (Tg.nm i).bind d e = setSl i (.sh d) e := by simp only [Tg.bind]
@[simp] theorem sm_tp {ts l e} : (Tg.tp ts).bind (.tup l) e = Tg.bindL ts l e := by simp only [Tg.bind]
@[simp] theorem sm_tps0 {e} : Tg.bindL [] [] e = some e := by simp only [Tg.bindL]
@[simp] theorem sm_tps1 {t ts d ds e} : Tg.bindL (t :: ts) (d :: ds) e = (t.bind d e).bind fun e1 => Tg.bindL ts ds e1 := by simp only [Tg.bindL]
/-! operators -/
@[simp] theorem sm_add {a b} : gAdd (.int a) (.int b) = some (.sh (.int (a + b))) := rfl
@[simp] theorem sm_addI {a b} : gAddI (.int a) (.int b) = some (.sh (.int (a + b))) := rfl
@[simp] theorem sm_addL {a b} : gAdd (.lst a) (.lst b) = if a.length + b.length ≤ line then some (.own (.lst (a ++ b))) else none := rfl
@[simp] theorem sm_addT {a b} : gAdd (.tup a) (.tup b) = if a.length + b.length ≤ line then some (.sh (.tup (a ++ b))) else none := rfl
@[simp] theorem sm_addS {a b} : gAdd (.str a) (.str b) = if a.length + b.length ≤ line then some (.sh (.str (a ++ b))) else none := rfl
@[simp] theorem sm_sub {a b} : gSub (.int a) (.int b) = some (.sh (.int (a - b))) := rfl
@[simp] theorem sm_mul {a b} : gMul (.int a) (.int b) = if (-big < a ∧ a < big) ∨ (-big < b ∧ b < big) then some (.sh (.int (a * b))) else none := rfl
@[simp] theorem sm_neg {a} : gNeg (.int a) = some (.sh (.int (-a))) := rfl
@[simp] theorem sm_abs {a} : gAbs (.int a) = some (.sh (.int a.natAbs)) := rfl
@[simp] theorem sm_int {a} : gInt (.int a) = some (.sh (.int a)) := rfl
@[simp] theorem sm_lt {a b} : gLt (.int a) (.int b) = some (.sh (.bl (decide (a < b)))) := rfl
@[simp] theorem sm_le {a b} : gLe (.int a) (.int b) = some (.sh (.bl (decide (a ≤ b)))) := rfl
@[simp] theorem sm_gt {a b} : gGt (.int a) (.int b) = some (.sh (.bl (decide (b < a)))) := rfl
@[simp] theorem sm_ge {a b} : gGe (.int a) (.int b) = some (.sh (.bl (decide (b ≤ a)))) := rfl
@[simp] theorem sm_min2 {a b} : gMin2 (.int a) (.int b) = some (.sh (.int (if b < a then b else a))) := rfl
@[simp] theorem sm_max2 {a b} : gMax2 (.int a) (.int b) = some (.sh (.int (if a < b then b else a))) := rfl
theorem sm_mod {a b : Int} (h : b ≠ 0) : gMod (.int a) (.int b) = some (.sh (.int (a.fmod b))) := by simp [gMod, gI, h]
theorem sm_fdiv {a b : Int} (h : b ≠ 0) (h2 : b.natAbs < 18446744073709551616) : gFdiv (.int a) (.int b) = some (.sh (.int (a.fdiv b))) := by
  have h3 : ¬ 9000 ≤ b.natAbs.log2 := by
    have := Nat.log2_lt (n := b.natAbs) (k := 64) (by omega)
    omega
  simp [gFdiv, gI, h, h3]
@[simp] theorem sm_lenL {l} : gLen (.lst l) = some (.sh (.int l.length)) := rfl
@[simp] theorem sm_lenT {l} : gLen (.tup l) = some (.sh (.int l.length)) := rfl
@[simp] theorem sm_lenF {l} : gLen (.fl l) = some (.sh (.int l.length)) := rfl
@[simp] theorem sm_tuple1 {l} : gTuple (.lst l) = some (.sh (.tup l)) := rfl
@[simp] theorem sm_tuple2 {l} : gTuple (.tup l) = some (.sh (.tup l)) := rfl
@[simp] theorem sm_list1 {l} : gList (.lst l) = some (.own (.lst l)) := rfl
@[simp] theorem sm_list2 {l} : gList (.tup l) = some (.own (.lst l)) := rfl
@[simp] theorem sm_cutF {lo hi l} : gCut lo hi (.fl l) = some (.own (.lst (cutL l lo hi))) := rfl
@[simp] theorem sm_cutL {lo hi l} : gCut lo hi (.lst l) = some (.own (.lst (cutL l lo hi))) := rfl
@[simp] theorem sm_cutT {lo hi l} : gCut lo hi (.tup l) = some (.sh (.tup (cutL l lo hi))) := rfl
@[simp] theorem sm_atL {l i} : gAt (.lst l) (.int i) = (ixN l.length i).bind fun j => l[j]?.map .sh := rfl
@[simp] theorem sm_atT {l i} : gAt (.tup l) (.int i) = (ixN l.length i).bind fun j => l[j]?.map .sh := rfl
/-! walks -/
/-- a comprehension whose tests and items are known -/
theorem lcGo_map {tg : Tg} {c : Env → Option Bool} {elt : ME} {e : Env} (p : D → Bool) (F : D → D) : ∀ l : List D, (∀ x ∈ l, ∃ e1, tg.bind x e = some e1 ∧ c e1 = some (p x) ∧ (p x = true → ∃ y, elt e1 = some y ∧ y.fz = some (F x))) → lcGo tg c elt e l = some ((l.filter p).map F)
  | [], _ => rfl
  | x :: xs, h => by
    obtain ⟨e1, h1, h2, h3⟩ := h x List.mem_cons_self
    have ih := lcGo_map p F xs fun y hy => h y (List.mem_cons_of_mem _ hy)
    unfold lcGo
    rw [h1, Option.bind_some, h2, Option.bind_some]
    by_cases hp : p x = true
    · obtain ⟨y, h4, h5⟩ := h3 hp
      rw [if_pos hp, h4, Option.bind_some, h5, Option.bind_some, ih, List.filter_cons_of_pos hp]
      rfl
    · rw [if_neg hp, ih, List.filter_cons_of_neg hp]
/-- a for whose turns run through, by a statement about what is left and the slots -/
theorem forGo_ind {tg : Tg} {ws : List Nat} {body : MS} (P : List D → Env → Prop) (h : ∀ x xs e, P (x :: xs) e → ∃ e1, tg.bind x e = some e1 ∧ ∃ f e2, body e1 = some (f, e2) ∧ (f = .nx ∨ f = .ct) ∧ P xs (wipeM ws e2)) : ∀ l e, P l e → ∃ e', forGo tg ws body l e = some (.nx, e') ∧ P [] e'
  | [], e, p => ⟨e, rfl, p⟩
  | x :: xs, e, p => by
    obtain ⟨e1, h1, f, e2, h2, h3, h4⟩ := h x xs e p
    obtain ⟨e', h5, h6⟩ := forGo_ind P h xs _ h4
    refine ⟨e', ?_, h6⟩
    unfold forGo
    rw [h1, Option.bind_some, h2, Option.bind_some]
    rcases h3 with rfl | rfl <;> exact h5
end Fx
set_option Elab.async false
set_option linter.all false
set_option maxRecDepth 100000
/-! mirrors that several laws share -/
namespace M
open Fx
def s_spot : List Nat := [115, 112, 111, 116]
def s_cells : List Nat := [99, 101, 108, 108, 115]
def s_seed : List Nat := [115, 101, 101, 100]
def s_left : List Nat := [108, 101, 102, 116]
def b__law_begun : MS := (sSeq (sSet 2 (eOp2 gAdd (eCut (eVar 0) (some (eVar 1)) none) (eCut (eVar 0) none (some (eVar 1))))) (sSeq (sSet 3 (eLc (iSeq (eVar 2)) (.nm 5) (tst (eOp2 gGe (eVar 5) (eOp2 gPow (eInt 10) (eInt 18)))) (eVar 5) [5])) (sSeq (sSet 4 (eOp2 gAdd (eInt 71) (eVar 1))) (sSeq (sFz 2 (sFor (iSeqZ (eVar 2)) (.nm 5) (sSet 4 (eOp2 gMod (eOp1 gInt (eOp2 gAdd (eOp2 gMul (eVar 4) (eInt 48271)) (eVar 5))) (eInt 2147483647))) [])) (sFz 4 (sRet (eDictK [((eC (.str s_left)), (eIfT (tst (eOp2 gNe (eVar 3) (eLst []))) (eOp2 gAt (eVar 3) (eInt 0)) (eInt 0))), ((eC (.str s_seed)), (eVar 4)), ((eC (.str s_cells)), (eOp2 gAdd (eVar 2) (eLst [(eOp2 gAdd (eOp2 gMul (eInt 53) (eVar 1)) (eInt 11))]))), ((eC (.str s_spot)), (eInt 0))])))))))
def f__law_begun : FX := mDefX 2 6 [] b__law_begun
def b__law_draw : MS := (sSeq (sIfM (tst (eOp2 gGt (eOp2 gAt (eVar 0) (eC (.str s_left))) (eInt 0))) (sSeq (sSet 5 (eOp2 gMod (eOp1 gInt (eOp2 gAt (eVar 0) (eC (.str s_left)))) (eVar 1))) (sSeq (sPut 0 (eC (.str s_left)) (eOp2 gFdiv (eOp2 gAt (eVar 0) (eC (.str s_left))) (eVar 1))) (sRetN 5))) sPass) (sSeq (sSet 2 (eOp2 gAt (eVar 0) (eC (.str s_spot)))) (sSeq (sPut 0 (eC (.str s_spot)) (eOp2 gAdd (eVar 2) (eInt 1))) (sSeq (sPar 6 7 (eOp2 gAt (eVar 0) (eC (.str s_cells))) (eOp2 gAdd (eOp2 gAt (eVar 0) (eC (.str s_seed))) (eOp2 gMul (eOp2 gMul (eInt 40503) (eVar 2)) (eVar 2)))) (sSeq (sSet 3 (eOp2 gAt (eVar 6) (eOp2 gMod (eOp1 gInt (eVar 2)) (eOp1 gLen (eVar 6))))) (sSeq (sSet 4 (eOp2 gMod (eOp1 gInt (eOp2 gAdd (eOp2 gMul (eVar 3) (eOp2 gAdd (eOp2 gMul (eInt 2) (eVar 2)) (eInt 3))) (eVar 7))) (eInt 2147483647))) (sSeq (sSet 4 (eOp2 gMod (eOp1 gInt (eOp2 gAdd (eOp2 gAdd (eOp2 gMul (eVar 4) (eVar 4)) (eOp2 gMul (eInt 69621) (eVar 2))) (eOp2 gAt (eVar 0) (eC (.str s_seed))))) (eInt 2147483629))) (sRet (eOp2 gMod (eOp2 gFdiv (eOp2 gMod (eOp1 gInt (eOp2 gAdd (eOp2 gMul (eVar 4) (eInt 48271)) (eVar 2))) (eInt 2147483647)) (eInt 11)) (eVar 1))))))))))
def f__law_draw : FX := mDefX 2 8 [0] b__law_draw
def b__law_like : MS := (sRet (eOp2 gLike (eVar 0) (eVar 1)))
def f__law_like : FX := mDefX 2 2 [] b__law_like
end M
set_option Elab.async false
set_option linter.all false
set_option maxRecDepth 100000
/-! the mirrors of law_k76_whole_one_great_corner -/
namespace M
open Fx
def b_ratio : MS := (sSeq (sSet 2 (eOp2 gGcd (eVar 0) (eVar 1))) (sSeq (sIfM (tst (eOp2 gLt (eVar 1) (eInt 0))) (sSet 2 (eOp1 gNeg (eVar 2))) sPass) (sRet (eTup [(eOp2 gFdiv (eVar 0) (eVar 2)), (eOp2 gFdiv (eVar 1) (eVar 2))]))))
def f_ratio : FX := mDefX 2 3 [] b_ratio
def b_parts_up_to (f_parts_up_to : FX) : MS := (sSeq (sIfM (tst (eOp2 gEq (eVar 0) (eInt 0))) (sRet (eLst [(eTup [])])) sPass) (sSeq (sSet 2 (eLst [])) (sSeq (sFor (iRev (iRange2 (eInt 1) (eOp2 gAdd (eOp2 gMin2 (eVar 0) (eVar 1)) (eInt 1)))) (.nm 3) (sSet 2 (eOp2 gAdd (eVar 2) (eLc (iSeq (eCall (pureF f_parts_up_to) [(eOp2 gSub (eVar 0) (eVar 3)), (eVar 3)])) (.nm 4) yes (eTupS [.one (eVar 3), .star (eVar 4)]) [4]))) []) (sRetN 2))))
def r_parts_up_to : Nat → FX
  | 0 => fun _ => none
  | n + 1 => mDefX 2 5 [] (b_parts_up_to (r_parts_up_to n))
def f_parts_up_to : FX := r_parts_up_to 10
theorem mono_parts_up_to {f_parts_up_to g_parts_up_to : FX} (h_parts_up_to : FLe f_parts_up_to g_parts_up_to) : MLe (b_parts_up_to f_parts_up_to) (b_parts_up_to g_parts_up_to) := by
  unfold b_parts_up_to
  repeat' (first | assumption | with_reducible exact MLe.rfl | with_reducible exact FLe.rfl | exact LeL.nil | exact LeS.nil | exact LeG.nil | with_reducible apply LeL.cons | apply LeS.one | apply LeS.star | apply LeG.val | apply LeG.own | apply LeG.io | with_reducible apply le_op1 | with_reducible apply le_op2 | with_reducible apply le_tst | with_reducible apply le_if | with_reducible apply le_and | with_reducible apply le_or | with_reducible apply le_not | with_reducible apply le_chain | with_reducible apply le_tup | with_reducible apply le_lst | with_reducible apply le_call | with_reducible apply le_part | with_reducible apply le_cut | with_reducible apply le_tupS | with_reducible apply le_get | with_reducible apply le_seq | with_reducible apply le_seqZ | with_reducible apply le_range1 | with_reducible apply le_range2 | with_reducible apply le_rev | with_reducible apply le_enum | with_reducible apply le_enumZ | with_reducible apply le_lc | with_reducible apply le_sSeq | with_reducible apply le_sSet | with_reducible apply le_sPar | with_reducible apply le_sUnpack | with_reducible apply le_sIf | with_reducible apply le_sRet | with_reducible apply le_sFz | with_reducible apply le_sAppend | with_reducible apply le_sExtend | with_reducible apply le_sPut | with_reducible apply le_sAug | with_reducible apply le_sFor | with_reducible apply le_sWhile | with_reducible apply le_xP | with_reducible apply le_xOp1 | with_reducible apply le_xOp2 | with_reducible apply le_xCall | with_reducible apply le_xSet | with_reducible apply le_xRet | with_reducible apply le_xPar | with_reducible apply le_xAug)
def b_all_parts (f_parts_up_to : FX) : MS := (sRet (eOp1 gTuple (eCall (pureF f_parts_up_to) [(eVar 0), (eVar 0)])))
def f_all_parts : FX := mDefX 1 1 [] (b_all_parts f_parts_up_to)
theorem mono_all_parts {f_parts_up_to g_parts_up_to : FX} (h_parts_up_to : FLe f_parts_up_to g_parts_up_to) : MLe (b_all_parts f_parts_up_to) (b_all_parts g_parts_up_to) := by
  unfold b_all_parts
  repeat' (first | assumption | with_reducible exact MLe.rfl | with_reducible exact FLe.rfl | exact LeL.nil | exact LeS.nil | exact LeG.nil | with_reducible apply LeL.cons | apply LeS.one | apply LeS.star | apply LeG.val | apply LeG.own | apply LeG.io | with_reducible apply le_op1 | with_reducible apply le_op2 | with_reducible apply le_tst | with_reducible apply le_if | with_reducible apply le_and | with_reducible apply le_or | with_reducible apply le_not | with_reducible apply le_chain | with_reducible apply le_tup | with_reducible apply le_lst | with_reducible apply le_call | with_reducible apply le_part | with_reducible apply le_cut | with_reducible apply le_tupS | with_reducible apply le_get | with_reducible apply le_seq | with_reducible apply le_seqZ | with_reducible apply le_range1 | with_reducible apply le_range2 | with_reducible apply le_rev | with_reducible apply le_enum | with_reducible apply le_enumZ | with_reducible apply le_lc | with_reducible apply le_sSeq | with_reducible apply le_sSet | with_reducible apply le_sPar | with_reducible apply le_sUnpack | with_reducible apply le_sIf | with_reducible apply le_sRet | with_reducible apply le_sFz | with_reducible apply le_sAppend | with_reducible apply le_sExtend | with_reducible apply le_sPut | with_reducible apply le_sAug | with_reducible apply le_sFor | with_reducible apply le_sWhile | with_reducible apply le_xP | with_reducible apply le_xOp1 | with_reducible apply le_xOp2 | with_reducible apply le_xCall | with_reducible apply le_xSet | with_reducible apply le_xRet | with_reducible apply le_xPar | with_reducible apply le_xAug)
def b_class_size : MS := (sSeq (sPar 2 3 (eInt 1) (fun _ => some (.own (.dk [])))) (sSeq (sFor (iSeqZ (eVar 0)) (.nm 1) (sSeq (sPut 3 (eVar 1) (eOp2 gAdd (eGet (eVar 3) (eVar 1) (eInt 0)) (eInt 1))) (sSet 2 (eOp2 gMul (eOp2 gMul (eVar 2) (eVar 1)) (eOp2 gAt (eVar 3) (eVar 1))))) []) (sRet (eOp2 gFdiv (eOp1 gFact (eOp1 gSum (eVar 0))) (eVar 2)))))
def f_class_size : FX := mDefX 1 4 [] b_class_size
def b_heads : MS := (sRet (eLc (iEnum (eVar 0)) (.tp [(.nm 1), (.nm 2)]) yes (eOp2 gSub (eOp2 gSub (eOp2 gAdd (eVar 2) (eOp1 gLen (eVar 0))) (eInt 1)) (eVar 1)) [1, 2]))
def f_heads : FX := mDefX 1 3 [] b_heads
def b_strips_off (f_heads : FX) : MS := (sSeq (sPar 3 4 (eCall (pureF f_heads) [(eVar 0)]) (eLst [])) (sSeq (sFz 3 (sFor (iSeqZ (eVar 3)) (.nm 2) (sSeq (sSet 5 (eOp2 gSub (eVar 2) (eVar 1))) (sIfM (tAndM (tst (eOp2 gGe (eVar 5) (eInt 0))) (tst (eOp2 gNotIn (eVar 5) (eVar 3)))) (sSeq (sSet 6 (eOp1 gLen (eLc (iSeq (eVar 3)) (.nm 9) (tst (eChain gLt gLt (eVar 5) (eVar 9) (eVar 2))) (eVar 9) [9]))) (sSeq (sSet 7 (eOp1 (gSort true) (eOp2 gAdd (eLc (iSeq (eVar 3)) (.nm 9) (tst (eOp2 gNe (eVar 9) (eVar 2))) (eVar 9) [9]) (eLst [(eVar 5)])))) (sSeq (sSet 8 (eLc (iEnum (eVar 7)) (.tp [(.nm 10), (.nm 9)]) yes (eOp2 gSub (eVar 9) (eOp2 gSub (eOp2 gSub (eOp1 gLen (eVar 7)) (eInt 1)) (eVar 10))) [10, 9])) (sAppend 4 (eTup [(eOp2 gSub (eInt 1) (eOp2 gMul (eInt 2) (eOp2 gMod (eVar 6) (eInt 2)))), (eOp1 gTuple (eLc (iSeq (eVar 8)) (.nm 11) (tst (eOp2 gGt (eVar 11) (eInt 0))) (eVar 11) [11]))]))))) sPass)) [])) (sRetN 4)))
def f_strips_off : FX := mDefX 2 12 [] (b_strips_off f_heads)
theorem mono_strips_off {f_heads g_heads : FX} (h_heads : FLe f_heads g_heads) : MLe (b_strips_off f_heads) (b_strips_off g_heads) := by
  unfold b_strips_off
  repeat' (first | assumption | with_reducible exact MLe.rfl | with_reducible exact FLe.rfl | exact LeL.nil | exact LeS.nil | exact LeG.nil | with_reducible apply LeL.cons | apply LeS.one | apply LeS.star | apply LeG.val | apply LeG.own | apply LeG.io | with_reducible apply le_op1 | with_reducible apply le_op2 | with_reducible apply le_tst | with_reducible apply le_if | with_reducible apply le_and | with_reducible apply le_or | with_reducible apply le_not | with_reducible apply le_chain | with_reducible apply le_tup | with_reducible apply le_lst | with_reducible apply le_call | with_reducible apply le_part | with_reducible apply le_cut | with_reducible apply le_tupS | with_reducible apply le_get | with_reducible apply le_seq | with_reducible apply le_seqZ | with_reducible apply le_range1 | with_reducible apply le_range2 | with_reducible apply le_rev | with_reducible apply le_enum | with_reducible apply le_enumZ | with_reducible apply le_lc | with_reducible apply le_sSeq | with_reducible apply le_sSet | with_reducible apply le_sPar | with_reducible apply le_sUnpack | with_reducible apply le_sIf | with_reducible apply le_sRet | with_reducible apply le_sFz | with_reducible apply le_sAppend | with_reducible apply le_sExtend | with_reducible apply le_sPut | with_reducible apply le_sAug | with_reducible apply le_sFor | with_reducible apply le_sWhile | with_reducible apply le_xP | with_reducible apply le_xOp1 | with_reducible apply le_xOp2 | with_reducible apply le_xCall | with_reducible apply le_xSet | with_reducible apply le_xRet | with_reducible apply le_xPar | with_reducible apply le_xAug)
def b_character (f_character : FX) (f_strips_off : FX) : MS := (sSeq (sIfM (tst (eOp2 gEq (eVar 1) (eTup []))) (sRet (eInt 1)) sPass) (sRet (eOp1 gSum (eLc (iSeq (eCall (pureF f_strips_off) [(eVar 0), (eOp2 gAt (eVar 1) (eInt 0))])) (.tp [(.nm 2), (.nm 3)]) yes (eOp2 gMul (eVar 2) (eCall (pureF f_character) [(eVar 3), (eCut (eVar 1) (some (eInt 1)) none)])) [2, 3]))))
def r_character : Nat → FX
  | 0 => fun _ => none
  | n + 1 => mDefX 2 4 [] (b_character (r_character n) f_strips_off)
def f_character : FX := r_character 10
theorem mono_character {f_character g_character : FX} {f_strips_off g_strips_off : FX} (h_character : FLe f_character g_character) (h_strips_off : FLe f_strips_off g_strips_off) : MLe (b_character f_character f_strips_off) (b_character g_character g_strips_off) := by
  unfold b_character
  repeat' (first | assumption | with_reducible exact MLe.rfl | with_reducible exact FLe.rfl | exact LeL.nil | exact LeS.nil | exact LeG.nil | with_reducible apply LeL.cons | apply LeS.one | apply LeS.star | apply LeG.val | apply LeG.own | apply LeG.io | with_reducible apply le_op1 | with_reducible apply le_op2 | with_reducible apply le_tst | with_reducible apply le_if | with_reducible apply le_and | with_reducible apply le_or | with_reducible apply le_not | with_reducible apply le_chain | with_reducible apply le_tup | with_reducible apply le_lst | with_reducible apply le_call | with_reducible apply le_part | with_reducible apply le_cut | with_reducible apply le_tupS | with_reducible apply le_get | with_reducible apply le_seq | with_reducible apply le_seqZ | with_reducible apply le_range1 | with_reducible apply le_range2 | with_reducible apply le_rev | with_reducible apply le_enum | with_reducible apply le_enumZ | with_reducible apply le_lc | with_reducible apply le_sSeq | with_reducible apply le_sSet | with_reducible apply le_sPar | with_reducible apply le_sUnpack | with_reducible apply le_sIf | with_reducible apply le_sRet | with_reducible apply le_sFz | with_reducible apply le_sAppend | with_reducible apply le_sExtend | with_reducible apply le_sPut | with_reducible apply le_sAug | with_reducible apply le_sFor | with_reducible apply le_sWhile | with_reducible apply le_xP | with_reducible apply le_xOp1 | with_reducible apply le_xOp2 | with_reducible apply le_xCall | with_reducible apply le_xSet | with_reducible apply le_xRet | with_reducible apply le_xPar | with_reducible apply le_xAug)
def b_pair_count (f_character : FX) (f_all_parts : FX) (f_class_size : FX) : MS := (sSeq (sSet 1 (eOp1 gSum (eVar 0))) (sSeq (sSet 2 (eInt 0)) (sSeq (sFz 1 (sFor (iSeqZ (eCall (pureF f_all_parts) [(eVar 1)])) (.nm 3) (sAug gAddI 2 (eOp2 gMul (eOp2 gFdiv (eOp1 gFact (eVar 1)) (eCall (pureF f_character) [(eVar 3), (eOp2 gMul (eTup [(eInt 1)]) (eVar 1))])) (eCall (pureF f_character) [(eVar 3), (eVar 0)]))) [])) (sRet (eOp2 gMul (eCall (pureF f_class_size) [(eVar 0)]) (eVar 2))))))
def f_pair_count : FX := mDefX 1 4 [] (b_pair_count f_character f_all_parts f_class_size)
theorem mono_pair_count {f_character g_character : FX} {f_all_parts g_all_parts : FX} {f_class_size g_class_size : FX} (h_character : FLe f_character g_character) (h_all_parts : FLe f_all_parts g_all_parts) (h_class_size : FLe f_class_size g_class_size) : MLe (b_pair_count f_character f_all_parts f_class_size) (b_pair_count g_character g_all_parts g_class_size) := by
  unfold b_pair_count
  repeat' (first | assumption | with_reducible exact MLe.rfl | with_reducible exact FLe.rfl | exact LeL.nil | exact LeS.nil | exact LeG.nil | with_reducible apply LeL.cons | apply LeS.one | apply LeS.star | apply LeG.val | apply LeG.own | apply LeG.io | with_reducible apply le_op1 | with_reducible apply le_op2 | with_reducible apply le_tst | with_reducible apply le_if | with_reducible apply le_and | with_reducible apply le_or | with_reducible apply le_not | with_reducible apply le_chain | with_reducible apply le_tup | with_reducible apply le_lst | with_reducible apply le_call | with_reducible apply le_part | with_reducible apply le_cut | with_reducible apply le_tupS | with_reducible apply le_get | with_reducible apply le_seq | with_reducible apply le_seqZ | with_reducible apply le_range1 | with_reducible apply le_range2 | with_reducible apply le_rev | with_reducible apply le_enum | with_reducible apply le_enumZ | with_reducible apply le_lc | with_reducible apply le_sSeq | with_reducible apply le_sSet | with_reducible apply le_sPar | with_reducible apply le_sUnpack | with_reducible apply le_sIf | with_reducible apply le_sRet | with_reducible apply le_sFz | with_reducible apply le_sAppend | with_reducible apply le_sExtend | with_reducible apply le_sPut | with_reducible apply le_sAug | with_reducible apply le_sFor | with_reducible apply le_sWhile | with_reducible apply le_xP | with_reducible apply le_xOp1 | with_reducible apply le_xOp2 | with_reducible apply le_xCall | with_reducible apply le_xSet | with_reducible apply le_xRet | with_reducible apply le_xPar | with_reducible apply le_xAug)
def b_taken_parts : MS := (sSeq (sSet 1 (eDictT [((eTup [(eTup []), (eTup [])]), (eBl true))])) (sSeq (sFor (iSeqZ (eVar 0)) (.nm 2) (sSeq (sSet 3 (fun _ => some (.own (.dt [])))) (sSeq (sFz 1 (sFor (iKeysV 1) (.tp [(.nm 4), (.nm 5)]) (sSeq (sPut 3 (eTup [(eOp2 gAdd (eVar 4) (eTup [(eVar 2)])), (eVar 5)]) (eBl true)) (sPut 3 (eTup [(eVar 4), (eOp2 gAdd (eVar 5) (eTup [(eVar 2)]))]) (eBl true))) [])) (sFz 3 (sSet 1 (eVar 3))))) []) (sRet (eOp1 gList (eVar 1)))))
def f_taken_parts : FX := mDefX 1 6 [] b_taken_parts
def b_kept_pairs (f_pair_count : FX) : MS := (sSeq (sIfM (tst (eOp2 gNotIn (eVar 0) (eVar 1))) (sPut 1 (eVar 0) (eCall (pureF f_pair_count) [(eVar 0)])) sPass) (sRet (eOp2 gAt (eVar 1) (eVar 0))))
def f_kept_pairs : FX := mDefX 2 2 [1] (b_kept_pairs f_pair_count)
theorem mono_kept_pairs {f_pair_count g_pair_count : FX} (h_pair_count : FLe f_pair_count g_pair_count) : MLe (b_kept_pairs f_pair_count) (b_kept_pairs g_pair_count) := by
  unfold b_kept_pairs
  repeat' (first | assumption | with_reducible exact MLe.rfl | with_reducible exact FLe.rfl | exact LeL.nil | exact LeS.nil | exact LeG.nil | with_reducible apply LeL.cons | apply LeS.one | apply LeS.star | apply LeG.val | apply LeG.own | apply LeG.io | with_reducible apply le_op1 | with_reducible apply le_op2 | with_reducible apply le_tst | with_reducible apply le_if | with_reducible apply le_and | with_reducible apply le_or | with_reducible apply le_not | with_reducible apply le_chain | with_reducible apply le_tup | with_reducible apply le_lst | with_reducible apply le_call | with_reducible apply le_part | with_reducible apply le_cut | with_reducible apply le_tupS | with_reducible apply le_get | with_reducible apply le_seq | with_reducible apply le_seqZ | with_reducible apply le_range1 | with_reducible apply le_range2 | with_reducible apply le_rev | with_reducible apply le_enum | with_reducible apply le_enumZ | with_reducible apply le_lc | with_reducible apply le_sSeq | with_reducible apply le_sSet | with_reducible apply le_sPar | with_reducible apply le_sUnpack | with_reducible apply le_sIf | with_reducible apply le_sRet | with_reducible apply le_sFz | with_reducible apply le_sAppend | with_reducible apply le_sExtend | with_reducible apply le_sPut | with_reducible apply le_sAug | with_reducible apply le_sFor | with_reducible apply le_sWhile | with_reducible apply le_xP | with_reducible apply le_xOp1 | with_reducible apply le_xOp2 | with_reducible apply le_xCall | with_reducible apply le_xSet | with_reducible apply le_xRet | with_reducible apply le_xPar | with_reducible apply le_xAug)
def b_joined_from (f_joined_from : FX) (f_kept_pairs : FX) (f_taken_parts : FX) : MS := (sSeq (sIfM (tst (eOp2 gNotIn (eVar 0) (eVar 1))) (sSeq (xPar 3 4 (xP (eOp1 gSum (eVar 0))) (xCall f_kept_pairs [.val (xP (eVar 0)), .io 2])) (sSeq (sFor (iSeqZ (eCall (pureF f_taken_parts) [(eVar 0)])) (.tp [(.nm 5), (.nm 6)]) (sSeq (sSet 7 (eOp1 gSum (eVar 5))) (sIfM (tst (eChain gLt gLt (eInt 0) (eVar 7) (eVar 3))) (xAug gSub 4 (xOp2 gMul (xOp2 gMul (xCall f_joined_from [.val (xP (eVar 5)), .io 1, .io 2]) (xCall f_kept_pairs [.val (xP (eVar 6)), .io 2])) (xP (eOp2 gComb (eOp2 gSub (eVar 3) (eInt 1)) (eOp2 gSub (eVar 7) (eInt 1)))))) sPass)) []) (sFz 4 (sPut 1 (eVar 0) (eVar 4))))) sPass) (sRet (eOp2 gAt (eVar 1) (eVar 0))))
def r_joined_from : Nat → FX
  | 0 => fun _ => none
  | n + 1 => mDefX 3 8 [1, 2] (b_joined_from (r_joined_from n) f_kept_pairs f_taken_parts)
def f_joined_from : FX := r_joined_from 10
theorem mono_joined_from {f_joined_from g_joined_from : FX} {f_kept_pairs g_kept_pairs : FX} {f_taken_parts g_taken_parts : FX} (h_joined_from : FLe f_joined_from g_joined_from) (h_kept_pairs : FLe f_kept_pairs g_kept_pairs) (h_taken_parts : FLe f_taken_parts g_taken_parts) : MLe (b_joined_from f_joined_from f_kept_pairs f_taken_parts) (b_joined_from g_joined_from g_kept_pairs g_taken_parts) := by
  unfold b_joined_from
  repeat' (first | assumption | with_reducible exact MLe.rfl | with_reducible exact FLe.rfl | exact LeL.nil | exact LeS.nil | exact LeG.nil | with_reducible apply LeL.cons | apply LeS.one | apply LeS.star | apply LeG.val | apply LeG.own | apply LeG.io | with_reducible apply le_op1 | with_reducible apply le_op2 | with_reducible apply le_tst | with_reducible apply le_if | with_reducible apply le_and | with_reducible apply le_or | with_reducible apply le_not | with_reducible apply le_chain | with_reducible apply le_tup | with_reducible apply le_lst | with_reducible apply le_call | with_reducible apply le_part | with_reducible apply le_cut | with_reducible apply le_tupS | with_reducible apply le_get | with_reducible apply le_seq | with_reducible apply le_seqZ | with_reducible apply le_range1 | with_reducible apply le_range2 | with_reducible apply le_rev | with_reducible apply le_enum | with_reducible apply le_enumZ | with_reducible apply le_lc | with_reducible apply le_sSeq | with_reducible apply le_sSet | with_reducible apply le_sPar | with_reducible apply le_sUnpack | with_reducible apply le_sIf | with_reducible apply le_sRet | with_reducible apply le_sFz | with_reducible apply le_sAppend | with_reducible apply le_sExtend | with_reducible apply le_sPut | with_reducible apply le_sAug | with_reducible apply le_sFor | with_reducible apply le_sWhile | with_reducible apply le_xP | with_reducible apply le_xOp1 | with_reducible apply le_xOp2 | with_reducible apply le_xCall | with_reducible apply le_xSet | with_reducible apply le_xRet | with_reducible apply le_xPar | with_reducible apply le_xAug)
def b_joined_count (f_joined_from : FX) : MS := (xRet (xCall f_joined_from [.val (xP (eVar 0)), .own (xP (fun _ => some (.own (.dt [])))), .own (xP (fun _ => some (.own (.dt []))))]))
def f_joined_count : FX := mDefX 1 1 [] (b_joined_count f_joined_from)
theorem mono_joined_count {f_joined_from g_joined_from : FX} (h_joined_from : FLe f_joined_from g_joined_from) : MLe (b_joined_count f_joined_from) (b_joined_count g_joined_from) := by
  unfold b_joined_count
  repeat' (first | assumption | with_reducible exact MLe.rfl | with_reducible exact FLe.rfl | exact LeL.nil | exact LeS.nil | exact LeG.nil | with_reducible apply LeL.cons | apply LeS.one | apply LeS.star | apply LeG.val | apply LeG.own | apply LeG.io | with_reducible apply le_op1 | with_reducible apply le_op2 | with_reducible apply le_tst | with_reducible apply le_if | with_reducible apply le_and | with_reducible apply le_or | with_reducible apply le_not | with_reducible apply le_chain | with_reducible apply le_tup | with_reducible apply le_lst | with_reducible apply le_call | with_reducible apply le_part | with_reducible apply le_cut | with_reducible apply le_tupS | with_reducible apply le_get | with_reducible apply le_seq | with_reducible apply le_seqZ | with_reducible apply le_range1 | with_reducible apply le_range2 | with_reducible apply le_rev | with_reducible apply le_enum | with_reducible apply le_enumZ | with_reducible apply le_lc | with_reducible apply le_sSeq | with_reducible apply le_sSet | with_reducible apply le_sPar | with_reducible apply le_sUnpack | with_reducible apply le_sIf | with_reducible apply le_sRet | with_reducible apply le_sFz | with_reducible apply le_sAppend | with_reducible apply le_sExtend | with_reducible apply le_sPut | with_reducible apply le_sAug | with_reducible apply le_sFor | with_reducible apply le_sWhile | with_reducible apply le_xP | with_reducible apply le_xOp1 | with_reducible apply le_xOp2 | with_reducible apply le_xCall | with_reducible apply le_xSet | with_reducible apply le_xRet | with_reducible apply le_xPar | with_reducible apply le_xAug)
def b_weight (f_ratio : FX) (f_joined_count : FX) : MS := (sRet (eCall (pureF f_ratio) [(eCall (pureF f_joined_count) [(eVar 0)]), (eOp1 gFact (eOp1 gSum (eVar 0)))]))
def f_weight : FX := mDefX 1 1 [] (b_weight f_ratio f_joined_count)
theorem mono_weight {f_ratio g_ratio : FX} {f_joined_count g_joined_count : FX} (h_ratio : FLe f_ratio g_ratio) (h_joined_count : FLe f_joined_count g_joined_count) : MLe (b_weight f_ratio f_joined_count) (b_weight g_ratio g_joined_count) := by
  unfold b_weight
  repeat' (first | assumption | with_reducible exact MLe.rfl | with_reducible exact FLe.rfl | exact LeL.nil | exact LeS.nil | exact LeG.nil | with_reducible apply LeL.cons | apply LeS.one | apply LeS.star | apply LeG.val | apply LeG.own | apply LeG.io | with_reducible apply le_op1 | with_reducible apply le_op2 | with_reducible apply le_tst | with_reducible apply le_if | with_reducible apply le_and | with_reducible apply le_or | with_reducible apply le_not | with_reducible apply le_chain | with_reducible apply le_tup | with_reducible apply le_lst | with_reducible apply le_call | with_reducible apply le_part | with_reducible apply le_cut | with_reducible apply le_tupS | with_reducible apply le_get | with_reducible apply le_seq | with_reducible apply le_seqZ | with_reducible apply le_range1 | with_reducible apply le_range2 | with_reducible apply le_rev | with_reducible apply le_enum | with_reducible apply le_enumZ | with_reducible apply le_lc | with_reducible apply le_sSeq | with_reducible apply le_sSet | with_reducible apply le_sPar | with_reducible apply le_sUnpack | with_reducible apply le_sIf | with_reducible apply le_sRet | with_reducible apply le_sFz | with_reducible apply le_sAppend | with_reducible apply le_sExtend | with_reducible apply le_sPut | with_reducible apply le_sAug | with_reducible apply le_sFor | with_reducible apply le_sWhile | with_reducible apply le_xP | with_reducible apply le_xOp1 | with_reducible apply le_xOp2 | with_reducible apply le_xCall | with_reducible apply le_xSet | with_reducible apply le_xRet | with_reducible apply le_xPar | with_reducible apply le_xAug)
def b_met_along : MS := (sSeq (sPar 4 5 (eLst [(eVar 2)]) (eDictK [((eVar 2), (eBl true))])) (sSeq (sSet 3 (eInt 0)) (sSeq (sWhile 64 (tst (eOp2 gLt (eVar 3) (eOp1 gLen (eVar 4)))) (sSeq (sFor (iSeqZ (eTup [(eOp2 gAt (eVar 0) (eOp2 gAt (eVar 4) (eVar 3))), (eOp2 gAt (eVar 1) (eOp2 gAt (eVar 4) (eVar 3)))])) (.nm 6) (sIfM (tst (eOp2 gNotIn (eVar 6) (eVar 5))) (sSeq (sPut 5 (eVar 6) (eBl true)) (sAppend 4 (eVar 6))) sPass) []) (sAug gAddI 3 (eInt 1))) []) (sRetN 4))))
def f_met_along : FX := mDefX 3 7 [] b_met_along
def b_back_of : MS := (sSeq (sSet 1 (eOp2 gMul (eLst [(eInt 0)]) (eOp1 gLen (eVar 0)))) (sSeq (sFor (iEnumZ (eVar 0)) (.tp [(.nm 2), (.nm 3)]) (sPut 1 (eVar 3) (eVar 2)) []) (sRet (eOp1 gTuple (eVar 1)))))
def f_back_of : FX := mDefX 1 4 [] b_back_of
def b_renamed (f_back_of : FX) : MS := (sSeq (sSet 2 (eCall (pureF f_back_of) [(eVar 1)])) (sSeq (sUnpack (.tp [(.nm 3), (.nm 4)]) (eVar 0)) (sRet (eTup [(eOp1 gTuple (eLc (iSeq (eVar 1)) (.nm 5) yes (eOp2 gAt (eVar 2) (eOp2 gAt (eVar 3) (eVar 5))) [5])), (eOp1 gTuple (eLc (iSeq (eVar 1)) (.nm 5) yes (eOp2 gAt (eVar 2) (eOp2 gAt (eVar 4) (eVar 5))) [5]))]))))
def f_renamed : FX := mDefX 2 6 [] (b_renamed f_back_of)
theorem mono_renamed {f_back_of g_back_of : FX} (h_back_of : FLe f_back_of g_back_of) : MLe (b_renamed f_back_of) (b_renamed g_back_of) := by
  unfold b_renamed
  repeat' (first | assumption | with_reducible exact MLe.rfl | with_reducible exact FLe.rfl | exact LeL.nil | exact LeS.nil | exact LeG.nil | with_reducible apply LeL.cons | apply LeS.one | apply LeS.star | apply LeG.val | apply LeG.own | apply LeG.io | with_reducible apply le_op1 | with_reducible apply le_op2 | with_reducible apply le_tst | with_reducible apply le_if | with_reducible apply le_and | with_reducible apply le_or | with_reducible apply le_not | with_reducible apply le_chain | with_reducible apply le_tup | with_reducible apply le_lst | with_reducible apply le_call | with_reducible apply le_part | with_reducible apply le_cut | with_reducible apply le_tupS | with_reducible apply le_get | with_reducible apply le_seq | with_reducible apply le_seqZ | with_reducible apply le_range1 | with_reducible apply le_range2 | with_reducible apply le_rev | with_reducible apply le_enum | with_reducible apply le_enumZ | with_reducible apply le_lc | with_reducible apply le_sSeq | with_reducible apply le_sSet | with_reducible apply le_sPar | with_reducible apply le_sUnpack | with_reducible apply le_sIf | with_reducible apply le_sRet | with_reducible apply le_sFz | with_reducible apply le_sAppend | with_reducible apply le_sExtend | with_reducible apply le_sPut | with_reducible apply le_sAug | with_reducible apply le_sFor | with_reducible apply le_sWhile | with_reducible apply le_xP | with_reducible apply le_xOp1 | with_reducible apply le_xOp2 | with_reducible apply le_xCall | with_reducible apply le_xSet | with_reducible apply le_xRet | with_reducible apply le_xPar | with_reducible apply le_xAug)
def b_met_from (f_met_along : FX) : MS := (sRet (eOp1 gTuple (eCall (pureF f_met_along) [(eOp2 gAt (eVar 0) (eInt 0)), (eOp2 gAt (eVar 0) (eInt 1)), (eVar 1)])))
def f_met_from : FX := mDefX 2 2 [] (b_met_from f_met_along)
theorem mono_met_from {f_met_along g_met_along : FX} (h_met_along : FLe f_met_along g_met_along) : MLe (b_met_from f_met_along) (b_met_from g_met_along) := by
  unfold b_met_from
  repeat' (first | assumption | with_reducible exact MLe.rfl | with_reducible exact FLe.rfl | exact LeL.nil | exact LeS.nil | exact LeG.nil | with_reducible apply LeL.cons | apply LeS.one | apply LeS.star | apply LeG.val | apply LeG.own | apply LeG.io | with_reducible apply le_op1 | with_reducible apply le_op2 | with_reducible apply le_tst | with_reducible apply le_if | with_reducible apply le_and | with_reducible apply le_or | with_reducible apply le_not | with_reducible apply le_chain | with_reducible apply le_tup | with_reducible apply le_lst | with_reducible apply le_call | with_reducible apply le_part | with_reducible apply le_cut | with_reducible apply le_tupS | with_reducible apply le_get | with_reducible apply le_seq | with_reducible apply le_seqZ | with_reducible apply le_range1 | with_reducible apply le_range2 | with_reducible apply le_rev | with_reducible apply le_enum | with_reducible apply le_enumZ | with_reducible apply le_lc | with_reducible apply le_sSeq | with_reducible apply le_sSet | with_reducible apply le_sPar | with_reducible apply le_sUnpack | with_reducible apply le_sIf | with_reducible apply le_sRet | with_reducible apply le_sFz | with_reducible apply le_sAppend | with_reducible apply le_sExtend | with_reducible apply le_sPut | with_reducible apply le_sAug | with_reducible apply le_sFor | with_reducible apply le_sWhile | with_reducible apply le_xP | with_reducible apply le_xOp1 | with_reducible apply le_xOp2 | with_reducible apply le_xCall | with_reducible apply le_xSet | with_reducible apply le_xRet | with_reducible apply le_xPar | with_reducible apply le_xAug)
def b_all_forms (f_renamed : FX) (f_met_from : FX) : MS := (sRet (eLc (iRange1 (eOp1 gLen (eOp2 gAt (eVar 0) (eInt 0)))) (.nm 1) yes (eCall (pureF f_renamed) [(eVar 0), (eCall (pureF f_met_from) [(eVar 0), (eVar 1)])]) [1]))
def f_all_forms : FX := mDefX 1 2 [] (b_all_forms f_renamed f_met_from)
theorem mono_all_forms {f_renamed g_renamed : FX} {f_met_from g_met_from : FX} (h_renamed : FLe f_renamed g_renamed) (h_met_from : FLe f_met_from g_met_from) : MLe (b_all_forms f_renamed f_met_from) (b_all_forms g_renamed g_met_from) := by
  unfold b_all_forms
  repeat' (first | assumption | with_reducible exact MLe.rfl | with_reducible exact FLe.rfl | exact LeL.nil | exact LeS.nil | exact LeG.nil | with_reducible apply LeL.cons | apply LeS.one | apply LeS.star | apply LeG.val | apply LeG.own | apply LeG.io | with_reducible apply le_op1 | with_reducible apply le_op2 | with_reducible apply le_tst | with_reducible apply le_if | with_reducible apply le_and | with_reducible apply le_or | with_reducible apply le_not | with_reducible apply le_chain | with_reducible apply le_tup | with_reducible apply le_lst | with_reducible apply le_call | with_reducible apply le_part | with_reducible apply le_cut | with_reducible apply le_tupS | with_reducible apply le_get | with_reducible apply le_seq | with_reducible apply le_seqZ | with_reducible apply le_range1 | with_reducible apply le_range2 | with_reducible apply le_rev | with_reducible apply le_enum | with_reducible apply le_enumZ | with_reducible apply le_lc | with_reducible apply le_sSeq | with_reducible apply le_sSet | with_reducible apply le_sPar | with_reducible apply le_sUnpack | with_reducible apply le_sIf | with_reducible apply le_sRet | with_reducible apply le_sFz | with_reducible apply le_sAppend | with_reducible apply le_sExtend | with_reducible apply le_sPut | with_reducible apply le_sAug | with_reducible apply le_sFor | with_reducible apply le_sWhile | with_reducible apply le_xP | with_reducible apply le_xOp1 | with_reducible apply le_xOp2 | with_reducible apply le_xCall | with_reducible apply le_xSet | with_reducible apply le_xRet | with_reducible apply le_xPar | with_reducible apply le_xAug)
def b_least_form (f_all_forms : FX) : MS := (sRet (eOp1 gMinD (eCall (pureF f_all_forms) [(eVar 0)])))
def f_least_form : FX := mDefX 1 1 [] (b_least_form f_all_forms)
theorem mono_least_form {f_all_forms g_all_forms : FX} (h_all_forms : FLe f_all_forms g_all_forms) : MLe (b_least_form f_all_forms) (b_least_form g_all_forms) := by
  unfold b_least_form
  repeat' (first | assumption | with_reducible exact MLe.rfl | with_reducible exact FLe.rfl | exact LeL.nil | exact LeS.nil | exact LeG.nil | with_reducible apply LeL.cons | apply LeS.one | apply LeS.star | apply LeG.val | apply LeG.own | apply LeG.io | with_reducible apply le_op1 | with_reducible apply le_op2 | with_reducible apply le_tst | with_reducible apply le_if | with_reducible apply le_and | with_reducible apply le_or | with_reducible apply le_not | with_reducible apply le_chain | with_reducible apply le_tup | with_reducible apply le_lst | with_reducible apply le_call | with_reducible apply le_part | with_reducible apply le_cut | with_reducible apply le_tupS | with_reducible apply le_get | with_reducible apply le_seq | with_reducible apply le_seqZ | with_reducible apply le_range1 | with_reducible apply le_range2 | with_reducible apply le_rev | with_reducible apply le_enum | with_reducible apply le_enumZ | with_reducible apply le_lc | with_reducible apply le_sSeq | with_reducible apply le_sSet | with_reducible apply le_sPar | with_reducible apply le_sUnpack | with_reducible apply le_sIf | with_reducible apply le_sRet | with_reducible apply le_sFz | with_reducible apply le_sAppend | with_reducible apply le_sExtend | with_reducible apply le_sPut | with_reducible apply le_sAug | with_reducible apply le_sFor | with_reducible apply le_sWhile | with_reducible apply le_xP | with_reducible apply le_xOp1 | with_reducible apply le_xOp2 | with_reducible apply le_xCall | with_reducible apply le_xSet | with_reducible apply le_xRet | with_reducible apply le_xPar | with_reducible apply le_xAug)
def b_flat (f_least_form : FX) : MS := (sSeq (sPar 4 5 (eLst []) (eLst [])) (sSeq (sFor (iRange1 (eVar 2)) (.nm 3) (sFor (iRange1 (eVar 0)) (.nm 6) (sSeq (sAppend 4 (eOp2 gAdd (eOp2 gMul (eVar 0) (eVar 3)) (eOp2 gMod (eOp2 gAdd (eVar 6) (eInt 1)) (eVar 0)))) (sAppend 5 (eIfT (tst (eOp2 gLt (eVar 3) (eOp2 gSub (eVar 2) (eInt 1)))) (eOp2 gAdd (eOp2 gAdd (eOp2 gMul (eVar 0) (eVar 3)) (eVar 6)) (eVar 0)) (eOp2 gMod (eOp2 gSub (eVar 6) (eVar 1)) (eVar 0))))) []) []) (sRet (eCall (pureF f_least_form) [(eTup [(eOp1 gTuple (eVar 4)), (eOp1 gTuple (eVar 5))])]))))
def f_flat : FX := mDefX 3 7 [] (b_flat f_least_form)
theorem mono_flat {f_least_form g_least_form : FX} (h_least_form : FLe f_least_form g_least_form) : MLe (b_flat f_least_form) (b_flat g_least_form) := by
  unfold b_flat
  repeat' (first | assumption | with_reducible exact MLe.rfl | with_reducible exact FLe.rfl | exact LeL.nil | exact LeS.nil | exact LeG.nil | with_reducible apply LeL.cons | apply LeS.one | apply LeS.star | apply LeG.val | apply LeG.own | apply LeG.io | with_reducible apply le_op1 | with_reducible apply le_op2 | with_reducible apply le_tst | with_reducible apply le_if | with_reducible apply le_and | with_reducible apply le_or | with_reducible apply le_not | with_reducible apply le_chain | with_reducible apply le_tup | with_reducible apply le_lst | with_reducible apply le_call | with_reducible apply le_part | with_reducible apply le_cut | with_reducible apply le_tupS | with_reducible apply le_get | with_reducible apply le_seq | with_reducible apply le_seqZ | with_reducible apply le_range1 | with_reducible apply le_range2 | with_reducible apply le_rev | with_reducible apply le_enum | with_reducible apply le_enumZ | with_reducible apply le_lc | with_reducible apply le_sSeq | with_reducible apply le_sSet | with_reducible apply le_sPar | with_reducible apply le_sUnpack | with_reducible apply le_sIf | with_reducible apply le_sRet | with_reducible apply le_sFz | with_reducible apply le_sAppend | with_reducible apply le_sExtend | with_reducible apply le_sPut | with_reducible apply le_sAug | with_reducible apply le_sFor | with_reducible apply le_sWhile | with_reducible apply le_xP | with_reducible apply le_xOp1 | with_reducible apply le_xOp2 | with_reducible apply le_xCall | with_reducible apply le_xSet | with_reducible apply le_xRet | with_reducible apply le_xPar | with_reducible apply le_xAug)
def b_flats (f_flat : FX) : MS := (sSeq (sSet 1 (eLst [])) (sSeq (sFor (iRange2 (eInt 1) (eOp2 gAdd (eVar 0) (eInt 1))) (.nm 2) (sIfM (tst (eOp2 gEq (eOp2 gMod (eVar 0) (eVar 2)) (eInt 0))) (sExtend 1 (eLc (iRange1 (eVar 2)) (.nm 3) yes (eCall (pureF f_flat) [(eVar 2), (eVar 3), (eOp2 gFdiv (eVar 0) (eVar 2))]) [3])) sPass) []) (sRet (eOp1 gTuple (eOp1 (gSort false) (eVar 1))))))
def f_flats : FX := mDefX 1 4 [] (b_flats f_flat)
theorem mono_flats {f_flat g_flat : FX} (h_flat : FLe f_flat g_flat) : MLe (b_flats f_flat) (b_flats g_flat) := by
  unfold b_flats
  repeat' (first | assumption | with_reducible exact MLe.rfl | with_reducible exact FLe.rfl | exact LeL.nil | exact LeS.nil | exact LeG.nil | with_reducible apply LeL.cons | apply LeS.one | apply LeS.star | apply LeG.val | apply LeG.own | apply LeG.io | with_reducible apply le_op1 | with_reducible apply le_op2 | with_reducible apply le_tst | with_reducible apply le_if | with_reducible apply le_and | with_reducible apply le_or | with_reducible apply le_not | with_reducible apply le_chain | with_reducible apply le_tup | with_reducible apply le_lst | with_reducible apply le_call | with_reducible apply le_part | with_reducible apply le_cut | with_reducible apply le_tupS | with_reducible apply le_get | with_reducible apply le_seq | with_reducible apply le_seqZ | with_reducible apply le_range1 | with_reducible apply le_range2 | with_reducible apply le_rev | with_reducible apply le_enum | with_reducible apply le_enumZ | with_reducible apply le_lc | with_reducible apply le_sSeq | with_reducible apply le_sSet | with_reducible apply le_sPar | with_reducible apply le_sUnpack | with_reducible apply le_sIf | with_reducible apply le_sRet | with_reducible apply le_sFz | with_reducible apply le_sAppend | with_reducible apply le_sExtend | with_reducible apply le_sPut | with_reducible apply le_sAug | with_reducible apply le_sFor | with_reducible apply le_sWhile | with_reducible apply le_xP | with_reducible apply le_xOp1 | with_reducible apply le_xOp2 | with_reducible apply le_xCall | with_reducible apply le_xSet | with_reducible apply le_xRet | with_reducible apply le_xPar | with_reducible apply le_xAug)
def b__law_ratio : MS := (sSeq (sPar 3 4 (eOp1 gAbs (eVar 0)) (eOp1 gAbs (eVar 1))) (sSeq (sFor (iRange1 (eInt 400)) (.nm 2) (sIfM (tst (eOp2 gNe (eVar 4) (eInt 0))) (sFz 4 (sPar 3 4 (eVar 4) (eOp2 gMod (eOp1 gInt (eVar 3)) (eVar 4)))) sPass) []) (sRet (eIfT (tst (eOp2 gGt (eVar 1) (eInt 0))) (eTup [(eOp2 gFdiv (eVar 0) (eVar 3)), (eOp2 gFdiv (eVar 1) (eVar 3))]) (eTup [(eOp2 gFdiv (eOp1 gNeg (eVar 0)) (eVar 3)), (eOp2 gFdiv (eOp1 gNeg (eVar 1)) (eVar 3))])))))
def f__law_ratio : FX := mDefX 2 5 [] b__law_ratio
def b__law_factorial : MS := (sSeq (sSet 1 (eInt 1)) (sSeq (sFor (iRange2 (eInt 2) (eOp2 gAdd (eVar 0) (eInt 1))) (.nm 2) (sSet 1 (eOp2 gMul (eVar 1) (eVar 2))) []) (sRetN 1)))
def f__law_factorial : FX := mDefX 1 3 [] b__law_factorial
def b__law_divisors : MS := (sRet (eOp1 gSum (eLc (iRange2 (eInt 1) (eOp2 gAdd (eVar 0) (eInt 1))) (.nm 1) (tst (eOp2 gEq (eOp2 gMod (eOp1 gInt (eVar 0)) (eVar 1)) (eInt 0))) (eVar 1) [1])))
def f__law_divisors : FX := mDefX 1 2 [] b__law_divisors
def b__law_tight : MS := (sSeq (sPar 2 3 (eOp2 gMul (eVar 0) (eVar 0)) (eInt 1)) (sSeq (sFor (iRange2 (eInt 2) (eOp2 gAdd (eVar 0) (eInt 1))) (.nm 1) (sIfM (tAndM (tst (eOp2 gEq (eOp2 gMod (eOp1 gInt (eVar 0)) (eVar 1)) (eInt 0))) (tst (eOp2 gEq (eLc (iRange2 (eInt 2) (eVar 1)) (.nm 4) (tst (eOp2 gEq (eOp2 gMod (eOp1 gInt (eVar 1)) (eVar 4)) (eInt 0))) (eVar 4) [4]) (eLst [])))) (sPar 2 3 (eOp2 gMul (eVar 2) (eOp2 gSub (eOp2 gMul (eVar 1) (eVar 1)) (eInt 1))) (eOp2 gMul (eOp2 gMul (eVar 3) (eVar 1)) (eVar 1))) sPass) []) (sRet (eIfT (tst (eOp2 gGt (eVar 0) (eInt 2))) (eOp2 gFdiv (eOp2 gMul (eOp2 gMul (eInt 3) (eOp2 gSub (eVar 0) (eInt 2))) (eOp2 gFdiv (eVar 2) (eVar 3))) (eInt 8)) (eInt 0)))))
def f__law_tight : FX := mDefX 1 5 [] b__law_tight
def b_law (f__law_begun : FX) (f__law_draw : FX) (f__law_ratio : FX) (f__law_divisors : FX) (f__law_like : FX) (f_flats : FX) (f_weight : FX) (f__law_tight : FX) (f__law_factorial : FX) (f_joined_count : FX) : MS := (sSeq (sFor (iRange1 (eOp2 gAdd (eInt 1) (eOp2 gMin2 (eInt 3) (eOp1 gLen (eVar 0))))) (.nm 1) (sSeq (sSet 2 (eCall (pureF f__law_begun) [(eVar 0), (eVar 1)])) (sSeq (xSet 3 (xOp2 gAdd (xP (eInt 1)) (xCall f__law_draw [.io 2, .val (xP (eInt 8))]))) (sSeq (sFz 3 (sSet 4 (eCall (pureF f__law_ratio) [(eCall (pureF f__law_divisors) [(eVar 3)]), (eVar 3)]))) (sSeq (sFz 3 (sFz 4 (sIfM (tNotM (tst (eCall (pureF f__law_like) [(eLst [(eCall (pureF f_weight) [(eOp2 gMul (eTup [(eInt 1)]) (eVar 3))]), (eOp1 gLen (eCall (pureF f_flats) [(eVar 3)]))]), (eLst [(eVar 4), (eCall (pureF f__law_divisors) [(eVar 3)])])]))) (sRet (eBl false)) sPass))) (sSeq (sIfM (tst (eOp2 gGt (eVar 3) (eInt 2))) (sSeq (sSet 5 (eInt 0)) (sSeq (sFor (iRange2 (eInt 1) (eOp2 gAdd (eVar 3) (eInt 1))) (.nm 6) (sIfM (tst (eOp2 gEq (eOp2 gMod (eOp1 gInt (eVar 3)) (eVar 6)) (eInt 0))) (sSet 5 (eOp2 gAdd (eVar 5) (eOp2 gMul (eCall (pureF f__law_divisors) [(eVar 6)]) (eCall (pureF f__law_tight) [(eOp2 gFdiv (eVar 3) (eVar 6))])))) sPass) []) (sSeq (sSet 7 (eOp2 gAdd (eTup [(eInt 3)]) (eOp2 gMul (eTup [(eInt 1)]) (eOp2 gSub (eVar 3) (eInt 3))))) (sFz 3 (sFz 5 (sFz 7 (sIfM (tNotM (tst (eCall (pureF f__law_like) [(eLst [(eCall (pureF f_weight) [(eVar 7)]), (eCall (pureF f_joined_count) [(eVar 7)])]), (eLst [(eTup [(eVar 5), (eInt 1)]), (eOp2 gMul (eVar 5) (eCall (pureF f__law_factorial) [(eVar 3)]))])]))) (sRet (eBl false)) sPass))))))) sPass) (sIfM (tst (eOp2 gEq (eOp2 gMod (eOp1 gInt (eVar 3)) (eInt 2)) (eInt 1))) (sSeq (sFz 3 (sSet 4 (eCall (pureF f__law_ratio) [(eOp2 gMul (eInt 2) (eCall (pureF f__law_factorial) [(eVar 3)])), (eOp2 gAdd (eVar 3) (eInt 1))]))) (sFz 3 (sFz 4 (sIfM (tNotM (tst (eCall (pureF f__law_like) [(eCall (pureF f_weight) [(eTup [(eVar 3)])]), (eVar 4)]))) (sRet (eBl false)) sPass)))) sPass)))))) [1, 2, 3, 4, 5, 6, 7]) (sRet (eBl true)))
def f_law : FX := mDefX 1 8 [] (b_law f__law_begun f__law_draw f__law_ratio f__law_divisors f__law_like f_flats f_weight f__law_tight f__law_factorial f_joined_count)
theorem mono_law {f__law_begun g__law_begun : FX} {f__law_draw g__law_draw : FX} {f__law_ratio g__law_ratio : FX} {f__law_divisors g__law_divisors : FX} {f__law_like g__law_like : FX} {f_flats g_flats : FX} {f_weight g_weight : FX} {f__law_tight g__law_tight : FX} {f__law_factorial g__law_factorial : FX} {f_joined_count g_joined_count : FX} (h__law_begun : FLe f__law_begun g__law_begun) (h__law_draw : FLe f__law_draw g__law_draw) (h__law_ratio : FLe f__law_ratio g__law_ratio) (h__law_divisors : FLe f__law_divisors g__law_divisors) (h__law_like : FLe f__law_like g__law_like) (h_flats : FLe f_flats g_flats) (h_weight : FLe f_weight g_weight) (h__law_tight : FLe f__law_tight g__law_tight) (h__law_factorial : FLe f__law_factorial g__law_factorial) (h_joined_count : FLe f_joined_count g_joined_count) : MLe (b_law f__law_begun f__law_draw f__law_ratio f__law_divisors f__law_like f_flats f_weight f__law_tight f__law_factorial f_joined_count) (b_law g__law_begun g__law_draw g__law_ratio g__law_divisors g__law_like g_flats g_weight g__law_tight g__law_factorial g_joined_count) := by
  unfold b_law
  repeat' (first | assumption | with_reducible exact MLe.rfl | with_reducible exact FLe.rfl | exact LeL.nil | exact LeS.nil | exact LeG.nil | with_reducible apply LeL.cons | apply LeS.one | apply LeS.star | apply LeG.val | apply LeG.own | apply LeG.io | with_reducible apply le_op1 | with_reducible apply le_op2 | with_reducible apply le_tst | with_reducible apply le_if | with_reducible apply le_and | with_reducible apply le_or | with_reducible apply le_not | with_reducible apply le_chain | with_reducible apply le_tup | with_reducible apply le_lst | with_reducible apply le_call | with_reducible apply le_part | with_reducible apply le_cut | with_reducible apply le_tupS | with_reducible apply le_get | with_reducible apply le_seq | with_reducible apply le_seqZ | with_reducible apply le_range1 | with_reducible apply le_range2 | with_reducible apply le_rev | with_reducible apply le_enum | with_reducible apply le_enumZ | with_reducible apply le_lc | with_reducible apply le_sSeq | with_reducible apply le_sSet | with_reducible apply le_sPar | with_reducible apply le_sUnpack | with_reducible apply le_sIf | with_reducible apply le_sRet | with_reducible apply le_sFz | with_reducible apply le_sAppend | with_reducible apply le_sExtend | with_reducible apply le_sPut | with_reducible apply le_sAug | with_reducible apply le_sFor | with_reducible apply le_sWhile | with_reducible apply le_xP | with_reducible apply le_xOp1 | with_reducible apply le_xOp2 | with_reducible apply le_xCall | with_reducible apply le_xSet | with_reducible apply le_xRet | with_reducible apply le_xPar | with_reducible apply le_xAug)
end M
set_option Elab.async false
set_option linter.all false
set_option maxRecDepth 100000
set_option maxHeartbeats 0
namespace S
open PySem
def top (i : Nat) : Stmt := PySem.Challenge.pw_squareworlds_k76_whole_one_great_corner.main.body.getD i (.Pass ⟨0, 0, 0, 0⟩)
end S
namespace S
open PySem PySem.Spec PyProof.Rows L2 Fx M
theorem s_spot_eq : (PySem.Str.ofString "spot").cps.toList = s_spot := by decide +kernel
theorem s_cells_eq : (PySem.Str.ofString "cells").cps.toList = s_cells := by decide +kernel
theorem s_seed_eq : (PySem.Str.ofString "seed").cps.toList = s_seed := by decide +kernel
theorem s_left_eq : (PySem.Str.ofString "left").cps.toList = s_left := by decide +kernel
structure Gb (mg : Str → Option Value) : Prop where
  abs : mg "abs" = none
  comb : mg "comb" = some (.builtin "math.comb")
  enumerate : mg "enumerate" = none
  factorial : mg "factorial" = some (.builtin "math.factorial")
  gcd : mg "gcd" = some (.builtin "math.gcd")
  int : mg "int" = none
  len : mg "len" = none
  list : mg "list" = none
  min : mg "min" = none
  range : mg "range" = none
  repr : mg "repr" = none
  reversed : mg "reversed" = none
  sorted : mg "sorted" = none
  sum : mg "sum" = none
  tuple : mg "tuple" = none
def N_ratio : List Str := ["top", "bottom", "shared"]
theorem sc_ratio : FnScope N_ratio ["top", "bottom"] (defScope (top 2)) := ⟨rfl, rfl, rfl, by decide +kernel, rfl, by decide +kernel, by decide +kernel⟩
set_option maxHeartbeats 0 in
theorem sim_ratio {P : Program} {w : World} {K : PySem.W.Frag} {mg : Str → Option Value} {base : Heap} {k : Nat} (G : Gb mg)  {f : Addr} (cdv : Value) (A : Around) (outer : List PySem.Env) (s : Shared) (H : Hp) (E : XK) (B : Bs) (R : Rm k (cxOf L2.CX0 P w K mg base N_ratio "ratio" (defScope (top 2)) f cdv A outer s H E).nox) : SimSs (cxOf L2.CX0 P w K mg base N_ratio "ratio" (defScope (top 2)) f cdv A outer s H E).nox B (defBody (top 2)) (b_ratio) :=
  have nd := sc_ratio.nd
  (ss_cons (ss_set 2 (se_m2 cr_gcd rc_gcd G.gcd (se_var 0) (se_var 1)) nd) (ss_cons (ss_if (st_op2 r2_cmp (se_var 1) se_int fun _ _ h1 h2 => pt_cmpR op_lt h1 h2 (nomark _)) (ss_one (ss_set 2 (se_op1 r1_neg (se_var 2) fun _ h => pe_un un_neg h) nd)) ss_nil) (ss_one (ss_ret (se_tup (sa_cons (se_op2 r2_fdiv (se_var 0) (se_var 2) fun _ _ h1 h2 => pe_op op_fdivA h1 h2) (sa_cons (se_op2 r2_fdiv (se_var 1) (se_var 2) fun _ _ h1 h2 => pe_op op_fdivA h1 h2) sa_nil)))))))
def N_parts_up_to : List Str := ["n", "most", "found", "first", "rest"]
theorem sc_parts_up_to : FnScope N_parts_up_to ["n", "most"] (defScope (top 4)) := ⟨rfl, rfl, rfl, by decide +kernel, rfl, by decide +kernel, by decide +kernel⟩
set_option maxHeartbeats 0 in
theorem sim_parts_up_to {P : Program} {w : World} {K : PySem.W.Frag} {mg : Str → Option Value} {base : Heap} {k : Nat} (G : Gb mg) (f_parts_up_to : FX) (c_parts_up_to : CalF P w K mg base k "parts_up_to" f_parts_up_to 2)  {f : Addr} (cdv : Value) (A : Around) (outer : List PySem.Env) (s : Shared) (H : Hp) (E : XK) (B : Bs) (R : Rm k (cxOf L2.CX0 P w K mg base N_parts_up_to "parts_up_to" (defScope (top 4)) f cdv A outer s H E).nox) : SimSs (cxOf L2.CX0 P w K mg base N_parts_up_to "parts_up_to" (defScope (top 4)) f cdv A outer s H E).nox B (defBody (top 4)) (b_parts_up_to f_parts_up_to) :=
  have nd := sc_parts_up_to.nd
  (ss_cons (ss_if (st_op2 r2_eq (se_var 0) se_int fun _ _ h1 h2 => pt_cmpR (op_eqD R.hu64) h1 h2 (nomark _)) (ss_one (ss_ret (se_lst (sa_cons (se_tup sa_nil) sa_nil)))) ss_nil) (ss_cons (ss_set 2 (se_lst sa_nil) nd) (ss_cons (ss_for [] PassesOwn.never rfl (siz_rev2 G.reversed G.range se_int (se_op2 r2_add (se_b2 (call_min2 rfl) rc_min2 G.min (by decide +kernel) (se_var 0) (se_var 1)) se_int fun _ _ h1 h2 => pe_op op_addF h1 h2)) (sg_name 3 nd) (ss_one (ss_set 2 (se_op2 r2_add (se_var 2) (se_lc rfl nd (si_seq (se_callC c_parts_up_to R rfl (sa_cons (se_op2 r2_sub (se_var 0) (se_var 3) fun _ _ h1 h2 => pe_op op_sub h1 h2) (sa_cons (se_var 3) sa_nil)))) (blkOk_by (N := N_parts_up_to) (sc := defScope (top 4)) (own := [("rest", 4)]) (by decide +kernel)) rfl (fun _ _ _ _ _ => (sg_name 4 nd)) (fun _ _ _ _ _ => sts_nil) (fun _ _ _ _ _ => (se_tupS (sas_cons (se_var 3) (sas_star (se_var 4) sas_nil)))) (by decide)) fun _ _ h1 h2 => pe_op op_addF h1 h2) nd))) (ss_one (ss_retNm 2)))))
def N_all_parts : List Str := ["n"]
theorem sc_all_parts : FnScope N_all_parts ["n"] (defScope (top 5)) := ⟨rfl, rfl, rfl, by decide +kernel, rfl, by decide +kernel, by decide +kernel⟩
set_option maxHeartbeats 0 in
theorem sim_all_parts {P : Program} {w : World} {K : PySem.W.Frag} {mg : Str → Option Value} {base : Heap} {k : Nat} (G : Gb mg) (c_parts_up_to : CalF P w K mg base k "parts_up_to" f_parts_up_to 2) {f : Addr} (cdv : Value) (A : Around) (outer : List PySem.Env) (s : Shared) (H : Hp) (E : XK) (B : Bs) (R : Rm k (cxOf L2.CX0 P w K mg base N_all_parts "all_parts" (defScope (top 5)) f cdv A outer s H E).nox) : SimSs (cxOf L2.CX0 P w K mg base N_all_parts "all_parts" (defScope (top 5)) f cdv A outer s H E).nox B (defBody (top 5)) (b_all_parts f_parts_up_to) :=
  have nd := sc_all_parts.nd
  (ss_one (ss_ret (se_t1 call_tuple_of rc_tuple G.tuple (by decide +kernel) (se_callC c_parts_up_to R rfl (sa_cons (se_var 0) (sa_cons (se_var 0) sa_nil))))))
def N_class_size : List Str := ["parts", "entry", "leaving", "counts"]
theorem sc_class_size : FnScope N_class_size ["parts"] (defScope (top 6)) := ⟨rfl, rfl, rfl, by decide +kernel, rfl, by decide +kernel, by decide +kernel⟩
set_option maxHeartbeats 0 in
theorem sim_class_size {P : Program} {w : World} {K : PySem.W.Frag} {mg : Str → Option Value} {base : Heap} {k : Nat} (G : Gb mg)  {f : Addr} (cdv : Value) (A : Around) (outer : List PySem.Env) (s : Shared) (H : Hp) (E : XK) (B : Bs) (R : Rm k (cxOf L2.CX0 P w K mg base N_class_size "class_size" (defScope (top 6)) f cdv A outer s H E).nox) : SimSs (cxOf L2.CX0 P w K mg base N_class_size "class_size" (defScope (top 6)) f cdv A outer s H E).nox B (defBody (top 6)) (b_class_size) :=
  have nd := sc_class_size.nd
  (ss_cons (ss_par 2 3 rfl nd se_int se_dnewK) (ss_cons (ss_for [] PassesOwn.never rfl (siz_seq (se_var 0)) (sg_name 1 nd) (ss_cons (ss_put 3 R.hu (se_op2 r2_add (se_get R.hu (se_var 3) (se_var 1) se_int) se_int fun _ _ h1 h2 => pe_op op_addF h1 h2) (se_var 1)) (ss_one (ss_set 2 (se_op2 r2_mul (se_op2 r2_mul (se_var 2) (se_var 1) fun _ _ h1 h2 => pe_op op_mulF h1 h2) (se_op2 r2_at (se_var 3) (se_var 1) fun _ _ h1 h2 => pe_ix (ix_at R.hu) h1 h2 (fun _ _ => rfl)) fun _ _ h1 h2 => pe_op op_mulF h1 h2) nd)))) (ss_one (ss_ret (se_op2 r2_fdiv (se_m1 cr_fact rc_fact G.factorial (se_b1 (cr_sumF rfl) rc_sum G.sum (by decide +kernel) (se_var 0))) (se_var 2) fun _ _ h1 h2 => pe_op op_fdivA h1 h2)))))
def N_heads : List Str := ["shape", "place", "entry"]
theorem sc_heads : FnScope N_heads ["shape"] (defScope (top 7)) := ⟨rfl, rfl, rfl, by decide +kernel, rfl, by decide +kernel, by decide +kernel⟩
set_option maxHeartbeats 0 in
theorem sim_heads {P : Program} {w : World} {K : PySem.W.Frag} {mg : Str → Option Value} {base : Heap} {k : Nat} (G : Gb mg)  {f : Addr} (cdv : Value) (A : Around) (outer : List PySem.Env) (s : Shared) (H : Hp) (E : XK) (B : Bs) (R : Rm k (cxOf L2.CX0 P w K mg base N_heads "heads" (defScope (top 7)) f cdv A outer s H E).nox) : SimSs (cxOf L2.CX0 P w K mg base N_heads "heads" (defScope (top 7)) f cdv A outer s H E).nox B (defBody (top 7)) (b_heads) :=
  have nd := sc_heads.nd
  (ss_one (ss_ret (se_lc rfl nd (si_enum G.enumerate (se_var 0)) (blkOk_by (N := N_heads) (sc := defScope (top 7)) (own := [("place", 1), ("entry", 2)]) (by decide +kernel)) rfl (fun _ _ _ _ _ => (sg_tup rfl (sgs_cons (sg_name 1 nd) (sgs_cons (sg_name 2 nd) sgs_nil)) 2)) (fun _ _ _ _ _ => sts_nil) (fun _ _ _ _ _ => (se_op2 r2_sub (se_op2 r2_sub (se_op2 r2_add (se_var 2) (se_b1 cr_lenF rc_len G.len (by decide +kernel) (se_var 0)) fun _ _ h1 h2 => pe_op op_addF h1 h2) se_int fun _ _ h1 h2 => pe_op op_sub h1 h2) (se_var 1) fun _ _ h1 h2 => pe_op op_sub h1 h2)) (by decide))))
def N_strips_off : List Str := ["shape", "many", "top", "tops", "found", "low", "passed", "left", "entries", "other", "place", "entry"]
theorem sc_strips_off : FnScope N_strips_off ["shape", "many"] (defScope (top 8)) := ⟨rfl, rfl, rfl, by decide +kernel, rfl, by decide +kernel, by decide +kernel⟩
set_option maxHeartbeats 0 in
theorem sim_strips_off {P : Program} {w : World} {K : PySem.W.Frag} {mg : Str → Option Value} {base : Heap} {k : Nat} (G : Gb mg) (c_heads : CalF P w K mg base k "heads" f_heads 1) {f : Addr} (cdv : Value) (A : Around) (outer : List PySem.Env) (s : Shared) (H : Hp) (E : XK) (B : Bs) (R : Rm k (cxOf L2.CX0 P w K mg base N_strips_off "strips_off" (defScope (top 8)) f cdv A outer s H E).nox) : SimSs (cxOf L2.CX0 P w K mg base N_strips_off "strips_off" (defScope (top 8)) f cdv A outer s H E).nox B (defBody (top 8)) (b_strips_off f_heads) :=
  have nd := sc_strips_off.nd
  (ss_cons (ss_par 3 4 rfl nd (se_callC c_heads R rfl (sa_cons (se_var 0) sa_nil)) (se_lst sa_nil)) (ss_cons (ss_fz 3 (ss_for [] PassesOwn.never rfl (siz_seq (se_var 3)) (sg_name 2 nd) (ss_cons (ss_set 5 (se_op2 r2_sub (se_var 2) (se_var 1) fun _ _ h1 h2 => pe_op op_sub h1 h2) nd) (ss_one (ss_if (st_bool (st_and (st_op2 r2_cmp (se_var 5) se_int fun _ _ h1 h2 => pt_cmpR op_ge h1 h2 (nomark _)) (st_and1 (st_op2 r2_notIn (se_var 5) (se_var 3) fun _ _ h1 h2 => pt_cmpR (op_notIn R.hu) h1 h2 rfl)))) (ss_cons (ss_set 6 (se_b1 cr_lenF rc_len G.len (by decide +kernel) (se_lc rfl nd (si_seq (se_var 3)) (blkOk_by (N := N_strips_off) (sc := defScope (top 8)) (own := [("other", 9)]) (by decide +kernel)) rfl (fun _ _ _ _ _ => (sg_name 9 nd)) (fun _ _ _ _ _ => (sts_one (st_chain r2_cmp r2_cmp (se_var 5) (se_var 9) (se_var 2) fun _ _ _ h1 h2 h3 => pt_chain op_lt op_lt h1 h2 h3))) (fun _ _ _ _ _ => (se_var 9)) (by decide))) nd) (ss_cons (ss_set 7 (se_sortR R.hu G.sorted (se_op2 r2_add (se_lc rfl nd (si_seq (se_var 3)) (blkOk_by (N := N_strips_off) (sc := defScope (top 8)) (own := [("other", 9)]) (by decide +kernel)) rfl (fun _ _ _ _ _ => (sg_name 9 nd)) (fun _ _ _ _ _ => (sts_one (st_op2 r2_ne (se_var 9) (se_var 2) fun _ _ h1 h2 => pt_cmpR (op_neD R.hu64) h1 h2 (nomark _)))) (fun _ _ _ _ _ => (se_var 9)) (by decide)) (se_lst (sa_cons (se_var 5) sa_nil)) fun _ _ h1 h2 => pe_op op_addF h1 h2)) nd) (ss_cons (ss_setLc 8 rfl nd (si_enum G.enumerate (se_var 7)) (blkOk_by (N := N_strips_off) (sc := defScope (top 8)) (own := [("place", 10), ("other", 9)]) (by decide +kernel)) rfl (fun _ _ _ _ _ => (sg_tup rfl (sgs_cons (sg_name 10 nd) (sgs_cons (sg_name 9 nd) sgs_nil)) 2)) (fun _ _ _ _ _ => sts_nil) (fun _ _ _ _ _ => (se_op2 r2_sub (se_var 9) (se_op2 r2_sub (se_op2 r2_sub (se_b1 cr_lenF rc_len G.len (by decide +kernel) (se_var 7)) se_int fun _ _ h1 h2 => pe_op op_sub h1 h2) (se_var 10) fun _ _ h1 h2 => pe_op op_sub h1 h2) fun _ _ h1 h2 => pe_op op_sub h1 h2)) (by decide)) (ss_one (ss_append 4 (se_tup (sa_cons (se_op2 r2_sub se_int (se_op2 r2_mul se_int (se_op2 r2_mod (se_var 6) se_int fun _ _ h1 h2 => pe_op op_modN h1 h2) fun _ _ h1 h2 => pe_op op_mulF h1 h2) fun _ _ h1 h2 => pe_op op_sub h1 h2) (sa_cons (se_t1 call_tuple_of rc_tuple G.tuple (by decide +kernel) (se_lc rfl nd (si_seq (se_var 8)) (blkOk_by (N := N_strips_off) (sc := defScope (top 8)) (own := [("entry", 11)]) (by decide +kernel)) rfl (fun _ _ _ _ _ => (sg_name 11 nd)) (fun _ _ _ _ _ => (sts_one (st_op2 r2_cmp (se_var 11) se_int fun _ _ h1 h2 => pt_cmpR op_gt h1 h2 (nomark _)))) (fun _ _ _ _ _ => (se_var 11)) (by decide))) sa_nil)))))))) ss_nil))))) (ss_one (ss_retNm 4))))
def N_character : List Str := ["shape", "turns", "sign", "left"]
theorem sc_character : FnScope N_character ["shape", "turns"] (defScope (top 9)) := ⟨rfl, rfl, rfl, by decide +kernel, rfl, by decide +kernel, by decide +kernel⟩
set_option maxHeartbeats 0 in
theorem sim_character {P : Program} {w : World} {K : PySem.W.Frag} {mg : Str → Option Value} {base : Heap} {k : Nat} (G : Gb mg) (f_character : FX) (c_character : CalF P w K mg base k "character" f_character 2) (c_strips_off : CalF P w K mg base k "strips_off" f_strips_off 2) {f : Addr} (cdv : Value) (A : Around) (outer : List PySem.Env) (s : Shared) (H : Hp) (E : XK) (B : Bs) (R : Rm k (cxOf L2.CX0 P w K mg base N_character "character" (defScope (top 9)) f cdv A outer s H E).nox) : SimSs (cxOf L2.CX0 P w K mg base N_character "character" (defScope (top 9)) f cdv A outer s H E).nox B (defBody (top 9)) (b_character f_character f_strips_off) :=
  have nd := sc_character.nd
  (ss_cons (ss_if (st_op2 r2_eq (se_var 1) (se_tup sa_nil) fun _ _ h1 h2 => pt_cmpR (op_eqD R.hu64) h1 h2 (nomark _)) (ss_one (ss_ret se_int)) ss_nil) (ss_one (ss_ret (se_b1 (cr_sumF rfl) rc_sum G.sum (by decide +kernel) (se_lc rfl nd (si_seq (se_callC c_strips_off R rfl (sa_cons (se_var 0) (sa_cons (se_op2 r2_at (se_var 1) se_int fun _ _ h1 h2 => pe_ix (ix_at R.hu) h1 h2 (fun _ _ => rfl)) sa_nil)))) (blkOk_by (N := N_character) (sc := defScope (top 9)) (own := [("sign", 2), ("left", 3)]) (by decide +kernel)) rfl (fun _ _ _ _ _ => (sg_tup rfl (sgs_cons (sg_name 2 nd) (sgs_cons (sg_name 3 nd) sgs_nil)) 2)) (fun _ _ _ _ _ => sts_nil) (fun _ _ _ _ _ => (se_op2 r2_mul (se_var 2) (se_callC c_character R rfl (sa_cons (se_var 3) (sa_cons (se_cut (se_var 1) (so_some se_int) so_none) sa_nil))) fun _ _ h1 h2 => pe_op op_mulF h1 h2)) (by decide))))))
def N_pair_count : List Str := ["turns", "n", "total", "shape"]
theorem sc_pair_count : FnScope N_pair_count ["turns"] (defScope (top 10)) := ⟨rfl, rfl, rfl, by decide +kernel, rfl, by decide +kernel, by decide +kernel⟩
set_option maxHeartbeats 0 in
theorem sim_pair_count {P : Program} {w : World} {K : PySem.W.Frag} {mg : Str → Option Value} {base : Heap} {k : Nat} (G : Gb mg) (c_character : CalF P w K mg base k "character" f_character 2) (c_all_parts : CalF P w K mg base k "all_parts" f_all_parts 1) (c_class_size : CalF P w K mg base k "class_size" f_class_size 1) {f : Addr} (cdv : Value) (A : Around) (outer : List PySem.Env) (s : Shared) (H : Hp) (E : XK) (B : Bs) (R : Rm k (cxOf L2.CX0 P w K mg base N_pair_count "pair_count" (defScope (top 10)) f cdv A outer s H E).nox) : SimSs (cxOf L2.CX0 P w K mg base N_pair_count "pair_count" (defScope (top 10)) f cdv A outer s H E).nox B (defBody (top 10)) (b_pair_count f_character f_all_parts f_class_size) :=
  have nd := sc_pair_count.nd
  (ss_cons (ss_set 1 (se_b1 (cr_sumF rfl) rc_sum G.sum (by decide +kernel) (se_var 0)) nd) (ss_cons (ss_set 2 se_int nd) (ss_cons (ss_fz 1 (ss_for [] PassesOwn.never rfl (siz_seq (se_callC c_all_parts R rfl (sa_cons (se_var 1) sa_nil))) (sg_name 3 nd) (ss_one (ss_aug 2 iop_add r2_addI (se_op2 r2_mul (se_op2 r2_fdiv (se_m1 cr_fact rc_fact G.factorial (se_var 1)) (se_callC c_character R rfl (sa_cons (se_var 3) (sa_cons (se_op2 r2_mul (se_tup (sa_cons se_int sa_nil)) (se_var 1) fun _ _ h1 h2 => pe_op op_mulF h1 h2) sa_nil))) fun _ _ h1 h2 => pe_op op_fdivA h1 h2) (se_callC c_character R rfl (sa_cons (se_var 3) (sa_cons (se_var 0) sa_nil))) fun _ _ h1 h2 => pe_op op_mulF h1 h2) nd)))) (ss_one (ss_ret (se_op2 r2_mul (se_callC c_class_size R rfl (sa_cons (se_var 0) sa_nil)) (se_var 2) fun _ _ h1 h2 => pe_op op_mulF h1 h2))))))
def N_taken_parts : List Str := ["turns", "found", "turn", "longer", "near", "far"]
theorem sc_taken_parts : FnScope N_taken_parts ["turns"] (defScope (top 11)) := ⟨rfl, rfl, rfl, by decide +kernel, rfl, by decide +kernel, by decide +kernel⟩
set_option maxHeartbeats 0 in
theorem sim_taken_parts {P : Program} {w : World} {K : PySem.W.Frag} {mg : Str → Option Value} {base : Heap} {k : Nat} (G : Gb mg)  {f : Addr} (cdv : Value) (A : Around) (outer : List PySem.Env) (s : Shared) (H : Hp) (E : XK) (B : Bs) (R : Rm k (cxOf L2.CX0 P w K mg base N_taken_parts "taken_parts" (defScope (top 11)) f cdv A outer s H E).nox) : SimSs (cxOf L2.CX0 P w K mg base N_taken_parts "taken_parts" (defScope (top 11)) f cdv A outer s H E).nox B (defBody (top 11)) (b_taken_parts) :=
  have nd := sc_taken_parts.nd
  (ss_cons (ss_set 1 (se_dictT R.hu (sp_cons (se_tup (sa_cons (se_tup sa_nil) (sa_cons (se_tup sa_nil) sa_nil))) se_bl sp_nil) rfl rfl (fun z => by cases z) (by decide) rfl) nd) (ss_cons (ss_for [] PassesOwn.never rfl (siz_seq (se_var 0)) (sg_name 2 nd) (ss_cons (ss_set 3 se_dnewT nd) (ss_cons (ss_fz 1 (ss_forD 1 [] PassesOwn.never rfl (fun _ => (sg_tup rfl (sgs_cons (sg_name 4 nd) (sgs_cons (sg_name 5 nd) sgs_nil)) 2)) (fun _ => (ss_cons (ss_put 3 R.hu se_bl (se_tup (sa_cons (se_op2 r2_add (se_var 4) (se_tup (sa_cons (se_var 2) sa_nil)) fun _ _ h1 h2 => pe_op op_addF h1 h2) (sa_cons (se_var 5) sa_nil)))) (ss_one (ss_put 3 R.hu se_bl (se_tup (sa_cons (se_var 4) (sa_cons (se_op2 r2_add (se_var 5) (se_tup (sa_cons (se_var 2) sa_nil)) fun _ _ h1 h2 => pe_op op_addF h1 h2) sa_nil))))))))) (ss_one (ss_fz 3 (ss_set 1 (se_var 3) nd)))))) (ss_one (ss_ret (se_t1 (cr_listF rfl) rc_list G.list (by decide +kernel) (se_var 1))))))
def N_kept_pairs : List Str := ["turns", "pairs"]
theorem sc_kept_pairs : FnScope N_kept_pairs ["turns", "pairs"] (defScope (top 12)) := ⟨rfl, rfl, rfl, by decide +kernel, rfl, by decide +kernel, by decide +kernel⟩
set_option maxHeartbeats 0 in
theorem sim_kept_pairs {P : Program} {w : World} {K : PySem.W.Frag} {mg : Str → Option Value} {base : Heap} {k : Nat} (G : Gb mg) (c_pair_count : CalF P w K mg base k "pair_count" f_pair_count 1) {f : Addr} (cdv : Value) (A : Around) (outer : List PySem.Env) (s : Shared) (H : Hp) (E : XK) (B : Bs) (R : Rm k (cxOf L2.CX0 P w K mg base N_kept_pairs "kept_pairs" (defScope (top 12)) f cdv A outer s H E).nox) : SimSs (cxOf L2.CX0 P w K mg base N_kept_pairs "kept_pairs" (defScope (top 12)) f cdv A outer s H E).nox B (defBody (top 12)) (b_kept_pairs f_pair_count) :=
  have nd := sc_kept_pairs.nd
  (ss_cons (ss_if (st_op2 r2_notIn (se_var 0) (se_var 1) fun _ _ h1 h2 => pt_cmpR (op_notIn R.hu) h1 h2 rfl) (ss_one (ss_put 1 R.hu (se_callC c_pair_count R rfl (sa_cons (se_var 0) sa_nil)) (se_var 0))) ss_nil) (ss_one (ss_ret (se_op2 r2_at (se_var 1) (se_var 0) fun _ _ h1 h2 => pe_ix (ix_at R.hu) h1 h2 (fun _ _ => rfl)))))
def N_joined_from : List Str := ["turns", "known", "pairs", "n", "total", "near", "far", "k"]
theorem sc_joined_from : FnScope N_joined_from ["turns", "known", "pairs"] (defScope (top 13)) := ⟨rfl, rfl, rfl, by decide +kernel, rfl, by decide +kernel, by decide +kernel⟩
set_option maxHeartbeats 0 in
theorem sim_joined_from {P : Program} {w : World} {K : PySem.W.Frag} {mg : Str → Option Value} {base : Heap} {k : Nat} (G : Gb mg) (f_joined_from : FX) (c_joined_from : CalF P w K mg base k "joined_from" f_joined_from 3) (c_kept_pairs : CalF P w K mg base k "kept_pairs" f_kept_pairs 2) (c_taken_parts : CalF P w K mg base k "taken_parts" f_taken_parts 1) {f : Addr} (cdv : Value) (A : Around) (outer : List PySem.Env) (s : Shared) (H : Hp) (E : XK) (B : Bs) (R : Rm k (cxOf L2.CX0 P w K mg base N_joined_from "joined_from" (defScope (top 13)) f cdv A outer s H E).nox) : SimSs (cxOf L2.CX0 P w K mg base N_joined_from "joined_from" (defScope (top 13)) f cdv A outer s H E).nox B (defBody (top 13)) (b_joined_from f_joined_from f_kept_pairs f_taken_parts) :=
  have nd := sc_joined_from.nd
  (ss_cons (ss_if (st_op2 r2_notIn (se_var 0) (se_var 1) fun _ _ h1 h2 => pt_cmpR (op_notIn R.hu) h1 h2 rfl) (ss_cons (ss_parX 3 4 rfl nd (sx_pure (se_b1 (cr_sumF rfl) rc_sum G.sum (by decide +kernel) (se_var 0))) (sx_callC c_kept_pairs R rfl (sax_val (sx_pure (se_var 0)) (sax_io 2 sax_nil)))) (ss_cons (ss_for [] PassesOwn.never rfl (siz_seq (se_callC c_taken_parts R rfl (sa_cons (se_var 0) sa_nil))) (sg_tup rfl (sgs_cons (sg_name 5 nd) (sgs_cons (sg_name 6 nd) sgs_nil)) 2) (ss_cons (ss_set 7 (se_b1 (cr_sumF rfl) rc_sum G.sum (by decide +kernel) (se_var 5)) nd) (ss_one (ss_if (st_chain r2_cmp r2_cmp se_int (se_var 7) (se_var 3) fun _ _ _ h1 h2 h3 => pt_chain op_lt op_lt h1 h2 h3) (ss_one (ss_augX 4 iop_sub r2_sub (sx_op2 r2_mul (sx_op2 r2_mul (sx_callC c_joined_from R rfl (sax_val (sx_pure (se_var 5)) (sax_io 1 (sax_io 2 sax_nil)))) (sx_callC c_kept_pairs R rfl (sax_val (sx_pure (se_var 6)) (sax_io 2 sax_nil))) fun _ _ h1 h2 => pe_op op_mulF h1 h2) (sx_pure (se_m2 cr_comb rc_comb G.comb (se_op2 r2_sub (se_var 3) se_int fun _ _ h1 h2 => pe_op op_sub h1 h2) (se_op2 r2_sub (se_var 7) se_int fun _ _ h1 h2 => pe_op op_sub h1 h2))) fun _ _ h1 h2 => pe_op op_mulF h1 h2) nd)) ss_nil)))) (ss_one (ss_fz 4 (ss_put 1 R.hu (se_var 4) (se_var 0)))))) ss_nil) (ss_one (ss_ret (se_op2 r2_at (se_var 1) (se_var 0) fun _ _ h1 h2 => pe_ix (ix_at R.hu) h1 h2 (fun _ _ => rfl)))))
def N_joined_count : List Str := ["turns"]
theorem sc_joined_count : FnScope N_joined_count ["turns"] (defScope (top 14)) := ⟨rfl, rfl, rfl, by decide +kernel, rfl, by decide +kernel, by decide +kernel⟩
set_option maxHeartbeats 0 in
theorem sim_joined_count {P : Program} {w : World} {K : PySem.W.Frag} {mg : Str → Option Value} {base : Heap} {k : Nat} (G : Gb mg) (c_joined_from : CalF P w K mg base k "joined_from" f_joined_from 3) {f : Addr} (cdv : Value) (A : Around) (outer : List PySem.Env) (s : Shared) (H : Hp) (E : XK) (B : Bs) (R : Rm k (cxOf L2.CX0 P w K mg base N_joined_count "joined_count" (defScope (top 14)) f cdv A outer s H E).nox) : SimSs (cxOf L2.CX0 P w K mg base N_joined_count "joined_count" (defScope (top 14)) f cdv A outer s H E).nox B (defBody (top 14)) (b_joined_count f_joined_from) :=
  have nd := sc_joined_count.nd
  (ss_one (ss_retX (sx_callC c_joined_from R rfl (sax_val (sx_pure (se_var 0)) (sax_own (sx_pure se_dnewT) (sax_own (sx_pure se_dnewT) sax_nil))))))
def N_weight : List Str := ["turns"]
theorem sc_weight : FnScope N_weight ["turns"] (defScope (top 15)) := ⟨rfl, rfl, rfl, by decide +kernel, rfl, by decide +kernel, by decide +kernel⟩
set_option maxHeartbeats 0 in
theorem sim_weight {P : Program} {w : World} {K : PySem.W.Frag} {mg : Str → Option Value} {base : Heap} {k : Nat} (G : Gb mg) (c_ratio : CalF P w K mg base k "ratio" f_ratio 2) (c_joined_count : CalF P w K mg base k "joined_count" f_joined_count 1) {f : Addr} (cdv : Value) (A : Around) (outer : List PySem.Env) (s : Shared) (H : Hp) (E : XK) (B : Bs) (R : Rm k (cxOf L2.CX0 P w K mg base N_weight "weight" (defScope (top 15)) f cdv A outer s H E).nox) : SimSs (cxOf L2.CX0 P w K mg base N_weight "weight" (defScope (top 15)) f cdv A outer s H E).nox B (defBody (top 15)) (b_weight f_ratio f_joined_count) :=
  have nd := sc_weight.nd
  (ss_one (ss_ret (se_callC c_ratio R rfl (sa_cons (se_callC c_joined_count R rfl (sa_cons (se_var 0) sa_nil)) (sa_cons (se_m1 cr_fact rc_fact G.factorial (se_b1 (cr_sumF rfl) rc_sum G.sum (by decide +kernel) (se_var 0))) sa_nil)))))
def N_met_along : List Str := ["right", "up", "square", "at", "found", "known", "further"]
theorem sc_met_along : FnScope N_met_along ["right", "up", "square"] (defScope (top 17)) := ⟨rfl, rfl, rfl, by decide +kernel, rfl, by decide +kernel, by decide +kernel⟩
set_option maxHeartbeats 0 in
theorem sim_met_along {P : Program} {w : World} {K : PySem.W.Frag} {mg : Str → Option Value} {base : Heap} {k : Nat} (G : Gb mg)  {f : Addr} (cdv : Value) (A : Around) (outer : List PySem.Env) (s : Shared) (H : Hp) (E : XK) (B : Bs) (R : Rm k (cxOf L2.CX0 P w K mg base N_met_along "met_along" (defScope (top 17)) f cdv A outer s H E).nox) : SimSs (cxOf L2.CX0 P w K mg base N_met_along "met_along" (defScope (top 17)) f cdv A outer s H E).nox B (defBody (top 17)) (b_met_along) :=
  have nd := sc_met_along.nd
  (ss_cons (ss_par 4 5 rfl nd (se_lst (sa_cons (se_var 2) sa_nil)) (se_dictK (sp_cons (se_var 2) se_bl sp_nil) rfl rfl (fun z => by cases z) (by decide) rfl)) (ss_cons (ss_set 3 se_int nd) (ss_cons (ss_while 64 [] PassesOwn.never (st_op2 r2_cmp (se_var 3) (se_b1 cr_lenF rc_len G.len (by decide +kernel) (se_var 4)) fun _ _ h1 h2 => pt_cmpR op_lt h1 h2 (nomark _)) (ss_cons (ss_for [] PassesOwn.never rfl (siz_seq (se_tup (sa_cons (se_op2 r2_at (se_var 0) (se_op2 r2_at (se_var 4) (se_var 3) fun _ _ h1 h2 => pe_ix (ix_at R.hu) h1 h2 (fun _ _ => rfl)) fun _ _ h1 h2 => pe_ix (ix_at R.hu) h1 h2 (fun _ _ => rfl)) (sa_cons (se_op2 r2_at (se_var 1) (se_op2 r2_at (se_var 4) (se_var 3) fun _ _ h1 h2 => pe_ix (ix_at R.hu) h1 h2 (fun _ _ => rfl)) fun _ _ h1 h2 => pe_ix (ix_at R.hu) h1 h2 (fun _ _ => rfl)) sa_nil)))) (sg_name 6 nd) (ss_one (ss_if (st_op2 r2_notIn (se_var 6) (se_var 5) fun _ _ h1 h2 => pt_cmpR (op_notIn R.hu) h1 h2 rfl) (ss_cons (ss_put 5 R.hu se_bl (se_var 6)) (ss_one (ss_append 4 (se_var 6)))) ss_nil))) (ss_one (ss_aug 3 iop_add r2_addI se_int nd)))) (ss_one (ss_retNm 4)))))
def N_back_of : List Str := ["listing", "found", "place", "entry"]
theorem sc_back_of : FnScope N_back_of ["listing"] (defScope (top 18)) := ⟨rfl, rfl, rfl, by decide +kernel, rfl, by decide +kernel, by decide +kernel⟩
set_option maxHeartbeats 0 in
theorem sim_back_of {P : Program} {w : World} {K : PySem.W.Frag} {mg : Str → Option Value} {base : Heap} {k : Nat} (G : Gb mg)  {f : Addr} (cdv : Value) (A : Around) (outer : List PySem.Env) (s : Shared) (H : Hp) (E : XK) (B : Bs) (R : Rm k (cxOf L2.CX0 P w K mg base N_back_of "back_of" (defScope (top 18)) f cdv A outer s H E).nox) : SimSs (cxOf L2.CX0 P w K mg base N_back_of "back_of" (defScope (top 18)) f cdv A outer s H E).nox B (defBody (top 18)) (b_back_of) :=
  have nd := sc_back_of.nd
  (ss_cons (ss_set 1 (se_op2 r2_mul (se_lst (sa_cons se_int sa_nil)) (se_b1 cr_lenF rc_len G.len (by decide +kernel) (se_var 0)) fun _ _ h1 h2 => pe_op op_mulF h1 h2) nd) (ss_cons (ss_for [] PassesOwn.never rfl (siz_enum G.enumerate (se_var 0)) (sg_tup rfl (sgs_cons (sg_name 2 nd) (sgs_cons (sg_name 3 nd) sgs_nil)) 2) (ss_one (ss_put 1 R.hu (se_var 2) (se_var 3)))) (ss_one (ss_ret (se_t1 call_tuple_of rc_tuple G.tuple (by decide +kernel) (se_var 1))))))
def N_renamed : List Str := ["world", "listing", "spots", "right", "up", "s"]
theorem sc_renamed : FnScope N_renamed ["world", "listing"] (defScope (top 19)) := ⟨rfl, rfl, rfl, by decide +kernel, rfl, by decide +kernel, by decide +kernel⟩
set_option maxHeartbeats 0 in
theorem sim_renamed {P : Program} {w : World} {K : PySem.W.Frag} {mg : Str → Option Value} {base : Heap} {k : Nat} (G : Gb mg) (c_back_of : CalF P w K mg base k "back_of" f_back_of 1) {f : Addr} (cdv : Value) (A : Around) (outer : List PySem.Env) (s : Shared) (H : Hp) (E : XK) (B : Bs) (R : Rm k (cxOf L2.CX0 P w K mg base N_renamed "renamed" (defScope (top 19)) f cdv A outer s H E).nox) : SimSs (cxOf L2.CX0 P w K mg base N_renamed "renamed" (defScope (top 19)) f cdv A outer s H E).nox B (defBody (top 19)) (b_renamed f_back_of) :=
  have nd := sc_renamed.nd
  (ss_cons (ss_set 2 (se_callC c_back_of R rfl (sa_cons (se_var 1) sa_nil)) nd) (ss_cons (ss_unpack (se_var 0) (sg_tup rfl (sgs_cons (sg_name 3 nd) (sgs_cons (sg_name 4 nd) sgs_nil)) 2)) (ss_one (ss_ret (se_tup (sa_cons (se_t1 call_tuple_of rc_tuple G.tuple (by decide +kernel) (se_lc rfl nd (si_seq (se_var 1)) (blkOk_by (N := N_renamed) (sc := defScope (top 19)) (own := [("s", 5)]) (by decide +kernel)) rfl (fun _ _ _ _ _ => (sg_name 5 nd)) (fun _ _ _ _ _ => sts_nil) (fun _ _ _ _ _ => (se_op2 r2_at (se_var 2) (se_op2 r2_at (se_var 3) (se_var 5) fun _ _ h1 h2 => pe_ix (ix_at R.hu) h1 h2 (fun _ _ => rfl)) fun _ _ h1 h2 => pe_ix (ix_at R.hu) h1 h2 (fun _ _ => rfl))) (by decide))) (sa_cons (se_t1 call_tuple_of rc_tuple G.tuple (by decide +kernel) (se_lc rfl nd (si_seq (se_var 1)) (blkOk_by (N := N_renamed) (sc := defScope (top 19)) (own := [("s", 5)]) (by decide +kernel)) rfl (fun _ _ _ _ _ => (sg_name 5 nd)) (fun _ _ _ _ _ => sts_nil) (fun _ _ _ _ _ => (se_op2 r2_at (se_var 2) (se_op2 r2_at (se_var 4) (se_var 5) fun _ _ h1 h2 => pe_ix (ix_at R.hu) h1 h2 (fun _ _ => rfl)) fun _ _ h1 h2 => pe_ix (ix_at R.hu) h1 h2 (fun _ _ => rfl))) (by decide))) sa_nil)))))))
def N_met_from : List Str := ["world", "square"]
theorem sc_met_from : FnScope N_met_from ["world", "square"] (defScope (top 20)) := ⟨rfl, rfl, rfl, by decide +kernel, rfl, by decide +kernel, by decide +kernel⟩
set_option maxHeartbeats 0 in
theorem sim_met_from {P : Program} {w : World} {K : PySem.W.Frag} {mg : Str → Option Value} {base : Heap} {k : Nat} (G : Gb mg) (c_met_along : CalF P w K mg base k "met_along" f_met_along 3) {f : Addr} (cdv : Value) (A : Around) (outer : List PySem.Env) (s : Shared) (H : Hp) (E : XK) (B : Bs) (R : Rm k (cxOf L2.CX0 P w K mg base N_met_from "met_from" (defScope (top 20)) f cdv A outer s H E).nox) : SimSs (cxOf L2.CX0 P w K mg base N_met_from "met_from" (defScope (top 20)) f cdv A outer s H E).nox B (defBody (top 20)) (b_met_from f_met_along) :=
  have nd := sc_met_from.nd
  (ss_one (ss_ret (se_t1 call_tuple_of rc_tuple G.tuple (by decide +kernel) (se_callC c_met_along R rfl (sa_cons (se_op2 r2_at (se_var 0) se_int fun _ _ h1 h2 => pe_ix (ix_at R.hu) h1 h2 (fun _ _ => rfl)) (sa_cons (se_op2 r2_at (se_var 0) se_int fun _ _ h1 h2 => pe_ix (ix_at R.hu) h1 h2 (fun _ _ => rfl)) (sa_cons (se_var 1) sa_nil)))))))
def N_all_forms : List Str := ["world", "square"]
theorem sc_all_forms : FnScope N_all_forms ["world"] (defScope (top 21)) := ⟨rfl, rfl, rfl, by decide +kernel, rfl, by decide +kernel, by decide +kernel⟩
set_option maxHeartbeats 0 in
theorem sim_all_forms {P : Program} {w : World} {K : PySem.W.Frag} {mg : Str → Option Value} {base : Heap} {k : Nat} (G : Gb mg) (c_renamed : CalF P w K mg base k "renamed" f_renamed 2) (c_met_from : CalF P w K mg base k "met_from" f_met_from 2) {f : Addr} (cdv : Value) (A : Around) (outer : List PySem.Env) (s : Shared) (H : Hp) (E : XK) (B : Bs) (R : Rm k (cxOf L2.CX0 P w K mg base N_all_forms "all_forms" (defScope (top 21)) f cdv A outer s H E).nox) : SimSs (cxOf L2.CX0 P w K mg base N_all_forms "all_forms" (defScope (top 21)) f cdv A outer s H E).nox B (defBody (top 21)) (b_all_forms f_renamed f_met_from) :=
  have nd := sc_all_forms.nd
  (ss_one (ss_ret (se_lc rfl nd (si_of (siz_range1 G.range (se_b1 cr_lenF rc_len G.len (by decide +kernel) (se_op2 r2_at (se_var 0) se_int fun _ _ h1 h2 => pe_ix (ix_at R.hu) h1 h2 (fun _ _ => rfl))))) (blkOk_by (N := N_all_forms) (sc := defScope (top 21)) (own := [("square", 1)]) (by decide +kernel)) rfl (fun _ _ _ _ _ => (sg_name 1 nd)) (fun _ _ _ _ _ => sts_nil) (fun _ _ _ _ _ => (se_callC c_renamed R rfl (sa_cons (se_var 0) (sa_cons (se_callC c_met_from R rfl (sa_cons (se_var 0) (sa_cons (se_var 1) sa_nil))) sa_nil)))) (by decide))))
def N_least_form : List Str := ["world"]
theorem sc_least_form : FnScope N_least_form ["world"] (defScope (top 22)) := ⟨rfl, rfl, rfl, by decide +kernel, rfl, by decide +kernel, by decide +kernel⟩
set_option maxHeartbeats 0 in
theorem sim_least_form {P : Program} {w : World} {K : PySem.W.Frag} {mg : Str → Option Value} {base : Heap} {k : Nat} (G : Gb mg) (c_all_forms : CalF P w K mg base k "all_forms" f_all_forms 1) {f : Addr} (cdv : Value) (A : Around) (outer : List PySem.Env) (s : Shared) (H : Hp) (E : XK) (B : Bs) (R : Rm k (cxOf L2.CX0 P w K mg base N_least_form "least_form" (defScope (top 22)) f cdv A outer s H E).nox) : SimSs (cxOf L2.CX0 P w K mg base N_least_form "least_form" (defScope (top 22)) f cdv A outer s H E).nox B (defBody (top 22)) (b_least_form f_all_forms) :=
  have nd := sc_least_form.nd
  (ss_one (ss_ret (se_b1 (cr_minD rfl R.hu) rc_minD G.min (by decide +kernel) (se_callC c_all_forms R rfl (sa_cons (se_var 0) sa_nil)))))
def N_flat : List Str := ["a", "b", "d", "high", "right", "up", "wide"]
theorem sc_flat : FnScope N_flat ["a", "b", "d"] (defScope (top 24)) := ⟨rfl, rfl, rfl, by decide +kernel, rfl, by decide +kernel, by decide +kernel⟩
set_option maxHeartbeats 0 in
theorem sim_flat {P : Program} {w : World} {K : PySem.W.Frag} {mg : Str → Option Value} {base : Heap} {k : Nat} (G : Gb mg) (c_least_form : CalF P w K mg base k "least_form" f_least_form 1) {f : Addr} (cdv : Value) (A : Around) (outer : List PySem.Env) (s : Shared) (H : Hp) (E : XK) (B : Bs) (R : Rm k (cxOf L2.CX0 P w K mg base N_flat "flat" (defScope (top 24)) f cdv A outer s H E).nox) : SimSs (cxOf L2.CX0 P w K mg base N_flat "flat" (defScope (top 24)) f cdv A outer s H E).nox B (defBody (top 24)) (b_flat f_least_form) :=
  have nd := sc_flat.nd
  (ss_cons (ss_par 4 5 rfl nd (se_lst sa_nil) (se_lst sa_nil)) (ss_cons (ss_for [] PassesOwn.never rfl (siz_range1 G.range (se_var 2)) (sg_name 3 nd) (ss_one (ss_for [] PassesOwn.never rfl (siz_range1 G.range (se_var 0)) (sg_name 6 nd) (ss_cons (ss_append 4 (se_op2 r2_add (se_op2 r2_mul (se_var 0) (se_var 3) fun _ _ h1 h2 => pe_op op_mulF h1 h2) (se_op2 r2_mod (se_op2 r2_add (se_var 6) se_int fun _ _ h1 h2 => pe_op op_addF h1 h2) (se_var 0) fun _ _ h1 h2 => pe_op op_modN h1 h2) fun _ _ h1 h2 => pe_op op_addF h1 h2)) (ss_one (ss_append 5 (se_if (st_op2 r2_cmp (se_var 3) (se_op2 r2_sub (se_var 2) se_int fun _ _ h1 h2 => pe_op op_sub h1 h2) fun _ _ h1 h2 => pt_cmpR op_lt h1 h2 (nomark _)) (se_op2 r2_add (se_op2 r2_add (se_op2 r2_mul (se_var 0) (se_var 3) fun _ _ h1 h2 => pe_op op_mulF h1 h2) (se_var 6) fun _ _ h1 h2 => pe_op op_addF h1 h2) (se_var 0) fun _ _ h1 h2 => pe_op op_addF h1 h2) (se_op2 r2_mod (se_op2 r2_sub (se_var 6) (se_var 1) fun _ _ h1 h2 => pe_op op_sub h1 h2) (se_var 0) fun _ _ h1 h2 => pe_op op_modN h1 h2)))))))) (ss_one (ss_ret (se_callC c_least_form R rfl (sa_cons (se_tup (sa_cons (se_t1 call_tuple_of rc_tuple G.tuple (by decide +kernel) (se_var 4)) (sa_cons (se_t1 call_tuple_of rc_tuple G.tuple (by decide +kernel) (se_var 5)) sa_nil))) sa_nil))))))
def N_flats : List Str := ["n", "found", "a", "b"]
theorem sc_flats : FnScope N_flats ["n"] (defScope (top 25)) := ⟨rfl, rfl, rfl, by decide +kernel, rfl, by decide +kernel, by decide +kernel⟩
set_option maxHeartbeats 0 in
theorem sim_flats {P : Program} {w : World} {K : PySem.W.Frag} {mg : Str → Option Value} {base : Heap} {k : Nat} (G : Gb mg) (c_flat : CalF P w K mg base k "flat" f_flat 3) {f : Addr} (cdv : Value) (A : Around) (outer : List PySem.Env) (s : Shared) (H : Hp) (E : XK) (B : Bs) (R : Rm k (cxOf L2.CX0 P w K mg base N_flats "flats" (defScope (top 25)) f cdv A outer s H E).nox) : SimSs (cxOf L2.CX0 P w K mg base N_flats "flats" (defScope (top 25)) f cdv A outer s H E).nox B (defBody (top 25)) (b_flats f_flat) :=
  have nd := sc_flats.nd
  (ss_cons (ss_set 1 (se_lst sa_nil) nd) (ss_cons (ss_for [] PassesOwn.never rfl (siz_range2 G.range se_int (se_op2 r2_add (se_var 0) se_int fun _ _ h1 h2 => pe_op op_addF h1 h2)) (sg_name 2 nd) (ss_one (ss_if (st_op2 r2_eq (se_op2 r2_mod (se_var 0) (se_var 2) fun _ _ h1 h2 => pe_op op_modN h1 h2) se_int fun _ _ h1 h2 => pt_cmpR (op_eqD R.hu64) h1 h2 (nomark _)) (ss_one (ss_extend 1 (se_lc rfl nd (si_of (siz_range1 G.range (se_var 2))) (blkOk_by (N := N_flats) (sc := defScope (top 25)) (own := [("b", 3)]) (by decide +kernel)) rfl (fun _ _ _ _ _ => (sg_name 3 nd)) (fun _ _ _ _ _ => sts_nil) (fun _ _ _ _ _ => (se_callC c_flat R rfl (sa_cons (se_var 2) (sa_cons (se_var 3) (sa_cons (se_op2 r2_fdiv (se_var 0) (se_var 2) fun _ _ h1 h2 => pe_op op_fdivA h1 h2) sa_nil))))) (by decide)))) ss_nil))) (ss_one (ss_ret (se_t1 call_tuple_of rc_tuple G.tuple (by decide +kernel) (se_b1 (cr_sortF R.hu) rc_sort G.sorted (by decide +kernel) (se_var 1)))))))
def N__law_begun : List Str := ["script", "k", "cells", "great", "seed", "cell"]
theorem sc__law_begun : FnScope N__law_begun ["script", "k"] (defScope (top 27)) := ⟨rfl, rfl, rfl, by decide +kernel, rfl, by decide +kernel, by decide +kernel⟩
set_option maxHeartbeats 0 in
theorem sim__law_begun {P : Program} {w : World} {K : PySem.W.Frag} {mg : Str → Option Value} {base : Heap} {k : Nat} (G : Gb mg)  {f : Addr} (cdv : Value) (A : Around) (outer : List PySem.Env) (s : Shared) (H : Hp) (E : XK) (B : Bs) (R : Rm k (cxOf L2.CX0 P w K mg base N__law_begun "_law_begun" (defScope (top 27)) f cdv A outer s H E).nox) : SimSs (cxOf L2.CX0 P w K mg base N__law_begun "_law_begun" (defScope (top 27)) f cdv A outer s H E).nox B (defBody (top 27)) (b__law_begun) :=
  have nd := sc__law_begun.nd
  (ss_cons (ss_set 2 (se_op2 r2_add (se_cut (se_var 0) (so_some (se_var 1)) so_none) (se_cut (se_var 0) so_none (so_some (se_var 1))) fun _ _ h1 h2 => pe_op op_addF h1 h2) nd) (ss_cons (ss_setLc 3 rfl nd (si_seq (se_var 2)) (blkOk_by (N := N__law_begun) (sc := defScope (top 27)) (own := [("cell", 5)]) (by decide +kernel)) rfl (fun _ _ _ _ _ => (sg_name 5 nd)) (fun _ _ _ _ _ => (sts_one (st_op2 r2_cmp (se_var 5) (se_op2 r2_pow se_int se_int fun _ _ h1 h2 => pe_op op_pow h1 h2) fun _ _ h1 h2 => pt_cmpR op_ge h1 h2 (nomark _)))) (fun _ _ _ _ _ => (se_var 5)) (by decide)) (ss_cons (ss_set 4 (se_op2 r2_add se_int (se_var 1) fun _ _ h1 h2 => pe_op op_addF h1 h2) nd) (ss_cons (ss_fz 2 (ss_for [] PassesOwn.never rfl (siz_seq (se_var 2)) (sg_name 5 nd) (ss_one (ss_set 4 (se_op2 r2_mod (se_t1 call_int1 rc_int G.int (by decide +kernel) (se_op2 r2_add (se_op2 r2_mul (se_var 4) se_int fun _ _ h1 h2 => pe_op op_mulF h1 h2) (se_var 5) fun _ _ h1 h2 => pe_op op_addF h1 h2)) se_int fun _ _ h1 h2 => pe_op op_modN h1 h2) nd)))) (ss_one (ss_fz 4 (ss_ret (se_dictK (sp_cons (se_strE s_left_eq) (se_if (st_op2 r2_ne (se_var 3) (se_lst sa_nil) fun _ _ h1 h2 => pt_cmpR (op_neD R.hu64) h1 h2 (nomark _)) (se_op2 r2_at (se_var 3) se_int fun _ _ h1 h2 => pe_ix (ix_at R.hu) h1 h2 (fun _ _ => rfl)) se_int) (sp_cons (se_strE s_seed_eq) (se_var 4) (sp_cons (se_strE s_cells_eq) (se_op2 r2_add (se_var 2) (se_lst (sa_cons (se_op2 r2_add (se_op2 r2_mul se_int (se_var 1) fun _ _ h1 h2 => pe_op op_mulF h1 h2) se_int fun _ _ h1 h2 => pe_op op_addF h1 h2) sa_nil)) fun _ _ h1 h2 => pe_op op_addF h1 h2) (sp_cons (se_strE s_spot_eq) se_int sp_nil)))) rfl rfl (fun z => by cases z) (by decide) rfl))))))))
def N__law_draw : List Str := ["m", "bound", "spot", "cell", "blend", "found", "cells", "extra"]
theorem sc__law_draw : FnScope N__law_draw ["m", "bound"] (defScope (top 28)) := ⟨rfl, rfl, rfl, by decide +kernel, rfl, by decide +kernel, by decide +kernel⟩
set_option maxHeartbeats 0 in
theorem sim__law_draw {P : Program} {w : World} {K : PySem.W.Frag} {mg : Str → Option Value} {base : Heap} {k : Nat} (G : Gb mg)  {f : Addr} (cdv : Value) (A : Around) (outer : List PySem.Env) (s : Shared) (H : Hp) (E : XK) (B : Bs) (R : Rm k (cxOf L2.CX0 P w K mg base N__law_draw "_law_draw" (defScope (top 28)) f cdv A outer s H E).nox) : SimSs (cxOf L2.CX0 P w K mg base N__law_draw "_law_draw" (defScope (top 28)) f cdv A outer s H E).nox B (defBody (top 28)) (b__law_draw) :=
  have nd := sc__law_draw.nd
  (ss_cons (ss_if (st_op2 r2_cmp (se_op2 r2_at (se_var 0) (se_strE s_left_eq) fun _ _ h1 h2 => pe_ix (ix_at R.hu) h1 h2 (fun _ _ => rfl)) se_int fun _ _ h1 h2 => pt_cmpR op_gt h1 h2 (nomark _)) (ss_cons (ss_set 5 (se_op2 r2_mod (se_t1 call_int1 rc_int G.int (by decide +kernel) (se_op2 r2_at (se_var 0) (se_strE s_left_eq) fun _ _ h1 h2 => pe_ix (ix_at R.hu) h1 h2 (fun _ _ => rfl))) (se_var 1) fun _ _ h1 h2 => pe_op op_modN h1 h2) nd) (ss_cons (ss_put 0 R.hu (se_op2 r2_fdiv (se_op2 r2_at (se_var 0) (se_strE s_left_eq) fun _ _ h1 h2 => pe_ix (ix_at R.hu) h1 h2 (fun _ _ => rfl)) (se_var 1) fun _ _ h1 h2 => pe_op op_fdivA h1 h2) (se_strE s_left_eq)) (ss_one (ss_retNm 5)))) ss_nil) (ss_cons (ss_set 2 (se_op2 r2_at (se_var 0) (se_strE s_spot_eq) fun _ _ h1 h2 => pe_ix (ix_at R.hu) h1 h2 (fun _ _ => rfl)) nd) (ss_cons (ss_put 0 R.hu (se_op2 r2_add (se_var 2) se_int fun _ _ h1 h2 => pe_op op_addF h1 h2) (se_strE s_spot_eq)) (ss_cons (ss_par 6 7 rfl nd (se_op2 r2_at (se_var 0) (se_strE s_cells_eq) fun _ _ h1 h2 => pe_ix (ix_at R.hu) h1 h2 (fun _ _ => rfl)) (se_op2 r2_add (se_op2 r2_at (se_var 0) (se_strE s_seed_eq) fun _ _ h1 h2 => pe_ix (ix_at R.hu) h1 h2 (fun _ _ => rfl)) (se_op2 r2_mul (se_op2 r2_mul se_int (se_var 2) fun _ _ h1 h2 => pe_op op_mulF h1 h2) (se_var 2) fun _ _ h1 h2 => pe_op op_mulF h1 h2) fun _ _ h1 h2 => pe_op op_addF h1 h2)) (ss_cons (ss_set 3 (se_op2 r2_at (se_var 6) (se_op2 r2_mod (se_t1 call_int1 rc_int G.int (by decide +kernel) (se_var 2)) (se_b1 cr_lenF rc_len G.len (by decide +kernel) (se_var 6)) fun _ _ h1 h2 => pe_op op_modN h1 h2) fun _ _ h1 h2 => pe_ix (ix_at R.hu) h1 h2 (fun _ _ => rfl)) nd) (ss_cons (ss_set 4 (se_op2 r2_mod (se_t1 call_int1 rc_int G.int (by decide +kernel) (se_op2 r2_add (se_op2 r2_mul (se_var 3) (se_op2 r2_add (se_op2 r2_mul se_int (se_var 2) fun _ _ h1 h2 => pe_op op_mulF h1 h2) se_int fun _ _ h1 h2 => pe_op op_addF h1 h2) fun _ _ h1 h2 => pe_op op_mulF h1 h2) (se_var 7) fun _ _ h1 h2 => pe_op op_addF h1 h2)) se_int fun _ _ h1 h2 => pe_op op_modN h1 h2) nd) (ss_cons (ss_set 4 (se_op2 r2_mod (se_t1 call_int1 rc_int G.int (by decide +kernel) (se_op2 r2_add (se_op2 r2_add (se_op2 r2_mul (se_var 4) (se_var 4) fun _ _ h1 h2 => pe_op op_mulF h1 h2) (se_op2 r2_mul se_int (se_var 2) fun _ _ h1 h2 => pe_op op_mulF h1 h2) fun _ _ h1 h2 => pe_op op_addF h1 h2) (se_op2 r2_at (se_var 0) (se_strE s_seed_eq) fun _ _ h1 h2 => pe_ix (ix_at R.hu) h1 h2 (fun _ _ => rfl)) fun _ _ h1 h2 => pe_op op_addF h1 h2)) se_int fun _ _ h1 h2 => pe_op op_modN h1 h2) nd) (ss_one (ss_ret (se_op2 r2_mod (se_op2 r2_fdiv (se_op2 r2_mod (se_t1 call_int1 rc_int G.int (by decide +kernel) (se_op2 r2_add (se_op2 r2_mul (se_var 4) se_int fun _ _ h1 h2 => pe_op op_mulF h1 h2) (se_var 2) fun _ _ h1 h2 => pe_op op_addF h1 h2)) se_int fun _ _ h1 h2 => pe_op op_modN h1 h2) se_int fun _ _ h1 h2 => pe_op op_fdivA h1 h2) (se_var 1) fun _ _ h1 h2 => pe_op op_modN h1 h2))))))))))
def N__law_like : List Str := ["told", "due"]
theorem sc__law_like : FnScope N__law_like ["told", "due"] (defScope (top 29)) := ⟨rfl, rfl, rfl, by decide +kernel, rfl, by decide +kernel, by decide +kernel⟩
set_option maxHeartbeats 0 in
theorem sim__law_like {P : Program} {w : World} {K : PySem.W.Frag} {mg : Str → Option Value} {base : Heap} {k : Nat} (G : Gb mg)  {f : Addr} (cdv : Value) (A : Around) (outer : List PySem.Env) (s : Shared) (H : Hp) (E : XK) (B : Bs) (R : Rm k (cxOf L2.CX0 P w K mg base N__law_like "_law_like" (defScope (top 29)) f cdv A outer s H E).nox) : SimSs (cxOf L2.CX0 P w K mg base N__law_like "_law_like" (defScope (top 29)) f cdv A outer s H E).nox B (defBody (top 29)) (b__law_like) :=
  have nd := sc__law_like.nd
  (ss_one (ss_ret (se_like R.gd R.hu G.repr (se_var 0) (se_var 1))))
def N__law_ratio : List Str := ["top", "bottom", "step", "a", "b"]
theorem sc__law_ratio : FnScope N__law_ratio ["top", "bottom"] (defScope (top 30)) := ⟨rfl, rfl, rfl, by decide +kernel, rfl, by decide +kernel, by decide +kernel⟩
set_option maxHeartbeats 0 in
theorem sim__law_ratio {P : Program} {w : World} {K : PySem.W.Frag} {mg : Str → Option Value} {base : Heap} {k : Nat} (G : Gb mg)  {f : Addr} (cdv : Value) (A : Around) (outer : List PySem.Env) (s : Shared) (H : Hp) (E : XK) (B : Bs) (R : Rm k (cxOf L2.CX0 P w K mg base N__law_ratio "_law_ratio" (defScope (top 30)) f cdv A outer s H E).nox) : SimSs (cxOf L2.CX0 P w K mg base N__law_ratio "_law_ratio" (defScope (top 30)) f cdv A outer s H E).nox B (defBody (top 30)) (b__law_ratio) :=
  have nd := sc__law_ratio.nd
  (ss_cons (ss_par 3 4 rfl nd (se_b1 call_abs rc_abs G.abs (by decide +kernel) (se_var 0)) (se_b1 call_abs rc_abs G.abs (by decide +kernel) (se_var 1))) (ss_cons (ss_for [] PassesOwn.never rfl (siz_range1 G.range se_int) (sg_name 2 nd) (ss_one (ss_if (st_op2 r2_ne (se_var 4) se_int fun _ _ h1 h2 => pt_cmpR (op_neD R.hu64) h1 h2 (nomark _)) (ss_one (ss_fz 4 (ss_par 3 4 rfl nd (se_var 4) (se_op2 r2_mod (se_t1 call_int1 rc_int G.int (by decide +kernel) (se_var 3)) (se_var 4) fun _ _ h1 h2 => pe_op op_modN h1 h2)))) ss_nil))) (ss_one (ss_ret (se_if (st_op2 r2_cmp (se_var 1) se_int fun _ _ h1 h2 => pt_cmpR op_gt h1 h2 (nomark _)) (se_tup (sa_cons (se_op2 r2_fdiv (se_var 0) (se_var 3) fun _ _ h1 h2 => pe_op op_fdivA h1 h2) (sa_cons (se_op2 r2_fdiv (se_var 1) (se_var 3) fun _ _ h1 h2 => pe_op op_fdivA h1 h2) sa_nil))) (se_tup (sa_cons (se_op2 r2_fdiv (se_op1 r1_neg (se_var 0) fun _ h => pe_un un_neg h) (se_var 3) fun _ _ h1 h2 => pe_op op_fdivA h1 h2) (sa_cons (se_op2 r2_fdiv (se_op1 r1_neg (se_var 1) fun _ h => pe_un un_neg h) (se_var 3) fun _ _ h1 h2 => pe_op op_fdivA h1 h2) sa_nil))))))))
def N__law_factorial : List Str := ["many", "found", "step"]
theorem sc__law_factorial : FnScope N__law_factorial ["many"] (defScope (top 31)) := ⟨rfl, rfl, rfl, by decide +kernel, rfl, by decide +kernel, by decide +kernel⟩
set_option maxHeartbeats 0 in
theorem sim__law_factorial {P : Program} {w : World} {K : PySem.W.Frag} {mg : Str → Option Value} {base : Heap} {k : Nat} (G : Gb mg)  {f : Addr} (cdv : Value) (A : Around) (outer : List PySem.Env) (s : Shared) (H : Hp) (E : XK) (B : Bs) (R : Rm k (cxOf L2.CX0 P w K mg base N__law_factorial "_law_factorial" (defScope (top 31)) f cdv A outer s H E).nox) : SimSs (cxOf L2.CX0 P w K mg base N__law_factorial "_law_factorial" (defScope (top 31)) f cdv A outer s H E).nox B (defBody (top 31)) (b__law_factorial) :=
  have nd := sc__law_factorial.nd
  (ss_cons (ss_set 1 se_int nd) (ss_cons (ss_for [] PassesOwn.never rfl (siz_range2 G.range se_int (se_op2 r2_add (se_var 0) se_int fun _ _ h1 h2 => pe_op op_addF h1 h2)) (sg_name 2 nd) (ss_one (ss_set 1 (se_op2 r2_mul (se_var 1) (se_var 2) fun _ _ h1 h2 => pe_op op_mulF h1 h2) nd))) (ss_one (ss_retNm 1))))
def N__law_divisors : List Str := ["many", "one"]
theorem sc__law_divisors : FnScope N__law_divisors ["many"] (defScope (top 32)) := ⟨rfl, rfl, rfl, by decide +kernel, rfl, by decide +kernel, by decide +kernel⟩
set_option maxHeartbeats 0 in
theorem sim__law_divisors {P : Program} {w : World} {K : PySem.W.Frag} {mg : Str → Option Value} {base : Heap} {k : Nat} (G : Gb mg)  {f : Addr} (cdv : Value) (A : Around) (outer : List PySem.Env) (s : Shared) (H : Hp) (E : XK) (B : Bs) (R : Rm k (cxOf L2.CX0 P w K mg base N__law_divisors "_law_divisors" (defScope (top 32)) f cdv A outer s H E).nox) : SimSs (cxOf L2.CX0 P w K mg base N__law_divisors "_law_divisors" (defScope (top 32)) f cdv A outer s H E).nox B (defBody (top 32)) (b__law_divisors) :=
  have nd := sc__law_divisors.nd
  (ss_one (ss_ret (se_b1 (cr_sumF rfl) rc_sum G.sum (by decide +kernel) (se_lc rfl nd (si_of (siz_range2 G.range se_int (se_op2 r2_add (se_var 0) se_int fun _ _ h1 h2 => pe_op op_addF h1 h2))) (blkOk_by (N := N__law_divisors) (sc := defScope (top 32)) (own := [("one", 1)]) (by decide +kernel)) rfl (fun _ _ _ _ _ => (sg_name 1 nd)) (fun _ _ _ _ _ => (sts_one (st_op2 r2_eq (se_op2 r2_mod (se_t1 call_int1 rc_int G.int (by decide +kernel) (se_var 0)) (se_var 1) fun _ _ h1 h2 => pe_op op_modN h1 h2) se_int fun _ _ h1 h2 => pt_cmpR (op_eqD R.hu64) h1 h2 (nomark _)))) (fun _ _ _ _ _ => (se_var 1)) (by decide)))))
def N__law_tight : List Str := ["many", "one", "top", "bottom", "k"]
theorem sc__law_tight : FnScope N__law_tight ["many"] (defScope (top 33)) := ⟨rfl, rfl, rfl, by decide +kernel, rfl, by decide +kernel, by decide +kernel⟩
set_option maxHeartbeats 0 in
theorem sim__law_tight {P : Program} {w : World} {K : PySem.W.Frag} {mg : Str → Option Value} {base : Heap} {k : Nat} (G : Gb mg)  {f : Addr} (cdv : Value) (A : Around) (outer : List PySem.Env) (s : Shared) (H : Hp) (E : XK) (B : Bs) (R : Rm k (cxOf L2.CX0 P w K mg base N__law_tight "_law_tight" (defScope (top 33)) f cdv A outer s H E).nox) : SimSs (cxOf L2.CX0 P w K mg base N__law_tight "_law_tight" (defScope (top 33)) f cdv A outer s H E).nox B (defBody (top 33)) (b__law_tight) :=
  have nd := sc__law_tight.nd
  (ss_cons (ss_par 2 3 rfl nd (se_op2 r2_mul (se_var 0) (se_var 0) fun _ _ h1 h2 => pe_op op_mulF h1 h2) se_int) (ss_cons (ss_for [] PassesOwn.never rfl (siz_range2 G.range se_int (se_op2 r2_add (se_var 0) se_int fun _ _ h1 h2 => pe_op op_addF h1 h2)) (sg_name 1 nd) (ss_one (ss_if (st_bool (st_and (st_op2 r2_eq (se_op2 r2_mod (se_t1 call_int1 rc_int G.int (by decide +kernel) (se_var 0)) (se_var 1) fun _ _ h1 h2 => pe_op op_modN h1 h2) se_int fun _ _ h1 h2 => pt_cmpR (op_eqD R.hu64) h1 h2 (nomark _)) (st_and1 (st_op2 r2_eq (se_lc rfl nd (si_of (siz_range2 G.range se_int (se_var 1))) (blkOk_by (N := N__law_tight) (sc := defScope (top 33)) (own := [("k", 4)]) (by decide +kernel)) rfl (fun _ _ _ _ _ => (sg_name 4 nd)) (fun _ _ _ _ _ => (sts_one (st_op2 r2_eq (se_op2 r2_mod (se_t1 call_int1 rc_int G.int (by decide +kernel) (se_var 1)) (se_var 4) fun _ _ h1 h2 => pe_op op_modN h1 h2) se_int fun _ _ h1 h2 => pt_cmpR (op_eqD R.hu64) h1 h2 (nomark _)))) (fun _ _ _ _ _ => (se_var 4)) (by decide)) (se_lst sa_nil) fun _ _ h1 h2 => pt_cmpR (op_eqD R.hu64) h1 h2 (nomark _))))) (ss_one (ss_par 2 3 rfl nd (se_op2 r2_mul (se_var 2) (se_op2 r2_sub (se_op2 r2_mul (se_var 1) (se_var 1) fun _ _ h1 h2 => pe_op op_mulF h1 h2) se_int fun _ _ h1 h2 => pe_op op_sub h1 h2) fun _ _ h1 h2 => pe_op op_mulF h1 h2) (se_op2 r2_mul (se_op2 r2_mul (se_var 3) (se_var 1) fun _ _ h1 h2 => pe_op op_mulF h1 h2) (se_var 1) fun _ _ h1 h2 => pe_op op_mulF h1 h2))) ss_nil))) (ss_one (ss_ret (se_if (st_op2 r2_cmp (se_var 0) se_int fun _ _ h1 h2 => pt_cmpR op_gt h1 h2 (nomark _)) (se_op2 r2_fdiv (se_op2 r2_mul (se_op2 r2_mul se_int (se_op2 r2_sub (se_var 0) se_int fun _ _ h1 h2 => pe_op op_sub h1 h2) fun _ _ h1 h2 => pe_op op_mulF h1 h2) (se_op2 r2_fdiv (se_var 2) (se_var 3) fun _ _ h1 h2 => pe_op op_fdivA h1 h2) fun _ _ h1 h2 => pe_op op_mulF h1 h2) se_int fun _ _ h1 h2 => pe_op op_fdivA h1 h2) se_int)))))
def N_law : List Str := ["script", "step", "m", "many", "due", "total", "one", "turns_so"]
theorem sc_law : FnScope N_law ["script"] (defScope (top 34)) := ⟨rfl, rfl, rfl, by decide +kernel, rfl, by decide +kernel, by decide +kernel⟩
set_option maxHeartbeats 0 in
theorem sim_law {P : Program} {w : World} {K : PySem.W.Frag} {mg : Str → Option Value} {base : Heap} {k : Nat} (G : Gb mg) (c__law_begun : CalF P w K mg base k "_law_begun" f__law_begun 2) (c__law_draw : CalF P w K mg base k "_law_draw" f__law_draw 2) (c__law_ratio : CalF P w K mg base k "_law_ratio" f__law_ratio 2) (c__law_divisors : CalF P w K mg base k "_law_divisors" f__law_divisors 1) (c__law_like : CalF P w K mg base k "_law_like" f__law_like 2) (c_flats : CalF P w K mg base k "flats" f_flats 1) (c_weight : CalF P w K mg base k "weight" f_weight 1) (c__law_tight : CalF P w K mg base k "_law_tight" f__law_tight 1) (c__law_factorial : CalF P w K mg base k "_law_factorial" f__law_factorial 1) (c_joined_count : CalF P w K mg base k "joined_count" f_joined_count 1) {f : Addr} (cdv : Value) (A : Around) (outer : List PySem.Env) (s : Shared) (H : Hp) (E : XK) (B : Bs) (R : Rm k (cxOf L2.CX0 P w K mg base N_law "law" (defScope (top 34)) f cdv A outer s H E).nox) : SimSs (cxOf L2.CX0 P w K mg base N_law "law" (defScope (top 34)) f cdv A outer s H E).nox B (defBody (top 34)) (b_law f__law_begun f__law_draw f__law_ratio f__law_divisors f__law_like f_flats f_weight f__law_tight f__law_factorial f_joined_count) :=
  have nd := sc_law.nd
  (ss_cons (ss_for [1, 2, 3, 4, 5, 6, 7] PassesOwn.never rfl (siz_range1 G.range (se_op2 r2_add se_int (se_b2 (call_min2 rfl) rc_min2 G.min (by decide +kernel) se_int (se_b1 cr_lenF rc_len G.len (by decide +kernel) (se_var 0))) fun _ _ h1 h2 => pe_op op_addF h1 h2)) (sg_name 1 nd) (ss_cons (ss_set 2 (se_callC c__law_begun R rfl (sa_cons (se_var 0) (sa_cons (se_var 1) sa_nil))) nd) (ss_cons (ss_setX 3 (sx_op2 r2_add (sx_pure se_int) (sx_callC c__law_draw R rfl (sax_io 2 (sax_val (sx_pure se_int) sax_nil))) fun _ _ h1 h2 => pe_op op_addF h1 h2) nd) (ss_cons (ss_fz 3 (ss_set 4 (se_callC c__law_ratio R rfl (sa_cons (se_callC c__law_divisors R rfl (sa_cons (se_var 3) sa_nil)) (sa_cons (se_var 3) sa_nil))) nd)) (ss_cons (ss_fz 3 (ss_fz 4 (ss_if (st_not (st_val (se_callC c__law_like R rfl (sa_cons (se_lst (sa_cons (se_callC c_weight R rfl (sa_cons (se_op2 r2_mul (se_tup (sa_cons se_int sa_nil)) (se_var 3) fun _ _ h1 h2 => pe_op op_mulF h1 h2) sa_nil)) (sa_cons (se_b1 cr_lenF rc_len G.len (by decide +kernel) (se_callC c_flats R rfl (sa_cons (se_var 3) sa_nil))) sa_nil))) (sa_cons (se_lst (sa_cons (se_var 4) (sa_cons (se_callC c__law_divisors R rfl (sa_cons (se_var 3) sa_nil)) sa_nil))) sa_nil))))) (ss_one (ss_ret se_bl)) ss_nil))) (ss_cons (ss_if (st_op2 r2_cmp (se_var 3) se_int fun _ _ h1 h2 => pt_cmpR op_gt h1 h2 (nomark _)) (ss_cons (ss_set 5 se_int nd) (ss_cons (ss_for [] PassesOwn.never rfl (siz_range2 G.range se_int (se_op2 r2_add (se_var 3) se_int fun _ _ h1 h2 => pe_op op_addF h1 h2)) (sg_name 6 nd) (ss_one (ss_if (st_op2 r2_eq (se_op2 r2_mod (se_t1 call_int1 rc_int G.int (by decide +kernel) (se_var 3)) (se_var 6) fun _ _ h1 h2 => pe_op op_modN h1 h2) se_int fun _ _ h1 h2 => pt_cmpR (op_eqD R.hu64) h1 h2 (nomark _)) (ss_one (ss_set 5 (se_op2 r2_add (se_var 5) (se_op2 r2_mul (se_callC c__law_divisors R rfl (sa_cons (se_var 6) sa_nil)) (se_callC c__law_tight R rfl (sa_cons (se_op2 r2_fdiv (se_var 3) (se_var 6) fun _ _ h1 h2 => pe_op op_fdivA h1 h2) sa_nil)) fun _ _ h1 h2 => pe_op op_mulF h1 h2) fun _ _ h1 h2 => pe_op op_addF h1 h2) nd)) ss_nil))) (ss_cons (ss_set 7 (se_op2 r2_add (se_tup (sa_cons se_int sa_nil)) (se_op2 r2_mul (se_tup (sa_cons se_int sa_nil)) (se_op2 r2_sub (se_var 3) se_int fun _ _ h1 h2 => pe_op op_sub h1 h2) fun _ _ h1 h2 => pe_op op_mulF h1 h2) fun _ _ h1 h2 => pe_op op_addF h1 h2) nd) (ss_one (ss_fz 3 (ss_fz 5 (ss_fz 7 (ss_if (st_not (st_val (se_callC c__law_like R rfl (sa_cons (se_lst (sa_cons (se_callC c_weight R rfl (sa_cons (se_var 7) sa_nil)) (sa_cons (se_callC c_joined_count R rfl (sa_cons (se_var 7) sa_nil)) sa_nil))) (sa_cons (se_lst (sa_cons (se_tup (sa_cons (se_var 5) (sa_cons se_int sa_nil))) (sa_cons (se_op2 r2_mul (se_var 5) (se_callC c__law_factorial R rfl (sa_cons (se_var 3) sa_nil)) fun _ _ h1 h2 => pe_op op_mulF h1 h2) sa_nil))) sa_nil))))) (ss_one (ss_ret se_bl)) ss_nil)))))))) ss_nil) (ss_one (ss_if (st_op2 r2_eq (se_op2 r2_mod (se_t1 call_int1 rc_int G.int (by decide +kernel) (se_var 3)) se_int fun _ _ h1 h2 => pe_op op_modN h1 h2) se_int fun _ _ h1 h2 => pt_cmpR (op_eqD R.hu64) h1 h2 (nomark _)) (ss_cons (ss_fz 3 (ss_set 4 (se_callC c__law_ratio R rfl (sa_cons (se_op2 r2_mul se_int (se_callC c__law_factorial R rfl (sa_cons (se_var 3) sa_nil)) fun _ _ h1 h2 => pe_op op_mulF h1 h2) (sa_cons (se_op2 r2_add (se_var 3) se_int fun _ _ h1 h2 => pe_op op_addF h1 h2) sa_nil))) nd)) (ss_one (ss_fz 3 (ss_fz 4 (ss_if (st_not (st_val (se_callC c__law_like R rfl (sa_cons (se_callC c_weight R rfl (sa_cons (se_tup (sa_cons (se_var 3) sa_nil)) sa_nil)) (sa_cons (se_var 4) sa_nil))))) (ss_one (ss_ret se_bl)) ss_nil))))) ss_nil)))))))) (ss_one (ss_ret se_bl)))
end S
set_option Elab.async false
set_option linter.all false
set_option maxRecDepth 100000
set_option maxHeartbeats 0
namespace S
open PySem PySem.Spec PyProof.Rows L2 Fx M
theorem cal_ratio {P : Program} {w : World} {K : PySem.W.Frag} {mg : Str → Option Value} {base : Heap} (G : Gb mg) {f : Addr} {fd : FuncData} (F : FunD K "ratio" "ratio" (defArgs (top 2)) (defBody (top 2)) (defScope (top 2)) [] [] f fd) (gm : mg "ratio" = some (.ref f))  : CalF P w K mg base 1 "ratio" f_ratio 2 := by
  exact cal_of (k := 0) F gm sc_ratio rfl rfl (fun _ _ _ _ _ _ us hl => match us, hl with | [_, _], _ => rfl) fun cdv A outer s H E B R => sim_ratio (k := 0) G  cdv A outer s H E B R
theorem cal_parts_up_to {P : Program} {w : World} {K : PySem.W.Frag} {mg : Str → Option Value} {base : Heap} (G : Gb mg) {f : Addr} {fd : FuncData} (F : FunD K "parts_up_to" "parts_up_to" (defArgs (top 4)) (defBody (top 4)) (defScope (top 4)) [] [] f fd) (gm : mg "parts_up_to" = some (.ref f))  : CalF P w K mg base 11 "parts_up_to" f_parts_up_to 2 := by
  have go : ∀ n, CalF P w K mg base (1 + n) "parts_up_to" (r_parts_up_to n) 2 := by
    intro n
    induction n with
    | zero => exact cal_zero gm F.kp (F.bindsN (ps := ["n", "most"]) (fun _ _ _ _ _ _ us hl => match us, hl with | [_, _], _ => rfl)) rfl
    | succ n ih => exact cal_of (k := 1 + n) F gm sc_parts_up_to rfl rfl (fun _ _ _ _ _ _ us hl => match us, hl with | [_, _], _ => rfl) fun cdv A outer s H E B R => sim_parts_up_to (k := 1 + n) G (r_parts_up_to n) ih  cdv A outer s H E B R
  exact go 10
theorem cal_all_parts {P : Program} {w : World} {K : PySem.W.Frag} {mg : Str → Option Value} {base : Heap} (G : Gb mg) {f : Addr} {fd : FuncData} (F : FunD K "all_parts" "all_parts" (defArgs (top 5)) (defBody (top 5)) (defScope (top 5)) [] [] f fd) (gm : mg "all_parts" = some (.ref f)) (c_parts_up_to : CalF P w K mg base 11 "parts_up_to" f_parts_up_to 2) : CalF P w K mg base 12 "all_parts" f_all_parts 1 := by
  exact cal_of (k := 11) F gm sc_all_parts rfl rfl (fun _ _ _ _ _ _ us hl => match us, hl with | [_], _ => rfl) fun cdv A outer s H E B R => sim_all_parts (k := 11) G (c_parts_up_to.mono (by decide)) cdv A outer s H E B R
theorem cal_class_size {P : Program} {w : World} {K : PySem.W.Frag} {mg : Str → Option Value} {base : Heap} (G : Gb mg) {f : Addr} {fd : FuncData} (F : FunD K "class_size" "class_size" (defArgs (top 6)) (defBody (top 6)) (defScope (top 6)) [] [] f fd) (gm : mg "class_size" = some (.ref f))  : CalF P w K mg base 1 "class_size" f_class_size 1 := by
  exact cal_of (k := 0) F gm sc_class_size rfl rfl (fun _ _ _ _ _ _ us hl => match us, hl with | [_], _ => rfl) fun cdv A outer s H E B R => sim_class_size (k := 0) G  cdv A outer s H E B R
theorem cal_heads {P : Program} {w : World} {K : PySem.W.Frag} {mg : Str → Option Value} {base : Heap} (G : Gb mg) {f : Addr} {fd : FuncData} (F : FunD K "heads" "heads" (defArgs (top 7)) (defBody (top 7)) (defScope (top 7)) [] [] f fd) (gm : mg "heads" = some (.ref f))  : CalF P w K mg base 1 "heads" f_heads 1 := by
  exact cal_of (k := 0) F gm sc_heads rfl rfl (fun _ _ _ _ _ _ us hl => match us, hl with | [_], _ => rfl) fun cdv A outer s H E B R => sim_heads (k := 0) G  cdv A outer s H E B R
theorem cal_strips_off {P : Program} {w : World} {K : PySem.W.Frag} {mg : Str → Option Value} {base : Heap} (G : Gb mg) {f : Addr} {fd : FuncData} (F : FunD K "strips_off" "strips_off" (defArgs (top 8)) (defBody (top 8)) (defScope (top 8)) [] [] f fd) (gm : mg "strips_off" = some (.ref f)) (c_heads : CalF P w K mg base 1 "heads" f_heads 1) : CalF P w K mg base 2 "strips_off" f_strips_off 2 := by
  exact cal_of (k := 1) F gm sc_strips_off rfl rfl (fun _ _ _ _ _ _ us hl => match us, hl with | [_, _], _ => rfl) fun cdv A outer s H E B R => sim_strips_off (k := 1) G (c_heads.mono (by decide)) cdv A outer s H E B R
theorem cal_character {P : Program} {w : World} {K : PySem.W.Frag} {mg : Str → Option Value} {base : Heap} (G : Gb mg) {f : Addr} {fd : FuncData} (F : FunD K "character" "character" (defArgs (top 9)) (defBody (top 9)) (defScope (top 9)) [] [] f fd) (gm : mg "character" = some (.ref f)) (c_strips_off : CalF P w K mg base 2 "strips_off" f_strips_off 2) : CalF P w K mg base 13 "character" f_character 2 := by
  have go : ∀ n, CalF P w K mg base (3 + n) "character" (r_character n) 2 := by
    intro n
    induction n with
    | zero => exact cal_zero gm F.kp (F.bindsN (ps := ["shape", "turns"]) (fun _ _ _ _ _ _ us hl => match us, hl with | [_, _], _ => rfl)) rfl
    | succ n ih => exact cal_of (k := 3 + n) F gm sc_character rfl rfl (fun _ _ _ _ _ _ us hl => match us, hl with | [_, _], _ => rfl) fun cdv A outer s H E B R => sim_character (k := 3 + n) G (r_character n) ih (c_strips_off.mono (by omega)) cdv A outer s H E B R
  exact go 10
theorem cal_pair_count {P : Program} {w : World} {K : PySem.W.Frag} {mg : Str → Option Value} {base : Heap} (G : Gb mg) {f : Addr} {fd : FuncData} (F : FunD K "pair_count" "pair_count" (defArgs (top 10)) (defBody (top 10)) (defScope (top 10)) [] [] f fd) (gm : mg "pair_count" = some (.ref f)) (c_character : CalF P w K mg base 13 "character" f_character 2) (c_all_parts : CalF P w K mg base 12 "all_parts" f_all_parts 1) (c_class_size : CalF P w K mg base 1 "class_size" f_class_size 1) : CalF P w K mg base 14 "pair_count" f_pair_count 1 := by
  exact cal_of (k := 13) F gm sc_pair_count rfl rfl (fun _ _ _ _ _ _ us hl => match us, hl with | [_], _ => rfl) fun cdv A outer s H E B R => sim_pair_count (k := 13) G (c_character.mono (by decide)) (c_all_parts.mono (by decide)) (c_class_size.mono (by decide)) cdv A outer s H E B R
theorem cal_taken_parts {P : Program} {w : World} {K : PySem.W.Frag} {mg : Str → Option Value} {base : Heap} (G : Gb mg) {f : Addr} {fd : FuncData} (F : FunD K "taken_parts" "taken_parts" (defArgs (top 11)) (defBody (top 11)) (defScope (top 11)) [] [] f fd) (gm : mg "taken_parts" = some (.ref f))  : CalF P w K mg base 1 "taken_parts" f_taken_parts 1 := by
  exact cal_of (k := 0) F gm sc_taken_parts rfl rfl (fun _ _ _ _ _ _ us hl => match us, hl with | [_], _ => rfl) fun cdv A outer s H E B R => sim_taken_parts (k := 0) G  cdv A outer s H E B R
theorem cal_kept_pairs {P : Program} {w : World} {K : PySem.W.Frag} {mg : Str → Option Value} {base : Heap} (G : Gb mg) {f : Addr} {fd : FuncData} (F : FunD K "kept_pairs" "kept_pairs" (defArgs (top 12)) (defBody (top 12)) (defScope (top 12)) [] [] f fd) (gm : mg "kept_pairs" = some (.ref f)) (c_pair_count : CalF P w K mg base 14 "pair_count" f_pair_count 1) : CalF P w K mg base 15 "kept_pairs" f_kept_pairs 2 := by
  exact cal_of (k := 14) F gm sc_kept_pairs rfl rfl (fun _ _ _ _ _ _ us hl => match us, hl with | [_, _], _ => rfl) fun cdv A outer s H E B R => sim_kept_pairs (k := 14) G (c_pair_count.mono (by decide)) cdv A outer s H E B R
theorem cal_joined_from {P : Program} {w : World} {K : PySem.W.Frag} {mg : Str → Option Value} {base : Heap} (G : Gb mg) {f : Addr} {fd : FuncData} (F : FunD K "joined_from" "joined_from" (defArgs (top 13)) (defBody (top 13)) (defScope (top 13)) [] [] f fd) (gm : mg "joined_from" = some (.ref f)) (c_kept_pairs : CalF P w K mg base 15 "kept_pairs" f_kept_pairs 2) (c_taken_parts : CalF P w K mg base 1 "taken_parts" f_taken_parts 1) : CalF P w K mg base 26 "joined_from" f_joined_from 3 := by
  have go : ∀ n, CalF P w K mg base (16 + n) "joined_from" (r_joined_from n) 3 := by
    intro n
    induction n with
    | zero => exact cal_zero gm F.kp (F.bindsN (ps := ["turns", "known", "pairs"]) (fun _ _ _ _ _ _ us hl => match us, hl with | [_, _, _], _ => rfl)) rfl
    | succ n ih => exact cal_of (k := 16 + n) F gm sc_joined_from rfl rfl (fun _ _ _ _ _ _ us hl => match us, hl with | [_, _, _], _ => rfl) fun cdv A outer s H E B R => sim_joined_from (k := 16 + n) G (r_joined_from n) ih (c_kept_pairs.mono (by omega)) (c_taken_parts.mono (by omega)) cdv A outer s H E B R
  exact go 10
theorem cal_joined_count {P : Program} {w : World} {K : PySem.W.Frag} {mg : Str → Option Value} {base : Heap} (G : Gb mg) {f : Addr} {fd : FuncData} (F : FunD K "joined_count" "joined_count" (defArgs (top 14)) (defBody (top 14)) (defScope (top 14)) [] [] f fd) (gm : mg "joined_count" = some (.ref f)) (c_joined_from : CalF P w K mg base 26 "joined_from" f_joined_from 3) : CalF P w K mg base 27 "joined_count" f_joined_count 1 := by
  exact cal_of (k := 26) F gm sc_joined_count rfl rfl (fun _ _ _ _ _ _ us hl => match us, hl with | [_], _ => rfl) fun cdv A outer s H E B R => sim_joined_count (k := 26) G (c_joined_from.mono (by decide)) cdv A outer s H E B R
theorem cal_weight {P : Program} {w : World} {K : PySem.W.Frag} {mg : Str → Option Value} {base : Heap} (G : Gb mg) {f : Addr} {fd : FuncData} (F : FunD K "weight" "weight" (defArgs (top 15)) (defBody (top 15)) (defScope (top 15)) [] [] f fd) (gm : mg "weight" = some (.ref f)) (c_ratio : CalF P w K mg base 1 "ratio" f_ratio 2) (c_joined_count : CalF P w K mg base 27 "joined_count" f_joined_count 1) : CalF P w K mg base 28 "weight" f_weight 1 := by
  exact cal_of (k := 27) F gm sc_weight rfl rfl (fun _ _ _ _ _ _ us hl => match us, hl with | [_], _ => rfl) fun cdv A outer s H E B R => sim_weight (k := 27) G (c_ratio.mono (by decide)) (c_joined_count.mono (by decide)) cdv A outer s H E B R
theorem cal_met_along {P : Program} {w : World} {K : PySem.W.Frag} {mg : Str → Option Value} {base : Heap} (G : Gb mg) {f : Addr} {fd : FuncData} (F : FunD K "met_along" "met_along" (defArgs (top 17)) (defBody (top 17)) (defScope (top 17)) [] [] f fd) (gm : mg "met_along" = some (.ref f))  : CalF P w K mg base 1 "met_along" f_met_along 3 := by
  exact cal_of (k := 0) F gm sc_met_along rfl rfl (fun _ _ _ _ _ _ us hl => match us, hl with | [_, _, _], _ => rfl) fun cdv A outer s H E B R => sim_met_along (k := 0) G  cdv A outer s H E B R
theorem cal_back_of {P : Program} {w : World} {K : PySem.W.Frag} {mg : Str → Option Value} {base : Heap} (G : Gb mg) {f : Addr} {fd : FuncData} (F : FunD K "back_of" "back_of" (defArgs (top 18)) (defBody (top 18)) (defScope (top 18)) [] [] f fd) (gm : mg "back_of" = some (.ref f))  : CalF P w K mg base 1 "back_of" f_back_of 1 := by
  exact cal_of (k := 0) F gm sc_back_of rfl rfl (fun _ _ _ _ _ _ us hl => match us, hl with | [_], _ => rfl) fun cdv A outer s H E B R => sim_back_of (k := 0) G  cdv A outer s H E B R
theorem cal_renamed {P : Program} {w : World} {K : PySem.W.Frag} {mg : Str → Option Value} {base : Heap} (G : Gb mg) {f : Addr} {fd : FuncData} (F : FunD K "renamed" "renamed" (defArgs (top 19)) (defBody (top 19)) (defScope (top 19)) [] [] f fd) (gm : mg "renamed" = some (.ref f)) (c_back_of : CalF P w K mg base 1 "back_of" f_back_of 1) : CalF P w K mg base 2 "renamed" f_renamed 2 := by
  exact cal_of (k := 1) F gm sc_renamed rfl rfl (fun _ _ _ _ _ _ us hl => match us, hl with | [_, _], _ => rfl) fun cdv A outer s H E B R => sim_renamed (k := 1) G (c_back_of.mono (by decide)) cdv A outer s H E B R
theorem cal_met_from {P : Program} {w : World} {K : PySem.W.Frag} {mg : Str → Option Value} {base : Heap} (G : Gb mg) {f : Addr} {fd : FuncData} (F : FunD K "met_from" "met_from" (defArgs (top 20)) (defBody (top 20)) (defScope (top 20)) [] [] f fd) (gm : mg "met_from" = some (.ref f)) (c_met_along : CalF P w K mg base 1 "met_along" f_met_along 3) : CalF P w K mg base 2 "met_from" f_met_from 2 := by
  exact cal_of (k := 1) F gm sc_met_from rfl rfl (fun _ _ _ _ _ _ us hl => match us, hl with | [_, _], _ => rfl) fun cdv A outer s H E B R => sim_met_from (k := 1) G (c_met_along.mono (by decide)) cdv A outer s H E B R
theorem cal_all_forms {P : Program} {w : World} {K : PySem.W.Frag} {mg : Str → Option Value} {base : Heap} (G : Gb mg) {f : Addr} {fd : FuncData} (F : FunD K "all_forms" "all_forms" (defArgs (top 21)) (defBody (top 21)) (defScope (top 21)) [] [] f fd) (gm : mg "all_forms" = some (.ref f)) (c_renamed : CalF P w K mg base 2 "renamed" f_renamed 2) (c_met_from : CalF P w K mg base 2 "met_from" f_met_from 2) : CalF P w K mg base 3 "all_forms" f_all_forms 1 := by
  exact cal_of (k := 2) F gm sc_all_forms rfl rfl (fun _ _ _ _ _ _ us hl => match us, hl with | [_], _ => rfl) fun cdv A outer s H E B R => sim_all_forms (k := 2) G (c_renamed.mono (by decide)) (c_met_from.mono (by decide)) cdv A outer s H E B R
theorem cal_least_form {P : Program} {w : World} {K : PySem.W.Frag} {mg : Str → Option Value} {base : Heap} (G : Gb mg) {f : Addr} {fd : FuncData} (F : FunD K "least_form" "least_form" (defArgs (top 22)) (defBody (top 22)) (defScope (top 22)) [] [] f fd) (gm : mg "least_form" = some (.ref f)) (c_all_forms : CalF P w K mg base 3 "all_forms" f_all_forms 1) : CalF P w K mg base 4 "least_form" f_least_form 1 := by
  exact cal_of (k := 3) F gm sc_least_form rfl rfl (fun _ _ _ _ _ _ us hl => match us, hl with | [_], _ => rfl) fun cdv A outer s H E B R => sim_least_form (k := 3) G (c_all_forms.mono (by decide)) cdv A outer s H E B R
theorem cal_flat {P : Program} {w : World} {K : PySem.W.Frag} {mg : Str → Option Value} {base : Heap} (G : Gb mg) {f : Addr} {fd : FuncData} (F : FunD K "flat" "flat" (defArgs (top 24)) (defBody (top 24)) (defScope (top 24)) [] [] f fd) (gm : mg "flat" = some (.ref f)) (c_least_form : CalF P w K mg base 4 "least_form" f_least_form 1) : CalF P w K mg base 5 "flat" f_flat 3 := by
  exact cal_of (k := 4) F gm sc_flat rfl rfl (fun _ _ _ _ _ _ us hl => match us, hl with | [_, _, _], _ => rfl) fun cdv A outer s H E B R => sim_flat (k := 4) G (c_least_form.mono (by decide)) cdv A outer s H E B R
theorem cal_flats {P : Program} {w : World} {K : PySem.W.Frag} {mg : Str → Option Value} {base : Heap} (G : Gb mg) {f : Addr} {fd : FuncData} (F : FunD K "flats" "flats" (defArgs (top 25)) (defBody (top 25)) (defScope (top 25)) [] [] f fd) (gm : mg "flats" = some (.ref f)) (c_flat : CalF P w K mg base 5 "flat" f_flat 3) : CalF P w K mg base 6 "flats" f_flats 1 := by
  exact cal_of (k := 5) F gm sc_flats rfl rfl (fun _ _ _ _ _ _ us hl => match us, hl with | [_], _ => rfl) fun cdv A outer s H E B R => sim_flats (k := 5) G (c_flat.mono (by decide)) cdv A outer s H E B R
theorem cal__law_begun {P : Program} {w : World} {K : PySem.W.Frag} {mg : Str → Option Value} {base : Heap} (G : Gb mg) {f : Addr} {fd : FuncData} (F : FunD K "_law_begun" "_law_begun" (defArgs (top 27)) (defBody (top 27)) (defScope (top 27)) [] [] f fd) (gm : mg "_law_begun" = some (.ref f))  : CalF P w K mg base 1 "_law_begun" f__law_begun 2 := by
  exact cal_of (k := 0) F gm sc__law_begun rfl rfl (fun _ _ _ _ _ _ us hl => match us, hl with | [_, _], _ => rfl) fun cdv A outer s H E B R => sim__law_begun (k := 0) G  cdv A outer s H E B R
theorem cal__law_draw {P : Program} {w : World} {K : PySem.W.Frag} {mg : Str → Option Value} {base : Heap} (G : Gb mg) {f : Addr} {fd : FuncData} (F : FunD K "_law_draw" "_law_draw" (defArgs (top 28)) (defBody (top 28)) (defScope (top 28)) [] [] f fd) (gm : mg "_law_draw" = some (.ref f))  : CalF P w K mg base 1 "_law_draw" f__law_draw 2 := by
  exact cal_of (k := 0) F gm sc__law_draw rfl rfl (fun _ _ _ _ _ _ us hl => match us, hl with | [_, _], _ => rfl) fun cdv A outer s H E B R => sim__law_draw (k := 0) G  cdv A outer s H E B R
theorem cal__law_like {P : Program} {w : World} {K : PySem.W.Frag} {mg : Str → Option Value} {base : Heap} (G : Gb mg) {f : Addr} {fd : FuncData} (F : FunD K "_law_like" "_law_like" (defArgs (top 29)) (defBody (top 29)) (defScope (top 29)) [] [] f fd) (gm : mg "_law_like" = some (.ref f))  : CalF P w K mg base 1 "_law_like" f__law_like 2 := by
  exact cal_of (k := 0) F gm sc__law_like rfl rfl (fun _ _ _ _ _ _ us hl => match us, hl with | [_, _], _ => rfl) fun cdv A outer s H E B R => sim__law_like (k := 0) G  cdv A outer s H E B R
theorem cal__law_ratio {P : Program} {w : World} {K : PySem.W.Frag} {mg : Str → Option Value} {base : Heap} (G : Gb mg) {f : Addr} {fd : FuncData} (F : FunD K "_law_ratio" "_law_ratio" (defArgs (top 30)) (defBody (top 30)) (defScope (top 30)) [] [] f fd) (gm : mg "_law_ratio" = some (.ref f))  : CalF P w K mg base 1 "_law_ratio" f__law_ratio 2 := by
  exact cal_of (k := 0) F gm sc__law_ratio rfl rfl (fun _ _ _ _ _ _ us hl => match us, hl with | [_, _], _ => rfl) fun cdv A outer s H E B R => sim__law_ratio (k := 0) G  cdv A outer s H E B R
theorem cal__law_factorial {P : Program} {w : World} {K : PySem.W.Frag} {mg : Str → Option Value} {base : Heap} (G : Gb mg) {f : Addr} {fd : FuncData} (F : FunD K "_law_factorial" "_law_factorial" (defArgs (top 31)) (defBody (top 31)) (defScope (top 31)) [] [] f fd) (gm : mg "_law_factorial" = some (.ref f))  : CalF P w K mg base 1 "_law_factorial" f__law_factorial 1 := by
  exact cal_of (k := 0) F gm sc__law_factorial rfl rfl (fun _ _ _ _ _ _ us hl => match us, hl with | [_], _ => rfl) fun cdv A outer s H E B R => sim__law_factorial (k := 0) G  cdv A outer s H E B R
theorem cal__law_divisors {P : Program} {w : World} {K : PySem.W.Frag} {mg : Str → Option Value} {base : Heap} (G : Gb mg) {f : Addr} {fd : FuncData} (F : FunD K "_law_divisors" "_law_divisors" (defArgs (top 32)) (defBody (top 32)) (defScope (top 32)) [] [] f fd) (gm : mg "_law_divisors" = some (.ref f))  : CalF P w K mg base 1 "_law_divisors" f__law_divisors 1 := by
  exact cal_of (k := 0) F gm sc__law_divisors rfl rfl (fun _ _ _ _ _ _ us hl => match us, hl with | [_], _ => rfl) fun cdv A outer s H E B R => sim__law_divisors (k := 0) G  cdv A outer s H E B R
theorem cal__law_tight {P : Program} {w : World} {K : PySem.W.Frag} {mg : Str → Option Value} {base : Heap} (G : Gb mg) {f : Addr} {fd : FuncData} (F : FunD K "_law_tight" "_law_tight" (defArgs (top 33)) (defBody (top 33)) (defScope (top 33)) [] [] f fd) (gm : mg "_law_tight" = some (.ref f))  : CalF P w K mg base 1 "_law_tight" f__law_tight 1 := by
  exact cal_of (k := 0) F gm sc__law_tight rfl rfl (fun _ _ _ _ _ _ us hl => match us, hl with | [_], _ => rfl) fun cdv A outer s H E B R => sim__law_tight (k := 0) G  cdv A outer s H E B R
theorem cal_law {P : Program} {w : World} {K : PySem.W.Frag} {mg : Str → Option Value} {base : Heap} (G : Gb mg) {f : Addr} {fd : FuncData} (F : FunD K "law" "law" (defArgs (top 34)) (defBody (top 34)) (defScope (top 34)) [] [] f fd) (gm : mg "law" = some (.ref f)) (c__law_begun : CalF P w K mg base 1 "_law_begun" f__law_begun 2) (c__law_draw : CalF P w K mg base 1 "_law_draw" f__law_draw 2) (c__law_ratio : CalF P w K mg base 1 "_law_ratio" f__law_ratio 2) (c__law_divisors : CalF P w K mg base 1 "_law_divisors" f__law_divisors 1) (c__law_like : CalF P w K mg base 1 "_law_like" f__law_like 2) (c_flats : CalF P w K mg base 6 "flats" f_flats 1) (c_weight : CalF P w K mg base 28 "weight" f_weight 1) (c__law_tight : CalF P w K mg base 1 "_law_tight" f__law_tight 1) (c__law_factorial : CalF P w K mg base 1 "_law_factorial" f__law_factorial 1) (c_joined_count : CalF P w K mg base 27 "joined_count" f_joined_count 1) : CalF P w K mg base 29 "law" f_law 1 := by
  exact cal_of (k := 28) F gm sc_law rfl rfl (fun _ _ _ _ _ _ us hl => match us, hl with | [_], _ => rfl) fun cdv A outer s H E B R => sim_law (k := 28) G (c__law_begun.mono (by decide)) (c__law_draw.mono (by decide)) (c__law_ratio.mono (by decide)) (c__law_divisors.mono (by decide)) (c__law_like.mono (by decide)) (c_flats.mono (by decide)) (c_weight.mono (by decide)) (c__law_tight.mono (by decide)) (c__law_factorial.mono (by decide)) (c_joined_count.mono (by decide)) cdv A outer s H E B R
end S
set_option Elab.async false
set_option linter.all false
set_option maxRecDepth 1000000
set_option maxHeartbeats 0
/-! k76: the numbers that the defs give, as tables. -/
namespace P76
open Fx M
def I (l : List Int) : D := .tup (l.map .int)
theorem ints_eq : ∀ {l : List D} {ns : List Int}, intsD l = some ns → l = ns.map .int
  | [], ns, h => by cases h; rfl
  | .int i :: r, ns, h => by
    obtain ⟨ms, h1, h2⟩ := Option.map_eq_some_iff.mp (show (intsD r).map (i :: ·) = some ns from h)
    subst h2
    rw [ints_eq h1]; rfl
  | .non :: _, _, h => by cases h
  | .bl _ :: _, _, h => by cases h
  | .str _ :: _, _, h => by cases h
  | .tup _ :: _, _, h => by cases h
  | .lst _ :: _, _, h => by cases h
  | .dk _ :: _, _, h => by cases h
  | .dt _ :: _, _, h => by cases h
  | .ref _ :: _, _, h => by cases h
  | .fl _ :: _, _, h => by cases h
def look {α : Type} (k : List Int) : List (List Int × α) → Option α
  | [] => none
  | (a, v) :: r => if a = k then some v else look k r
theorem look_mem {α : Type} {k : List Int} {v : α} : ∀ {t : List (List Int × α)}, look k t = some v → (k, v) ∈ t
  | [], h => by cases h
  | (a, w) :: r, h => by
    unfold look at h
    by_cases e : a = k
    · rw [if_pos e] at h; cases h; subst e; exact List.mem_cons_self
    · rw [if_neg e] at h; exact List.mem_cons_of_mem _ (look_mem h)
def chkI (r : Option (Sl × List D)) (v : Int) : Bool := match r with
  | some (.sh (.int a), []) => decide (a = v)
  | _ => false
theorem chkI_eq {r : Option (Sl × List D)} {v : Int} (h : chkI r v = true) : r = some (.sh (.int v), []) := by
  unfold chkI at h
  split at h
  · simp at h; rw [h]
  · cases h
def sp1 (tab : List (List Int × Int)) : FX
  | [.sh (.tup x)] => (intsD x).bind fun a => (look a tab).map fun v => (.sh (.int v), [])
  | _ => none
theorem sp1_le {tab : List (List Int × Int)} {f : FX} (h : tab.all (fun p => chkI (f [.sh (I p.1)]) p.2) = true) : FLe (sp1 tab) f := by
  intro a r q
  unfold sp1 at q
  split at q
  · obtain ⟨ns, h1, q⟩ := Option.bind_eq_some_iff.mp q
    obtain ⟨v, h2, q⟩ := Option.map_eq_some_iff.mp q
    rw [ints_eq h1, ← q]
    exact chkI_eq (List.all_eq_true.mp h _ (look_mem h2))
  · cases q
def sp2 (tab : List (List Int × List (List Int × Int))) : FX
  | [.sh (.tup x), .sh (.tup y)] => (intsD x).bind fun a => (intsD y).bind fun b => (look b tab).bind fun t => (look a t).map fun v => (.sh (.int v), [])
  | _ => none
theorem sp2_le {tab : List (List Int × List (List Int × Int))} {f : FX} (h : tab.all (fun p => p.2.all fun q => chkI (f [.sh (I q.1), .sh (I p.1)]) q.2) = true) : FLe (sp2 tab) f := by
  intro a r q
  unfold sp2 at q
  split at q
  · obtain ⟨ns, h1, q⟩ := Option.bind_eq_some_iff.mp q
    obtain ⟨ms, h2, q⟩ := Option.bind_eq_some_iff.mp q
    obtain ⟨t, h3, q⟩ := Option.bind_eq_some_iff.mp q
    obtain ⟨v, h4, q⟩ := Option.map_eq_some_iff.mp q
    rw [ints_eq h1, ints_eq h2, ← q]
    exact chkI_eq (List.all_eq_true.mp (List.all_eq_true.mp h _ (look_mem h3)) _ (look_mem h4))
  · cases q
theorem chr_fuel : ∀ n, FLe (r_character n) (r_character (n + 1))
  | 0 => fun _ _ h => by cases h
  | n + 1 => le_def (mono_character (chr_fuel n) FLe.rfl)
theorem chr_fuels (n : Nat) : ∀ k, FLe (r_character n) (r_character (n + k))
  | 0 => FLe.rfl
  | k + 1 => (chr_fuels n k).trans (chr_fuel (n + k))
theorem appL {α : Type} (k : List Int) : ∀ (a b : List (List Int × α)), look k (a ++ b) = (match look k a with | some v => some v | none => look k b)
  | [], b => rfl
  | (x, v) :: a, b => by
    show (if x = k then some v else look k (a ++ b)) = _
    rw [appL k a b]
    by_cases e : x = k
    · rw [if_pos e, show look k ((x, v) :: a) = some v from if_pos e]
    · rw [if_neg e, show look k ((x, v) :: a) = look k a from if_neg e]
theorem sp2_app {a b : List (List Int × List (List Int × Int))} {f : FX} (ha : FLe (sp2 a) f) (hb : FLe (sp2 b) f) : FLe (sp2 (a ++ b)) f := by
  intro x r q
  unfold sp2 at q
  split at q
  · obtain ⟨ns, h1, q⟩ := Option.bind_eq_some_iff.mp q
    obtain ⟨ms, h2, q⟩ := Option.bind_eq_some_iff.mp q
    obtain ⟨t, h3, q⟩ := Option.bind_eq_some_iff.mp q
    rw [appL] at h3
    split at h3
    · rename_i w hw
      cases h3
      refine ha _ r ?_
      unfold sp2
      simp only [h1, h2, hw, Option.bind_some]
      exact q
    · refine hb _ r ?_
      unfold sp2
      simp only [h1, h2, h3, Option.bind_some]
      exact q
  · cases q
def ch0 : List (List Int × List (List Int × Int)) := [([], [([], 1)])]
theorem ch0_le : FLe (sp2 ch0) (r_character 1) := sp2_le (by decide +kernel)
def chs1 := ch0
theorem chs1_le : FLe (sp2 chs1) (r_character 1) := ch0_le
def ch1 : List (List Int × List (List Int × Int)) := [([1], [([1], 1)])]
theorem ch1_le : FLe (sp2 ch1) (r_character 2) := (sp2_le (f := mDefX 2 4 [] (b_character (sp2 chs1) f_strips_off)) (by decide +kernel)).trans (le_def (mono_character chs1_le FLe.rfl))
def chs2 := chs1 ++ ch1
theorem chs2_le : FLe (sp2 chs2) (r_character 2) := sp2_app (chs1_le.trans (chr_fuel 1)) ch1_le
def ch2 : List (List Int × List (List Int × Int)) := [([1, 1], [([2], 1), ([1, 1], 1)])]
theorem ch2_le : FLe (sp2 ch2) (r_character 3) := (sp2_le (f := mDefX 2 4 [] (b_character (sp2 chs2) f_strips_off)) (by decide +kernel)).trans (le_def (mono_character chs2_le FLe.rfl))
def chs3 := chs2 ++ ch2
theorem chs3_le : FLe (sp2 chs3) (r_character 3) := sp2_app (chs2_le.trans (chr_fuel 2)) ch2_le
def ch3 : List (List Int × List (List Int × Int)) := [([1, 1, 1], [([3], 1), ([2, 1], 2), ([1, 1, 1], 1)]), ([3], [([3], 1), ([2, 1], -1), ([1, 1, 1], 1)])]
theorem ch3_le : FLe (sp2 ch3) (r_character 4) := (sp2_le (f := mDefX 2 4 [] (b_character (sp2 chs3) f_strips_off)) (by decide +kernel)).trans (le_def (mono_character chs3_le FLe.rfl))
def chs4 := chs3 ++ ch3
theorem chs4_le : FLe (sp2 chs4) (r_character 4) := sp2_app (chs3_le.trans (chr_fuel 3)) ch3_le
def ch4 : List (List Int × List (List Int × Int)) := [([1, 1, 1, 1], [([4], 1), ([3, 1], 3), ([2, 2], 2), ([2, 1, 1], 3), ([1, 1, 1, 1], 1)]), ([3, 1], [([4], 1), ([3, 1], 0), ([2, 2], -1), ([2, 1, 1], 0), ([1, 1, 1, 1], 1)])]
theorem ch4_le : FLe (sp2 ch4) (r_character 5) := (sp2_le (f := mDefX 2 4 [] (b_character (sp2 chs4) f_strips_off)) (by decide +kernel)).trans (le_def (mono_character chs4_le FLe.rfl))
def chs5 := chs4 ++ ch4
theorem chs5_le : FLe (sp2 chs5) (r_character 5) := sp2_app (chs4_le.trans (chr_fuel 4)) ch4_le
def ch5 : List (List Int × List (List Int × Int)) := [([1, 1, 1, 1, 1], [([5], 1), ([4, 1], 4), ([3, 2], 5), ([3, 1, 1], 6), ([2, 2, 1], 5), ([2, 1, 1, 1], 4), ([1, 1, 1, 1, 1], 1)]), ([3, 1, 1], [([5], 1), ([4, 1], 1), ([3, 2], -1), ([3, 1, 1], 0), ([2, 2, 1], -1), ([2, 1, 1, 1], 1), ([1, 1, 1, 1, 1], 1)]), ([5], [([5], 1), ([4, 1], -1), ([3, 2], 0), ([3, 1, 1], 1), ([2, 2, 1], 0), ([2, 1, 1, 1], -1), ([1, 1, 1, 1, 1], 1)])]
theorem ch5_le : FLe (sp2 ch5) (r_character 6) := (sp2_le (f := mDefX 2 4 [] (b_character (sp2 chs5) f_strips_off)) (by decide +kernel)).trans (le_def (mono_character chs5_le FLe.rfl))
def chs6 := chs5 ++ ch5
theorem chs6_le : FLe (sp2 chs6) (r_character 6) := sp2_app (chs5_le.trans (chr_fuel 5)) ch5_le
def ch6 : List (List Int × List (List Int × Int)) := [([1, 1, 1, 1, 1, 1], [([6], 1), ([5, 1], 5), ([4, 2], 9), ([4, 1, 1], 10), ([3, 3], 5), ([3, 2, 1], 16), ([3, 1, 1, 1], 10), ([2, 2, 2], 5), ([2, 2, 1, 1], 9), ([2, 1, 1, 1, 1], 5), ([1, 1, 1, 1, 1, 1], 1)]), ([3, 1, 1, 1], [([6], 1), ([5, 1], 2), ([4, 2], 0), ([4, 1, 1], 1), ([3, 3], -1), ([3, 2, 1], -2), ([3, 1, 1, 1], 1), ([2, 2, 2], -1), ([2, 2, 1, 1], 0), ([2, 1, 1, 1, 1], 2), ([1, 1, 1, 1, 1, 1], 1)])]
theorem ch6_le : FLe (sp2 ch6) (r_character 7) := (sp2_le (f := mDefX 2 4 [] (b_character (sp2 chs6) f_strips_off)) (by decide +kernel)).trans (le_def (mono_character chs6_le FLe.rfl))
def chs7 := chs6 ++ ch6
theorem chs7_le : FLe (sp2 chs7) (r_character 7) := sp2_app (chs6_le.trans (chr_fuel 6)) ch6_le
def ch7 : List (List Int × List (List Int × Int)) := [([1, 1, 1, 1, 1, 1, 1], [([7], 1), ([6, 1], 6), ([5, 2], 14), ([5, 1, 1], 15), ([4, 3], 14), ([4, 2, 1], 35), ([4, 1, 1, 1], 20), ([3, 3, 1], 21), ([3, 2, 2], 21), ([3, 2, 1, 1], 35), ([3, 1, 1, 1, 1], 15), ([2, 2, 2, 1], 14), ([2, 2, 1, 1, 1], 14), ([2, 1, 1, 1, 1, 1], 6), ([1, 1, 1, 1, 1, 1, 1], 1)]), ([3, 1, 1, 1, 1], [([7], 1), ([6, 1], 3), ([5, 2], 2), ([5, 1, 1], 3), ([4, 3], -1), ([4, 2, 1], -1), ([4, 1, 1, 1], 2), ([3, 3, 1], -3), ([3, 2, 2], -3), ([3, 2, 1, 1], -1), ([3, 1, 1, 1, 1], 3), ([2, 2, 2, 1], -1), ([2, 2, 1, 1, 1], 2), ([2, 1, 1, 1, 1, 1], 3), ([1, 1, 1, 1, 1, 1, 1], 1)]), ([7], [([7], 1), ([6, 1], -1), ([5, 2], 0), ([5, 1, 1], 1), ([4, 3], 0), ([4, 2, 1], 0), ([4, 1, 1, 1], -1), ([3, 3, 1], 0), ([3, 2, 2], 0), ([3, 2, 1, 1], 0), ([3, 1, 1, 1, 1], 1), ([2, 2, 2, 1], 0), ([2, 2, 1, 1, 1], 0), ([2, 1, 1, 1, 1, 1], -1), ([1, 1, 1, 1, 1, 1, 1], 1)])]
theorem ch7_le : FLe (sp2 ch7) (r_character 8) := (sp2_le (f := mDefX 2 4 [] (b_character (sp2 chs7) f_strips_off)) (by decide +kernel)).trans (le_def (mono_character chs7_le FLe.rfl))
def chs8 := chs7 ++ ch7
theorem chs8_le : FLe (sp2 chs8) (r_character 8) := sp2_app (chs7_le.trans (chr_fuel 7)) ch7_le
def ch8 : List (List Int × List (List Int × Int)) := [([1, 1, 1, 1, 1, 1, 1, 1], [([8], 1), ([7, 1], 7), ([6, 2], 20), ([6, 1, 1], 21), ([5, 3], 28), ([5, 2, 1], 64), ([5, 1, 1, 1], 35), ([4, 4], 14), ([4, 3, 1], 70), ([4, 2, 2], 56), ([4, 2, 1, 1], 90), ([4, 1, 1, 1, 1], 35), ([3, 3, 2], 42), ([3, 3, 1, 1], 56), ([3, 2, 2, 1], 70), ([3, 2, 1, 1, 1], 64), ([3, 1, 1, 1, 1, 1], 21), ([2, 2, 2, 2], 14), ([2, 2, 2, 1, 1], 28), ([2, 2, 1, 1, 1, 1], 20), ([2, 1, 1, 1, 1, 1, 1], 7), ([1, 1, 1, 1, 1, 1, 1, 1], 1)]), ([3, 1, 1, 1, 1, 1], [([8], 1), ([7, 1], 4), ([6, 2], 5), ([6, 1, 1], 6), ([5, 3], 1), ([5, 2, 1], 4), ([5, 1, 1, 1], 5), ([4, 4], -1), ([4, 3, 1], -5), ([4, 2, 2], -4), ([4, 2, 1, 1], 0), ([4, 1, 1, 1, 1], 5), ([3, 3, 2], -6), ([3, 3, 1, 1], -4), ([3, 2, 2, 1], -5), ([3, 2, 1, 1, 1], 4), ([3, 1, 1, 1, 1, 1], 6), ([2, 2, 2, 2], -1), ([2, 2, 2, 1, 1], 1), ([2, 2, 1, 1, 1, 1], 5), ([2, 1, 1, 1, 1, 1, 1], 4), ([1, 1, 1, 1, 1, 1, 1, 1], 1)])]
theorem ch8_le : FLe (sp2 ch8) (r_character 9) := (sp2_le (f := mDefX 2 4 [] (b_character (sp2 chs8) f_strips_off)) (by decide +kernel)).trans (le_def (mono_character chs8_le FLe.rfl))
def chs9 := chs8 ++ ch8
theorem chs9_le : FLe (sp2 chs9) (r_character 9) := sp2_app (chs8_le.trans (chr_fuel 8)) ch8_le
theorem chr_le : FLe (sp2 chs9) f_character := chs9_le.trans (chr_fuel 9)
def pcs : List (List Int × Int) := [([], 1), ([1], 1), ([1, 1], 4), ([1, 1, 1], 18), ([3], 18), ([1, 1, 1, 1], 120), ([3, 1], 288), ([1, 1, 1, 1, 1], 840), ([3, 1, 1], 5040), ([5], 4800), ([1, 1, 1, 1, 1, 1], 7920), ([3, 1, 1, 1], 71280), ([1, 1, 1, 1, 1, 1, 1], 75600), ([3, 1, 1, 1, 1], 1164240), ([7], 6350400), ([1, 1, 1, 1, 1, 1, 1, 1], 887040), ([3, 1, 1, 1, 1, 1], 18627840)]
theorem pcs_le : FLe (sp1 pcs) f_pair_count := (sp1_le (f := mDefX 1 4 [] (b_pair_count (sp2 chs9) f_all_parts f_class_size)) (by decide +kernel)).trans (le_def (mono_pair_count chr_le FLe.rfl FLe.rfl))
theorem kept_le : FLe (mDefX 2 2 [1] (b_kept_pairs (sp1 pcs))) f_kept_pairs := le_def (mono_kept_pairs pcs_le)
def r_joined (k : FX) : Nat → FX
  | 0 => fun _ => none
  | n + 1 => mDefX 3 8 [1, 2] (b_joined_from (r_joined k n) k f_taken_parts)
theorem joined_le : ∀ n, FLe (r_joined (mDefX 2 2 [1] (b_kept_pairs (sp1 pcs))) n) (r_joined_from n)
  | 0 => fun _ _ h => by cases h
  | n + 1 => le_def (mono_joined_from (joined_le n) kept_le FLe.rfl)
def jcs : List (List Int × Int) := [([1], 1), ([1, 1], 3), ([1, 1, 1], 8), ([3], 18), ([1, 1, 1, 1], 42), ([3, 1], 216), ([1, 1, 1, 1, 1], 144), ([3, 1, 1], 3240), ([5], 4800), ([1, 1, 1, 1, 1, 1], 1440), ([3, 1, 1, 1], 32400), ([1, 1, 1, 1, 1, 1, 1], 5760), ([3, 1, 1, 1, 1], 453600), ([7], 6350400), ([1, 1, 1, 1, 1, 1, 1, 1], 75600), ([3, 1, 1, 1, 1, 1], 5443200)]
theorem jcs_le : FLe (sp1 jcs) f_joined_count := (sp1_le (f := mDefX 1 1 [] (b_joined_count (r_joined (mDefX 2 2 [1] (b_kept_pairs (sp1 pcs))) 10))) (by decide +kernel)).trans (le_def (mono_joined_count (joined_le 10)))
def f_weight1 : FX := mDefX 1 1 [] (b_weight f_ratio (sp1 jcs))
theorem weight_le : FLe f_weight1 f_weight := le_def (mono_weight FLe.rfl jcs_le)
end P76
set_option Elab.async false
set_option linter.all false
set_option maxRecDepth 100000
set_option maxHeartbeats 4000000
/-! what the laws draw -/
namespace M
open Fx
def stD (L S : Int) (cs : List Int) (p : Int) : D := .dk [(.str s_left, .int L), (.str s_seed, .int S), (.str s_cells, .lst (cs.map .int)), (.str s_spot, .int p)]
@[simp] theorem st_left {L S cs p} : gAt (stD L S cs p) (.str s_left) = some (.sh (.int L)) := by simp [gAt, gDx, D.isK, lookD, stD, D.eqv]
@[simp] theorem st_seed {L S cs p} : gAt (stD L S cs p) (.str s_seed) = some (.sh (.int S)) := by simp [gAt, gDx, D.isK, lookD, stD, D.eqv, s_left, s_seed]
@[simp] theorem st_cells {L S cs p} : gAt (stD L S cs p) (.str s_cells) = some (.sh (.lst (cs.map .int))) := by simp [gAt, gDx, D.isK, lookD, stD, D.eqv, s_left, s_seed, s_cells]
@[simp] theorem st_spot {L S cs p} : gAt (stD L S cs p) (.str s_spot) = some (.sh (.int p)) := by simp [gAt, gDx, D.isK, lookD, stD, D.eqv, s_left, s_seed, s_cells, s_spot]
@[simp] theorem pu_left {L S cs p L'} : putAt (stD L S cs p) (.str s_left) (.int L') = some (stD L' S cs p) := by simp [putAt, D.isK, putD, line, lookD, stD, D.eqv, s_left, s_seed, s_cells, s_spot]
@[simp] theorem pu_spot {L S cs p p'} : putAt (stD L S cs p) (.str s_spot) (.int p') = some (stD L S cs p') := by simp [putAt, D.isK, putD, line, lookD, stD, D.eqv, s_left, s_seed, s_cells, s_spot]
/-- a state of the draws, with so many draws to come -/
def Good (b : Int) (d : D) : Prop := ∃ (L S : Int) (cs : List Int) (p : Int), d = stD L S cs p ∧ cs ≠ [] ∧ cs.length ≤ 1000 ∧ 0 ≤ S ∧ S < 4294967296 ∧ 0 ≤ p ∧ p + b ≤ 1073741824
theorem Good.mono {a b : Int} {d : D} (h : Good b d) (hab : a ≤ b) : Good a d := by
  obtain ⟨L, S, cs, p, h1, h2, h3, h4, h5, h6, h7⟩ := h
  exact ⟨L, S, cs, p, h1, h2, h3, h4, h5, h6, by omega⟩
theorem draw_left {L S n : Int} {cs : List Int} {p : Int} (h : 0 < L) (hn : 0 < n) (hb : n < 18446744073709551616) : f__law_draw [.io 0 (stD L S cs p), .sh (.int n)] = some (.sh (.int (L.fmod n)), [stD (L.fdiv n) S cs p]) := by
  have h1 : n ≠ 0 := by omega
  have h2 : n.natAbs < 18446744073709551616 := by omega
  simp [f__law_draw, b__law_draw, h, sm_mod h1, sm_fdiv h1 h2]
theorem draw_spot {L S n : Int} {cs : List Int} {p : Int} (h : ¬ 0 < L) (hn : 0 < n) (hb : n < 18446744073709551616) (hc : cs ≠ []) (hl : cs.length ≤ 1000) (hS : 0 ≤ S) (hS2 : S < 4294967296) (hp : 0 ≤ p) (hp2 : p < 1073741824) :
    ∃ r, 0 ≤ r ∧ r < n ∧ f__law_draw [.io 0 (stD L S cs p), .sh (.int n)] = some (.sh (.int r), [stD L S cs (p + 1)]) := by
  have h1 : n ≠ 0 := by omega
  have h2 : n.natAbs < 18446744073709551616 := by omega
  have hk : 0 < cs.length := List.length_pos_iff.mpr hc
  have hk1 : (cs.length : Int) ≠ 0 := by omega
  have j0 : 0 ≤ p.fmod cs.length := Int.fmod_nonneg_of_pos p (by omega)
  have j1 : p.fmod cs.length < cs.length := Int.fmod_lt_of_pos p (by omega)
  have hix : ixN cs.length (p.fmod cs.length) = some (p.fmod cs.length).toNat := by
    unfold ixN; rw [if_pos j0, if_pos j1]
  have hget : ∃ c, cs[(p.fmod cs.length).toNat]? = some c := ⟨_, List.getElem?_eq_getElem (by omega)⟩
  obtain ⟨c, hc2⟩ := hget
  have q1 : -big < 40503 * p := by unfold big; omega
  have q2 : 40503 * p < big := by unfold big; omega
  have q3 : -big < 2 * p + 3 := by unfold big; omega
  have q4 : 2 * p + 3 < big := by unfold big; omega
  have b1 : ∀ x : Int, 0 ≤ x.fmod 2147483647 ∧ x.fmod 2147483647 < 2147483647 := fun x => ⟨Int.fmod_nonneg_of_pos x (by decide), Int.fmod_lt_of_pos x (by decide)⟩
  have b2 : ∀ x : Int, 0 ≤ x.fmod 2147483629 ∧ x.fmod 2147483629 < 2147483629 := fun x => ⟨Int.fmod_nonneg_of_pos x (by decide), Int.fmod_lt_of_pos x (by decide)⟩
  have m1 : ∀ x : Int, (-big < x.fmod 2147483647 ∧ x.fmod 2147483647 < big) := fun x => by have := b1 x; unfold big; omega
  have m2 : ∀ y : Int, (-big < y.fmod 2147483629 ∧ y.fmod 2147483629 < big) := fun y => by have := b2 y; unfold big; omega
  have m3 : (-big < (40503 : Int) ∧ (40503 : Int) < big) := by decide
  have m4 : (-big < (2 : Int) ∧ (2 : Int) < big) := by decide
  have m5 : (-big < (69621 : Int) ∧ (69621 : Int) < big) := by decide
  have m6 : (-big < (48271 : Int) ∧ (48271 : Int) < big) := by decide
  refine ⟨((((((c * (2 * p + 3) + (S + 40503 * p * p)).fmod 2147483647 * (c * (2 * p + 3) + (S + 40503 * p * p)).fmod 2147483647 + 69621 * p + S).fmod 2147483629) * 48271 + p).fmod 2147483647).fdiv 11).fmod n, Int.fmod_nonneg_of_pos _ hn, Int.fmod_lt_of_pos _ hn, ?_⟩
  simp [f__law_draw, b__law_draw, h, sm_mod h1, sm_mod hk1, sm_mod, hix, hc2, q1, q2, q3, q4, m1, m2, m3, m4, m5, m6, sm_fdiv, List.getElem?_map]
/-- a draw -/
theorem draw {b n : Int} {d : D} (g : Good (b + 1) d) (hn : 0 < n) (hb : n < 18446744073709551616) (b0 : 0 ≤ b) : ∃ r d', 0 ≤ r ∧ r < n ∧ f__law_draw [.io 0 d, .sh (.int n)] = some (.sh (.int r), [d']) ∧ Good b d' := by
  obtain ⟨L, S, cs, p, rfl, h2, h3, h4, h5, h6, h7⟩ := g
  by_cases h : 0 < L
  · exact ⟨_, _, Int.fmod_nonneg_of_pos _ hn, Int.fmod_lt_of_pos _ hn, draw_left h hn hb, _, _, _, _, rfl, h2, h3, h4, h5, h6, by omega⟩
  · obtain ⟨r, r1, r2, r3⟩ := draw_spot (L := L) (S := S) (cs := cs) (p := p) h hn hb h2 h3 h4 h5 h6 (by omega)
    exact ⟨r, _, r1, r2, r3, _, _, _, _, rfl, h2, h3, h4, h5, by omega, by omega⟩
theorem cut_map (ns : List Int) (lo hi : Option Int) : cutL (ns.map D.int) lo hi = (cutL ns lo hi).map D.int := by
  simp [cutL, List.map_drop, List.map_take]
theorem cut_len (ns : List Int) (lo hi : Option Int) : (cutL ns lo hi).length ≤ ns.length := by
  simp [cutL]; omega
theorem fine_ints (l : List Int) : D.fineL (l.map .int) = true := by
  induction l with
  | nil => rfl
  | cons a l ih => simp [D.fineL, D.fine, ih]
theorem depth_ints (l : List Int) : D.depthL (l.map .int) = 0 := by
  induction l with
  | nil => rfl
  | cons a l ih => simp [D.depthL, D.depth, ih]
theorem ok_lints (l : List Int) : (D.lst (l.map .int)).ok = true := by simp [D.ok, D.fine, fine_ints, D.depth, depth_ints]
theorem ok_tints (l : List Int) : (D.tup (l.map .int)).ok = true := by simp [D.ok, D.fine, fine_ints, D.depth, depth_ints]
/-- the seed's loop -/
theorem seeds (F G : Sl) (cs gs : List Int) (s0 : Int) (h0 : 0 ≤ s0) (h1 : s0 < 4294967296) (v0 : Sl) (hv : v0 = .un) : ∃ s v, 0 ≤ s ∧ s < 4294967296 ∧ forGo (.nm 5) [] (sSet 4 (eOp2 gMod (eOp1 gInt (eOp2 gAdd (eOp2 gMul (eVar 4) (eInt 48271)) (eVar 5))) (eInt 2147483647))) (cs.map .int) [F, G, .sh (.lst (cs.map .int)), .own (.lst (gs.map .int)), .sh (.int s0), v0] = some (.nx, [F, G, .sh (.lst (cs.map .int)), .own (.lst (gs.map .int)), .sh (.int s), v]) := by
  have key := forGo_ind (tg := .nm 5) (ws := []) (body := sSet 4 (eOp2 gMod (eOp1 gInt (eOp2 gAdd (eOp2 gMul (eVar 4) (eInt 48271)) (eVar 5))) (eInt 2147483647))) (fun l e => ∃ (xs : List Int) (s : Int) (v : Sl), l = xs.map .int ∧ (v = .un ∨ ∃ d, v = .sh d) ∧ 0 ≤ s ∧ s < 4294967296 ∧ e = [F, G, .sh (.lst (cs.map .int)), .own (.lst (gs.map .int)), .sh (.int s), v]) ?_ (cs.map .int) [F, G, .sh (.lst (cs.map .int)), .own (.lst (gs.map .int)), .sh (.int s0), v0] ⟨cs, s0, v0, rfl, .inl hv, h0, h1, rfl⟩
  · obtain ⟨e', k1, xs, s, v, k2, k3, k4, k5, k6⟩ := key
    exact ⟨s, v, k4, k5, by rw [k1, k6]⟩
  · rintro x l e ⟨xs, s, v, e1, hv, g0, g1, rfl⟩
    cases xs with
    | nil => cases e1
    | cons c xs =>
      cases e1
      have m6 : (-big < (48271 : Int) ∧ (48271 : Int) < big) := by decide
      refine ⟨[F, G, .sh (.lst (cs.map .int)), .own (.lst (gs.map .int)), .sh (.int s), .sh (.int c)], ?_, .nx, [F, G, .sh (.lst (cs.map .int)), .own (.lst (gs.map .int)), .sh (.int ((s * 48271 + c).fmod 2147483647)), .sh (.int c)], ?_, .inl rfl, xs, (s * 48271 + c).fmod 2147483647, .sh (.int c), rfl, .inr ⟨_, rfl⟩, Int.fmod_nonneg_of_pos _ (by decide), Int.lt_trans (Int.fmod_lt_of_pos _ (by decide)) (by decide), rfl⟩
      · rcases hv with rfl | ⟨d, rfl⟩ <;> simp
      · simp [m6, sm_mod]
/-- a turn's state begun -/
theorem begun (ns : List Int) (hl : ns.length ≤ 63) (k : Int) (h0 : 0 ≤ k) (h1 : k ≤ 1000) : ∃ d, Good 1000000 d ∧ f__law_begun [.sh (.fl (ns.map .int)), .sh (.int k)] = some (.own d, []) := by
  obtain ⟨cs, hcs⟩ : ∃ cs, cs = cutL ns (some k) none ++ cutL ns none (some k) := ⟨_, rfl⟩
  have hlen : cs.length ≤ 126 := by
    have := cut_len ns (some k) none; have := cut_len ns none (some k)
    rw [hcs, List.length_append]; omega
  have c1 : (cutL ns (some k) none).length + (cutL ns none (some k)).length ≤ 16777216 := by
    have := cut_len ns (some k) none; have := cut_len ns none (some k); omega
  have hap : List.map D.int (cutL ns (some k) none) ++ List.map D.int (cutL ns none (some k)) = cs.map .int := by rw [hcs, List.map_append]
  obtain ⟨gs, hgs⟩ : ∃ gs : List Int, gs = cs.filter fun c => decide ((10 : Int) ^ 18 ≤ c) := ⟨_, rfl⟩
  have hgl : gs.length ≤ 126 := by rw [hgs]; exact Nat.le_trans (List.length_filter_le _ _) hlen
  have hgo : lcGo (.nm 5) (tst (eOp2 gGe (eVar 5) (eOp2 gPow (eInt 10) (eInt 18)))) (eVar 5) [.sh (.fl (ns.map .int)), .sh (.int k), .own (.lst (cs.map .int)), .un, .un, .un] (cs.map .int) = some (gs.map .int) := by
    rw [lcGo_map (fun d => match d with | .int c => decide ((10 : Int) ^ 18 ≤ c) | _ => false) id]
    · rw [hgs, List.map_id, List.filter_map]; rfl
    · intro x hx
      obtain ⟨c, hc, rfl⟩ := List.mem_map.mp hx
      refine ⟨[.sh (.fl (ns.map .int)), .sh (.int k), .own (.lst (cs.map .int)), .un, .un, .sh (.int c)], by simp, ?_, fun _ => ⟨.sh (.int c), by simp, rfl⟩⟩
      simp [gPow, gI]
  obtain ⟨S, v, hS0, hS1, hfor⟩ := seeds (.sh (.fl (ns.map .int))) (.sh (.int k)) cs gs (71 + k) (by omega) (by omega) .un rfl
  have m7 : (-big < (53 : Int) ∧ (53 : Int) < big) := by decide
  refine ⟨stD (gs.headD 0) S (cs ++ [53 * k + 11]) 0, ⟨gs.headD 0, S, _, 0, rfl, by simp, by simp; omega, hS0, hS1, by decide, by decide⟩, ?_⟩
  have c2 : cs.length ≤ 16777215 := by omega
  have okE : (D.lst []).ok = true := by decide
  have hg2 : gNe (.lst (gs.map .int)) (.lst []) = some (.sh (.bl (!gs.isEmpty))) := by
    unfold gNe
    rw [ok_lints, okE]
    cases gs <;> rfl
  cases gs with
  | nil =>
    simp only [List.map_nil] at hfor hgo hg2
    simp [f__law_begun, b__law_begun, cut_map, c1, hap, sm_lc, hgo, hfor, m7, c2, hg2]
    simp [D.isK, putAll, putD, lookD, D.eqv, stD, s_left, s_seed, s_cells, s_spot]
  | cons g gs =>
    have hz : (gs.length + 1 : Nat) < 16777216 := by simp at hgl; omega
    simp only [List.map_cons] at hfor hgo hg2
    have hz2 : gs.length + 1 < 16777216 := by simp at hgl; omega
    have hz3 : ixN (gs.length + 1) 0 = some 0 := by simp [ixN]
    simp [f__law_begun, b__law_begun, cut_map, c1, hap, sm_lc, hgo, hfor, m7, c2, hz2, hz3, hg2]

    simp [D.isK, putAll, putD, lookD, D.eqv, stD, s_left, s_seed, s_cells, s_spot]
end M
set_option Elab.async false
set_option linter.all false
set_option maxRecDepth 1000000
set_option maxHeartbeats 0
/-! k76: the plain law. -/
namespace P76
open Fx M
def rest (f_flats f_weight f_joined_count : FX) : MS := (sSeq (sFz 3 (sSet 4 (eCall (pureF f__law_ratio) [(eCall (pureF f__law_divisors) [(eVar 3)]), (eVar 3)]))) (sSeq (sFz 3 (sFz 4 (sIfM (tNotM (tst (eCall (pureF f__law_like) [(eLst [(eCall (pureF f_weight) [(eOp2 gMul (eTup [(eInt 1)]) (eVar 3))]), (eOp1 gLen (eCall (pureF f_flats) [(eVar 3)]))]), (eLst [(eVar 4), (eCall (pureF f__law_divisors) [(eVar 3)])])]))) (sRet (eBl false)) sPass))) (sSeq (sIfM (tst (eOp2 gGt (eVar 3) (eInt 2))) (sSeq (sSet 5 (eInt 0)) (sSeq (sFor (iRange2 (eInt 1) (eOp2 gAdd (eVar 3) (eInt 1))) (.nm 6) (sIfM (tst (eOp2 gEq (eOp2 gMod (eOp1 gInt (eVar 3)) (eVar 6)) (eInt 0))) (sSet 5 (eOp2 gAdd (eVar 5) (eOp2 gMul (eCall (pureF f__law_divisors) [(eVar 6)]) (eCall (pureF f__law_tight) [(eOp2 gFdiv (eVar 3) (eVar 6))])))) sPass) []) (sSeq (sSet 7 (eOp2 gAdd (eTup [(eInt 3)]) (eOp2 gMul (eTup [(eInt 1)]) (eOp2 gSub (eVar 3) (eInt 3))))) (sFz 3 (sFz 5 (sFz 7 (sIfM (tNotM (tst (eCall (pureF f__law_like) [(eLst [(eCall (pureF f_weight) [(eVar 7)]), (eCall (pureF f_joined_count) [(eVar 7)])]), (eLst [(eTup [(eVar 5), (eInt 1)]), (eOp2 gMul (eVar 5) (eCall (pureF f__law_factorial) [(eVar 3)]))])]))) (sRet (eBl false)) sPass))))))) sPass) (sIfM (tst (eOp2 gEq (eOp2 gMod (eOp1 gInt (eVar 3)) (eInt 2)) (eInt 1))) (sSeq (sFz 3 (sSet 4 (eCall (pureF f__law_ratio) [(eOp2 gMul (eInt 2) (eCall (pureF f__law_factorial) [(eVar 3)])), (eOp2 gAdd (eVar 3) (eInt 1))]))) (sFz 3 (sFz 4 (sIfM (tNotM (tst (eCall (pureF f__law_like) [(eCall (pureF f_weight) [(eTup [(eVar 3)])]), (eVar 4)]))) (sRet (eBl false)) sPass)))) sPass))))
theorem mono_rest {f_flats g_flats f_weight g_weight f_joined_count g_joined_count : FX} (h_flats : FLe f_flats g_flats) (h_weight : FLe f_weight g_weight) (h_joined : FLe f_joined_count g_joined_count) : MLe (rest f_flats f_weight f_joined_count) (rest g_flats g_weight g_joined_count) := by
  unfold rest
  repeat' (first | assumption | with_reducible exact MLe.rfl | with_reducible exact FLe.rfl | exact LeL.nil | exact LeS.nil | exact LeG.nil | with_reducible apply LeL.cons | apply LeS.one | apply LeS.star | apply LeG.val | apply LeG.own | apply LeG.io | with_reducible apply le_op1 | with_reducible apply le_op2 | with_reducible apply le_tst | with_reducible apply le_if | with_reducible apply le_and | with_reducible apply le_or | with_reducible apply le_not | with_reducible apply le_chain | with_reducible apply le_tup | with_reducible apply le_lst | with_reducible apply le_call | with_reducible apply le_part | with_reducible apply le_cut | with_reducible apply le_tupS | with_reducible apply le_get | with_reducible apply le_seq | with_reducible apply le_seqZ | with_reducible apply le_range1 | with_reducible apply le_range2 | with_reducible apply le_rev | with_reducible apply le_enum | with_reducible apply le_enumZ | with_reducible apply le_lc | with_reducible apply le_sSeq | with_reducible apply le_sSet | with_reducible apply le_sPar | with_reducible apply le_sUnpack | with_reducible apply le_sIf | with_reducible apply le_sRet | with_reducible apply le_sFz | with_reducible apply le_sAppend | with_reducible apply le_sExtend | with_reducible apply le_sPut | with_reducible apply le_sAug | with_reducible apply le_sFor | with_reducible apply le_sWhile | with_reducible apply le_xP | with_reducible apply le_xOp1 | with_reducible apply le_xOp2 | with_reducible apply le_xCall | with_reducible apply le_xSet | with_reducible apply le_xRet | with_reducible apply le_xPar | with_reducible apply le_xAug)
def isNx (r : Fl × Env) : Bool × Env := (match r.1 with | .nx => true | _ => false, wipeM [1, 2, 3, 4, 5, 6, 7] r.2)

theorem rest1 (x y z : D) : (rest f_flats f_weight1 (sp1 jcs) [.sh x, .sh y, .own z, .sh (.int 1), .un, .un, .un, .un]).map isNx = some (true, [.sh x, .un, .un, .un, .un, .un, .un, .un]) := by kernel_rfl
theorem rest2 (x y z : D) : (rest f_flats f_weight1 (sp1 jcs) [.sh x, .sh y, .own z, .sh (.int 2), .un, .un, .un, .un]).map isNx = some (true, [.sh x, .un, .un, .un, .un, .un, .un, .un]) := by kernel_rfl
theorem rest3 (x y z : D) : (rest f_flats f_weight1 (sp1 jcs) [.sh x, .sh y, .own z, .sh (.int 3), .un, .un, .un, .un]).map isNx = some (true, [.sh x, .un, .un, .un, .un, .un, .un, .un]) := by kernel_rfl
theorem rest4 (x y z : D) : (rest f_flats f_weight1 (sp1 jcs) [.sh x, .sh y, .own z, .sh (.int 4), .un, .un, .un, .un]).map isNx = some (true, [.sh x, .un, .un, .un, .un, .un, .un, .un]) := by kernel_rfl
theorem rest5 (x y z : D) : (rest f_flats f_weight1 (sp1 jcs) [.sh x, .sh y, .own z, .sh (.int 5), .un, .un, .un, .un]).map isNx = some (true, [.sh x, .un, .un, .un, .un, .un, .un, .un]) := by kernel_rfl
theorem rest6 (x y z : D) : (rest f_flats f_weight1 (sp1 jcs) [.sh x, .sh y, .own z, .sh (.int 6), .un, .un, .un, .un]).map isNx = some (true, [.sh x, .un, .un, .un, .un, .un, .un, .un]) := by kernel_rfl
theorem rest7 (x y z : D) : (rest f_flats f_weight1 (sp1 jcs) [.sh x, .sh y, .own z, .sh (.int 7), .un, .un, .un, .un]).map isNx = some (true, [.sh x, .un, .un, .un, .un, .un, .un, .un]) := by kernel_rfl
theorem rest8 (x y z : D) : (rest f_flats f_weight1 (sp1 jcs) [.sh x, .sh y, .own z, .sh (.int 8), .un, .un, .un, .un]).map isNx = some (true, [.sh x, .un, .un, .un, .un, .un, .un, .un]) := by kernel_rfl
theorem rest_all (n : Int) (h0 : 1 ≤ n) (h1 : n ≤ 8) (x y z : D) : ∃ e, rest f_flats f_weight f_joined_count [.sh x, .sh y, .own z, .sh (.int n), .un, .un, .un, .un] = some (.nx, e) ∧ wipeM [1, 2, 3, 4, 5, 6, 7] e = [.sh x, .un, .un, .un, .un, .un, .un, .un] := by
  have key : (rest f_flats f_weight1 (sp1 jcs) [.sh x, .sh y, .own z, .sh (.int n), .un, .un, .un, .un]).map isNx = some (true, [.sh x, .un, .un, .un, .un, .un, .un, .un]) := by
    rcases (by omega : n = 1 ∨ n = 2 ∨ n = 3 ∨ n = 4 ∨ n = 5 ∨ n = 6 ∨ n = 7 ∨ n = 8) with rfl | rfl | rfl | rfl | rfl | rfl | rfl | rfl
    · exact rest1 x y z
    · exact rest2 x y z
    · exact rest3 x y z
    · exact rest4 x y z
    · exact rest5 x y z
    · exact rest6 x y z
    · exact rest7 x y z
    · exact rest8 x y z
  obtain ⟨⟨f, e⟩, k1, k2⟩ := Option.map_eq_some_iff.mp key
  have k3 := mono_rest FLe.rfl weight_le jcs_le _ _ k1
  have k4 := congrArg Prod.fst k2
  have k5 := congrArg Prod.snd k2
  cases f <;> first | (exact ⟨e, k3, k5⟩) | cases k4
theorem plain (ns : List Int) (hl : ns.length ≤ 63) : f_law [.sh (.fl (ns.map .int))] = some (.sh (.bl true), []) := by
  have key := forGo_ind (tg := .nm 1) (ws := [1, 2, 3, 4, 5, 6, 7]) (body := sSeq (sSet 2 (eCall (pureF f__law_begun) [(eVar 0), (eVar 1)])) (sSeq (xSet 3 (xOp2 gAdd (xP (eInt 1)) (xCall f__law_draw [.io 2, .val (xP (eInt 8))]))) (rest f_flats f_weight f_joined_count))) (fun l e => (∀ d ∈ l, ∃ i : Int, d = .int i ∧ 0 ≤ i ∧ i ≤ 1000) ∧ e = [.sh (.fl (ns.map .int)), .un, .un, .un, .un, .un, .un, .un]) ?_ (rangeD 0 (1 + (if (ns.length : Int) < 3 then (ns.length : Int) else 3))) [.sh (.fl (ns.map .int)), .un, .un, .un, .un, .un, .un, .un] ⟨?_, rfl⟩
  · obtain ⟨e', k1, _, k2⟩ := key
    have k3 : okR (1 + (if (ns.length : Int) < 3 then (ns.length : Int) else 3)) = true := by
      unfold okR small; simp; omega
    have k4 : b_law f__law_begun f__law_draw f__law_ratio f__law_divisors f__law_like f_flats f_weight f__law_tight f__law_factorial f_joined_count [.sh (.fl (ns.map .int)), .un, .un, .un, .un, .un, .un, .un] = some (.rt (.sh (.bl true)), e') := by
      unfold b_law
      unfold rest at k1
      have e1 : iRange1 (eOp2 gAdd (eInt 1) (eOp2 gMin2 (eInt 3) (eOp1 gLen (eVar 0)))) [.sh (.fl (ns.map .int)), .un, .un, .un, .un, .un, .un, .un] = some (rangeD 0 (1 + (if (ns.length : Int) < 3 then (ns.length : Int) else 3))) := by
        simp only [sm_range1, sm_op2, sm_eC, op2K1, sm_op1, sm_var, List.getElem?_cons_zero, vk1, sm_lenF, sm_min2, sm_add, r1K1, List.length_map, k3, if_true]
      simp only [sm_sSeq, sm_sFor, e1, forK1, k1, seqK1, sm_sRet, sm_eC, retK1]
    simp [f_law, k4]
  · rintro x l e ⟨h, rfl⟩
    obtain ⟨i, rfl, i0, i1⟩ := h x List.mem_cons_self
    obtain ⟨d, g, hd⟩ := begun ns hl i i0 i1
    obtain ⟨r, d', r0, r1, hr, g'⟩ := draw (b := 999999) (n := 8) (d := d) g (by decide) (by decide) (by decide)
    obtain ⟨e2, q1, q2⟩ := rest_all (1 + r) (by omega) (by omega) (.fl (ns.map .int)) (.int i) d'
    have hp : pureF f__law_begun [.fl (ns.map .int), .int i] = some (.own d) := by
      unfold pureF; simp [hd]
    refine ⟨[.sh (.fl (ns.map .int)), .sh (.int i), .un, .un, .un, .un, .un, .un], by simp, .nx, e2, ?_, .inl rfl, fun d hd => h d (List.mem_cons_of_mem _ hd), q2⟩
    simp [hp, hr, q1]
  · intro d hd
    obtain ⟨k, hk, rfl⟩ := List.mem_map.mp hd
    rw [List.mem_range] at hk
    exact ⟨_, rfl, by omega, by split at hk <;> omega⟩
end P76
set_option Elab.async false
set_option linter.all false
set_option maxRecDepth 100000
set_option maxHeartbeats 0
namespace S
open PySem PySem.Spec PyProof.Rows L2 Fx M
/-- the law's def, with its address and its data named -/
theorem fng_law {P : Program} {w : World} {K : PySem.W.Frag} {mg : Str → Option Value} {base : Heap} {k : Nat} {x : Str} {params : Arguments} {body : List Stmt} {scope : Scope} {f : Addr} {fd : FuncData} {N ps : List Str} {np ns : Nat} {ios : List Nat} {m : MS} (F : FunD K x x params body scope [] [] f fd) (S : FnScope N ps scope) (hp : ps.length = np) (hn : N.length = ns)
    (hbody : ∀ (cdv : Value) (A : Around) (outer : List PySem.Env) (s : Shared) (H : Hp) (E : XK) (B : Bs), Rm k (cxOf L2.CX0 P w K mg base N x scope f cdv A outer s H E).nox → SimSs (cxOf L2.CX0 P w K mg base N x scope f cdv A outer s H E).nox B body m) : FnG P w K mg base L2.CX0 (k + 1) f fd ps (spX ⟨K, P, w⟩ (mDefX np ns ios m) np) := by
  obtain ⟨oc, od, dV, kV, doc, pm, an, cdv, ct, osl, e, lk, hcd, _, _⟩ := F.ex
  subst e
  exact fng_mir lk hcd S hp hn fun A outer s H E B hr hg => PSs.nox (hbody cdv A outer s H E B ⟨hr, hg⟩)
end S

namespace S
open PySem PySem.Spec PyProof.Rows L2 Fx M
theorem mkD {K : PySem.W.Frag} {x : Str} {st : Stmt} {f : Addr} {od an : Option Addr} {sl : Array (Option Value)} {oc kV dc pm cd ct : Value}
    (l : K.lookup f = some ⟨oc, od, .func (PySem.W.fnOf x x (defArgs st) (defBody st) (defScope st) .none kV dc pm an cd ct), sl⟩) (c : PySem.W.codeIn K cd x = true) (k : PySem.W.keepIn K (.ref f) = true) : FunD K x x (defArgs st) (defBody st) (defScope st) [] [] f (PySem.W.fnOf x x (defArgs st) (defBody st) (defScope st) .none kV dc pm an cd ct) :=
  ⟨⟨oc, od, .none, kV, dc, pm, an, cd, ct, sl, rfl, l, c, .inl ⟨rfl, rfl⟩, .inl rfl⟩, k⟩
set_option maxHeartbeats 0 in
theorem all_mk {P : Program} {w : World} {K : PySem.W.Frag} {h : Heap} {mg : Str → Option Value} {fa : Addr} (X : K.In h) (G : h.Ns mainGlobals mg) (hfa : mg "law" = some (.ref fa))
    {f0 : Addr} {od0 an0 : Option Addr} {sl0 : Array (Option Value)} {oc0 kV0 dc0 pm0 cd0 ct0 : Value}
    (a0 : PySem.W.nsIn K mainGlobals "ratio" = some (some (.ref f0))) (l0 : K.lookup f0 = some ⟨oc0, od0, .func (PySem.W.fnOf "ratio" "ratio" (defArgs (top 2)) (defBody (top 2)) (defScope (top 2)) .none kV0 dc0 pm0 an0 cd0 ct0), sl0⟩) (c0 : PySem.W.codeIn K cd0 "ratio" = true) (k0 : PySem.W.keepIn K (.ref f0) = true)
    {f1 : Addr} {od1 an1 : Option Addr} {sl1 : Array (Option Value)} {oc1 kV1 dc1 pm1 cd1 ct1 : Value}
    (a1 : PySem.W.nsIn K mainGlobals "parts_up_to" = some (some (.ref f1))) (l1 : K.lookup f1 = some ⟨oc1, od1, .func (PySem.W.fnOf "parts_up_to" "parts_up_to" (defArgs (top 4)) (defBody (top 4)) (defScope (top 4)) .none kV1 dc1 pm1 an1 cd1 ct1), sl1⟩) (c1 : PySem.W.codeIn K cd1 "parts_up_to" = true) (k1 : PySem.W.keepIn K (.ref f1) = true)
    {f2 : Addr} {od2 an2 : Option Addr} {sl2 : Array (Option Value)} {oc2 kV2 dc2 pm2 cd2 ct2 : Value}
    (a2 : PySem.W.nsIn K mainGlobals "all_parts" = some (some (.ref f2))) (l2 : K.lookup f2 = some ⟨oc2, od2, .func (PySem.W.fnOf "all_parts" "all_parts" (defArgs (top 5)) (defBody (top 5)) (defScope (top 5)) .none kV2 dc2 pm2 an2 cd2 ct2), sl2⟩) (c2 : PySem.W.codeIn K cd2 "all_parts" = true) (k2 : PySem.W.keepIn K (.ref f2) = true)
    {f3 : Addr} {od3 an3 : Option Addr} {sl3 : Array (Option Value)} {oc3 kV3 dc3 pm3 cd3 ct3 : Value}
    (a3 : PySem.W.nsIn K mainGlobals "class_size" = some (some (.ref f3))) (l3 : K.lookup f3 = some ⟨oc3, od3, .func (PySem.W.fnOf "class_size" "class_size" (defArgs (top 6)) (defBody (top 6)) (defScope (top 6)) .none kV3 dc3 pm3 an3 cd3 ct3), sl3⟩) (c3 : PySem.W.codeIn K cd3 "class_size" = true) (k3 : PySem.W.keepIn K (.ref f3) = true)
    {f4 : Addr} {od4 an4 : Option Addr} {sl4 : Array (Option Value)} {oc4 kV4 dc4 pm4 cd4 ct4 : Value}
    (a4 : PySem.W.nsIn K mainGlobals "heads" = some (some (.ref f4))) (l4 : K.lookup f4 = some ⟨oc4, od4, .func (PySem.W.fnOf "heads" "heads" (defArgs (top 7)) (defBody (top 7)) (defScope (top 7)) .none kV4 dc4 pm4 an4 cd4 ct4), sl4⟩) (c4 : PySem.W.codeIn K cd4 "heads" = true) (k4 : PySem.W.keepIn K (.ref f4) = true)
    {f5 : Addr} {od5 an5 : Option Addr} {sl5 : Array (Option Value)} {oc5 kV5 dc5 pm5 cd5 ct5 : Value}
    (a5 : PySem.W.nsIn K mainGlobals "strips_off" = some (some (.ref f5))) (l5 : K.lookup f5 = some ⟨oc5, od5, .func (PySem.W.fnOf "strips_off" "strips_off" (defArgs (top 8)) (defBody (top 8)) (defScope (top 8)) .none kV5 dc5 pm5 an5 cd5 ct5), sl5⟩) (c5 : PySem.W.codeIn K cd5 "strips_off" = true) (k5 : PySem.W.keepIn K (.ref f5) = true)
    {f6 : Addr} {od6 an6 : Option Addr} {sl6 : Array (Option Value)} {oc6 kV6 dc6 pm6 cd6 ct6 : Value}
    (a6 : PySem.W.nsIn K mainGlobals "character" = some (some (.ref f6))) (l6 : K.lookup f6 = some ⟨oc6, od6, .func (PySem.W.fnOf "character" "character" (defArgs (top 9)) (defBody (top 9)) (defScope (top 9)) .none kV6 dc6 pm6 an6 cd6 ct6), sl6⟩) (c6 : PySem.W.codeIn K cd6 "character" = true) (k6 : PySem.W.keepIn K (.ref f6) = true)
    {f7 : Addr} {od7 an7 : Option Addr} {sl7 : Array (Option Value)} {oc7 kV7 dc7 pm7 cd7 ct7 : Value}
    (a7 : PySem.W.nsIn K mainGlobals "pair_count" = some (some (.ref f7))) (l7 : K.lookup f7 = some ⟨oc7, od7, .func (PySem.W.fnOf "pair_count" "pair_count" (defArgs (top 10)) (defBody (top 10)) (defScope (top 10)) .none kV7 dc7 pm7 an7 cd7 ct7), sl7⟩) (c7 : PySem.W.codeIn K cd7 "pair_count" = true) (k7 : PySem.W.keepIn K (.ref f7) = true)
    {f8 : Addr} {od8 an8 : Option Addr} {sl8 : Array (Option Value)} {oc8 kV8 dc8 pm8 cd8 ct8 : Value}
    (a8 : PySem.W.nsIn K mainGlobals "taken_parts" = some (some (.ref f8))) (l8 : K.lookup f8 = some ⟨oc8, od8, .func (PySem.W.fnOf "taken_parts" "taken_parts" (defArgs (top 11)) (defBody (top 11)) (defScope (top 11)) .none kV8 dc8 pm8 an8 cd8 ct8), sl8⟩) (c8 : PySem.W.codeIn K cd8 "taken_parts" = true) (k8 : PySem.W.keepIn K (.ref f8) = true)
    {f9 : Addr} {od9 an9 : Option Addr} {sl9 : Array (Option Value)} {oc9 kV9 dc9 pm9 cd9 ct9 : Value}
    (a9 : PySem.W.nsIn K mainGlobals "kept_pairs" = some (some (.ref f9))) (l9 : K.lookup f9 = some ⟨oc9, od9, .func (PySem.W.fnOf "kept_pairs" "kept_pairs" (defArgs (top 12)) (defBody (top 12)) (defScope (top 12)) .none kV9 dc9 pm9 an9 cd9 ct9), sl9⟩) (c9 : PySem.W.codeIn K cd9 "kept_pairs" = true) (k9 : PySem.W.keepIn K (.ref f9) = true)
    {f10 : Addr} {od10 an10 : Option Addr} {sl10 : Array (Option Value)} {oc10 kV10 dc10 pm10 cd10 ct10 : Value}
    (a10 : PySem.W.nsIn K mainGlobals "joined_from" = some (some (.ref f10))) (l10 : K.lookup f10 = some ⟨oc10, od10, .func (PySem.W.fnOf "joined_from" "joined_from" (defArgs (top 13)) (defBody (top 13)) (defScope (top 13)) .none kV10 dc10 pm10 an10 cd10 ct10), sl10⟩) (c10 : PySem.W.codeIn K cd10 "joined_from" = true) (k10 : PySem.W.keepIn K (.ref f10) = true)
    {f11 : Addr} {od11 an11 : Option Addr} {sl11 : Array (Option Value)} {oc11 kV11 dc11 pm11 cd11 ct11 : Value}
    (a11 : PySem.W.nsIn K mainGlobals "joined_count" = some (some (.ref f11))) (l11 : K.lookup f11 = some ⟨oc11, od11, .func (PySem.W.fnOf "joined_count" "joined_count" (defArgs (top 14)) (defBody (top 14)) (defScope (top 14)) .none kV11 dc11 pm11 an11 cd11 ct11), sl11⟩) (c11 : PySem.W.codeIn K cd11 "joined_count" = true) (k11 : PySem.W.keepIn K (.ref f11) = true)
    {f12 : Addr} {od12 an12 : Option Addr} {sl12 : Array (Option Value)} {oc12 kV12 dc12 pm12 cd12 ct12 : Value}
    (a12 : PySem.W.nsIn K mainGlobals "weight" = some (some (.ref f12))) (l12 : K.lookup f12 = some ⟨oc12, od12, .func (PySem.W.fnOf "weight" "weight" (defArgs (top 15)) (defBody (top 15)) (defScope (top 15)) .none kV12 dc12 pm12 an12 cd12 ct12), sl12⟩) (c12 : PySem.W.codeIn K cd12 "weight" = true) (k12 : PySem.W.keepIn K (.ref f12) = true)
    {f13 : Addr} {od13 an13 : Option Addr} {sl13 : Array (Option Value)} {oc13 kV13 dc13 pm13 cd13 ct13 : Value}
    (a13 : PySem.W.nsIn K mainGlobals "met_along" = some (some (.ref f13))) (l13 : K.lookup f13 = some ⟨oc13, od13, .func (PySem.W.fnOf "met_along" "met_along" (defArgs (top 17)) (defBody (top 17)) (defScope (top 17)) .none kV13 dc13 pm13 an13 cd13 ct13), sl13⟩) (c13 : PySem.W.codeIn K cd13 "met_along" = true) (k13 : PySem.W.keepIn K (.ref f13) = true)
    {f14 : Addr} {od14 an14 : Option Addr} {sl14 : Array (Option Value)} {oc14 kV14 dc14 pm14 cd14 ct14 : Value}
    (a14 : PySem.W.nsIn K mainGlobals "back_of" = some (some (.ref f14))) (l14 : K.lookup f14 = some ⟨oc14, od14, .func (PySem.W.fnOf "back_of" "back_of" (defArgs (top 18)) (defBody (top 18)) (defScope (top 18)) .none kV14 dc14 pm14 an14 cd14 ct14), sl14⟩) (c14 : PySem.W.codeIn K cd14 "back_of" = true) (k14 : PySem.W.keepIn K (.ref f14) = true)
    {f15 : Addr} {od15 an15 : Option Addr} {sl15 : Array (Option Value)} {oc15 kV15 dc15 pm15 cd15 ct15 : Value}
    (a15 : PySem.W.nsIn K mainGlobals "renamed" = some (some (.ref f15))) (l15 : K.lookup f15 = some ⟨oc15, od15, .func (PySem.W.fnOf "renamed" "renamed" (defArgs (top 19)) (defBody (top 19)) (defScope (top 19)) .none kV15 dc15 pm15 an15 cd15 ct15), sl15⟩) (c15 : PySem.W.codeIn K cd15 "renamed" = true) (k15 : PySem.W.keepIn K (.ref f15) = true)
    {f16 : Addr} {od16 an16 : Option Addr} {sl16 : Array (Option Value)} {oc16 kV16 dc16 pm16 cd16 ct16 : Value}
    (a16 : PySem.W.nsIn K mainGlobals "met_from" = some (some (.ref f16))) (l16 : K.lookup f16 = some ⟨oc16, od16, .func (PySem.W.fnOf "met_from" "met_from" (defArgs (top 20)) (defBody (top 20)) (defScope (top 20)) .none kV16 dc16 pm16 an16 cd16 ct16), sl16⟩) (c16 : PySem.W.codeIn K cd16 "met_from" = true) (k16 : PySem.W.keepIn K (.ref f16) = true)
    {f17 : Addr} {od17 an17 : Option Addr} {sl17 : Array (Option Value)} {oc17 kV17 dc17 pm17 cd17 ct17 : Value}
    (a17 : PySem.W.nsIn K mainGlobals "all_forms" = some (some (.ref f17))) (l17 : K.lookup f17 = some ⟨oc17, od17, .func (PySem.W.fnOf "all_forms" "all_forms" (defArgs (top 21)) (defBody (top 21)) (defScope (top 21)) .none kV17 dc17 pm17 an17 cd17 ct17), sl17⟩) (c17 : PySem.W.codeIn K cd17 "all_forms" = true) (k17 : PySem.W.keepIn K (.ref f17) = true)
    {f18 : Addr} {od18 an18 : Option Addr} {sl18 : Array (Option Value)} {oc18 kV18 dc18 pm18 cd18 ct18 : Value}
    (a18 : PySem.W.nsIn K mainGlobals "least_form" = some (some (.ref f18))) (l18 : K.lookup f18 = some ⟨oc18, od18, .func (PySem.W.fnOf "least_form" "least_form" (defArgs (top 22)) (defBody (top 22)) (defScope (top 22)) .none kV18 dc18 pm18 an18 cd18 ct18), sl18⟩) (c18 : PySem.W.codeIn K cd18 "least_form" = true) (k18 : PySem.W.keepIn K (.ref f18) = true)
    {f19 : Addr} {od19 an19 : Option Addr} {sl19 : Array (Option Value)} {oc19 kV19 dc19 pm19 cd19 ct19 : Value}
    (a19 : PySem.W.nsIn K mainGlobals "flat" = some (some (.ref f19))) (l19 : K.lookup f19 = some ⟨oc19, od19, .func (PySem.W.fnOf "flat" "flat" (defArgs (top 24)) (defBody (top 24)) (defScope (top 24)) .none kV19 dc19 pm19 an19 cd19 ct19), sl19⟩) (c19 : PySem.W.codeIn K cd19 "flat" = true) (k19 : PySem.W.keepIn K (.ref f19) = true)
    {f20 : Addr} {od20 an20 : Option Addr} {sl20 : Array (Option Value)} {oc20 kV20 dc20 pm20 cd20 ct20 : Value}
    (a20 : PySem.W.nsIn K mainGlobals "flats" = some (some (.ref f20))) (l20 : K.lookup f20 = some ⟨oc20, od20, .func (PySem.W.fnOf "flats" "flats" (defArgs (top 25)) (defBody (top 25)) (defScope (top 25)) .none kV20 dc20 pm20 an20 cd20 ct20), sl20⟩) (c20 : PySem.W.codeIn K cd20 "flats" = true) (k20 : PySem.W.keepIn K (.ref f20) = true)
    {f21 : Addr} {od21 an21 : Option Addr} {sl21 : Array (Option Value)} {oc21 kV21 dc21 pm21 cd21 ct21 : Value}
    (a21 : PySem.W.nsIn K mainGlobals "_law_begun" = some (some (.ref f21))) (l21 : K.lookup f21 = some ⟨oc21, od21, .func (PySem.W.fnOf "_law_begun" "_law_begun" (defArgs (top 27)) (defBody (top 27)) (defScope (top 27)) .none kV21 dc21 pm21 an21 cd21 ct21), sl21⟩) (c21 : PySem.W.codeIn K cd21 "_law_begun" = true) (k21 : PySem.W.keepIn K (.ref f21) = true)
    {f22 : Addr} {od22 an22 : Option Addr} {sl22 : Array (Option Value)} {oc22 kV22 dc22 pm22 cd22 ct22 : Value}
    (a22 : PySem.W.nsIn K mainGlobals "_law_draw" = some (some (.ref f22))) (l22 : K.lookup f22 = some ⟨oc22, od22, .func (PySem.W.fnOf "_law_draw" "_law_draw" (defArgs (top 28)) (defBody (top 28)) (defScope (top 28)) .none kV22 dc22 pm22 an22 cd22 ct22), sl22⟩) (c22 : PySem.W.codeIn K cd22 "_law_draw" = true) (k22 : PySem.W.keepIn K (.ref f22) = true)
    {f23 : Addr} {od23 an23 : Option Addr} {sl23 : Array (Option Value)} {oc23 kV23 dc23 pm23 cd23 ct23 : Value}
    (a23 : PySem.W.nsIn K mainGlobals "_law_like" = some (some (.ref f23))) (l23 : K.lookup f23 = some ⟨oc23, od23, .func (PySem.W.fnOf "_law_like" "_law_like" (defArgs (top 29)) (defBody (top 29)) (defScope (top 29)) .none kV23 dc23 pm23 an23 cd23 ct23), sl23⟩) (c23 : PySem.W.codeIn K cd23 "_law_like" = true) (k23 : PySem.W.keepIn K (.ref f23) = true)
    {f24 : Addr} {od24 an24 : Option Addr} {sl24 : Array (Option Value)} {oc24 kV24 dc24 pm24 cd24 ct24 : Value}
    (a24 : PySem.W.nsIn K mainGlobals "_law_ratio" = some (some (.ref f24))) (l24 : K.lookup f24 = some ⟨oc24, od24, .func (PySem.W.fnOf "_law_ratio" "_law_ratio" (defArgs (top 30)) (defBody (top 30)) (defScope (top 30)) .none kV24 dc24 pm24 an24 cd24 ct24), sl24⟩) (c24 : PySem.W.codeIn K cd24 "_law_ratio" = true) (k24 : PySem.W.keepIn K (.ref f24) = true)
    {f25 : Addr} {od25 an25 : Option Addr} {sl25 : Array (Option Value)} {oc25 kV25 dc25 pm25 cd25 ct25 : Value}
    (a25 : PySem.W.nsIn K mainGlobals "_law_factorial" = some (some (.ref f25))) (l25 : K.lookup f25 = some ⟨oc25, od25, .func (PySem.W.fnOf "_law_factorial" "_law_factorial" (defArgs (top 31)) (defBody (top 31)) (defScope (top 31)) .none kV25 dc25 pm25 an25 cd25 ct25), sl25⟩) (c25 : PySem.W.codeIn K cd25 "_law_factorial" = true) (k25 : PySem.W.keepIn K (.ref f25) = true)
    {f26 : Addr} {od26 an26 : Option Addr} {sl26 : Array (Option Value)} {oc26 kV26 dc26 pm26 cd26 ct26 : Value}
    (a26 : PySem.W.nsIn K mainGlobals "_law_divisors" = some (some (.ref f26))) (l26 : K.lookup f26 = some ⟨oc26, od26, .func (PySem.W.fnOf "_law_divisors" "_law_divisors" (defArgs (top 32)) (defBody (top 32)) (defScope (top 32)) .none kV26 dc26 pm26 an26 cd26 ct26), sl26⟩) (c26 : PySem.W.codeIn K cd26 "_law_divisors" = true) (k26 : PySem.W.keepIn K (.ref f26) = true)
    {f27 : Addr} {od27 an27 : Option Addr} {sl27 : Array (Option Value)} {oc27 kV27 dc27 pm27 cd27 ct27 : Value}
    (a27 : PySem.W.nsIn K mainGlobals "_law_tight" = some (some (.ref f27))) (l27 : K.lookup f27 = some ⟨oc27, od27, .func (PySem.W.fnOf "_law_tight" "_law_tight" (defArgs (top 33)) (defBody (top 33)) (defScope (top 33)) .none kV27 dc27 pm27 an27 cd27 ct27), sl27⟩) (c27 : PySem.W.codeIn K cd27 "_law_tight" = true) (k27 : PySem.W.keepIn K (.ref f27) = true)
    {f28 : Addr} {od28 an28 : Option Addr} {sl28 : Array (Option Value)} {oc28 kV28 dc28 pm28 cd28 ct28 : Value}
    (a28 : PySem.W.nsIn K mainGlobals "law" = some (some (.ref f28))) (l28 : K.lookup f28 = some ⟨oc28, od28, .func (PySem.W.fnOf "law" "law" (defArgs (top 34)) (defBody (top 34)) (defScope (top 34)) .none kV28 dc28 pm28 an28 cd28 ct28), sl28⟩) (c28 : PySem.W.codeIn K cd28 "law" = true) (k28 : PySem.W.keepIn K (.ref f28) = true)
    (z0 : PySem.W.nsIn K mainGlobals "abs" = some none)
    (z1 : PySem.W.nsIn K mainGlobals "comb" = some (some (.builtin "math.comb")))
    (z2 : PySem.W.nsIn K mainGlobals "enumerate" = some none)
    (z3 : PySem.W.nsIn K mainGlobals "factorial" = some (some (.builtin "math.factorial")))
    (z4 : PySem.W.nsIn K mainGlobals "gcd" = some (some (.builtin "math.gcd")))
    (z5 : PySem.W.nsIn K mainGlobals "int" = some none)
    (z6 : PySem.W.nsIn K mainGlobals "len" = some none)
    (z7 : PySem.W.nsIn K mainGlobals "list" = some none)
    (z8 : PySem.W.nsIn K mainGlobals "min" = some none)
    (z9 : PySem.W.nsIn K mainGlobals "range" = some none)
    (z10 : PySem.W.nsIn K mainGlobals "repr" = some none)
    (z11 : PySem.W.nsIn K mainGlobals "reversed" = some none)
    (z12 : PySem.W.nsIn K mainGlobals "sorted" = some none)
    (z13 : PySem.W.nsIn K mainGlobals "sum" = some none)
    (z14 : PySem.W.nsIn K mainGlobals "tuple" = some none)
    (plain : ∀ ns : List Int, ns.length ≤ 63 → f_law [.sh (.fl (ns.map .int))] = some (.sh (.bl true), [])) :
    ∃ (fd : FuncData) (sp : Sp), (∀ (s : Shared) (u : Value), BindsTo s fd ⟨[u], []⟩ [("script", u)]) ∧
      (∀ (H : Hp) (a : Addr) (ns : List Int), ns.length ≤ 63 → Only H → SqL K H a (ns.map V.int) → sp [.ref a] H (fun v _ => v = .bl true) fun _ _ _ => False) ∧
      ∀ base : Heap, K.In base → base.Ns mainGlobals mg → FnG P w K mg base L2.CX0 29 fa fd ["script"] sp := by
  have e := hfa.symm.trans (PySem.W.mg_of X G a28)
  cases e
  have gb : Gb mg := ⟨PySem.W.mg_none_of X G z0, PySem.W.mg_of X G z1, PySem.W.mg_none_of X G z2, PySem.W.mg_of X G z3, PySem.W.mg_of X G z4, PySem.W.mg_none_of X G z5, PySem.W.mg_none_of X G z6, PySem.W.mg_none_of X G z7, PySem.W.mg_none_of X G z8, PySem.W.mg_none_of X G z9, PySem.W.mg_none_of X G z10, PySem.W.mg_none_of X G z11, PySem.W.mg_none_of X G z12, PySem.W.mg_none_of X G z13, PySem.W.mg_none_of X G z14⟩
  refine ⟨PySem.W.fnOf "law" "law" (defArgs (top 34)) (defBody (top 34)) (defScope (top 34)) .none kV28 dc28 pm28 an28 cd28 ct28, spX ⟨K, P, w⟩ f_law 1, fun s u => .of_eq rfl, fun H a ns hl _ hS => law_sp (plain ns hl) hS, fun base _ _ => ?_⟩
  have C0 := cal_ratio (P := P) (w := w) (base := base) gb (mkD l0 c0 k0) (PySem.W.mg_of X G a0) 
  have C1 := cal_parts_up_to (P := P) (w := w) (base := base) gb (mkD l1 c1 k1) (PySem.W.mg_of X G a1) 
  have C2 := cal_all_parts (P := P) (w := w) (base := base) gb (mkD l2 c2 k2) (PySem.W.mg_of X G a2) C1
  have C3 := cal_class_size (P := P) (w := w) (base := base) gb (mkD l3 c3 k3) (PySem.W.mg_of X G a3) 
  have C4 := cal_heads (P := P) (w := w) (base := base) gb (mkD l4 c4 k4) (PySem.W.mg_of X G a4) 
  have C5 := cal_strips_off (P := P) (w := w) (base := base) gb (mkD l5 c5 k5) (PySem.W.mg_of X G a5) C4
  have C6 := cal_character (P := P) (w := w) (base := base) gb (mkD l6 c6 k6) (PySem.W.mg_of X G a6) C5
  have C7 := cal_pair_count (P := P) (w := w) (base := base) gb (mkD l7 c7 k7) (PySem.W.mg_of X G a7) C6 C2 C3
  have C8 := cal_taken_parts (P := P) (w := w) (base := base) gb (mkD l8 c8 k8) (PySem.W.mg_of X G a8) 
  have C9 := cal_kept_pairs (P := P) (w := w) (base := base) gb (mkD l9 c9 k9) (PySem.W.mg_of X G a9) C7
  have C10 := cal_joined_from (P := P) (w := w) (base := base) gb (mkD l10 c10 k10) (PySem.W.mg_of X G a10) C9 C8
  have C11 := cal_joined_count (P := P) (w := w) (base := base) gb (mkD l11 c11 k11) (PySem.W.mg_of X G a11) C10
  have C12 := cal_weight (P := P) (w := w) (base := base) gb (mkD l12 c12 k12) (PySem.W.mg_of X G a12) C0 C11
  have C13 := cal_met_along (P := P) (w := w) (base := base) gb (mkD l13 c13 k13) (PySem.W.mg_of X G a13) 
  have C14 := cal_back_of (P := P) (w := w) (base := base) gb (mkD l14 c14 k14) (PySem.W.mg_of X G a14) 
  have C15 := cal_renamed (P := P) (w := w) (base := base) gb (mkD l15 c15 k15) (PySem.W.mg_of X G a15) C14
  have C16 := cal_met_from (P := P) (w := w) (base := base) gb (mkD l16 c16 k16) (PySem.W.mg_of X G a16) C13
  have C17 := cal_all_forms (P := P) (w := w) (base := base) gb (mkD l17 c17 k17) (PySem.W.mg_of X G a17) C15 C16
  have C18 := cal_least_form (P := P) (w := w) (base := base) gb (mkD l18 c18 k18) (PySem.W.mg_of X G a18) C17
  have C19 := cal_flat (P := P) (w := w) (base := base) gb (mkD l19 c19 k19) (PySem.W.mg_of X G a19) C18
  have C20 := cal_flats (P := P) (w := w) (base := base) gb (mkD l20 c20 k20) (PySem.W.mg_of X G a20) C19
  have C21 := cal__law_begun (P := P) (w := w) (base := base) gb (mkD l21 c21 k21) (PySem.W.mg_of X G a21) 
  have C22 := cal__law_draw (P := P) (w := w) (base := base) gb (mkD l22 c22 k22) (PySem.W.mg_of X G a22) 
  have C23 := cal__law_like (P := P) (w := w) (base := base) gb (mkD l23 c23 k23) (PySem.W.mg_of X G a23) 
  have C24 := cal__law_ratio (P := P) (w := w) (base := base) gb (mkD l24 c24 k24) (PySem.W.mg_of X G a24) 
  have C25 := cal__law_factorial (P := P) (w := w) (base := base) gb (mkD l25 c25 k25) (PySem.W.mg_of X G a25) 
  have C26 := cal__law_divisors (P := P) (w := w) (base := base) gb (mkD l26 c26 k26) (PySem.W.mg_of X G a26) 
  have C27 := cal__law_tight (P := P) (w := w) (base := base) gb (mkD l27 c27 k27) (PySem.W.mg_of X G a27) 
  have F := mkD l28 c28 k28
  exact fng_law F sc_law rfl rfl fun cdv A outer s H E B R => sim_law (k := 28) gb (C21.mono (by decide)) (C22.mono (by decide)) (C24.mono (by decide)) (C26.mono (by decide)) (C23.mono (by decide)) (C20.mono (by decide)) (C12.mono (by decide)) (C27.mono (by decide)) (C25.mono (by decide)) (C11.mono (by decide)) cdv A outer s H E B R
end S
open PySem PySem.W PyProof.Rows
set_option maxHeartbeats 0 in
theorem PySem.Challenge.cw_squareworlds_k76_whole_one_great_corner_holds : PySem.Challenge.rw_squareworlds_k76_whole_one_great_corner.Holds := by
  w_on; o_law; k_head; (case hw => w_witness2)
  k_fill
  refine Fx.walk_ofG (l := PySem.Challenge.rw_squareworlds_k76_whole_one_great_corner) (n := 63) (k := 29) (x := "script") rfl (by decide) rfl ⟨rfl, by decide, by decide⟩ ?F
  case F =>
    intro w mg fa h Y G hmg
    have KX := PySem.W.kIn_of Y
    refine' (fun z => ⟨_, z.choose, z.choose_spec.choose, KX, z.choose_spec.choose_spec⟩) (S.all_mk KX G hmg ?a0 ?l0 ?c0 ?k0 ?a1 ?l1 ?c1 ?k1 ?a2 ?l2 ?c2 ?k2 ?a3 ?l3 ?c3 ?k3 ?a4 ?l4 ?c4 ?k4 ?a5 ?l5 ?c5 ?k5 ?a6 ?l6 ?c6 ?k6 ?a7 ?l7 ?c7 ?k7 ?a8 ?l8 ?c8 ?k8 ?a9 ?l9 ?c9 ?k9 ?a10 ?l10 ?c10 ?k10 ?a11 ?l11 ?c11 ?k11 ?a12 ?l12 ?c12 ?k12 ?a13 ?l13 ?c13 ?k13 ?a14 ?l14 ?c14 ?k14 ?a15 ?l15 ?c15 ?k15 ?a16 ?l16 ?c16 ?k16 ?a17 ?l17 ?c17 ?k17 ?a18 ?l18 ?c18 ?k18 ?a19 ?l19 ?c19 ?k19 ?a20 ?l20 ?c20 ?k20 ?a21 ?l21 ?c21 ?k21 ?a22 ?l22 ?c22 ?k22 ?a23 ?l23 ?c23 ?k23 ?a24 ?l24 ?c24 ?k24 ?a25 ?l25 ?c25 ?k25 ?a26 ?l26 ?c26 ?k26 ?a27 ?l27 ?c27 ?k27 ?a28 ?l28 ?c28 ?k28 ?z0 ?z1 ?z2 ?z3 ?z4 ?z5 ?z6 ?z7 ?z8 ?z9 ?z10 ?z11 ?z12 ?z13 ?z14 P76.plain)
    (case a0 => k_is); (case l0 => k_is); (case c0 => k_is); (case k0 => k_is); (case a1 => k_is); (case l1 => k_is); (case c1 => k_is); (case k1 => k_is); (case a2 => k_is); (case l2 => k_is); (case c2 => k_is); (case k2 => k_is); (case a3 => k_is); (case l3 => k_is); (case c3 => k_is); (case k3 => k_is); (case a4 => k_is); (case l4 => k_is); (case c4 => k_is); (case k4 => k_is); (case a5 => k_is); (case l5 => k_is); (case c5 => k_is); (case k5 => k_is); (case a6 => k_is); (case l6 => k_is); (case c6 => k_is); (case k6 => k_is); (case a7 => k_is); (case l7 => k_is); (case c7 => k_is); (case k7 => k_is); (case a8 => k_is); (case l8 => k_is); (case c8 => k_is); (case k8 => k_is); (case a9 => k_is); (case l9 => k_is); (case c9 => k_is); (case k9 => k_is); (case a10 => k_is); (case l10 => k_is); (case c10 => k_is); (case k10 => k_is); (case a11 => k_is); (case l11 => k_is); (case c11 => k_is); (case k11 => k_is); (case a12 => k_is); (case l12 => k_is); (case c12 => k_is); (case k12 => k_is); (case a13 => k_is); (case l13 => k_is); (case c13 => k_is); (case k13 => k_is); (case a14 => k_is); (case l14 => k_is); (case c14 => k_is); (case k14 => k_is); (case a15 => k_is); (case l15 => k_is); (case c15 => k_is); (case k15 => k_is); (case a16 => k_is); (case l16 => k_is); (case c16 => k_is); (case k16 => k_is); (case a17 => k_is); (case l17 => k_is); (case c17 => k_is); (case k17 => k_is); (case a18 => k_is); (case l18 => k_is); (case c18 => k_is); (case k18 => k_is); (case a19 => k_is); (case l19 => k_is); (case c19 => k_is); (case k19 => k_is); (case a20 => k_is); (case l20 => k_is); (case c20 => k_is); (case k20 => k_is); (case a21 => k_is); (case l21 => k_is); (case c21 => k_is); (case k21 => k_is); (case a22 => k_is); (case l22 => k_is); (case c22 => k_is); (case k22 => k_is); (case a23 => k_is); (case l23 => k_is); (case c23 => k_is); (case k23 => k_is); (case a24 => k_is); (case l24 => k_is); (case c24 => k_is); (case k24 => k_is); (case a25 => k_is); (case l25 => k_is); (case c25 => k_is); (case k25 => k_is); (case a26 => k_is); (case l26 => k_is); (case c26 => k_is); (case k26 => k_is); (case a27 => k_is); (case l27 => k_is); (case c27 => k_is); (case k27 => k_is); (case a28 => k_is); (case l28 => k_is); (case c28 => k_is); (case k28 => k_is); (case z0 => k_is); (case z1 => k_is); (case z2 => k_is); (case z3 => k_is); (case z4 => k_is); (case z5 => k_is); (case z6 => k_is); (case z7 => k_is); (case z8 => k_is); (case z9 => k_is); (case z10 => k_is); (case z11 => k_is); (case z12 => k_is); (case z13 => k_is); (case z14 => k_is)
